/- What these functions answer, part 5. Texts of the folder wip, laid in few files with shorter names by a program (wip/tools/pack.py); nothing is assumed. -/
import Derived.Test.YtieiiaiokpgfkaaGreatK4
import Derived.KernelRfl
set_option linter.unusedVariables false
set_option linter.unusedSimpArgs false
set_option linter.unusedSectionVars false
namespace Go.Pm
open Go Go.Ab
set_option maxHeartbeats 400000
def SK (k : AC) : Prop := DQ k.2.2.2.2.1 ∧ k.2.2.2.2.2.1.length ≤ 16777216 ∧ k.2.2.2.2.2.2.2.length ≤ 16777216
def VK (k : AC) : Prop := 1 ≤ k.1 ∧ k.1 ≤ 64 ∧ Cl k.2.2.1 ∧ Ml k.2.2.2.1 ∧ Pz k.2.2.2.2.1 ∧ P0 k.2.2.2.2.2.1 ∧ Xa k.2.2.2.2.2.2.1 ∧ k.2.2.2.2.2.2.1.length = k.1
theorem Tt {x : AC} (h : SK x) : AA (HH x) fun r => r = true → VK x := by
 unfold HH VK
 unfold SK at h
 repeat' first
   | with_reducible refine AA.dec (fun hc => ?_) (fun hc => ?_)
   | with_reducible refine AA.not (fun hc => ?_) (fun hc => ?_)
   | with_reducible refine AA.beq (fun hc => ?_) (fun hc => ?_)
   | with_reducible refine AA.bne (fun hc => ?_) (fun hc => ?_)
   | with_reducible refine AA.cond (fun hc => ?_) (fun hc => ?_)
   |(with_reducible refine AA.bsome ?_; try dsimp only)
   | with_reducible refine AA.bcond ?_
   | with_reducible refine AA.bbind ?_
   | with_reducible refine AA.bsum ?_
   |(with_reducible refine AA.inl ?_; try dsimp only)
   |(with_reducible refine AA.inr ?_; try dsimp only)
   |(with_reducible refine AA.sum ?_ ?_ <;> (intro u hu; try subst hu))
   | with_reducible refine AA.some ?_
   | with_reducible refine AA.none ?_
   |(with_reducible refine AA.bind (A4) ?_; intro r hr)
   |(with_reducible refine AA.bind (CA) ?_; intro r hr)
   |(with_reducible refine AA.bind (Ci ?_) ?_; rotate_left 1; intro r hr)
   |(with_reducible refine AA.bind (CB) ?_; intro r hr)
   |(with_reducible refine AA.bind (DE) ?_; intro r hr)
   |(with_reducible refine AA.bind (Ks ?_) ?_; rotate_left 1; intro r hr)
   |(with_reducible refine AA.bind (AA.ix ?_ ?_) ?_; rotate_left 2; rintro r ⟨hr, hm⟩)
   |(with_reducible refine AA.bind (AA.app ?_) ?_; rotate_left 1; rintro r ⟨hr, hl, hl2⟩)
   |(with_reducible refine AA.bind (AA.aget ?_ ?_) ?_; rotate_left 2; intro r hr)
   |(with_reducible refine AA.bind (AA.sapp ?_) ?_; rotate_left 1; rintro r ⟨hr, hl⟩)
   |(with_reducible refine AA.bind (AA.ssl ?_ ?_ ?_) ?_; rotate_left 3; rintro r ⟨hr, hl⟩)
   |(with_reducible refine AA.bind (AA.lsl ?_ ?_ ?_) ?_; rotate_left 3; rintro r ⟨hr, hl⟩)
   |(with_reducible refine AA.bind (AA.six ?_ ?_) ?_; rotate_left 2; rintro r ⟨hr, hl⟩)
   |(with_reducible refine AA.bind (AA.mk ?_ ?_) ?_; rotate_left 2; rintro r ⟨hr, hl⟩)
 all_goals ((try dsimp only [len] at *); (try first | omega | assumption | grind [AI]))
theorem QX {x : AC × Int} {s : Int × AO} (h : 0 ≤ s.1 ∧ s.1 ≤ x.1.2.2.2.2.2.2.2.length ∧ x.1.2.2.2.2.2.2.2.length ≤ 16777216) : AA (AT (I8 x) s) fun r => True := by
 refine AA.loop (fun (s : Int × AO) => 0 ≤ s.1 ∧ s.1 ≤ x.1.2.2.2.2.2.2.2.length ∧ x.1.2.2.2.2.2.2.2.length ≤ 16777216) (fun (s : Int × AO) => ((x.1.2.2.2.2.2.2.2.length : Int) - s.1).toNat) h (fun s hI => ?_)
 unfold I8
 repeat' with_reducible first | refine AA.dec (fun hc => ?_) (fun hc => ?_) | refine AA.beq (fun hc => ?_) (fun hc => ?_) | refine AA.cond (fun hc => ?_) (fun hc => ?_) | refine AA.some ?_ | (refine AA.bind (AA.ix ?_ ?_) ?_; rotate_left 2; rintro r ⟨hr, hm⟩)
 all_goals ((try dsimp only [len] at *); (try first | omega | assumption | grind [AI]))
theorem Fl {x : AC × Int} (h : SK x.1) : AA (CW x) fun r => True := by
 unfold CW
 unfold SK at h
 repeat' first
   | with_reducible refine AA.dec (fun hc => ?_) (fun hc => ?_)
   | with_reducible refine AA.not (fun hc => ?_) (fun hc => ?_)
   | with_reducible refine AA.beq (fun hc => ?_) (fun hc => ?_)
   | with_reducible refine AA.bne (fun hc => ?_) (fun hc => ?_)
   | with_reducible refine AA.cond (fun hc => ?_) (fun hc => ?_)
   |(with_reducible refine AA.bsome ?_; try dsimp only)
   | with_reducible refine AA.bcond ?_
   | with_reducible refine AA.bbind ?_
   | with_reducible refine AA.bsum ?_
   |(with_reducible refine AA.inl ?_; try dsimp only)
   |(with_reducible refine AA.inr ?_; try dsimp only)
   |(with_reducible refine AA.sum ?_ ?_ <;> (intro u hu; try subst hu))
   | with_reducible refine AA.some ?_
   | with_reducible refine AA.none ?_
   |(with_reducible refine AA.bind (QX ?_) ?_; rotate_left 1; intro r hr)
   |(with_reducible refine AA.bind (AA.ix ?_ ?_) ?_; rotate_left 2; rintro r ⟨hr, hm⟩)
   |(with_reducible refine AA.bind (AA.app ?_) ?_; rotate_left 1; rintro r ⟨hr, hl, hl2⟩)
   |(with_reducible refine AA.bind (AA.aget ?_ ?_) ?_; rotate_left 2; intro r hr)
   |(with_reducible refine AA.bind (AA.sapp ?_) ?_; rotate_left 1; rintro r ⟨hr, hl⟩)
   |(with_reducible refine AA.bind (AA.ssl ?_ ?_ ?_) ?_; rotate_left 3; rintro r ⟨hr, hl⟩)
   |(with_reducible refine AA.bind (AA.lsl ?_ ?_ ?_) ?_; rotate_left 3; rintro r ⟨hr, hl⟩)
   |(with_reducible refine AA.bind (AA.six ?_ ?_) ?_; rotate_left 2; rintro r ⟨hr, hl⟩)
   |(with_reducible refine AA.bind (AA.mk ?_ ?_) ?_; rotate_left 2; rintro r ⟨hr, hl⟩)
 all_goals ((try dsimp only [len] at *); (try first | omega | assumption | grind [AI]))
theorem QY {x : AC} {s : Int} (h : 0 ≤ s ∧ s ≤ x.2.2.2.2.2.1.length ∧ (x.2.2.2.2.2.1.length : Int) ≤ 16777216) : AA (AT (I9 x) s) fun r => r ≠ .inl true := by
 refine AA.loop (fun (s : Int) => 0 ≤ s ∧ s ≤ x.2.2.2.2.2.1.length ∧ (x.2.2.2.2.2.1.length : Int) ≤ 16777216) (fun (s : Int) => ((x.2.2.2.2.2.1.length : Int) - s).toNat) h (fun s hI => ?_)
 unfold I9
 repeat' with_reducible first | refine AA.dec (fun hc => ?_) (fun hc => ?_) | refine AA.cond (fun hc => ?_) (fun hc => ?_) | refine AA.some ?_ | (refine AA.bind (AA.ix ?_ ?_) ?_; rotate_left 2; rintro r ⟨hr, hm⟩)
 all_goals ((try dsimp only [len] at *); (try first | omega | assumption | grind [AI]))
theorem QZ {x : AC} {s : Int} (h : 0 ≤ s ∧ s ≤ x.2.2.2.1.2.1.length ∧ (x.2.2.2.1.2.1.length : Int) ≤ 16777216 ∧ SK x) : AA (AT (JA x) s) fun r => r ≠ .inl true := by
 refine AA.loop (fun (s : Int) => 0 ≤ s ∧ s ≤ x.2.2.2.1.2.1.length ∧ (x.2.2.2.1.2.1.length : Int) ≤ 16777216 ∧ SK x) (fun (s : Int) => ((x.2.2.2.1.2.1.length : Int) - s).toNat) h (fun s hI => ?_)
 unfold JA
 repeat' with_reducible first | refine AA.dec (fun hc => ?_) (fun hc => ?_) | refine AA.cond (fun hc => ?_) (fun hc => ?_) | refine AA.some ?_ | (refine AA.bind (Fl ?_) ?_; rotate_left 1; intro r hr) | (refine AA.bind (AA.ix ?_ ?_) ?_; rotate_left 2; rintro r ⟨hr, hm⟩)
 all_goals ((try dsimp only [len] at *); (try first | omega | assumption | grind [AI]))
theorem Qa {x : AC} {s : Int} (h : 0 ≤ s ∧ s ≤ x.2.2.2.2.1.1.length ∧ (x.2.2.2.2.1.1.length : Int) ≤ 16777216) : AA (AT (JB x) s) fun r => r ≠ .inl true := by
 refine AA.loop (fun (s : Int) => 0 ≤ s ∧ s ≤ x.2.2.2.2.1.1.length ∧ (x.2.2.2.2.1.1.length : Int) ≤ 16777216) (fun (s : Int) => ((x.2.2.2.2.1.1.length : Int) - s).toNat) h (fun s hI => ?_)
 unfold JB
 repeat' with_reducible first | refine AA.dec (fun hc => ?_) (fun hc => ?_) | refine AA.cond (fun hc => ?_) (fun hc => ?_) | refine AA.some ?_ | (refine AA.bind (AA.ix ?_ ?_) ?_; rotate_left 2; rintro r ⟨hr, hm⟩)
 all_goals ((try dsimp only [len] at *); (try first | omega | assumption | grind [AI]))
theorem Qb {x : AC} {s : Int} (h : 0 ≤ s ∧ s ≤ x.2.2.2.2.1.2.length ∧ (x.2.2.2.2.1.2.length : Int) ≤ 16777216) : AA (AT (JC x) s) fun r => r ≠ .inl true := by
 refine AA.loop (fun (s : Int) => 0 ≤ s ∧ s ≤ x.2.2.2.2.1.2.length ∧ (x.2.2.2.2.1.2.length : Int) ≤ 16777216) (fun (s : Int) => ((x.2.2.2.2.1.2.length : Int) - s).toNat) h (fun s hI => ?_)
 unfold JC
 repeat' with_reducible first | refine AA.dec (fun hc => ?_) (fun hc => ?_) | refine AA.cond (fun hc => ?_) (fun hc => ?_) | refine AA.some ?_ | (refine AA.bind (AA.ix ?_ ?_) ?_; rotate_left 2; rintro r ⟨hr, hm⟩)
 all_goals ((try dsimp only [len] at *); (try first | omega | assumption | grind [AI]))
theorem A0 {x : AC} (h : SK x) : AA (Ax x) fun r => r = true → VK x := by
 unfold Ax
 repeat' with_reducible first | refine AA.not (fun hc => ?_) (fun hc => ?_) | refine AA.cond (fun hc => ?_) (fun hc => ?_) | (refine AA.inl ?_; try dsimp only) | (refine AA.inr ?_; try dsimp only) | (refine AA.sum ?_ ?_ <;> (intro u hu; try subst hu)) | refine AA.some ?_ | (refine AA.bind (Tt ?_) ?_; rotate_left 1; intro r hr) | (refine AA.bind (QY ?_) ?_; rotate_left 1; intro r hr) | (refine AA.bind (QZ ?_) ?_; rotate_left 1; intro r hr) | (refine AA.bind (Qa ?_) ?_; rotate_left 1; intro r hr) | (refine AA.bind (Qb ?_) ?_; rotate_left 1; intro r hr)
 all_goals ((try dsimp only [len] at *); (try first | omega | assumption | grind [AI, SK, VK, DQ, Pz, Ml, P0]))
theorem RI {x : List AJ × Int} {s : Int} (h : 0 ≤ s ∧ s ≤ x.1.length ∧ (x.1.length : Int) ≤ 16777216) : AA (AT (Fj x) s) fun r => ∀ u, r = .inl u → 0 ≤ u ∧ u < x.1.length ∧ ∃ t, x.1[u.toNat]? = some t ∧ t.1 = x.2 := by
 refine AA.loop (fun (s : Int) => 0 ≤ s ∧ s ≤ x.1.length ∧ (x.1.length : Int) ≤ 16777216) (fun (s : Int) => ((x.1.length : Int) - s).toNat) h (fun s hI => ?_)
 unfold Fj
 repeat' with_reducible first | refine AA.dec (fun hc => ?_) (fun hc => ?_) | refine AA.beq (fun hc => ?_) (fun hc => ?_) | refine AA.cond (fun hc => ?_) (fun hc => ?_) | refine AA.some ?_ | (refine AA.bind (AA.ix ?_ ?_) ?_; rotate_left 2; rintro r ⟨hr, hm⟩)
 all_goals ((try dsimp only [len] at *); (try first | omega | assumption | grind [AI]))
theorem ER {x : List AJ × Int} (h : x.1.length ≤ 16777216) : AA (CN x) fun r => -1 ≤ r ∧ r < x.1.length ∧ (0 ≤ r → ∃ t, x.1[r.toNat]? = some t ∧ t.1 = x.2) := by
 unfold CN
 repeat' with_reducible first | (refine AA.inl ?_; try dsimp only) | (refine AA.inr ?_; try dsimp only) | (refine AA.sum ?_ ?_ <;> (intro u hu; try subst hu)) | refine AA.some ?_ | (refine AA.bind (RI ?_) ?_; rotate_left 1; intro r hr)
 all_goals ((try dsimp only [len] at *); (try first | omega | assumption | grind [AI]))
theorem CM {x : List AJ × Int} (h : x.1.length ≤ 16777216) : AA (A9 x) fun r => -1 ≤ r ∧ r < x.1.length ∧ (0 ≤ r → ∃ t, x.1[r.toNat]? = some t ∧ t.1 = x.2) := by
 unfold A9
 repeat' with_reducible first | refine AA.some ?_ | (refine AA.bind (ER ?_) ?_; rotate_left 1; intro r hr)
 all_goals ((try dsimp only [len] at *); (try first | omega | assumption | grind [AI]))
def Xx (p : Ao) (id : Int) : Prop := ∃ (i : Nat) (f : Ac), p.2.1[i]? = some f ∧ f.1.1 = id
theorem RH {x : Ao × Int} {s : Int} (h : 0 ≤ s ∧ s ≤ x.1.2.1.length ∧ (x.1.2.1.length : Int) ≤ 16777216 ∧ ∀ (i : Nat) (f : Ac), i < s → x.1.2.1[i]? = some f → f.1.1 ≠ x.2) : AA (AT (Jw x) s) fun r => (∃ u, r = .inl u ∧ 0 ≤ u ∧ u < x.1.2.1.length ∧ ∃ f, x.1.2.1[u.toNat]? = some f ∧ f.1.1 = x.2) ∨ (r = .inr () ∧ ¬ Xx x.1 x.2) := by
 refine AA.loop (fun (s : Int) => 0 ≤ s ∧ s ≤ x.1.2.1.length ∧ (x.1.2.1.length : Int) ≤ 16777216 ∧ ∀ (i : Nat) (f : Ac), i < s → x.1.2.1[i]? = some f → f.1.1 ≠ x.2) (fun (s : Int) => ((x.1.2.1.length : Int) - s).toNat) h (fun s hI => ?_)
 unfold Jw
 obtain ⟨h0, h1, h2, h3⟩ := hI
 repeat' with_reducible first | refine AA.dec (fun hc => ?_) (fun hc => ?_) | refine AA.beq (fun hc => ?_) (fun hc => ?_) | refine AA.cond (fun hc => ?_) (fun hc => ?_) | refine AA.some ?_ | (refine AA.bind (AA.ix ?_ ?_) ?_; rotate_left 2; rintro r ⟨hr, hm⟩)
 all_goals try dsimp only [len] at *
 all_goals try (have e := AI (x := s + 1) (by omega))
 all_goals first | omega | grind [Xx]
theorem Da {x : Ao × Int} (h : x.1.2.1.length ≤ 16777216) : AA (CL x) fun r => -1 ≤ r ∧ r < x.1.2.1.length ∧ (0 ≤ r → ∃ f, x.1.2.1[r.toNat]? = some f ∧ f.1.1 = x.2) ∧ (r < 0 → ¬ Xx x.1 x.2) := by
 unfold CL
 refine AA.bind (RH (by refine ⟨by omega, by omega, by omega, fun i f hi => absurd hi (by omega)⟩)) fun s hs => ?_
 rcases hs with ⟨u, rfl, h1, h2, h3⟩ | ⟨rfl, h1⟩
 ·exact AA.inl (AA.some ⟨by omega, h2, fun _ => h3, fun h => absurd h (by omega)⟩)
 ·exact AA.inr (AA.some ⟨by omega, by omega, fun h => absurd h (by omega), fun _ => h1⟩)
theorem Ct {x : Ao × Int} : AA (B4 x) fun r => -1 ≤ r ∧ r < x.1.2.1.length ∧ (0 ≤ r → Ml x.1 ∧ ∃ f, x.1.2.1[r.toNat]? = some f ∧ f.1.1 = x.2) ∧ (Ml x.1 → Xx x.1 x.2 → 0 ≤ r) := by
 unfold B4
 repeat' with_reducible first | refine AA.not (fun hc => ?_) (fun hc => ?_) | refine AA.cond (fun hc => ?_) (fun hc => ?_) | refine AA.some ?_ | (refine AA.bind (CA) ?_; intro r hr) | (refine AA.bind (Da ?_) ?_; rotate_left 1; intro r hr)
 all_goals first | omega | (have hv : Ml x.1 := (by grind); have := hv.1; have := hv.2.1; have := hv.2.2.1; omega) | grind
theorem E1 {x : Ao × Int} : AA (C0 x) fun r => (r.2 = true → Ml x.1 ∧ ZA r.1 ∧ Xx x.1 x.2 ∧ r.1.1 = x.2) ∧ (r.2 = false → Ml x.1 → ¬ Xx x.1 x.2) := by
 unfold C0
 repeat' with_reducible first | refine AA.dec (fun hc => ?_) (fun hc => ?_) | refine AA.cond (fun hc => ?_) (fun hc => ?_) | refine AA.some ?_ | (refine AA.bind (Ct) ?_; intro r hr) | (refine AA.bind (AA.ix ?_ ?_) ?_; rotate_left 2; rintro r ⟨hr, hm⟩)
 all_goals first | omega | (simp; grind) | grind [Ml, EI, Yc, Xx]
theorem Cl.last {x : AZ} (h : Cl x) : wi (wi (x.1 + len x.2.1) - 1) = x.1 + x.2.1.length - 1 := by
 obtain ⟨h1, h2, h3, h4, h5, h6⟩ := h
 rw [AI (x := x.1 + len x.2.1) (by simp only [len]; omega), AI (by simp only [len]; omega)]
theorem Cl.at {x : AZ} {n : Int} {e : AE} (h : Cl x) (h0 : x.1 ≤ n) (h1 : n ≤ x.1 + x.2.1.length - 1) (he : x.2.1[(wi (n - x.1)).toNat]? = some e) : Py e ∧ e.1 = n := by
 obtain ⟨a1, a2, a3, a4, a5, a6⟩ := h
 rw [AI (by omega)] at he
 obtain ⟨q1, q2⟩ := a6 _ _ he
 exact ⟨q2, by omega⟩
theorem Cl.append {x : AZ} {e : AE} {l : List AE} (h : Cl x) (h0 : x.2.1.length ≠ 4096) (he : Py e) (h1 : e.1 = x.1 + x.2.1.length) (hl : l = x.2.1 ++ [e]) : Cl (x.1, l, x.2.2) := by
 obtain ⟨a1, a2, a3, a4, a5, a6⟩ := h
 subst hl
 refine ⟨a1, a2, by simp; omega, a4, by simp; omega, fun i f hf => ?_⟩
 rcases Nat.lt_or_ge i x.2.1.length with hi | hi
 ·rw [List.getElem?_append_left hi] at hf
  exact a6 i f hf
 ·rw [List.getElem?_append_right hi] at hf
  have : i = x.2.1.length := by
   rcases Nat.lt_or_ge (i - x.2.1.length) 1 with h2 | h2
   ·omega
   ·rw [List.getElem?_eq_none (by simpa using h2)] at hf; cases hf
  subst this
  simp at hf
  subst hf
  exact ⟨h1, he⟩
theorem Cl.force {x : AZ} {n : Int} (h : Cl x) (h1 : n ≤ x.1 + x.2.1.length - 1) : Cl (x.1, x.2.1, if n > x.2.2 then n else x.2.2) := by
 obtain ⟨a1, a2, a3, a4, a5, a6⟩ := h
 refine ⟨a1, a2, a3, ?_, ?_, a6⟩ <;> (dsimp only; split <;> omega)
theorem DZ {x : AZ} : AA (Cm x) fun r => Cl x → r = x.1 + x.2.1.length - 1 := by
 unfold Cm
 repeat' with_reducible first | refine AA.not (fun hc => ?_) (fun hc => ?_) | refine AA.cond (fun hc => ?_) (fun hc => ?_) | refine AA.some ?_ | (refine AA.bind (A4) ?_; intro r hr) | (refine AA.bind (CH) ?_; intro r hr)
 all_goals ((try dsimp only [len] at *); (try first | omega | assumption | grind [AI, Cl.last]))
theorem Ff {x : AZ × Int} : AA (Bg x) fun r => (r.2 = 0 → Cl r.1 ∧ r.1.2.1 = x.1.2.1 ∧ r.1.1 = x.1.1) := by
 unfold Bg
 repeat' with_reducible first | refine AA.dec (fun hc => ?_) (fun hc => ?_) | refine AA.not (fun hc => ?_) (fun hc => ?_) | refine AA.cond (fun hc => ?_) (fun hc => ?_) | refine AA.some ?_ | (refine AA.bind (A4) ?_; intro r hr) | (refine AA.bind (CH) ?_; intro r hr)
 all_goals try (intro _; have hv : Cl x.1 := by grind
                have hl := hv.last; exact ⟨hv.force (by omega), rfl, rfl⟩)
 all_goals ((try dsimp only [len] at *); (try first | omega | assumption | grind [AI, Cl.last]))
theorem C3 {x : AZ × Int} : AA (Cb x) fun r => (r.2 = 0 → Py r.1 ∧ r.1.1 = x.2 ∧ x.1.2.1[(x.2 - x.1.1).toNat]? = some r.1 ∧ x.1.1 ≤ x.2) ∧ (Cl x.1 → x.1.1 ≤ x.2 → x.2 ≤ x.1.1 + x.1.2.1.length - 1 → r.2 = 0) := by
 unfold Cb
 repeat' with_reducible first | refine AA.dec (fun hc => ?_) (fun hc => ?_) | refine AA.not (fun hc => ?_) (fun hc => ?_) | refine AA.cond (fun hc => ?_) (fun hc => ?_) | refine AA.some ?_ | (refine AA.bind (A4) ?_; intro r hr) | (refine AA.bind (CH) ?_; intro r hr) | (refine AA.bind (AA.ix ?_ ?_) ?_; rotate_left 2; rintro r ⟨hr, hm⟩)
 all_goals try (have hv : Cl x.1 := by grind)
 all_goals try (have hl := hv.last; have := hv.1; have := hv.2.1; have := hv.2.2.1)
 all_goals try (have hw : wi (x.2 - x.1.1) = x.2 - x.1.1 := AI (by omega))
 all_goals try (have ha := hv.at (n := x.2) (by omega) (by omega) hr; rw [hw] at hr; exact ⟨fun _ => ⟨ha.1, ha.2, hr, by omega⟩, fun _ _ _ => rfl⟩)
 all_goals ((try dsimp only [len] at *); (try first | omega | assumption | grind [AI]))
theorem L6 {x : AZ × AE} : AA (GE x) fun r => (r.2.2 = 0 → Cl r.1 ∧ Cl x.1 ∧ r.1.2.1 = x.1.2.1 ++ [(r.2.1, x.2.2)] ∧ r.1.1 = x.1.1 ∧ r.2.1 = x.1.1 + x.1.2.1.length) := by
 unfold GE
 repeat' with_reducible first | refine AA.not (fun hc => ?_) (fun hc => ?_) | refine AA.beq (fun hc => ?_) (fun hc => ?_) | refine AA.cond (fun hc => ?_) (fun hc => ?_) | refine AA.some ?_ | (refine AA.bind (A4) ?_; intro r hr) | (refine AA.bind (CH) ?_; intro r hr) | (refine AA.bind (Bf) ?_; intro r hr) | (refine AA.bind (AA.app ?_) ?_; rotate_left 1; rintro r ⟨hr, hl, hl2⟩)
 all_goals try (have hv : Cl x.1 := by grind)
 all_goals try (have hl := hv.last; have := hv.1; have := hv.2.1; have := hv.2.2.1)
 all_goals try (have hw : wi ((x.1.1 + x.1.2.1.length - 1) + 1) = x.1.1 + x.1.2.1.length := by rw [AI (by omega)]; omega)
 all_goals ((try dsimp only [len] at *); (try first | omega | assumption | grind [AI, Cl.append]))
theorem BY {x : AE} : AA (Am x) fun r => r = true ↔ x.2.1 = 1 ∨ x.2.1 = 2 := by
 unfold Am
 repeat' with_reducible first | refine AA.beq (fun hc => ?_) (fun hc => ?_) | refine AA.cond (fun hc => ?_) (fun hc => ?_) | refine AA.some ?_
 all_goals ((try dsimp only [len] at *); (try first | omega | assumption | grind [AI]))
end Go.Pm
namespace Go.Pm
open Go Go.Ab
set_option maxHeartbeats 400000
theorem RD {x : List AQ × Int × Bool × BQ} {s : Int × List AQ} (h : 0 ≤ s.1 ∧ s.1 ≤ x.1.length ∧ x.1.length ≤ 16777216 ∧ s.2.length ≤ s.1) : AA (AT (Jt x) s) fun r => r.length ≤ x.1.length := by
 refine AA.loop (fun (s : Int × List AQ) => 0 ≤ s.1 ∧ s.1 ≤ x.1.length ∧ x.1.length ≤ 16777216 ∧ s.2.length ≤ s.1) (fun (s : Int × List AQ) => ((x.1.length : Int) - s.1).toNat) h (fun s hI => ?_)
 unfold Jt
 repeat' with_reducible first | refine AA.dec (fun hc => ?_) (fun hc => ?_) | refine AA.not (fun hc => ?_) (fun hc => ?_) | refine AA.beq (fun hc => ?_) (fun hc => ?_) | refine AA.bne (fun hc => ?_) (fun hc => ?_) | refine AA.cond (fun hc => ?_) (fun hc => ?_) | (refine AA.bsome ?_; try dsimp only) | refine AA.bcond ?_ | refine AA.bbind ?_ | refine AA.some ?_ | (refine AA.bind (AA.ix ?_ ?_) ?_; rotate_left 2; rintro r ⟨hr, hm⟩) | (refine AA.bind (AA.app ?_) ?_; rotate_left 1; rintro r ⟨hr, hl, hl2⟩)
 all_goals ((try dsimp only [len] at *); (try first | omega | assumption | grind [AI]))
theorem GG {x : List AQ × Int × Bool × BQ} (h : x.1.length ≤ 16777216) : AA (DH x) fun r => r.length ≤ x.1.length := by
 unfold DH
 repeat' with_reducible first | refine AA.some ?_ | (refine AA.bind (RD ?_) ?_; rotate_left 1; intro r hr)
 all_goals ((try dsimp only [len] at *); (try first | omega | assumption | grind [AI]))
theorem Q8 {x : AY × Int} {s : Int} (h : 0 ≤ s ∧ s ≤ x.1.1.length ∧ (x.1.1.length : Int) ≤ 16777216 ∧ 0 ≤ x.2 ∧ x.2 < x.1.2.length) : AA (AT (Jp x) s) fun r => True := by
 refine AA.loop (fun (s : Int) => 0 ≤ s ∧ s ≤ x.1.1.length ∧ (x.1.1.length : Int) ≤ 16777216 ∧ 0 ≤ x.2 ∧ x.2 < x.1.2.length) (fun (s : Int) => ((x.1.1.length : Int) - s).toNat) h (fun s hI => ?_)
 unfold Jp
 repeat' with_reducible first | refine AA.dec (fun hc => ?_) (fun hc => ?_) | refine AA.cond (fun hc => ?_) (fun hc => ?_) | refine AA.some ?_ | (refine AA.bind (Ch) ?_; intro r hr) | (refine AA.bind (AA.ix ?_ ?_) ?_; rotate_left 2; rintro r ⟨hr, hm⟩)
 all_goals ((try dsimp only [len] at *); (try first | omega | assumption | grind [AI]))
theorem Q9 {x : AY × Int} {s : Int} (h : 0 ≤ s ∧ s ≤ x.2 ∧ (x.2 : Int) ≤ 16777216 ∧ 0 ≤ x.2 ∧ x.2 < x.1.2.length) : AA (AT (Jq x) s) fun r => True := by
 refine AA.loop (fun (s : Int) => 0 ≤ s ∧ s ≤ x.2 ∧ (x.2 : Int) ≤ 16777216 ∧ 0 ≤ x.2 ∧ x.2 < x.1.2.length) (fun (s : Int) => ((x.2 : Int) - s).toNat) h (fun s hI => ?_)
 unfold Jq
 repeat' with_reducible first | refine AA.dec (fun hc => ?_) (fun hc => ?_) | refine AA.cond (fun hc => ?_) (fun hc => ?_) | refine AA.some ?_ | (refine AA.bind (Ch) ?_; intro r hr) | (refine AA.bind (AA.ix ?_ ?_) ?_; rotate_left 2; rintro r ⟨hr, hm⟩)
 all_goals ((try dsimp only [len] at *); (try first | omega | assumption | grind [AI]))
theorem U0 {x : AY × Int} (h : x.1.1.length ≤ 4096 ∧ x.1.2.length ≤ 4096) (h1 : 0 ≤ x.2 ∧ x.2 < x.1.2.length) : AA (H6 x) fun r => True := by
 unfold H6
 repeat' with_reducible first | (refine AA.inl ?_; try dsimp only) | (refine AA.inr ?_; try dsimp only) | (refine AA.sum ?_ ?_ <;> (intro u hu; try subst hu)) | refine AA.some ?_ | (refine AA.bind (Q8 ?_) ?_; rotate_left 1; intro r hr) | (refine AA.bind (Q9 ?_) ?_; rotate_left 1; intro r hr)
 all_goals first | trivial | omega
theorem RC {x : List AQ × AQ} {s : Bool × Int × List AQ} (h : 0 ≤ s.2.1 ∧ s.2.1 ≤ x.1.length ∧ x.1.length ≤ 4096 ∧ s.2.2.length ≤ s.2.1 + 1 ∧ (s.1 = false → (s.2.2.length : Int) ≤ s.2.1)) : AA (AT (Js x) s) fun r => r.2.length ≤ x.1.length + 1 ∧ (r.1 = false → r.2.length ≤ x.1.length) := by
 refine AA.loop (fun (s : Bool × Int × List AQ) => 0 ≤ s.2.1 ∧ s.2.1 ≤ x.1.length ∧ x.1.length ≤ 4096 ∧ s.2.2.length ≤ s.2.1 + 1 ∧ (s.1 = false → (s.2.2.length : Int) ≤ s.2.1)) (fun (s : Bool × Int × List AQ) => ((x.1.length : Int) - s.2.1).toNat) h (fun s hI => ?_)
 unfold Js
 repeat' with_reducible first | refine AA.dec (fun hc => ?_) (fun hc => ?_) | refine AA.not (fun hc => ?_) (fun hc => ?_) | refine AA.beq (fun hc => ?_) (fun hc => ?_) | refine AA.bne (fun hc => ?_) (fun hc => ?_) | refine AA.cond (fun hc => ?_) (fun hc => ?_) | (refine AA.bsome ?_; try dsimp only) | refine AA.bcond ?_ | refine AA.bbind ?_ | refine AA.some ?_ | (refine AA.bind (Nf) ?_; intro r hr) | (refine AA.bind (AA.ix ?_ ?_) ?_; rotate_left 2; rintro r ⟨hr, hm⟩) | (refine AA.bind (AA.app ?_) ?_; rotate_left 1; rintro r ⟨hr, hl, hl2⟩)
 all_goals try dsimp only [len] at *
 all_goals try (have e := AI (x := s.2.1 + 1) (by omega))
 all_goals try (have hI5 := hI.2.2.2.2 (by assumption))
 all_goals (try simp only [List.length_cons, List.length_nil, Bool.true_eq_false, false_implies, and_true] at *)
 all_goals first | omega | grind
theorem U1 {x : List AQ × AQ} (h : x.1.length ≤ 4096) : AA (H7 x) fun r => r.length ≤ x.1.length + 1 := by
 unfold H7
 repeat' with_reducible first | refine AA.not (fun hc => ?_) (fun hc => ?_) | refine AA.cond (fun hc => ?_) (fun hc => ?_) | (refine AA.bsome ?_; try dsimp only) | refine AA.bcond ?_ | refine AA.bbind ?_ | refine AA.some ?_ | (refine AA.bind (RC ?_) ?_; rotate_left 1; intro r hr) | (refine AA.bind (AA.app ?_) ?_; rotate_left 1; rintro r ⟨hr, hl, hl2⟩)
 all_goals ((try dsimp only [len] at *); (try first | omega | assumption | grind [AI]))
theorem PX {B : Nat} (hB : B ≤ 2000) {s : Int × AY} (h : 0 ≤ s.1 ∧ s.1 ≤ s.2.2.length ∧ s.2.1.length + s.2.2.length ≤ B) : AA (AT HZ s) fun r => r.1.length + r.2.length ≤ B := by
 refine AA.loop (fun s => 0 ≤ s.1 ∧ s.1 ≤ s.2.2.length ∧ s.2.1.length + s.2.2.length ≤ B) (fun s => s.2.2.length * 3000 + ((s.2.2.length : Int) - s.1).toNat) h (fun s hI => ?_)
 obtain ⟨h1, h2, h3⟩ := hI
 unfold HZ
 refine AA.dec (fun hc => ?_) (fun hc => AA.some h3)
 simp only [len] at hc
 refine AA.bind (U0 (by dsimp only; omega) ⟨h1, hc⟩) fun v _ => ?_
 refine AA.bind (P := fun v : Int × AY => (v = s) ∨ (v.1 = -1 ∧ v.2.1.length ≤ s.2.1.length + 1 ∧ v.2.2.length + 1 = s.2.2.length)) ?_ fun v8 h8 => ?_
 ·refine AA.cond (fun _ => ?_) (fun _ => AA.some (.inl rfl))
  refine AA.bind (AA.ix h1 hc) fun v2 _ => ?_
  refine AA.bind (U1 (by dsimp only; omega)) fun v3 h3 => ?_
  refine AA.bind (AA.lsl (by omega) h1 (by omega)) fun v4 h4 => ?_
  have e := AI (x := s.1 + 1) (by omega)
  refine AA.bind (AA.lsl (by rw [e]; omega) (by rw [e]; simp only [len]; omega) (by simp only [len]; omega)) fun v5 h5 => ?_
  have l4 := h4.2
  have l5 := h5.2
  rw [e] at l5
  simp only [len] at l5
  refine AA.bind (AA.app (by simp; omega)) fun v6 h6 => ?_
  refine AA.bind (AA.app (by have := h6.2.1; simp at this; omega)) fun v7 h7 => ?_
  refine AA.some (.inr ⟨rfl, h3, ?_⟩)
  have a6 := h6.2.1
  have a7 := h7.2.1
  simp only [List.length_nil] at a6
  dsimp only
  omega
 ·refine AA.some ?_
  rcases h8 with rfl | ⟨a, b, c⟩
  ·have e := AI (x := v8.1 + 1) (by omega)
   dsimp only
   rw [e]
   exact ⟨⟨by omega, by omega, h3⟩, by omega⟩
  ·have e : wi (v8.1 + 1) = 0 := by rw [a]; exact AI (by omega)
   dsimp only
   rw [e]
   exact ⟨⟨by omega, by omega, by omega⟩, by omega⟩
theorem FJ {B : Nat} {x : AY} (hB : B ≤ 2000) (h : x.1.length + x.2.length ≤ B) : AA (CK x) fun r => r.1.length + r.2.length ≤ B := by
 unfold CK
 exact AA.bind (PX hB ⟨by simp, by simp, h⟩) fun r hr => AA.some hr
theorem DQ.of {x : AY} {B : Nat} (hB : B ≤ 2000) (h : x.1.length + x.2.length ≤ B) : DQ x := ⟨by omega, by omega⟩
theorem DQ.nil : DQ (([], []) : AY) := ⟨by simp, by simp⟩
theorem HY {x : AY × Int} (h : DQ x.1) : AA (DD x) fun r => DQ r := by
 unfold DD
 refine AA.bind (Ci h) fun v hv => ?_
 refine AA.not (fun _ => AA.some h) (fun hc => ?_)
 have hl := hv hc
 refine AA.bind (GG h.1) fun a ha => ?_
 refine AA.bind (GG h.2) fun b hb => ?_
 refine AA.bind (FJ (B := 1024) (by decide) ?_) fun r hr => AA.some (DQ.of (by decide) hr)
 unfold Pz at hl
 dsimp only at *
 omega
theorem SV {x : AY × Int} (h : DQ x.1) : AA (GF x) fun r => DQ r := by
 unfold GF
 refine AA.bind (Ci h) fun v hv => ?_
 refine AA.not (fun _ => AA.some h) (fun hc => ?_)
 have hl := hv hc
 refine AA.bind (GG h.2) fun b hb => ?_
 refine AA.bind (FJ (B := 1024) (by decide) ?_) fun r hr => AA.some (DQ.of (by decide) hr)
 unfold Pz at hl
 dsimp only at *
 omega
theorem Nd {x : AY × Int × BQ} (h : DQ x.1) : AA (FO x) fun r => DQ r := by
 unfold FO
 refine AA.bind (Ci h) fun v hv => ?_
 refine AA.not (fun _ => AA.some h) (fun hc => ?_)
 have hl := hv hc
 refine AA.bind (GG h.1) fun b hb => ?_
 refine AA.bind (FJ (B := 1024) (by decide) ?_) fun r hr => AA.some (DQ.of (by decide) hr)
 unfold Pz at hl
 dsimp only at *
 omega
theorem O4 {x : AY × Int} {s : Int × AQ} (h : 0 ≤ s.1 ∧ s.1 ≤ x.1.2.length ∧ x.1.2.length ≤ 16777216) : AA (AT (Gg x) s) fun r => True := by
 refine AA.loop (fun (s : Int × AQ) => 0 ≤ s.1 ∧ s.1 ≤ x.1.2.length ∧ x.1.2.length ≤ 16777216) (fun (s : Int × AQ) => ((x.1.2.length : Int) - s.1).toNat) h (fun s hI => ?_)
 unfold Gg
 repeat' with_reducible first | refine AA.dec (fun hc => ?_) (fun hc => ?_) | refine AA.beq (fun hc => ?_) (fun hc => ?_) | refine AA.cond (fun hc => ?_) (fun hc => ?_) | refine AA.some ?_ | (refine AA.bind (AA.ix ?_ ?_) ?_; rotate_left 2; rintro r ⟨hr, hm⟩)
 all_goals ((try dsimp only [len] at *); (try first | omega | assumption | grind [AI]))
theorem Es {x : AY × Int} (h : DQ x.1) : AA (Cj x) fun r => r.2 = true → Pz x.1 := by
 unfold Cj
 repeat' with_reducible first | refine AA.cond (fun hc => ?_) (fun hc => ?_) | (refine AA.bsome ?_; try dsimp only) | refine AA.bcond ?_ | refine AA.bbind ?_ | refine AA.bsum ?_ | (refine AA.inl ?_; try dsimp only) | (refine AA.inr ?_; try dsimp only) | (refine AA.sum ?_ ?_ <;> (intro u hu; try subst hu)) | refine AA.some ?_ | (refine AA.bind (Ci ?_) ?_; rotate_left 1; intro r hr) | (refine AA.bind (O4 ?_) ?_; rotate_left 1; intro r hr)
 all_goals ((try dsimp only [len] at *); (try first | omega | assumption | grind [AI, DQ]))
theorem QK {x : AY × AQ} {s : Int} (h : 0 ≤ s ∧ s ≤ x.1.2.length ∧ (x.1.2.length : Int) ≤ 16777216 ∧ x.1.1.length ≤ 16777216) : AA (AT (Iu x) s) fun r => ∀ u, r = .inl u → 0 ≤ u ∧ u ≤ x.1.2.length := by
 refine AA.loop (fun (s : Int) => 0 ≤ s ∧ s ≤ x.1.2.length ∧ (x.1.2.length : Int) ≤ 16777216 ∧ x.1.1.length ≤ 16777216) (fun (s : Int) => ((x.1.2.length : Int) - s).toNat) h (fun s hI => ?_)
 unfold Iu
 repeat' with_reducible first | refine AA.dec (fun hc => ?_) (fun hc => ?_) | refine AA.beq (fun hc => ?_) (fun hc => ?_) | refine AA.cond (fun hc => ?_) (fun hc => ?_) | refine AA.some ?_ | (refine AA.bind (EP ?_) ?_; rotate_left 1; intro r hr) | (refine AA.bind (AA.ix ?_ ?_) ?_; rotate_left 2; rintro r ⟨hr, hm⟩)
 all_goals ((try dsimp only [len] at *); (try first | omega | assumption | grind [AI]))
theorem Tk {x : AY × AQ} (h : DQ x.1) : AA (E0 x) fun r => 0 ≤ r ∧ r ≤ x.1.2.length := by
 unfold E0
 repeat' with_reducible first | refine AA.beq (fun hc => ?_) (fun hc => ?_) | refine AA.cond (fun hc => ?_) (fun hc => ?_) | (refine AA.inl ?_; try dsimp only) | (refine AA.inr ?_; try dsimp only) | (refine AA.sum ?_ ?_ <;> (intro u hu; try subst hu)) | refine AA.some ?_ | (refine AA.bind (EP ?_) ?_; rotate_left 1; intro r hr) | (refine AA.bind (QK ?_) ?_; rotate_left 1; intro r hr)
 all_goals ((try dsimp only [len] at *); (try first | omega | assumption | grind [AI, DQ]))
theorem Q7 {x : AY × AQ} (h : DQ x.1) : AA (Fh x) fun r => DQ r.1 := by
 unfold Fh
 refine AA.bind (Ci h) fun v hv => ?_
 refine AA.not (fun _ => AA.some DQ.nil) (fun hc => ?_)
 have hl := hv hc
 unfold Pz at hl
 have main : ∀ (k : Int) (q : Int → Option (AY × (Bool × Int))), True := fun _ _ => trivial
 refine AA.bind Jr fun _ _ => ?_
 refine AA.not (fun _ => AA.some DQ.nil) (fun _ => ?_)
 refine AA.bind (Es h) fun v2 _ => ?_
 refine AA.cond (fun hc2 => ?_) (fun hc2 => ?_)
 ·refine AA.cond (fun _ => AA.some DQ.nil) (fun _ => ?_)
  refine AA.cond (fun _ => AA.some h) (fun h3 => ?_)
  rw [hc2] at h3; cases h3
 ·refine AA.cond (fun _ => AA.some h) (fun _ => ?_)
  refine AA.bind (EP h.1) fun _ _ => ?_
  refine AA.cond (fun _ => AA.some h) (fun _ => ?_)
  refine AA.cond (fun _ => AA.some DQ.nil) (fun _ => ?_)
  refine AA.bind (Tk h) fun p hp => ?_
  refine AA.bind (AA.lsl (by omega) hp.1 hp.2) fun v14 h14 => ?_
  refine AA.bind (AA.lsl hp.1 (by simp only [len]; omega) (by simp only [len]; omega)) fun v15 h15 => ?_
  have l14 := h14.2
  have l15 := h15.2
  simp only [len] at l15
  refine AA.bind (AA.app (by simp; omega)) fun v16 h16 => ?_
  have l16 := h16.2.1
  simp only [List.length_nil] at l16
  refine AA.bind (AA.app (by simp; omega)) fun v17 h17 => ?_
  have l17 := h17.2.1
  simp only [List.length_nil, List.length_cons] at l17
  refine AA.bind (AA.app (by omega)) fun v18 h18 => ?_
  have l18 := h18.2.1
  refine AA.bind (FJ (B := 1025) (by decide) (by dsimp only; omega)) fun v19 h19 => ?_
  refine AA.bind (EP (by dsimp only; omega)) fun _ _ => ?_
  exact AA.some (DQ.of (by decide) h19)
end Go.Pm
namespace Go.Pm
open Go Go.Ab
set_option maxHeartbeats 400000
theorem RG {x : List Int × Int} {s : Bool × Int × List Int} (h : 0 ≤ s.2.1 ∧ s.2.1 ≤ x.1.length ∧ x.1.length ≤ 4096 ∧ s.2.2.length ≤ s.2.1 + 1 ∧ (s.1 = false → (s.2.2.length : Int) ≤ s.2.1)) : AA (AT (Jv x) s) fun r => r.2.length ≤ x.1.length + 1 ∧ (r.1 = false → r.2.length ≤ x.1.length) := by
 refine AA.loop (fun (s : Bool × Int × List Int) => 0 ≤ s.2.1 ∧ s.2.1 ≤ x.1.length ∧ x.1.length ≤ 4096 ∧ s.2.2.length ≤ s.2.1 + 1 ∧ (s.1 = false → (s.2.2.length : Int) ≤ s.2.1)) (fun (s : Bool × Int × List Int) => ((x.1.length : Int) - s.2.1).toNat) h (fun s hI => ?_)
 unfold Jv
 repeat' with_reducible first | refine AA.dec (fun hc => ?_) (fun hc => ?_) | refine AA.not (fun hc => ?_) (fun hc => ?_) | refine AA.bne (fun hc => ?_) (fun hc => ?_) | refine AA.cond (fun hc => ?_) (fun hc => ?_) | (refine AA.bsome ?_; try dsimp only) | refine AA.bcond ?_ | refine AA.bbind ?_ | refine AA.some ?_ | (refine AA.bind (AA.ix ?_ ?_) ?_; rotate_left 2; rintro r ⟨hr, hm⟩) | (refine AA.bind (AA.app ?_) ?_; rotate_left 1; rintro r ⟨hr, hl, hl2⟩)
 all_goals try dsimp only [len] at *
 all_goals try (have e := AI (x := s.2.1 + 1) (by omega))
 all_goals try (have hI5 := hI.2.2.2.2 (by assumption))
 all_goals (try simp only [List.length_cons, List.length_nil, Bool.true_eq_false, false_implies, and_true] at *)
 all_goals first | omega | grind
theorem KX {x : List Int × Int} (h : x.1.length ≤ 4096) : AA (D4 x) fun r => r.length ≤ x.1.length + 1 := by
 unfold D4
 repeat' with_reducible first | refine AA.not (fun hc => ?_) (fun hc => ?_) | refine AA.cond (fun hc => ?_) (fun hc => ?_) | (refine AA.bsome ?_; try dsimp only) | refine AA.bcond ?_ | refine AA.bbind ?_ | refine AA.some ?_ | (refine AA.bind (RG ?_) ?_; rotate_left 1; intro r hr) | (refine AA.bind (AA.app ?_) ?_; rotate_left 1; rintro r ⟨hr, hl, hl2⟩)
 all_goals ((try dsimp only [len] at *); (try first | omega | assumption | grind [AI]))
theorem O5 {x : AY} {s : List Int × Int} (h : 0 ≤ s.2 ∧ s.2 ≤ x.2.length ∧ x.2.length ≤ 4096 ∧ s.1.length ≤ s.2) : AA (AT (Gi x) s) fun r => r.length ≤ x.2.length := by
 refine AA.loop (fun (s : List Int × Int) => 0 ≤ s.2 ∧ s.2 ≤ x.2.length ∧ x.2.length ≤ 4096 ∧ s.1.length ≤ s.2) (fun (s : List Int × Int) => ((x.2.length : Int) - s.2).toNat) h (fun s hI => ?_)
 unfold Gi
 repeat' with_reducible first | refine AA.dec (fun hc => ?_) (fun hc => ?_) | refine AA.cond (fun hc => ?_) (fun hc => ?_) | refine AA.some ?_ | (refine AA.bind (KX ?_) ?_; rotate_left 1; intro r hr) | (refine AA.bind (AA.ix ?_ ?_) ?_; rotate_left 2; rintro r ⟨hr, hm⟩)
 all_goals ((try dsimp only [len] at *); (try first | omega | assumption | grind [AI]))
theorem RF {x : AY} (h : DQ x) : AA (Fi x) fun r => r.length ≤ 4096 := by
 unfold Fi
 repeat' with_reducible first | refine AA.cond (fun hc => ?_) (fun hc => ?_) | (refine AA.bsome ?_; try dsimp only) | refine AA.bcond ?_ | refine AA.bbind ?_ | refine AA.some ?_ | (refine AA.bind (Ci ?_) ?_; rotate_left 1; intro r hr) | (refine AA.bind (O5 ?_) ?_; rotate_left 1; intro r hr)
 all_goals ((try dsimp only [len] at *); (try first | omega | assumption | grind [AI, Pz]))
theorem SW {x : AY × Int} {v0 : AQ × Bool} {s : List Int × Int} (h : 0 ≤ s.2 ∧ s.2 ≤ x.1.1.length ∧ x.1.1.length ≤ 1024 ∧ s.1.length ≤ s.2) : AA (AT (KU x v0) s) fun r => r.length ≤ x.1.1.length := by
 refine AA.loop (fun (s : List Int × Int) => 0 ≤ s.2 ∧ s.2 ≤ x.1.1.length ∧ x.1.1.length ≤ 1024 ∧ s.1.length ≤ s.2) (fun (s : List Int × Int) => ((x.1.1.length : Int) - s.2).toNat) h (fun s hI => ?_)
 unfold KU
 repeat' with_reducible first | refine AA.dec (fun hc => ?_) (fun hc => ?_) | refine AA.cond (fun hc => ?_) (fun hc => ?_) | (refine AA.bsome ?_; try dsimp only) | refine AA.bcond ?_ | refine AA.bbind ?_ | refine AA.some ?_ | (refine AA.bind (KX ?_) ?_; rotate_left 1; intro r hr) | (refine AA.bind (Ch) ?_; intro r hr) | (refine AA.bind (AA.ix ?_ ?_) ?_; rotate_left 2; rintro r ⟨hr, hm⟩)
 all_goals ((try dsimp only [len] at *); (try first | omega | assumption | grind [AI]))
theorem SX {x : AY × Int} {v0 : AQ × Bool} {s : List Int × Int} (h : 0 ≤ s.2 ∧ s.2 ≤ x.1.2.length ∧ x.1.2.length ≤ 1024 ∧ s.1.length ≤ s.2 + 1024) : AA (AT (KV x v0) s) fun r => r.length ≤ 4096 := by
 refine AA.loop (fun (s : List Int × Int) => 0 ≤ s.2 ∧ s.2 ≤ x.1.2.length ∧ x.1.2.length ≤ 1024 ∧ s.1.length ≤ s.2 + 1024) (fun (s : List Int × Int) => ((x.1.2.length : Int) - s.2).toNat) h (fun s hI => ?_)
 unfold KV
 repeat' with_reducible first | refine AA.dec (fun hc => ?_) (fun hc => ?_) | refine AA.bne (fun hc => ?_) (fun hc => ?_) | refine AA.cond (fun hc => ?_) (fun hc => ?_) | (refine AA.bsome ?_; try dsimp only) | refine AA.bcond ?_ | refine AA.bbind ?_ | refine AA.some ?_ | (refine AA.bind (KX ?_) ?_; rotate_left 1; intro r hr) | (refine AA.bind (Ch) ?_; intro r hr) | (refine AA.bind (AA.ix ?_ ?_) ?_; rotate_left 2; rintro r ⟨hr, hm⟩)
 all_goals ((try dsimp only [len] at *); (try first | omega | assumption | grind [AI]))
theorem G6 {x : AY × Int} (h : DQ x.1) : AA (Eg x) fun r => r.length ≤ 4096 := by
 unfold Eg
 refine AA.bind (Es h) fun v0 hv => ?_
 refine AA.not (fun _ => AA.some (by simp)) (fun hc => ?_)
 have hl := hv hc
 unfold Pz at hl
 refine AA.bind (SW ⟨by simp, by simp, by omega, by simp⟩) fun v7 h7 => ?_
 refine AA.bind (SX ⟨by simp, by simp, by omega, by dsimp only; omega⟩) fun v15 h15 => ?_
 exact AA.some h15
theorem K5 {x : AY × List Int × Int} {v1 : List Int} {s : Int} (h : 0 ≤ s ∧ s ≤ v1.length ∧ (v1.length : Int) ≤ 16777216 ∧ 1 ≤ x.2.1.length ∧ x.2.1.length ≤ 4096) : AA (AT (Ha x v1) s) fun r => ∀ u, r = .inl u → u = x.2.1 := by
 refine AA.loop (fun (s : Int) => 0 ≤ s ∧ s ≤ v1.length ∧ (v1.length : Int) ≤ 16777216 ∧ 1 ≤ x.2.1.length ∧ x.2.1.length ≤ 4096) (fun (s : Int) => ((v1.length : Int) - s).toNat) h (fun s hI => ?_)
 unfold Ha
 repeat' with_reducible first | refine AA.dec (fun hc => ?_) (fun hc => ?_) | refine AA.beq (fun hc => ?_) (fun hc => ?_) | refine AA.cond (fun hc => ?_) (fun hc => ?_) | refine AA.some ?_ | (refine AA.bind (AA.ix ?_ ?_) ?_; rotate_left 2; rintro r ⟨hr, hm⟩)
 all_goals ((try dsimp only [len] at *); (try first | omega | assumption | grind [AI]))
theorem PY {x : AY × List Int × Int} {v9 : Int} {s : Bool × Int} (h : 0 ≤ s.2 ∧ s.2 ≤ x.2.1.length ∧ x.2.1.length ≤ 4096) : AA (AT (Hb x v9) s) fun r => True := by
 refine AA.loop (fun (s : Bool × Int) => 0 ≤ s.2 ∧ s.2 ≤ x.2.1.length ∧ x.2.1.length ≤ 4096) (fun (s : Bool × Int) => ((x.2.1.length : Int) - s.2).toNat) h (fun s hI => ?_)
 unfold Hb
 repeat' with_reducible first | refine AA.dec (fun hc => ?_) (fun hc => ?_) | refine AA.beq (fun hc => ?_) (fun hc => ?_) | refine AA.cond (fun hc => ?_) (fun hc => ?_) | refine AA.some ?_ | (refine AA.bind (AA.ix ?_ ?_) ?_; rotate_left 2; rintro r ⟨hr, hm⟩)
 all_goals ((try dsimp only [len] at *); (try first | omega | assumption | grind [AI]))
theorem iO (d : Nat) {x : AY × List Int × Int} (h : DQ x.1) (h1 : 1 ≤ x.2.1.length) (h2 : (x.2.1.length : Int) + d = x.2.2) (h3 : x.2.2 ≤ 4096) : AA (ZZ CO (d + 1) x) fun r => r.length ≤ 4096 := by
 induction d generalizing x with
 | zero =>
  show AA (CO _ x) _
  unfold CO
  have e := AI (x := (x.2.1.length : Int) - 1) (by omega)
  refine AA.bind (AA.ix (by simp only [len]; rw [e]; omega) (by simp only [len]; rw [e]; omega)) fun v0 _ => ?_
  refine AA.bind (G6 h) fun v1 h1' => ?_
  refine AA.beq (fun _ => ?_) (fun hc => absurd (by simp only [len]; omega) hc)
  refine AA.bind (K5 ⟨by simp, by simp, by omega, h1, by omega⟩) fun r hr => ?_
  exact AA.sum (fun u hu => AA.some (by rw [hr u hu]; omega)) (fun _ _ => AA.some (by simp))
 | succ d ih =>
  show AA (CO _ x) _
  unfold CO
  have e := AI (x := (x.2.1.length : Int) - 1) (by omega)
  refine AA.bind (AA.ix (by simp only [len]; rw [e]; omega) (by simp only [len]; rw [e]; omega)) fun v0 _ => ?_
  refine AA.bind (G6 h) fun v1 h1' => ?_
  refine AA.beq (fun _ => ?_) (fun _ => ?_)
  ·refine AA.bind (K5 ⟨by simp, by simp, by omega, h1, by omega⟩) fun r hr => ?_
   exact AA.sum (fun u hu => AA.some (by rw [hr u hu]; omega)) (fun _ _ => AA.some (by simp))
  ·refine AA.bind (P := fun r => ∀ u, r = .inl u → u.length ≤ 4096) ?_ fun r hr => AA.sum (fun u hu => AA.some (hr u hu)) (fun _ _ => AA.some (by simp))
   refine AA.loop (fun (s : Int) => 0 ≤ s ∧ s ≤ v1.length) (fun (s : Int) => ((v1.length : Int) - s).toNat) (s := (0 : Int)) ⟨by decide, by omega⟩ (fun s hI => ?_)
   unfold Lb
   have e2 := AI (x := s + 1) (by omega)
   refine AA.dec (fun hc => ?_) (fun _ => AA.some (fun u hu => by cases hu))
   simp only [len] at hc
   refine AA.bind (AA.ix hI.1 hc) fun v9 _ => ?_
   refine AA.bind (PY ⟨by simp, by simp, by omega⟩) fun v12 _ => ?_
   refine AA.cond (fun _ => AA.some ⟨by rw [e2]; omega, by rw [e2]; omega⟩) (fun _ => ?_)
   refine AA.bind (AA.app (by simp; omega)) fun v13 h13 => ?_
   have l13 := h13.2.1
   simp only [List.length_nil] at l13
   refine AA.bind (AA.app (by simp; omega)) fun v14 h14 => ?_
   have l14 := h14.2.1
   simp only [List.length_cons, List.length_nil] at l14
   refine AA.bind (ih (x := (x.1, v14, x.2.2)) h (by dsimp only; omega) (by dsimp only; omega) h3) fun v15 h15 => ?_
   exact AA.dec (fun _ => AA.some fun u hu => by cases hu; exact h15) (fun _ => AA.some ⟨by rw [e2]; omega, by rw [e2]; omega⟩)
theorem SY {x : AY × List Int × Int} (h : DQ x.1) (h1 : 1 ≤ x.2.1.length) (h2 : (x.2.1.length : Int) ≤ x.2.2) (h3 : x.2.2 ≤ 4096) : AA (KW x) fun r => True := by
 obtain ⟨r, hr, _⟩ := iO (x.2.2 - x.2.1.length).toNat h h1 (by omega) h3
 obtain ⟨s, hs⟩ := Z6 hr
 exact ⟨s, hs, trivial⟩
theorem Tl {x : AY × Int} (h : DQ x.1) : AA (G5 x) fun r => True := by
 unfold G5
 refine AA.bind (P := fun _ => True) ?_ fun r _ => AA.sum (fun _ _ => AA.some trivial) (fun _ _ => AA.some trivial)
 refine AA.loop (fun s => 1 ≤ s ∧ s ≤ 4097) (fun s => (4097 - s).toNat) ⟨by decide, by decide⟩ (fun s hI => ?_)
 unfold L7
 have e2 := AI (x := s + 1) (by omega)
 refine AA.bind (RF h) fun v1 h1 => ?_
 refine AA.dec (fun hc => ?_) (fun _ => AA.some trivial)
 simp only [len] at hc
 refine AA.bind (SY h (by simp) (by show (1 : Int) ≤ s; omega) (by show s ≤ 4096; omega)) fun v2 _ => ?_
 exact AA.dec (fun _ => AA.some trivial) (fun _ => AA.some ⟨by rw [e2]; omega, by rw [e2]; omega⟩)
end Go.Pm
namespace Go.Pm
open Go Go.Ab
set_option maxHeartbeats 400000
theorem cM (n : Int) : 0 ≤ IntKind.wrap .u64 n := by rw [ac]; omega
theorem LN (l : List Int) : (Du l).length = l.length := by simp [Du]
theorem SM {x : BF × Int × Int} {s : BF × Int} (h : 0 ≤ s.2 ∧ s.2 ≤ x.2.2 ∧ x.2.2 ≤ 8 ∧ (s.1.length : Int) = x.1.length + s.2 ∧ x.1.length ≤ 1099511627776) : AA (AT (EM x) s) fun r => (r.length : Int) = x.1.length + x.2.2 := by
 refine AA.loop (fun (s : BF × Int) => 0 ≤ s.2 ∧ s.2 ≤ x.2.2 ∧ x.2.2 ≤ 8 ∧ (s.1.length : Int) = x.1.length + s.2 ∧ x.1.length ≤ 1099511627776) (fun (s : BF × Int) => (x.2.2 - s.2).toNat) h (fun s hI => ?_)
 unfold EM
 repeat' with_reducible first | refine AA.dec (fun hc => ?_) (fun hc => ?_) | refine AA.cond (fun hc => ?_) (fun hc => ?_) | refine AA.some ?_ | refine AA.none ?_ | (refine AA.bind (AA.sapp ?_) ?_; rotate_left 1; rintro r ⟨hr, hl⟩)
 all_goals try (have hw := cM (wi (8 * s.2)); omega)
 all_goals ((try dsimp only [len] at *); (try first | omega | assumption | grind [AI, LN]))
theorem BA {x : BF × Int × Int} (h : x.1.length ≤ 1099511627776) : AA (AR x) fun r => (1 ≤ x.2.2 → x.2.2 ≤ 8 → (r.length : Int) = x.1.length + x.2.2) ∧ r.length ≤ x.1.length + 8 := by
 unfold AR
 repeat' with_reducible first | refine AA.dec (fun hc => ?_) (fun hc => ?_) | refine AA.cond (fun hc => ?_) (fun hc => ?_) | refine AA.some ?_ | (refine AA.bind (SM ?_) ?_; rotate_left 1; intro r hr)
 all_goals ((try dsimp only [len] at *); (try first | omega | assumption | grind [AI]))
theorem eu {n : Int} (h : n ≤ 4) : (2 : Int) ^ (8 * n.toNat) ≤ 4294967296 := by
 have : n.toNat = 0 ∨ n.toNat = 1 ∨ n.toNat = 2 ∨ n.toNat = 3 ∨ n.toNat = 4 := by omega
 rcases this with h | h | h | h | h <;> rw [h] <;> decide
theorem ip {n : Int} (h : n ≤ 2) : (2 : Int) ^ (8 * n.toNat) ≤ 65536 := by
 have : n.toNat = 0 ∨ n.toNat = 1 ∨ n.toNat = 2 := by omega
 rcases this with h | h | h <;> rw [h] <;> decide
theorem gw {a b : Int} {k : Nat} (ha : 0 ≤ a) (ha2 : a < 2 ^ k) (hb : 0 ≤ b) (hb2 : b < 2 ^ k) (hk : k ≤ 64) : (0 : Int) ≤ ((BitVec.toNat (BitVec.ofInt 64 a ||| BitVec.ofInt 64 b) : Nat) : Int) ∧ ((BitVec.toNat (BitVec.ofInt 64 a ||| BitVec.ofInt 64 b) : Nat) : Int) < 2 ^ k := by
 refine ⟨by omega, ?_⟩
 obtain ⟨n, rfl⟩ := Int.eq_ofNat_of_zero_le ha
 obtain ⟨m, rfl⟩ := Int.eq_ofNat_of_zero_le hb
 have hn : n < 2 ^ k := by exact_mod_cast ha2
 have hm : m < 2 ^ k := by exact_mod_cast hb2
 have hp : 2 ^ k ≤ 2 ^ 64 := Nat.pow_le_pow_right (by decide) hk
 rw [BitVec.toNat_or]
 simp only [BitVec.ofInt_natCast, BitVec.toNat_ofNat]
 rw [Nat.mod_eq_of_lt (by omega), Nat.mod_eq_of_lt (by omega)]
 exact_mod_cast Nat.or_lt_two_pow hn hm
theorem cu {a v i : Int} (hi : 0 ≤ i) (hi2 : i < 8) (ha : 0 ≤ a) (ha2 : a < 2 ^ (8 * i.toNat)) (hv : 0 ≤ v) (hv2 : v < 256) :
  0 ≤ IntKind.wrap .u64 (((BitVec.toNat ((BitVec.ofInt 64 a) ||| (BitVec.ofInt 64 (IntKind.wrap .u64 ((IntKind.wrap .u64 v) * (2 ^ (min (Int.toNat (IntKind.wrap .u64 (wi (8 * i)))) 64))))))) : Nat) : Int) ∧
  IntKind.wrap .u64 (((BitVec.toNat ((BitVec.ofInt 64 a) ||| (BitVec.ofInt 64 (IntKind.wrap .u64 ((IntKind.wrap .u64 v) * (2 ^ (min (Int.toNat (IntKind.wrap .u64 (wi (8 * i)))) 64))))))) : Nat) : Int) < 2 ^ (8 * (wi (i + 1)).toNat) := by
 have e1 : wi (i + 1) = i + 1 := AI (by omega)
 have e2 : wi (8 * i) = 8 * i := AI (by omega)
 have e3 : IntKind.wrap .u64 (8 * i) = 8 * i := by rw [ac]; omega
 have e4 : IntKind.wrap .u64 v = v := by rw [ac]; omega
 rw [e1, e2, e3, e4]
 obtain ⟨n, rfl⟩ := Int.eq_ofNat_of_zero_le hi
 obtain ⟨m, rfl⟩ := Int.eq_ofNat_of_zero_le hv
 have hm : min (8 * (n : Int)).toNat 64 = 8 * n := by omega
 rw [hm]
 have hn1 : ((n : Int) + 1).toNat = n + 1 := by omega
 have hn0 : ((n : Int)).toNat = n := by omega
 rw [hn1]
 rw [hn0] at ha2
 have hp : (m : Int) * 2 ^ (8 * n) < 2 ^ (8 * (n + 1)) := by
  have : (m * 2 ^ (8 * n) : Nat) < 2 ^ (8 * (n + 1)) := by
   have h1 : 2 ^ (8 * (n + 1)) = 256 * 2 ^ (8 * n) := by rw [Nat.mul_add, Nat.pow_add]; omega
   rw [h1]
   exact Nat.mul_lt_mul_of_pos_right (by omega) (Nat.pow_pos (by decide))
  exact_mod_cast this
 have hq : (2 : Int) ^ (8 * (n + 1)) ≤ 2 ^ 64 := by
  have : (2 ^ (8 * (n + 1)) : Nat) ≤ 2 ^ 64 := Nat.pow_le_pow_right (by decide) (by omega)
  exact_mod_cast this
 have hz : (0 : Int) ≤ (m : Int) * 2 ^ (8 * n) := by
  have : (0 : Int) ≤ ((m * 2 ^ (8 * n) : Nat) : Int) := by omega
  exact_mod_cast this
 have e5 : IntKind.wrap .u64 ((m : Int) * 2 ^ (8 * n)) = (m : Int) * 2 ^ (8 * n) := by rw [ac]; omega
 rw [e5]
 have ha3 : a < 2 ^ (8 * (n + 1)) := by
  have : (2 : Int) ^ (8 * n) ≤ 2 ^ (8 * (n + 1)) := by
   have : (2 ^ (8 * n) : Nat) ≤ 2 ^ (8 * (n + 1)) := Nat.pow_le_pow_right (by decide) (by omega)
   exact_mod_cast this
  omega
 obtain ⟨q1, q2⟩ := gw (k := 8 * (n + 1)) ha ha3 hz hp (by omega)
 generalize ((BitVec.toNat _ : Nat) : Int) = y at q1 q2
 rw [ac]
 omega
theorem SL {x : BF × Int × Int} {s : Int × Int} (h : 0 ≤ s.2 ∧ s.2 ≤ x.2.2 ∧ x.2.2 ≤ 8 ∧ 0 ≤ x.2.1 ∧ x.2.1 + x.2.2 ≤ x.1.length ∧ x.1.length ≤ 1099511627776 ∧ 0 ≤ s.1 ∧ s.1 < 2 ^ (8 * s.2.toNat)) : AA (AT (GB x) s) fun r => 0 ≤ r ∧ r < 2 ^ (8 * x.2.2.toNat) := by
 refine AA.loop (fun (s : Int × Int) => 0 ≤ s.2 ∧ s.2 ≤ x.2.2 ∧ x.2.2 ≤ 8 ∧ 0 ≤ x.2.1 ∧ x.2.1 + x.2.2 ≤ x.1.length ∧ x.1.length ≤ 1099511627776 ∧ 0 ≤ s.1 ∧ s.1 < 2 ^ (8 * s.2.toNat)) (fun (s : Int × Int) => (x.2.2 - s.2).toNat) h (fun s hI => ?_)
 unfold GB
 obtain ⟨h0, h1, h2, h3, h4, h5, h6, h7⟩ := hI
 repeat' with_reducible first | refine AA.dec (fun hc => ?_) (fun hc => ?_) | refine AA.cond (fun hc => ?_) (fun hc => ?_) | refine AA.some ?_ | refine AA.none ?_ | (refine AA.bind (AA.six ?_ ?_) ?_; rotate_left 2; rintro r ⟨hr, hl⟩)
 all_goals try (have hw := cM (wi (8 * s.2)); omega)
 all_goals (first | (obtain ⟨g1, g2⟩ := cu (a := s.1) (v := r) (i := s.2) h0 (by omega) h6 h7 hr hl; have e := AI (x := s.2 + 1) (by omega); exact ⟨⟨by omega, by omega, h2, h3, h4, h5, g1, g2⟩, by dsimp only; omega⟩) | skip)
 all_goals ((try dsimp only [len] at *); (try first | omega | assumption | grind [AI]))
theorem A7 {x : BF × Int × Int} (h : x.1.length ≤ 1099511627776) : AA (An x) fun r => r.2 = 0 → 0 ≤ x.2.1 ∧ x.2.1 + x.2.2 ≤ x.1.length ∧ (x.2.2 ≤ 4 → 0 ≤ r.1 ∧ r.1 < 4294967296) ∧ (x.2.2 ≤ 2 → r.1 < 65536) := by
 unfold An
 repeat' with_reducible first | refine AA.dec (fun hc => ?_) (fun hc => ?_) | refine AA.cond (fun hc => ?_) (fun hc => ?_) | refine AA.some ?_ | (refine AA.bind (SL ?_) ?_; rotate_left 1; intro r hr)
 all_goals dsimp only [len] at *
 all_goals first
  | omega
  |(intro hz; exact absurd hz (by decide))
  |(have e := AI (x := (x.1.length : Int) - x.2.1) (by omega); exact ⟨by omega, by omega, by omega, by omega, by omega, h, by omega, by simp⟩)
  |(intro _; have e := AI (x := (x.1.length : Int) - x.2.1) (by omega); refine ⟨by omega, by omega, fun h4 => ?_, fun h2 => ?_⟩; (have := eu h4; rw [AI (by omega)]; omega); (have := ip h2; rw [AI (by omega)]; omega))
theorem SO  {s : Int × Int} (h : 0 ≤ s.2 ∧ s.2 ≤ 8) : AA (AT (KR) s) fun r => True := by
 refine AA.loop (fun (s : Int × Int) => 0 ≤ s.2 ∧ s.2 ≤ 8) (fun (s : Int × Int) => (8 - s.2).toNat) h (fun s hI => ?_)
 unfold KR
 repeat' with_reducible first | refine AA.dec (fun hc => ?_) (fun hc => ?_) | refine AA.beq (fun hc => ?_) (fun hc => ?_) | refine AA.cond (fun hc => ?_) (fun hc => ?_) | (refine AA.bsome ?_; try dsimp only) | refine AA.bcond ?_ | refine AA.bbind ?_ | refine AA.some ?_
 all_goals ((try dsimp only [len] at *); (try first | omega | assumption | grind [AI]))
theorem SN {x : BF} {s : Int × Int} (h : 0 ≤ s.2 ∧ s.2 ≤ x.length ∧ x.length ≤ 1099511627776) : AA (AT (KQ x) s) fun r => True := by
 refine AA.loop (fun (s : Int × Int) => 0 ≤ s.2 ∧ s.2 ≤ x.length ∧ x.length ≤ 1099511627776) (fun (s : Int × Int) => ((x.length : Int) - s.2).toNat) h (fun s hI => ?_)
 unfold KQ
 repeat' with_reducible first | refine AA.dec (fun hc => ?_) (fun hc => ?_) | refine AA.cond (fun hc => ?_) (fun hc => ?_) | refine AA.some ?_ | (refine AA.bind (SO ?_) ?_; rotate_left 1; intro r hr) | (refine AA.bind (AA.six ?_ ?_) ?_; rotate_left 2; rintro r ⟨hr, hl⟩)
 all_goals ((try dsimp only [len] at *); (try first | omega | assumption | grind [AI]))
theorem Dq {x : BF} (h : x.length ≤ 1099511627776) : AA (Dh x) fun r => True := by
 unfold Dh
 repeat' with_reducible first | refine AA.some ?_ | (refine AA.bind (SN ?_) ?_; rotate_left 1; intro r hr)
 all_goals ((try dsimp only [len] at *); (try first | omega | assumption | grind [AI]))
theorem Fd {x : BF} : AA (CU x) fun r => r.length ≤ 8408 := by
 unfold CU
 repeat' with_reducible first | refine AA.dec (fun hc => ?_) (fun hc => ?_) | refine AA.cond (fun hc => ?_) (fun hc => ?_) | refine AA.some ?_ | (refine AA.bind (BA ?_) ?_; rotate_left 1; intro r hr) | (refine AA.bind (Dq ?_) ?_; rotate_left 1; intro r hr) | (refine AA.bind (AA.sapp ?_) ?_; rotate_left 1; rintro r ⟨hr, hl⟩)
 all_goals dsimp only [len] at *
 all_goals ((try dsimp only [len] at *); (try first | omega | assumption | grind [AI]))
theorem Er {x : BF × Int} (h : x.1.length ≤ 1099511627776) : AA (Bs x) fun r => r.2.2 = 0 → r.1.length ≤ 8392 ∧ x.2 + 8 + r.1.length = r.2.1 ∧ 0 ≤ x.2 ∧ r.2.1 ≤ x.1.length := by
 unfold Bs
 repeat' with_reducible first | refine AA.dec (fun hc => ?_) (fun hc => ?_) | refine AA.bne (fun hc => ?_) (fun hc => ?_) | refine AA.cond (fun hc => ?_) (fun hc => ?_) | refine AA.some ?_ | (refine AA.bind (A7 ?_) ?_; rotate_left 1; intro r hr) | (refine AA.bind (Dq ?_) ?_; rotate_left 1; intro r hr) | (refine AA.bind (AA.ssl ?_ ?_ ?_) ?_; rotate_left 3; rintro r ⟨hr, hl⟩)
 all_goals dsimp only [len] at *
 all_goals ((try dsimp only [len] at *); (try first | omega | assumption | grind [AI]))
theorem Jm {x : Int} (h : 0 ≤ x ∧ x ≤ 16777216) : AA (Dr x) fun r => (r.length : Int) = x := by
 unfold Dr
 repeat' with_reducible first | refine AA.some ?_ | (refine AA.bind (AA.mk ?_ ?_) ?_; rotate_left 2; rintro r ⟨hr, hl⟩)
 all_goals ((try dsimp only [len] at *); (try first | omega | assumption | grind [AI, LN]))
theorem Ux {x : BF × EG} (h : x.1.length ≤ 1099511627776) (h1 : x.2.2.length ≤ 16777216) : AA (FN x) fun r => r.length ≤ x.1.length + 8 + x.2.2.length := by
 unfold FN
 repeat' with_reducible first | refine AA.not (fun hc => ?_) (fun hc => ?_) | refine AA.cond (fun hc => ?_) (fun hc => ?_) | refine AA.some ?_ | (refine AA.bind (BA ?_) ?_; rotate_left 1; intro r hr) | (refine AA.bind (AA.sapp ?_) ?_; rotate_left 1; rintro r ⟨hr, hl⟩)
 all_goals ((try dsimp only [len] at *); (try first | omega | assumption | grind [AI]))
theorem RZ.lens {x : AE} (h : RZ x) : x.2.2.2.2.2.2.1.2.2.1.2.length ≤ 12 ∧ x.2.2.2.2.2.2.1.2.2.2.2.length ≤ 12 ∧ x.2.2.2.2.2.2.2.length ≤ 8192 := by
 unfold RZ OW Ss NM at h
 grind
theorem L5 {x : AE} : AA (EO x) fun r => r.1.length ≤ 8400 := by
 unfold EO
 repeat' with_reducible first | refine AA.not (fun hc => ?_) (fun hc => ?_) | refine AA.cond (fun hc => ?_) (fun hc => ?_) | refine AA.some ?_ | (refine AA.bind (Bf) ?_; intro r hr) | (refine AA.bind (BA ?_) ?_; rotate_left 1; intro r hr) | (refine AA.bind (Ux ?_ ?_) ?_; rotate_left 2; intro r hr) | (refine AA.bind (AA.sapp ?_) ?_; rotate_left 1; rintro r ⟨hr, hl⟩)
 all_goals try (have hv := (RZ.lens (x := x) (by unfold Py at *; grind)))
 all_goals ((try dsimp only [len] at *); (try first | omega | assumption | grind [AI]))
end Go.Pm
namespace Go.Pm
open Go Go.Ab
set_option maxHeartbeats 400000
def CI (b : Bm) : Prop := b.1.length ≤ 1099511627776 ∧ 0 ≤ b.2.1 ∧ b.2.1 ≤ b.1.length
theorem JP {b : Bm} {x : Int} (h : CI b) (hx : 0 ≤ x ∧ x ≤ 8) : AA (At b x) fun r => CI r.2 ∧ (x ≤ 4 → 0 ≤ r.1 ∧ r.1 < 4294967296) := by
 unfold At
 unfold CI at *
 repeat' first
   | with_reducible refine AA.dec (fun hc => ?_) (fun hc => ?_)
   | with_reducible refine AA.not (fun hc => ?_) (fun hc => ?_)
   | with_reducible refine AA.beq (fun hc => ?_) (fun hc => ?_)
   | with_reducible refine AA.bne (fun hc => ?_) (fun hc => ?_)
   | with_reducible refine AA.cond (fun hc => ?_) (fun hc => ?_)
   |(with_reducible refine AA.bsome ?_; try dsimp only)
   | with_reducible refine AA.bcond ?_
   | with_reducible refine AA.bbind ?_
   | with_reducible refine AA.bsum ?_
   |(with_reducible refine AA.inl ?_; try dsimp only)
   |(with_reducible refine AA.inr ?_; try dsimp only)
   |(with_reducible refine AA.sum ?_ ?_ <;> (intro u hu; try subst hu))
   | with_reducible refine AA.some ?_
   | with_reducible refine AA.none ?_
   |(with_reducible refine AA.bind (A7 ?_) ?_; rotate_left 1; intro r hr)
   |(with_reducible refine AA.bind (AA.ix ?_ ?_) ?_; rotate_left 2; rintro r ⟨hr, hm⟩)
   |(with_reducible refine AA.bind (AA.app ?_) ?_; rotate_left 1; rintro r ⟨hr, hl, hl2⟩)
   |(with_reducible refine AA.bind (AA.aget ?_ ?_) ?_; rotate_left 2; intro r hr)
   |(with_reducible refine AA.bind (AA.sapp ?_) ?_; rotate_left 1; rintro r ⟨hr, hl⟩)
   |(with_reducible refine AA.bind (AA.ssl ?_ ?_ ?_) ?_; rotate_left 3; rintro r ⟨hr, hl⟩)
   |(with_reducible refine AA.bind (AA.lsl ?_ ?_ ?_) ?_; rotate_left 3; rintro r ⟨hr, hl⟩)
   |(with_reducible refine AA.bind (AA.six ?_ ?_) ?_; rotate_left 2; rintro r ⟨hr, hl⟩)
   |(with_reducible refine AA.bind (AA.mk ?_ ?_) ?_; rotate_left 2; rintro r ⟨hr, hl⟩)
 all_goals ((try dsimp only [len] at *); (try first | omega | assumption | grind [AI]))
theorem Jn {b : Bm} {x : Int} (h : CI b) (hx : 0 ≤ x ∧ x ≤ 4294967296) : AA (Cz b x) fun r => CI r.2 := by
 unfold Cz
 unfold CI at *
 repeat' first
   | with_reducible refine AA.dec (fun hc => ?_) (fun hc => ?_)
   | with_reducible refine AA.not (fun hc => ?_) (fun hc => ?_)
   | with_reducible refine AA.beq (fun hc => ?_) (fun hc => ?_)
   | with_reducible refine AA.bne (fun hc => ?_) (fun hc => ?_)
   | with_reducible refine AA.cond (fun hc => ?_) (fun hc => ?_)
   |(with_reducible refine AA.bsome ?_; try dsimp only)
   | with_reducible refine AA.bcond ?_
   | with_reducible refine AA.bbind ?_
   | with_reducible refine AA.bsum ?_
   |(with_reducible refine AA.inl ?_; try dsimp only)
   |(with_reducible refine AA.inr ?_; try dsimp only)
   |(with_reducible refine AA.sum ?_ ?_ <;> (intro u hu; try subst hu))
   | with_reducible refine AA.some ?_
   | with_reducible refine AA.none ?_
   |(with_reducible refine AA.bind (AA.ix ?_ ?_) ?_; rotate_left 2; rintro r ⟨hr, hm⟩)
   |(with_reducible refine AA.bind (AA.app ?_) ?_; rotate_left 1; rintro r ⟨hr, hl, hl2⟩)
   |(with_reducible refine AA.bind (AA.aget ?_ ?_) ?_; rotate_left 2; intro r hr)
   |(with_reducible refine AA.bind (AA.sapp ?_) ?_; rotate_left 1; rintro r ⟨hr, hl⟩)
   |(with_reducible refine AA.bind (AA.ssl ?_ ?_ ?_) ?_; rotate_left 3; rintro r ⟨hr, hl⟩)
   |(with_reducible refine AA.bind (AA.lsl ?_ ?_ ?_) ?_; rotate_left 3; rintro r ⟨hr, hl⟩)
   |(with_reducible refine AA.bind (AA.six ?_ ?_) ?_; rotate_left 2; rintro r ⟨hr, hl⟩)
   |(with_reducible refine AA.bind (AA.mk ?_ ?_) ?_; rotate_left 2; rintro r ⟨hr, hl⟩)
 all_goals ((try dsimp only [len] at *); (try first | omega | assumption | grind [AI]))
theorem Om {b : Bm} {x : Unit} (h : CI b) : AA (C9 b x) fun r => CI r.2 := by
 unfold C9
 repeat' with_reducible first | refine AA.dec (fun hc => ?_) (fun hc => ?_) | refine AA.beq (fun hc => ?_) (fun hc => ?_) | refine AA.bne (fun hc => ?_) (fun hc => ?_) | refine AA.cond (fun hc => ?_) (fun hc => ?_) | refine AA.some ?_ | (refine AA.bind (JP ?_ ?_) ?_; rotate_left 2; intro r hr) | (refine AA.bind (Jn ?_ ?_) ?_; rotate_left 2; intro r hr)
 all_goals ((try dsimp only [len] at *); (try first | omega | assumption | grind [AI, CI]))
theorem L4 {x : BF} (h : x.length ≤ 1099511627776) : AA (EN x) fun r => r.2 = 0 → Py r.1 := by
 unfold EN
 have h0 : CI (x, 0, 0) := ⟨h, by simp, by simp⟩
 repeat' with_reducible first | refine AA.not (fun hc => ?_) (fun hc => ?_) | refine AA.bne (fun hc => ?_) (fun hc => ?_) | refine AA.cond (fun hc => ?_) (fun hc => ?_) | refine AA.some ?_ | (refine AA.bind (JP ?_ ?_) ?_; rotate_left 2; intro r hr) | (refine AA.bind (Om ?_) ?_; rotate_left 1; intro r hr) | (refine AA.bind (Jn ?_ ?_) ?_; rotate_left 2; intro r hr) | (refine AA.bind (Bf) ?_; intro r hr)
 all_goals first | omega | assumption | (exact And.left (by assumption)) | grind
theorem O6 {x : BF × List Int} {s : BF × Int} (h : 0 ≤ s.2 ∧ s.2 ≤ x.2.length ∧ x.2.length ≤ 16777216 ∧ x.1.length ≤ 1073741824 ∧ (s.1.length : Int) ≤ x.1.length + 8 * s.2) : AA (AT (Gj x) s) fun r => (r.length : Int) ≤ x.1.length + 8 * x.2.length := by
 refine AA.loop (fun (s : BF × Int) => 0 ≤ s.2 ∧ s.2 ≤ x.2.length ∧ x.2.length ≤ 16777216 ∧ x.1.length ≤ 1073741824 ∧ (s.1.length : Int) ≤ x.1.length + 8 * s.2) (fun (s : BF × Int) => ((x.2.length : Int) - s.2).toNat) h (fun s hI => ?_)
 unfold Gj
 repeat' with_reducible first | refine AA.dec (fun hc => ?_) (fun hc => ?_) | refine AA.cond (fun hc => ?_) (fun hc => ?_) | refine AA.some ?_ | (refine AA.bind (BA ?_) ?_; rotate_left 1; intro r hr) | (refine AA.bind (AA.ix ?_ ?_) ?_; rotate_left 2; rintro r ⟨hr, hm⟩)
 all_goals ((try dsimp only [len] at *); (try first | omega | assumption | grind [AI]))
theorem RJ {x : BF × List Int} (h : x.2.length ≤ 16777216 ∧ x.1.length ≤ 1073741824) : AA (D6 x) fun r => (r.length : Int) ≤ x.1.length + 8 * x.2.length := by
 unfold D6
 repeat' with_reducible first | refine AA.some ?_ | (refine AA.bind (O6 ?_) ?_; rotate_left 1; intro r hr)
 all_goals ((try dsimp only [len] at *); (try first | omega | assumption | grind [AI]))
theorem Pd {x : List AJ} {s : BF × Int} (h : 0 ≤ s.2 ∧ s.2 ≤ x.length ∧ P0 x ∧ (s.1.length : Int) ≤ 10 + 40000 * s.2) : AA (AT (Hh x) s) fun r => (r.length : Int) ≤ 10 + 40000 * x.length := by
 refine AA.loop (fun (s : BF × Int) => 0 ≤ s.2 ∧ s.2 ≤ x.length ∧ P0 x ∧ (s.1.length : Int) ≤ 10 + 40000 * s.2) (fun (s : BF × Int) => ((x.length : Int) - s.2).toNat) h (fun s hI => ?_)
 unfold Hh
 obtain ⟨h0, h1, ⟨h2, h3⟩, h4⟩ := hI
 repeat' with_reducible first | refine AA.dec (fun hc => ?_) (fun hc => ?_) | refine AA.cond (fun hc => ?_) (fun hc => ?_) | refine AA.some ?_ | (refine AA.bind (BA ?_) ?_; rotate_left 1; intro r hr) | (refine AA.bind (RJ ?_) ?_; rotate_left 1; intro r hr) | (refine AA.bind (AA.ix ?_ ?_) ?_; rotate_left 2; rintro r ⟨hr, hm⟩)
 all_goals try (have hv := h3 _ _ (by assumption))
 all_goals try unfold iC at *
 all_goals dsimp only [len] at *
 all_goals first | omega | (refine ⟨⟨?_, ?_, ⟨h2, h3⟩, ?_⟩, ?_⟩ <;> (simp (disch := omega) only [AI]; omega)) | grind
theorem Se {x : List AJ} : AA (GM x) fun r => r.1.length ≤ 16777216 := by
 unfold GM
 repeat' with_reducible first | refine AA.not (fun hc => ?_) (fun hc => ?_) | refine AA.cond (fun hc => ?_) (fun hc => ?_) | refine AA.some ?_ | (refine AA.bind (CB) ?_; intro r hr) | (refine AA.bind (BA ?_) ?_; rotate_left 1; intro r hr) | (refine AA.bind (Pd ?_) ?_; rotate_left 1; intro r hr)
 all_goals ((try dsimp only [len] at *); (try first | omega | assumption | grind [AI, P0]))
def CJ (b : Aq) : Prop := b.1.length ≤ 1099511627776 ∧ 0 ≤ b.2.1 ∧ b.2.1 ≤ b.1.length
theorem DG {b : Aq} {x : Int} (h : CJ b) (hx : 0 ≤ x ∧ x ≤ 8) : AA (BG b x) fun r => CJ r.2 ∧ (x ≤ 2 → 0 ≤ r.1 ∧ r.1 < 65536) := by
 unfold BG
 unfold CJ at *
 repeat' first
   | with_reducible refine AA.dec (fun hc => ?_) (fun hc => ?_)
   | with_reducible refine AA.not (fun hc => ?_) (fun hc => ?_)
   | with_reducible refine AA.beq (fun hc => ?_) (fun hc => ?_)
   | with_reducible refine AA.bne (fun hc => ?_) (fun hc => ?_)
   | with_reducible refine AA.cond (fun hc => ?_) (fun hc => ?_)
   |(with_reducible refine AA.bsome ?_; try dsimp only)
   | with_reducible refine AA.bcond ?_
   | with_reducible refine AA.bbind ?_
   | with_reducible refine AA.bsum ?_
   |(with_reducible refine AA.inl ?_; try dsimp only)
   |(with_reducible refine AA.inr ?_; try dsimp only)
   |(with_reducible refine AA.sum ?_ ?_ <;> (intro u hu; try subst hu))
   | with_reducible refine AA.some ?_
   | with_reducible refine AA.none ?_
   |(with_reducible refine AA.bind (A7 ?_) ?_; rotate_left 1; intro r hr)
   |(with_reducible refine AA.bind (AA.ix ?_ ?_) ?_; rotate_left 2; rintro r ⟨hr, hm⟩)
   |(with_reducible refine AA.bind (AA.app ?_) ?_; rotate_left 1; rintro r ⟨hr, hl, hl2⟩)
   |(with_reducible refine AA.bind (AA.aget ?_ ?_) ?_; rotate_left 2; intro r hr)
   |(with_reducible refine AA.bind (AA.sapp ?_) ?_; rotate_left 1; rintro r ⟨hr, hl⟩)
   |(with_reducible refine AA.bind (AA.ssl ?_ ?_ ?_) ?_; rotate_left 3; rintro r ⟨hr, hl⟩)
   |(with_reducible refine AA.bind (AA.lsl ?_ ?_ ?_) ?_; rotate_left 3; rintro r ⟨hr, hl⟩)
   |(with_reducible refine AA.bind (AA.six ?_ ?_) ?_; rotate_left 2; rintro r ⟨hr, hl⟩)
   |(with_reducible refine AA.bind (AA.mk ?_ ?_) ?_; rotate_left 2; rintro r ⟨hr, hl⟩)
 all_goals ((try dsimp only [len] at *); (try first | omega | assumption | grind [AI]))
theorem Nh  {s : Int × List Int × Aq} (h : 0 ≤ s.1 ∧ s.1 + s.2.1.length ≤ 65536 ∧ CJ s.2.2) : AA (AT (FF) s) fun r => CJ r.2 ∧ r.1.length ≤ 65536 := by
 refine AA.loop (fun (s : Int × List Int × Aq) => 0 ≤ s.1 ∧ s.1 + s.2.1.length ≤ 65536 ∧ CJ s.2.2) (fun (s : Int × List Int × Aq) => s.1.toNat) h (fun s hI => ?_)
 unfold FF
 repeat' with_reducible first | refine AA.dec (fun hc => ?_) (fun hc => ?_) | refine AA.not (fun hc => ?_) (fun hc => ?_) | refine AA.cond (fun hc => ?_) (fun hc => ?_) | refine AA.some ?_ | (refine AA.bind (DG ?_ ?_) ?_; rotate_left 2; intro r hr) | (refine AA.bind (AA.app ?_) ?_; rotate_left 1; rintro r ⟨hr, hl, hl2⟩)
 all_goals ((try dsimp only [len] at *); (try first | omega | assumption | grind [AI]))
theorem On {b : Aq} {x : Int} (h : CJ b) (hx : 0 ≤ x ∧ x ≤ 2) : AA (DA b x) fun r => CJ r.2 := by
 unfold DA
 repeat' with_reducible first | refine AA.some ?_ | (refine AA.bind (DG ?_ ?_) ?_; rotate_left 2; intro r hr) | (refine AA.bind (Nh ?_) ?_; rotate_left 1; intro r hr)
 all_goals ((try dsimp only [len] at *); (try first | omega | assumption | grind [AI]))
theorem Pc  {s : Int × List AJ × Aq} (h : 0 ≤ s.1 ∧ s.1 + s.2.1.length ≤ 65536 ∧ CJ s.2.2) : AA (AT (Hg) s) fun r => CJ r.2 ∧ r.1.length ≤ 65536 := by
 refine AA.loop (fun (s : Int × List AJ × Aq) => 0 ≤ s.1 ∧ s.1 + s.2.1.length ≤ 65536 ∧ CJ s.2.2) (fun (s : Int × List AJ × Aq) => s.1.toNat) h (fun s hI => ?_)
 unfold Hg
 repeat' with_reducible first | refine AA.dec (fun hc => ?_) (fun hc => ?_) | refine AA.not (fun hc => ?_) (fun hc => ?_) | refine AA.cond (fun hc => ?_) (fun hc => ?_) | refine AA.some ?_ | (refine AA.bind (DG ?_ ?_) ?_; rotate_left 2; intro r hr) | (refine AA.bind (On ?_ ?_) ?_; rotate_left 2; intro r hr) | (refine AA.bind (AA.app ?_) ?_; rotate_left 1; rintro r ⟨hr, hl, hl2⟩)
 all_goals ((try dsimp only [len] at *); (try first | omega | assumption | grind [AI]))
theorem Sd {x : BF} (h : x.length ≤ 1099511627776) : AA (GL x) fun r => r.1.length ≤ 65536 ∧ (r.2 = 0 → P0 r.1) := by
 unfold GL
 have h0 : CJ (x, 0, false) := ⟨h, by simp, by simp⟩
 repeat' with_reducible first | refine AA.not (fun hc => ?_) (fun hc => ?_) | refine AA.bne (fun hc => ?_) (fun hc => ?_) | refine AA.cond (fun hc => ?_) (fun hc => ?_) | refine AA.some ?_ | (refine AA.bind (DG ?_ ?_) ?_; rotate_left 2; intro r hr) | (refine AA.bind (Pc ?_) ?_; rotate_left 1; intro r hr) | (refine AA.bind (CB) ?_; intro r hr)
 all_goals ((try dsimp only [len] at *); (try first | omega | assumption | grind [AI]))
theorem Pb {x : Av} {s : BF × Int} (h : 0 ≤ s.2 ∧ s.2 ≤ x.length ∧ x.length ≤ 64 ∧ (s.1.length : Int) ≤ 10 + 24 * s.2) : AA (AT (Hf x) s) fun r => r.length ≤ 2000 := by
 refine AA.loop (fun (s : BF × Int) => 0 ≤ s.2 ∧ s.2 ≤ x.length ∧ x.length ≤ 64 ∧ (s.1.length : Int) ≤ 10 + 24 * s.2) (fun (s : BF × Int) => ((x.length : Int) - s.2).toNat) h (fun s hI => ?_)
 unfold Hf
 repeat' with_reducible first | refine AA.dec (fun hc => ?_) (fun hc => ?_) | refine AA.cond (fun hc => ?_) (fun hc => ?_) | refine AA.some ?_ | (refine AA.bind (BA ?_) ?_; rotate_left 1; intro r hr) | (refine AA.bind (AA.ix ?_ ?_) ?_; rotate_left 2; rintro r ⟨hr, hm⟩)
 all_goals ((try dsimp only [len] at *); (try first | omega | assumption | grind [AI]))
theorem Sc {x : Av} : AA (GK x) fun r => r.1.length ≤ 2000 := by
 unfold GK
 repeat' with_reducible first | refine AA.not (fun hc => ?_) (fun hc => ?_) | refine AA.cond (fun hc => ?_) (fun hc => ?_) | refine AA.some ?_ | (refine AA.bind (DE) ?_; intro r hr) | (refine AA.bind (BA ?_) ?_; rotate_left 1; intro r hr) | (refine AA.bind (Pb ?_) ?_; rotate_left 1; intro r hr)
 all_goals ((try dsimp only [len] at *); (try first | omega | assumption | grind [AI, Xa]))
theorem Pa {x : BF} {v0 : Int × Int} {s : Int × List LL} (h : 0 ≤ s.1 ∧ s.1 ≤ v0.1 ∧ v0.1 ≤ 65536 ∧ x.length ≤ 1099511627776 ∧ s.2.length ≤ s.1) : AA (AT (He x v0) s) fun r => r.length ≤ 65536 := by
 refine AA.loop (fun (s : Int × List LL) => 0 ≤ s.1 ∧ s.1 ≤ v0.1 ∧ v0.1 ≤ 65536 ∧ x.length ≤ 1099511627776 ∧ s.2.length ≤ s.1) (fun (s : Int × List LL) => (v0.1 - s.1).toNat) h (fun s hI => ?_)
 unfold He
 repeat' with_reducible first | refine AA.dec (fun hc => ?_) (fun hc => ?_) | refine AA.cond (fun hc => ?_) (fun hc => ?_) | refine AA.some ?_ | (refine AA.bind (A7 ?_) ?_; rotate_left 1; intro r hr) | (refine AA.bind (AA.app ?_) ?_; rotate_left 1; rintro r ⟨hr, hl, hl2⟩)
 all_goals ((try dsimp only [len] at *); (try first | omega | assumption | grind [AI]))
theorem Sb {x : BF} (h : x.length ≤ 1099511627776) : AA (GJ x) fun r => (r.2 = 0 → Xa r.1) ∧ r.1.length ≤ 65536 := by
 unfold GJ
 repeat' with_reducible first | refine AA.dec (fun hc => ?_) (fun hc => ?_) | refine AA.not (fun hc => ?_) (fun hc => ?_) | refine AA.bne (fun hc => ?_) (fun hc => ?_) | refine AA.cond (fun hc => ?_) (fun hc => ?_) | refine AA.some ?_ | (refine AA.bind (A7 ?_) ?_; rotate_left 1; intro r hr) | (refine AA.bind (Pa ?_) ?_; rotate_left 1; intro r hr) | (refine AA.bind (DE) ?_; intro r hr)
 all_goals ((try dsimp only [len] at *); (try first | omega | assumption | grind [AI]))
theorem Qd {x : BR} {s : Int} (h : 0 ≤ s ∧ s ≤ x.2.2.1.length ∧ (x.2.2.1.length : Int) ≤ 16777216) : AA (AT (JD x) s) fun r => r ≠ .inl true := by
 refine AA.loop (fun (s : Int) => 0 ≤ s ∧ s ≤ x.2.2.1.length ∧ (x.2.2.1.length : Int) ≤ 16777216) (fun (s : Int) => ((x.2.2.1.length : Int) - s).toNat) h (fun s hI => ?_)
 unfold JD
 repeat' with_reducible first | refine AA.dec (fun hc => ?_) (fun hc => ?_) | refine AA.cond (fun hc => ?_) (fun hc => ?_) | refine AA.some ?_ | (refine AA.bind (AA.ix ?_ ?_) ?_; rotate_left 2; rintro r ⟨hr, hm⟩)
 all_goals ((try dsimp only [len] at *); (try first | omega | assumption | grind [AI]))
def Zl (x : BR) : Prop := 1 ≤ x.1 ∧ x.1 ≤ 64 ∧ P0 x.2.2.1 ∧ Xa x.2.2.2.2 ∧ x.2.2.2.2.length = x.1
theorem M4 {x : BR} (h : x.2.2.2.1.length ≤ 16777216) : AA (E4 x) fun r => r = true → Zl x := by
 unfold E4 Zl
 repeat' first
   | with_reducible refine AA.dec (fun hc => ?_) (fun hc => ?_)
   | with_reducible refine AA.not (fun hc => ?_) (fun hc => ?_)
   | with_reducible refine AA.beq (fun hc => ?_) (fun hc => ?_)
   | with_reducible refine AA.bne (fun hc => ?_) (fun hc => ?_)
   | with_reducible refine AA.cond (fun hc => ?_) (fun hc => ?_)
   |(with_reducible refine AA.bsome ?_; try dsimp only)
   | with_reducible refine AA.bcond ?_
   | with_reducible refine AA.bbind ?_
   | with_reducible refine AA.bsum ?_
   |(with_reducible refine AA.inl ?_; try dsimp only)
   |(with_reducible refine AA.inr ?_; try dsimp only)
   |(with_reducible refine AA.sum ?_ ?_ <;> (intro u hu; try subst hu))
   | with_reducible refine AA.some ?_
   | with_reducible refine AA.none ?_
   |(with_reducible refine AA.bind (CB) ?_; intro r hr)
   |(with_reducible refine AA.bind (Ks ?_) ?_; rotate_left 1; intro r hr)
   |(with_reducible refine AA.bind (DE) ?_; intro r hr)
   |(with_reducible refine AA.bind (Qd ?_) ?_; rotate_left 1; intro r hr)
   |(with_reducible refine AA.bind (AA.ix ?_ ?_) ?_; rotate_left 2; rintro r ⟨hr, hm⟩)
   |(with_reducible refine AA.bind (AA.app ?_) ?_; rotate_left 1; rintro r ⟨hr, hl, hl2⟩)
   |(with_reducible refine AA.bind (AA.aget ?_ ?_) ?_; rotate_left 2; intro r hr)
   |(with_reducible refine AA.bind (AA.sapp ?_) ?_; rotate_left 1; rintro r ⟨hr, hl⟩)
   |(with_reducible refine AA.bind (AA.ssl ?_ ?_ ?_) ?_; rotate_left 3; rintro r ⟨hr, hl⟩)
   |(with_reducible refine AA.bind (AA.lsl ?_ ?_ ?_) ?_; rotate_left 3; rintro r ⟨hr, hl⟩)
   |(with_reducible refine AA.bind (AA.six ?_ ?_) ?_; rotate_left 2; rintro r ⟨hr, hl⟩)
   |(with_reducible refine AA.bind (AA.mk ?_ ?_) ?_; rotate_left 2; rintro r ⟨hr, hl⟩)
 all_goals ((try dsimp only [len] at *); (try first | omega | assumption | grind [AI, P0]))
theorem Pg {x : BR} {s : BF × Int} (h : 0 ≤ s.2 ∧ s.2 ≤ x.2.2.2.1.length ∧ x.2.2.2.1.length ≤ 16777216 ∧ (s.1.length : Int) ≤ 100000000 + 24 * s.2) : AA (AT (Hk x) s) fun r => r.length ≤ 1073741824 := by
 refine AA.loop (fun (s : BF × Int) => 0 ≤ s.2 ∧ s.2 ≤ x.2.2.2.1.length ∧ x.2.2.2.1.length ≤ 16777216 ∧ (s.1.length : Int) ≤ 100000000 + 24 * s.2) (fun (s : BF × Int) => ((x.2.2.2.1.length : Int) - s.2).toNat) h (fun s hI => ?_)
 unfold Hk
 repeat' with_reducible first | refine AA.dec (fun hc => ?_) (fun hc => ?_) | refine AA.cond (fun hc => ?_) (fun hc => ?_) | refine AA.some ?_ | (refine AA.bind (BA ?_) ?_; rotate_left 1; intro r hr) | (refine AA.bind (AA.ix ?_ ?_) ?_; rotate_left 2; rintro r ⟨hr, hm⟩)
 all_goals ((try dsimp only [len] at *); (try first | omega | assumption | grind [AI]))
theorem Sk {x : BR} (h : x.2.2.2.1.length ≤ 16777216) : AA (GS x) fun r => r.1.length ≤ 2147483648 := by
 unfold GS
 repeat' with_reducible first | refine AA.not (fun hc => ?_) (fun hc => ?_) | refine AA.cond (fun hc => ?_) (fun hc => ?_) | refine AA.some ?_ | (refine AA.bind (M4 ?_) ?_; rotate_left 1; intro r hr) | (refine AA.bind (Se) ?_; intro r hr) | (refine AA.bind (BA ?_) ?_; rotate_left 1; intro r hr) | (refine AA.bind (Pg ?_) ?_; rotate_left 1; intro r hr) | (refine AA.bind (Sc) ?_; intro r hr) | (refine AA.bind (AA.sapp ?_) ?_; rotate_left 1; rintro r ⟨hr, hl⟩)
 all_goals ((try dsimp only [len] at *); (try first | omega | assumption | grind [AI]))
end Go.Pm
namespace Go.Pm
open Go Go.Ab
set_option maxHeartbeats 400000
def TP (l : List AJ) : Nat := (l.map fun t => t.2.2.2.2.1.length + 1).sum
theorem jV {l : List AJ} {i : Nat} {o n : AJ} (h : l[i]? = some o) : TP (l.set i n) + o.2.2.2.2.1.length = TP l + n.2.2.2.2.1.length := by
 induction l generalizing i with
 | nil => simp at h
 | cons t r ih =>
  cases i with
  | zero =>
   simp at h
   subst h
   simp [TP]
   omega
  | succ i =>
   have := ih (i := i) (by simpa using h)
   simp only [TP, List.set_cons_succ, List.map_cons, List.sum_cons] at *
   omega
theorem aw {l : List AJ} {id : Int} : TP (l.filter fun t => t.1 != id) ≤ TP l := by
 induction l with
 | nil => simp
 | cons t r ih =>
  simp only [List.filter_cons]
  split
  ·simp only [TP, List.map_cons, List.sum_cons] at *; omega
  ·simp only [TP, List.map_cons, List.sum_cons] at *; omega
theorem be {l : List AJ} {id : Int} {i : Nat} {t : AJ} (h : l[i]? = some t) (ht : t.1 = id) : TP (l.filter fun t => t.1 != id) < TP l := by
 induction l generalizing i with
 | nil => simp at h
 | cons u r ih =>
  have q := aw (l := r) (id := id)
  cases i with
  | zero =>
   simp at h
   subst h
   simp only [List.filter_cons, ht, bne_self_eq_false, Bool.false_eq_true, if_false]
   simp only [TP, List.map_cons, List.sum_cons] at *
   omega
  | succ i =>
   have := ih (i := i) (by simpa using h)
   simp only [List.filter_cons]
   split <;> (simp only [TP, List.map_cons, List.sum_cons] at *; omega)
theorem QR {x : List AJ × Int} {s : Int × List AJ} (h : 0 ≤ s.1 ∧ s.1 ≤ x.1.length ∧ x.1.length ≤ 64 ∧ s.2.length = s.1) : AA (AT (I1 x) s) fun r => r.length ≤ x.1.length := by
 refine AA.loop (fun (s : Int × List AJ) => 0 ≤ s.1 ∧ s.1 ≤ x.1.length ∧ x.1.length ≤ 64 ∧ s.2.length = s.1) (fun (s : Int × List AJ) => ((x.1.length : Int) - s.1).toNat) h (fun s hI => ?_)
 unfold I1
 repeat' with_reducible first | refine AA.dec (fun hc => ?_) (fun hc => ?_) | refine AA.cond (fun hc => ?_) (fun hc => ?_) | refine AA.some ?_ | (refine AA.bind (AA.ix ?_ ?_) ?_; rotate_left 2; rintro r ⟨hr, hm⟩) | (refine AA.bind (AA.app ?_) ?_; rotate_left 1; rintro r ⟨hr, hl, hl2⟩)
 all_goals ((try dsimp only [len] at *); (try first | omega | assumption | grind [AI]))
theorem M2 {x : List AJ × Int} : AA (E2 x) fun r => r.2 = 0 → r.1.length = x.1.length + 1 ∧ r.1.length ≤ 64 := by
 unfold E2
 repeat' with_reducible first | refine AA.dec (fun hc => ?_) (fun hc => ?_) | refine AA.not (fun hc => ?_) (fun hc => ?_) | refine AA.beq (fun hc => ?_) (fun hc => ?_) | refine AA.cond (fun hc => ?_) (fun hc => ?_) | refine AA.some ?_ | (refine AA.bind (CB) ?_; intro r hr) | (refine AA.bind (ER ?_) ?_; rotate_left 1; intro r hr) | (refine AA.bind (QR ?_) ?_; rotate_left 1; intro r hr) | (refine AA.bind (AA.app ?_) ?_; rotate_left 1; rintro r ⟨hr, hl, hl2⟩) | (refine AA.bind (AA.lsl ?_ ?_ ?_) ?_; rotate_left 3; rintro r ⟨hr, hl⟩)
 all_goals ((try dsimp only [len] at *); (try first | omega | assumption | grind [AI, P0]))
def fk (l : List AJ) (id : Int) : List AJ := l.filter fun t => t.1 != id
theorem YZ (l : List AJ) (id : Int) : (fk l id).length ≤ l.length := List.length_filter_le _ _
theorem iz (l : List AJ) (id : Int) : TP (fk l id) ≤ TP l := aw
theorem i9 {l : List AJ} {id : Int} {i : Nat} {t : AJ} (h : l[i]? = some t) (ht : t.1 = id) : TP (fk l id) < TP l := be h ht
theorem fT {α : Type} {l : List α} {n : Int} {p : α → Bool} {x : α} (h0 : 0 ≤ n) (hx : l[n.toNat]? = some x) : (l.take (n + 1).toNat).filter p = (l.take n.toNat).filter p ++ (if p x = true then [x] else []) := by
 have e : (n + 1).toNat = n.toNat + 1 := by omega
 rw [e, List.take_add_one, hx, Option.toList_some, List.filter_append]
 congr 1
 simp only [List.filter_cons, List.filter_nil]
theorem gX {α : Type} {l : List α} {n : Int} {p : α → Bool} (h0 : 0 ≤ n) : (((l.take n.toNat).filter p).length : Int) ≤ n := by
 have h1 := List.length_filter_le p (l.take n.toNat)
 have h2 := List.length_take (i := n.toNat) (l := l)
 omega
theorem Pe {x : List AJ × Int} {s : Int × List AJ} (h : 0 ≤ s.1 ∧ s.1 ≤ x.1.length ∧ x.1.length ≤ 16777216 ∧ s.2 = (x.1.take s.1.toNat).filter (fun t => t.1 != x.2)) : AA (AT (Hi x) s) fun r => r = x.1.filter fun t => t.1 != x.2 := by
 refine AA.loop (fun (s : Int × List AJ) => 0 ≤ s.1 ∧ s.1 ≤ x.1.length ∧ x.1.length ≤ 16777216 ∧ s.2 = (x.1.take s.1.toNat).filter (fun t => t.1 != x.2)) (fun (s : Int × List AJ) => ((x.1.length : Int) - s.1).toNat) h (fun s hI => ?_)
 unfold Hi
 obtain ⟨h0, h1, h2, h3⟩ := hI
 have hle := gX (l := x.1) (p := fun t : AJ => t.1 != x.2) h0
 rw [← h3] at hle
 repeat' with_reducible first | refine AA.dec (fun hc => ?_) (fun hc => ?_) | refine AA.bne (fun hc => ?_) (fun hc => ?_) | refine AA.cond (fun hc => ?_) (fun hc => ?_) | (refine AA.bsome ?_; try dsimp only) | refine AA.bcond ?_ | refine AA.bbind ?_ | refine AA.some ?_ | (refine AA.bind (AA.ix ?_ ?_) ?_; rotate_left 2; rintro r ⟨hr, hm⟩) | (refine AA.bind (AA.app ?_) ?_; rotate_left 1; rintro r ⟨hr, hl, hl2⟩)
 all_goals dsimp only [len] at *
 all_goals first | omega | (have e := AI (x := s.1 + 1) (by omega); rw [e]; refine ⟨⟨by omega, by omega, h2, ?_⟩, by omega⟩; rw [fT h0 (by assumption)]; grind) | (rw [h3, List.take_of_length_le (by omega)]) | (simp; omega)
theorem FK {x : List AJ × Int} (h : x.1.length ≤ 16777216) : AA (Db x) fun r => r = fk x.1 x.2 := by
 unfold Db fk
 repeat' first
   | with_reducible refine AA.dec (fun hc => ?_) (fun hc => ?_)
   | with_reducible refine AA.not (fun hc => ?_) (fun hc => ?_)
   | with_reducible refine AA.beq (fun hc => ?_) (fun hc => ?_)
   | with_reducible refine AA.bne (fun hc => ?_) (fun hc => ?_)
   | with_reducible refine AA.cond (fun hc => ?_) (fun hc => ?_)
   |(with_reducible refine AA.bsome ?_; try dsimp only)
   | with_reducible refine AA.bcond ?_
   | with_reducible refine AA.bbind ?_
   | with_reducible refine AA.bsum ?_
   |(with_reducible refine AA.inl ?_; try dsimp only)
   |(with_reducible refine AA.inr ?_; try dsimp only)
   |(with_reducible refine AA.sum ?_ ?_ <;> (intro u hu; try subst hu))
   | with_reducible refine AA.some ?_
   | with_reducible refine AA.none ?_
   |(with_reducible refine AA.bind (Pe ?_) ?_; rotate_left 1; intro r hr)
   |(with_reducible refine AA.bind (AA.ix ?_ ?_) ?_; rotate_left 2; rintro r ⟨hr, hm⟩)
   |(with_reducible refine AA.bind (AA.app ?_) ?_; rotate_left 1; rintro r ⟨hr, hl, hl2⟩)
   |(with_reducible refine AA.bind (AA.aget ?_ ?_) ?_; rotate_left 2; intro r hr)
   |(with_reducible refine AA.bind (AA.sapp ?_) ?_; rotate_left 1; rintro r ⟨hr, hl⟩)
   |(with_reducible refine AA.bind (AA.ssl ?_ ?_ ?_) ?_; rotate_left 3; rintro r ⟨hr, hl⟩)
   |(with_reducible refine AA.bind (AA.lsl ?_ ?_ ?_) ?_; rotate_left 3; rintro r ⟨hr, hl⟩)
   |(with_reducible refine AA.bind (AA.six ?_ ?_) ?_; rotate_left 2; rintro r ⟨hr, hl⟩)
   |(with_reducible refine AA.bind (AA.mk ?_ ?_) ?_; rotate_left 2; rintro r ⟨hr, hl⟩)
 all_goals ((try dsimp only [len] at *); (try first | omega | assumption | grind [AI]))
theorem I3 {x : AJ} (h : x.2.2.2.2.1.length ≤ 16777216) : AA (ES x) fun r => r.1 = x.1 ∧ r.2.2.2.2 = x.2.2.2.2 := by
 unfold ES
 repeat' with_reducible first | refine AA.dec (fun hc => ?_) (fun hc => ?_) | refine AA.beq (fun hc => ?_) (fun hc => ?_) | refine AA.cond (fun hc => ?_) (fun hc => ?_) | (refine AA.bsome ?_; try dsimp only) | refine AA.bcond ?_ | refine AA.bbind ?_ | refine AA.some ?_ | (refine AA.bind (AA.ix ?_ ?_) ?_; rotate_left 2; rintro r ⟨hr, hm⟩)
 all_goals ((try dsimp only [len] at *); (try first | omega | assumption | grind [AI]))
theorem HB {x : List AJ × Int × AJ} (h : x.1.length ≤ 16777216) (h1 : 0 ≤ x.2.1 ∧ x.2.1 < x.1.length) : AA (Ei x) fun r => r = x.1.set x.2.1.toNat x.2.2 := by
 unfold Ei
 refine AA.bind (AA.app (by simpa using h)) fun r hr => ?_
 obtain ⟨hr, hl, _⟩ := hr
 rw [List.nil_append] at hr
 subst hr
 refine AA.bind (AA.ix h1.1 h1.2) fun _ _ => ?_
 refine AA.bind (AA.ix h1.1 h1.2) fun _ _ => ?_
 exact AA.some rfl
theorem Lc {x : List AJ × AE} {v3 : AJ} {s : Int × List Int} (h : 0 ≤ s.1 ∧ s.1 ≤ v3.2.2.2.2.1.length ∧ v3.2.2.2.2.1.length ≤ 4096 ∧ s.2.length ≤ s.1) : AA (AT (Jx x v3) s) fun r => r.length ≤ v3.2.2.2.2.1.length := by
 refine AA.loop (fun (s : Int × List Int) => 0 ≤ s.1 ∧ s.1 ≤ v3.2.2.2.2.1.length ∧ v3.2.2.2.2.1.length ≤ 4096 ∧ s.2.length ≤ s.1) (fun (s : Int × List Int) => ((v3.2.2.2.2.1.length : Int) - s.1).toNat) h (fun s hI => ?_)
 unfold Jx
 repeat' with_reducible first | refine AA.dec (fun hc => ?_) (fun hc => ?_) | refine AA.bne (fun hc => ?_) (fun hc => ?_) | refine AA.cond (fun hc => ?_) (fun hc => ?_) | (refine AA.bsome ?_; try dsimp only) | refine AA.bcond ?_ | refine AA.bbind ?_ | refine AA.some ?_ | (refine AA.bind (AA.ix ?_ ?_) ?_; rotate_left 2; rintro r ⟨hr, hm⟩) | (refine AA.bind (AA.app ?_) ?_; rotate_left 1; rintro r ⟨hr, hl, hl2⟩)
 all_goals ((try dsimp only [len] at *); (try first | omega | assumption | grind [AI]))
def WD (l : List AJ) (id : Int) : Prop := ∃ (j : Nat) (t : AJ), l[j]? = some t ∧ t.1 = id
theorem WD.set {l : List AJ} {i : Nat} {n : AJ} {id : Int} (h : i < l.length) (hn : n.1 = id) : WD (l.set i n) id := ⟨i, n, by rw [List.getElem?_set_self h], hn⟩
def eO (l : List AJ) (kind tx : Int) (m : List AJ) : Prop := m.length ≤ l.length ∧ (tx = 0 → m = l) ∧ (tx ≠ 0 → kind ≠ 1 → (kind ≠ 4 → TP m < TP l) ∧ TP m ≤ TP l) ∧ (tx ≠ 0 → kind = 4 → WD m tx)
theorem Ng {x : List AJ × AE} : AA (Cn x) fun r => r.2 = 0 → eO x.1 x.2.2.1 x.2.2.2.1 r.1 := by
 unfold Cn
 repeat' with_reducible first | refine AA.dec (fun hc => ?_) (fun hc => ?_) | refine AA.not (fun hc => ?_) (fun hc => ?_) | refine AA.beq (fun hc => ?_) (fun hc => ?_) | refine AA.bne (fun hc => ?_) (fun hc => ?_) | refine AA.cond (fun hc => ?_) (fun hc => ?_) | (refine AA.bsome ?_; try dsimp only) | refine AA.bcond ?_ | refine AA.bbind ?_ | refine AA.bsum ?_ | (refine AA.inl ?_; try dsimp only) | (refine AA.inr ?_; try dsimp only) | (refine AA.sum ?_ ?_ <;> (intro u hu; try subst hu)) | refine AA.some ?_ | (refine AA.bind (CB) ?_; intro r hr) | (refine AA.bind (Bf) ?_; intro r hr) | (refine AA.bind (ER ?_) ?_; rotate_left 1; intro r hr) | (refine AA.bind (Lc ?_) ?_; rotate_left 1; intro r hr) | (refine AA.bind (FK ?_) ?_; rotate_left 1; intro r hr) | (refine AA.bind (I3 ?_) ?_; rotate_left 1; intro r hr) | (refine AA.bind (HB ?_ ?_) ?_; rotate_left 2; intro r hr) | (refine AA.bind (AA.ix ?_ ?_) ?_; rotate_left 2; rintro r ⟨hr, hm⟩) | (refine AA.bind (AA.app ?_) ?_; rotate_left 1; rintro r ⟨hr, hl, hl2⟩)
 all_goals dsimp only [len] at *
 all_goals first | omega | (intro hz; exact absurd hz (by decide)) | (unfold P0 iC at *; (first | omega | grind [eO, jV, i9, iz, YZ, List.length_set, WD.set]))
end Go.Pm
namespace Go.Pm
open Go Go.Ab
set_option maxHeartbeats 400000
theorem L9 {x : List AJ × Int} : AA (EQ x) fun r => r.2 = 0 → P0 x.1 ∧ 0 ≤ r.1 ∧ r.1 < x.1.length := by
 unfold EQ
 repeat' with_reducible first | refine AA.dec (fun hc => ?_) (fun hc => ?_) | refine AA.not (fun hc => ?_) (fun hc => ?_) | refine AA.bne (fun hc => ?_) (fun hc => ?_) | refine AA.cond (fun hc => ?_) (fun hc => ?_) | refine AA.some ?_ | (refine AA.bind (CB) ?_; intro r hr) | (refine AA.bind (ER ?_) ?_; rotate_left 1; intro r hr) | (refine AA.bind (AA.ix ?_ ?_) ?_; rotate_left 2; rintro r ⟨hr, hm⟩)
 all_goals ((try dsimp only [len] at *); (try first | omega | assumption | grind [AI, P0]))
theorem U4 {x : List AJ × Int} : AA (IA x) fun r => r.2 = 0 → r.1.length ≤ 64 := by
 unfold IA
 repeat' with_reducible first | refine AA.beq (fun hc => ?_) (fun hc => ?_) | refine AA.bne (fun hc => ?_) (fun hc => ?_) | refine AA.cond (fun hc => ?_) (fun hc => ?_) | refine AA.some ?_ | (refine AA.bind (L9) ?_; intro r hr) | (refine AA.bind (HB ?_ ?_) ?_; rotate_left 2; intro r hr) | (refine AA.bind (AA.ix ?_ ?_) ?_; rotate_left 2; rintro r ⟨hr, hm⟩) | (refine AA.bind (AA.app ?_) ?_; rotate_left 1; rintro r ⟨hr, hl, hl2⟩)
 all_goals try dsimp only [len] at *
 all_goals first | omega | (intro hz; exact absurd hz (by assumption)) | grind [P0, iC, List.length_set]
theorem U3 {x : List AJ × Int × Int} : AA (H9 x) fun r => r.2 = 0 → r.1.length ≤ 64 := by
 unfold H9
 repeat' with_reducible first | refine AA.dec (fun hc => ?_) (fun hc => ?_) | refine AA.bne (fun hc => ?_) (fun hc => ?_) | refine AA.cond (fun hc => ?_) (fun hc => ?_) | refine AA.some ?_ | (refine AA.bind (L9) ?_; intro r hr) | (refine AA.bind (I3 ?_) ?_; rotate_left 1; intro r hr) | (refine AA.bind (HB ?_ ?_) ?_; rotate_left 2; intro r hr) | (refine AA.bind (AA.ix ?_ ?_) ?_; rotate_left 2; rintro r ⟨hr, hm⟩) | (refine AA.bind (AA.app ?_) ?_; rotate_left 1; rintro r ⟨hr, hl, hl2⟩) | (refine AA.bind (AA.lsl ?_ ?_ ?_) ?_; rotate_left 3; rintro r ⟨hr, hl⟩)
 all_goals try dsimp only [len] at *
 all_goals first | omega | (intro hz; exact absurd hz (by assumption)) | grind [P0, iC, List.length_set, AI]
theorem V3 {x : Av × Int × LL} (h : x.1.length ≤ 16777216) (h1 : 0 ≤ x.2.1 ∧ x.2.1 < x.1.length) : AA (JY x) fun r => r = x.1.set x.2.1.toNat x.2.2 := by
 unfold JY
 refine AA.bind (AA.app (by simpa using h)) fun r hr => ?_
 obtain ⟨hr, hl, _⟩ := hr
 rw [List.nil_append] at hr
 subst hr
 refine AA.bind (AA.ix h1.1 h1.2) fun _ _ => ?_
 refine AA.bind (AA.ix h1.1 h1.2) fun _ _ => ?_
 exact AA.some rfl
theorem KY {x : Av × AE} : AA (D5 x) fun r => r.2 = 0 → r.1.length = x.1.length := by
 unfold D5
 repeat' with_reducible first | refine AA.dec (fun hc => ?_) (fun hc => ?_) | refine AA.not (fun hc => ?_) (fun hc => ?_) | refine AA.bne (fun hc => ?_) (fun hc => ?_) | refine AA.cond (fun hc => ?_) (fun hc => ?_) | refine AA.some ?_ | (refine AA.bind (DE) ?_; intro r hr) | (refine AA.bind (Bf) ?_; intro r hr) | (refine AA.bind (V3 ?_ ?_) ?_; rotate_left 2; intro r hr) | (refine AA.bind (AA.ix ?_ ?_) ?_; rotate_left 2; rintro r ⟨hr, hm⟩)
 all_goals try (have hv : Py x.2 := by grind)
 all_goals try (have hk : 0 ≤ x.2.2.2.2.2.2.2.1.1 := by unfold Py RZ OW NM at hv; grind)
 all_goals try dsimp only [len] at *
 all_goals first | omega | (intro hz; exact absurd hz (by decide)) | grind [Xa, List.length_set]
theorem ET {x : AC × Int} (h : SK x.1) : AA (DJ x) fun r => True := by
 unfold DJ
 repeat' with_reducible first | refine AA.dec (fun hc => ?_) (fun hc => ?_) | refine AA.not (fun hc => ?_) (fun hc => ?_) | refine AA.cond (fun hc => ?_) (fun hc => ?_) | refine AA.some ?_ | (refine AA.bind (A0 ?_) ?_; rotate_left 1; intro r hr) | (refine AA.bind (E1) ?_; intro r hr) | (refine AA.bind (Fl ?_) ?_; rotate_left 1; intro r hr) | (refine AA.bind (AA.ix ?_ ?_) ?_; rotate_left 2; rintro r ⟨hr, hm⟩)
 all_goals ((try dsimp only [len] at *); (try first | omega | assumption | grind [AI, VK]))
def LX (a b : AZ) : Prop := b.1 = a.1 ∧ ∃ t, b.2.1 = a.2.1 ++ t
theorem LX.refl (a : AZ) : LX a a := ⟨rfl, [], by simp⟩
theorem LX.trans {a b c : AZ} (h : LX a b) (g : LX b c) : LX a c := by
 obtain ⟨h1, t, h2⟩ := h
 obtain ⟨g1, u, g2⟩ := g
 exact ⟨g1.trans h1, t ++ u, by rw [g2, h2, List.append_assoc]⟩
theorem LX.get {a b : AZ} (h : LX a b) {i : Nat} {e : AE} (he : a.2.1[i]? = some e) : b.2.1[i]? = some e := by
 obtain ⟨h1, t, h2⟩ := h
 rw [h2, List.getElem?_append_left]
 ·exact he
 ·rcases Nat.lt_or_ge i a.2.1.length with h | h
  ·exact h
  ·rw [List.getElem?_eq_none h] at he; cases he
def jN (k : AC) (kind tx : Int) (m : AC) : Prop :=
 m.1 = k.1 ∧ LX k.2.2.1 m.2.2.1 ∧ Cl m.2.2.1 ∧ m.2.2.2.1 = k.2.2.2.1 ∧ m.2.2.2.2.1 = k.2.2.2.2.1 ∧ eO k.2.2.2.2.2.1 kind tx m.2.2.2.2.2.1 ∧ m.2.2.2.2.2.2.2 = k.2.2.2.2.2.2.2 ∧ SK m
theorem C4 {x : AC × AE} (h : SK x.1) : AA (Bl x) fun r => r.2.2 = 0 → VK x.1 ∧ jN x.1 x.2.2.1 x.2.2.2.1 r.1 := by
 unfold Bl
 refine AA.bind (A0 h) fun v hv => ?_
 refine AA.not (fun hc => AA.some (fun hz => absurd hz (by decide))) (fun hc => ?_)
 have hk := hv hc
 refine AA.bind (P := fun s => (∃ u, s = .inl u ∧ u.2.1 ≠ 0) ∨ ∃ u, s = .inr u ∧ u.1.2.1 = x.2.2.1 ∧ u.1.2.2.1 = x.2.2.2.1) ?_ fun s hs => ?_
 ·repeat' with_reducible first | refine AA.dec (fun hc => ?_) (fun hc => ?_) | refine AA.not (fun hc => ?_) (fun hc => ?_) | refine AA.bne (fun hc => ?_) (fun hc => ?_) | refine AA.cond (fun hc => ?_) (fun hc => ?_) | (refine AA.bsome ?_; try dsimp only) | refine AA.bcond ?_ | refine AA.bbind ?_ | refine AA.bsum ?_ | (refine AA.inl ?_; try dsimp only) | (refine AA.inr ?_; try dsimp only) | (refine AA.sum ?_ ?_ <;> (intro u hu; try subst hu)) | refine AA.some ?_ | (refine AA.bind (CM ?_) ?_; rotate_left 1; intro r hr) | (refine AA.bind (AA.ix ?_ ?_) ?_; rotate_left 2; rintro r ⟨hr, hm⟩)
  all_goals ((try dsimp only [len] at *); (try first | omega | assumption | grind [AI, SK]))
 ·rcases hs with ⟨u, rfl, hu⟩ | ⟨u, rfl, hu⟩
  ·exact AA.inl (AA.some fun hz => absurd hz hu)
  ·refine AA.inr ?_
   refine AA.bind (BY) fun v6 h6 => ?_
   refine AA.bind (P := fun v : AE => v.2.1 = x.2.2.1 ∧ v.2.2.1 = x.2.2.2.1) ?_ fun v8 h8 => ?_
   ·repeat' with_reducible first | refine AA.dec (fun hc => ?_) (fun hc => ?_) | refine AA.not (fun hc => ?_) (fun hc => ?_) | refine AA.bne (fun hc => ?_) (fun hc => ?_) | refine AA.cond (fun hc => ?_) (fun hc => ?_) | (refine AA.bsome ?_; try dsimp only) | refine AA.bcond ?_ | refine AA.bbind ?_ | refine AA.bsum ?_ | (refine AA.inl ?_; try dsimp only) | (refine AA.inr ?_; try dsimp only) | (refine AA.sum ?_ ?_ <;> (intro u hu; try subst hu)) | refine AA.some ?_ | (refine AA.bind (ET ?_) ?_; rotate_left 1; intro r hr) | (refine AA.bind (AA.ix ?_ ?_) ?_; rotate_left 2; rintro r ⟨hr, hm⟩)
    all_goals ((try dsimp only [len] at *); (try first | omega | assumption | grind [AI]))
   ·refine AA.bind (L6) fun v9 h9 => ?_
    refine AA.bne (fun hc => AA.some (fun hz => absurd hz hc)) (fun hc => ?_)
    obtain ⟨a1, a2, a3, a4, a5⟩ := h9 hc
    dsimp only at a2 a3 a4 a5
    refine AA.bind (C3) fun v10 h10 => ?_
    refine AA.bind (Ng) fun v11 h11 => ?_
    refine AA.bne (fun hc => AA.some (fun hz => absurd hz hc)) (fun hc11 => ?_)
    refine AA.bind (KY) fun v12 h12 => ?_
    refine AA.bne (fun hc => AA.some (fun hz => absurd hz hc)) (fun hc12 => ?_)
    refine AA.some fun _ => ⟨hk, ?_⟩
    have hb := a2.1
    have hl : v9.1.2.1.length = x.1.2.2.1.2.1.length + 1 := by rw [a3]; simp
    have he := h10.2 a1 (by dsimp only; omega) (by dsimp only; omega)
    obtain ⟨b1, b2, b3, b4⟩ := h10.1 he
    dsimp only at b2 b3 b4
    have hg : v10.1 = (v9.2.1, v8.2) := by
     have : (v9.2.1 - v9.1.1).toNat = x.1.2.2.1.2.1.length := by omega
     rw [this, a3] at b3
     simpa using b3.symm
    have hn := h11 hc11
    rw [hg] at hn
    dsimp only at hn
    rw [h8.1, h8.2] at hn
    exact ⟨rfl, ⟨a4, _, a3⟩, a1, rfl, rfl, hn, rfl, h.1, by have := hn.1; have := h.2.1; dsimp only at *; omega, h.2.2⟩
end Go.Pm
namespace Go.Pm
open Go Go.Ab
set_option maxHeartbeats 400000
def DI (d : A2) : Prop := d.1.length ≤ 64 ∧ (∀ (i : Nat) (s : BF), d.1[i]? = some s → s.length = 256) ∧ d.2.2.1 = [] ∧ d.2.2.2.2 = []
theorem PW {x : Int} {s : Int × List BF} (h : 0 ≤ s.1 ∧ s.1 ≤ x ∧ x ≤ 64 ∧ s.2.length = s.1 ∧ ∀ (i : Nat) (t : BF), s.2[i]? = some t → t.length = 256) : AA (AT (HX x) s) fun r => (r.length : Int) = x ∧ ∀ (i : Nat) (t : BF), r[i]? = some t → t.length = 256 := by
 refine AA.loop (fun (s : Int × List BF) => 0 ≤ s.1 ∧ s.1 ≤ x ∧ x ≤ 64 ∧ s.2.length = s.1 ∧ ∀ (i : Nat) (t : BF), s.2[i]? = some t → t.length = 256) (fun (s : Int × List BF) => (x - s.1).toNat) h (fun s hI => ?_)
 unfold HX
 obtain ⟨h0, h1, h2, h3, h4⟩ := hI
 have hb : (Du (List.replicate (Int.toNat 256) 0)).length = 256 := by rw [LN, List.length_replicate]; rfl
 repeat' with_reducible first | refine AA.dec (fun hc => ?_) (fun hc => ?_) | refine AA.cond (fun hc => ?_) (fun hc => ?_) | refine AA.some ?_ | (refine AA.bind (AA.app ?_) ?_; rotate_left 1; rintro r ⟨hr, hl, hl2⟩)
 all_goals try dsimp only [len] at *
 all_goals first | omega | (generalize Du (List.replicate (Int.toNat 256) 0) = bs at *; simp; omega) | (generalize Du (List.replicate (Int.toNat 256) 0) = bs at *; have e := AI (x := s.1 + 1) (by omega); rw [e]; refine ⟨⟨by omega, by omega, h2, by grind, ?_⟩, by omega⟩; grind) | (exact ⟨by omega, h4⟩)
theorem L3 {x : Int} (h : 0 ≤ x ∧ x ≤ 64) : AA (GD x) fun r => (r.length : Int) = x ∧ ∀ (i : Nat) (t : BF), r[i]? = some t → t.length = 256 := by
 unfold GD
 repeat' with_reducible first | refine AA.some ?_ | (refine AA.bind (PW ?_) ?_; rotate_left 1; intro r hr)
 all_goals ((try dsimp only [len] at *); (try first | omega | assumption | grind [AI]))
theorem Vy {x : Int} : AA (Ee x) fun r => r.2 = 0 → DI r.1 ∧ r.1.1.length = x := by
 unfold Ee
 repeat' with_reducible first | refine AA.dec (fun hc => ?_) (fun hc => ?_) | refine AA.cond (fun hc => ?_) (fun hc => ?_) | refine AA.some ?_ | (refine AA.bind (L3 ?_) ?_; rotate_left 1; intro r hr)
 all_goals ((try dsimp only [len] at *); (try first | omega | assumption | grind [AI, DI]))
theorem Tg {x : A2 × A5} : AA (G2 x) fun r => True := by
 unfold G2
 repeat' with_reducible first | refine AA.dec (fun hc => ?_) (fun hc => ?_) | refine AA.beq (fun hc => ?_) (fun hc => ?_) | refine AA.cond (fun hc => ?_) (fun hc => ?_) | (refine AA.bsome ?_; try dsimp only) | refine AA.bcond ?_ | refine AA.bbind ?_ | refine AA.bsum ?_ | (refine AA.inl ?_; try dsimp only) | (refine AA.inr ?_; try dsimp only) | (refine AA.sum ?_ ?_ <;> (intro u hu; try subst hu)) | refine AA.some ?_
 all_goals trivial
theorem QB {x : A2} {s : Int} (h : 0 ≤ s ∧ s ≤ x.1.length ∧ (x.1.length : Int) ≤ 16777216) : AA (AT (Ig x) s) fun r => r ≠ .inl true := by
 refine AA.loop (fun (s : Int) => 0 ≤ s ∧ s ≤ x.1.length ∧ (x.1.length : Int) ≤ 16777216) (fun (s : Int) => ((x.1.length : Int) - s).toNat) h (fun s hI => ?_)
 unfold Ig
 repeat' with_reducible first | refine AA.dec (fun hc => ?_) (fun hc => ?_) | refine AA.bne (fun hc => ?_) (fun hc => ?_) | refine AA.cond (fun hc => ?_) (fun hc => ?_) | refine AA.some ?_ | (refine AA.bind (AA.ix ?_ ?_) ?_; rotate_left 2; rintro r ⟨hr, hm⟩)
 all_goals ((try dsimp only [len] at *); (try first | omega | assumption | grind [AI]))
theorem QC {x : A2} {s : Int} (h : 0 ≤ s ∧ s ≤ x.2.2.1.length ∧ (x.2.2.1.length : Int) ≤ 16777216) : AA (AT (Ih x) s) fun r => r ≠ .inl true := by
 refine AA.loop (fun (s : Int) => 0 ≤ s ∧ s ≤ x.2.2.1.length ∧ (x.2.2.1.length : Int) ≤ 16777216) (fun (s : Int) => ((x.2.2.1.length : Int) - s).toNat) h (fun s hI => ?_)
 unfold Ih
 repeat' with_reducible first | refine AA.dec (fun hc => ?_) (fun hc => ?_) | refine AA.cond (fun hc => ?_) (fun hc => ?_) | refine AA.some ?_ | (refine AA.bind (AA.ix ?_ ?_) ?_; rotate_left 2; rintro r ⟨hr, hm⟩)
 all_goals ((try dsimp only [len] at *); (try first | omega | assumption | grind [AI] | ((try simp (disch := omega) only [AI, ne_eq, Sum.inl.injEq, Sum.inr.injEq, reduceCtorEq, not_false_eq_true, Bool.not_eq_true, len, true_and, and_true, or_false, false_or, false_implies, implies_true] at *) <;> (try intros) <;> (try and_intros) <;> (try intros) <;> (first | omega | assumption | grind))))
theorem QD {x : A2} {s : Int} (h : 0 ≤ s ∧ s ≤ x.2.2.2.2.length ∧ (x.2.2.2.2.length : Int) ≤ 16777216) : AA (AT (Ii x) s) fun r => r ≠ .inl true := by
 refine AA.loop (fun (s : Int) => 0 ≤ s ∧ s ≤ x.2.2.2.2.length ∧ (x.2.2.2.2.length : Int) ≤ 16777216) (fun (s : Int) => ((x.2.2.2.2.length : Int) - s).toNat) h (fun s hI => ?_)
 unfold Ii
 repeat' with_reducible first | refine AA.dec (fun hc => ?_) (fun hc => ?_) | refine AA.not (fun hc => ?_) (fun hc => ?_) | refine AA.cond (fun hc => ?_) (fun hc => ?_) | refine AA.some ?_ | (refine AA.bind (Tg) ?_; intro r hr) | (refine AA.bind (AA.ix ?_ ?_) ?_; rotate_left 2; rintro r ⟨hr, hm⟩)
 all_goals ((try dsimp only [len] at *); (try first | omega | assumption | grind [AI]))
theorem Te {x : A2} (h : x.2.2.1.length ≤ 16777216) : AA (G0 x) fun r => r = true → 1 ≤ x.1.length ∧ x.1.length ≤ 64 := by
 unfold G0
 repeat' with_reducible first | refine AA.dec (fun hc => ?_) (fun hc => ?_) | refine AA.cond (fun hc => ?_) (fun hc => ?_) | (refine AA.inl ?_; try dsimp only) | (refine AA.inr ?_; try dsimp only) | (refine AA.sum ?_ ?_ <;> (intro u hu; try subst hu)) | refine AA.some ?_ | (refine AA.bind (QB ?_) ?_; rotate_left 1; intro r hr) | (refine AA.bind (QC ?_) ?_; rotate_left 1; intro r hr) | (refine AA.bind (QD ?_) ?_; rotate_left 1; intro r hr)
 all_goals ((try dsimp only [len] at *); (try first | omega | assumption | grind [AI]))
theorem Im {x : A2 × Int} (h : x.1.2.2.1.length ≤ 16777216) : AA (DX x) fun r => r = 0 → 0 ≤ x.2 ∧ x.2 < x.1.1.length ∧ x.1.1.length ≤ 64 := by
 unfold DX
 repeat' with_reducible first | refine AA.dec (fun hc => ?_) (fun hc => ?_) | refine AA.not (fun hc => ?_) (fun hc => ?_) | refine AA.cond (fun hc => ?_) (fun hc => ?_) | refine AA.some ?_ | (refine AA.bind (Te ?_) ?_; rotate_left 1; intro r hr)
 all_goals ((try dsimp only [len] at *); (try first | omega | assumption | grind [AI]))
theorem O3 {x : List Int × Int} {s : Int × List Int} (h : 0 ≤ s.1 ∧ s.1 ≤ x.1.length ∧ x.1.length ≤ 16777216 ∧ s.2.length ≤ s.1) : AA (AT (Gf x) s) fun r => r.length ≤ x.1.length := by
 refine AA.loop (fun (s : Int × List Int) => 0 ≤ s.1 ∧ s.1 ≤ x.1.length ∧ x.1.length ≤ 16777216 ∧ s.2.length ≤ s.1) (fun (s : Int × List Int) => ((x.1.length : Int) - s.1).toNat) h (fun s hI => ?_)
 unfold Gf
 repeat' with_reducible first | refine AA.dec (fun hc => ?_) (fun hc => ?_) | refine AA.bne (fun hc => ?_) (fun hc => ?_) | refine AA.cond (fun hc => ?_) (fun hc => ?_) | (refine AA.bsome ?_; try dsimp only) | refine AA.bcond ?_ | refine AA.bbind ?_ | refine AA.some ?_ | (refine AA.bind (AA.ix ?_ ?_) ?_; rotate_left 2; rintro r ⟨hr, hm⟩) | (refine AA.bind (AA.app ?_) ?_; rotate_left 1; rintro r ⟨hr, hl, hl2⟩)
 all_goals ((try dsimp only [len] at *); (try first | omega | assumption | grind [AI]))
theorem La {x : List Int × Int} (h : x.1.length ≤ 16777216) : AA (Cg x) fun r => r.length ≤ x.1.length := by
 unfold Cg
 repeat' with_reducible first | refine AA.some ?_ | (refine AA.bind (O3 ?_) ?_; rotate_left 1; intro r hr)
 all_goals ((try dsimp only [len] at *); (try first | omega | assumption | grind [AI]))
theorem ST {x : List Int × Int} {s : Int} (h : 0 ≤ s ∧ s ≤ x.1.length ∧ (x.1.length : Int) ≤ 16777216) : AA (AT (KT x) s) fun r => True := by
 refine AA.loop (fun (s : Int) => 0 ≤ s ∧ s ≤ x.1.length ∧ (x.1.length : Int) ≤ 16777216) (fun (s : Int) => ((x.1.length : Int) - s).toNat) h (fun s hI => ?_)
 unfold KT
 repeat' with_reducible first | refine AA.dec (fun hc => ?_) (fun hc => ?_) | refine AA.beq (fun hc => ?_) (fun hc => ?_) | refine AA.cond (fun hc => ?_) (fun hc => ?_) | refine AA.some ?_ | (refine AA.bind (AA.ix ?_ ?_) ?_; rotate_left 2; rintro r ⟨hr, hm⟩)
 all_goals ((try dsimp only [len] at *); (try first | omega | assumption | grind [AI]))
theorem Vz {x : List Int × Int} (h : x.1.length ≤ 16777216) : AA (JV x) fun r => True := by
 unfold JV
 repeat' with_reducible first | (refine AA.inl ?_; try dsimp only) | (refine AA.inr ?_; try dsimp only) | (refine AA.sum ?_ ?_ <;> (intro u hu; try subst hu)) | refine AA.some ?_ | (refine AA.bind (ST ?_) ?_; rotate_left 1; intro r hr)
 all_goals ((try dsimp only [len] at *); (try first | omega | assumption | grind [AI]))
theorem Uv {x : A2 × Int} (h : DI x.1) : AA (Hy x) fun r => r.2 = 0 → r.1.length = 256 := by
 unfold Hy
 repeat' with_reducible first | refine AA.bne (fun hc => ?_) (fun hc => ?_) | refine AA.cond (fun hc => ?_) (fun hc => ?_) | refine AA.some ?_ | (refine AA.bind (Im ?_) ?_; rotate_left 1; intro r hr) | (refine AA.bind (Vz ?_) ?_; rotate_left 1; intro r hr) | (refine AA.bind (AA.ix ?_ ?_) ?_; rotate_left 2; rintro r ⟨hr, hm⟩)
 all_goals ((try dsimp only [len] at *); (try first | omega | assumption | grind [AI, DI]))
theorem DI.set {d : A2} {l : List BF} {i : Int} {t : BF} {u : List Int} {w : Int} {b : Bool} (h : DI d) (hl : l = d.1) (ht : t.length = 256) (hu : u.length ≤ ([] : List Int).length) : DI (Ej l i t, w, u, b, []) := by
 subst hl
 obtain ⟨h1, h2, h3, h4⟩ := h
 refine ⟨by simpa [Ej] using h1, fun j s hj => ?_, List.length_eq_zero_iff.1 (by simpa using hu), rfl⟩
 unfold Ej at hj
 rw [List.getElem?_set] at hj
 split at hj
 ·split at hj
  ·injection hj with hj; rw [← hj]; exact ht
  ·cases hj
 ·exact h2 j s hj
theorem DI.set2 {d : A2} {l : List BF} {i : Int} {t : BF} {u v : List Int} {f : List A5} {w : Int} {b : Bool} (h : DI d) (hl : l = [] ++ d.1) (ht : t.length = 256) (hu : u.length ≤ v.length) (hv : v = [] ++ []) (hf : f = [] ++ []) : DI (Ej l i t, w, u, b, f) := by
 subst hf hv
 exact h.set (by simpa using hl) ht (by simpa using hu)
theorem Uw {x : A2 × Int × BF × Int} (h : DI x.1) : AA (Hz x) fun r => r.2 = 0 → DI r.1 := by
 obtain ⟨h1, h2, h3, h4⟩ := h
 unfold Hz
 rw [h3, h4]
 repeat' with_reducible first | refine AA.dec (fun hc => ?_) (fun hc => ?_) | refine AA.bne (fun hc => ?_) (fun hc => ?_) | refine AA.cond (fun hc => ?_) (fun hc => ?_) | refine AA.some ?_ | (refine AA.bind (Im ?_) ?_; rotate_left 1; intro r hr) | (refine AA.bind (La ?_) ?_; rotate_left 1; intro r hr) | (refine AA.bind (AA.ix ?_ ?_) ?_; rotate_left 2; rintro r ⟨hr, hm⟩) | (refine AA.bind (AA.app ?_) ?_; rotate_left 1; rintro r ⟨hr, hl, hl2⟩) | (refine AA.bind (AA.sapp ?_) ?_; rotate_left 1; rintro r ⟨hr, hl⟩) | (refine AA.bind (AA.ssl ?_ ?_ ?_) ?_; rotate_left 3; rintro r ⟨hr, hl⟩)
 all_goals try dsimp only [len] at *
 all_goals first | omega | (intro hz; exact absurd hz (by assumption)) | (intro hz; exact absurd hz (by decide)) | (simp; done) | (simp; omega) | (exact fun _ => DI.set2 ⟨h1, h2, h3, h4⟩ (by assumption) (by grind) hr (by assumption) (by assumption)) | grind
theorem Tf {x : A2 × Int × BF} (h : DI x.1) : AA (G1 x) fun r => r.2 = 0 → DI r.1 ∧ r.1.1.length = x.1.1.length := by
 have hD := h
 obtain ⟨h1, h2, h3, h4⟩ := h
 unfold G1
 refine AA.bind (Im (by dsimp only; rw [h3]; simp)) fun v0 hv0 => ?_
 refine AA.bne (fun hc => AA.some (fun hz => absurd hz hc)) (fun hc => ?_)
 obtain ⟨u1, u2, u3⟩ := hv0 hc
 dsimp only at u1 u2 u3
 refine AA.bne (fun hc => AA.some (fun hz => absurd hz (by decide))) (fun h256 => ?_)
 refine AA.beq (fun hc => AA.some (fun hz => absurd hz (by decide))) (fun hm => ?_)
 dsimp only [len] at h256
 refine AA.bind (AA.app (by simp; omega)) fun v1 hv1 => ?_
 refine AA.bind (AA.app (by rw [h3]; simp)) fun v2 hv2 => ?_
 refine AA.bind (AA.app (by rw [h4]; simp)) fun v3 hv3 => ?_
 have e1 : v1 = x.1.1 := by simpa using hv1.1
 have e2 : v2 = [] := by have := hv2.1; rw [h3] at this; simpa using this
 have e3 : v3 = [] := by have := hv3.1; rw [h4] at this; simpa using this
 subst e1 e2 e3
 have l1 : ∀ s, s.1 = 0 → AT (Ij x) s = some s.2 := fun s hs => by
  rw [T8]
  unfold Ij
  rw [h4, hs]
  rfl
 rw [l1 _ rfl]
 refine AA.bsome ?_
 have l2 : ∀ v11 s, v11.1 = [] → s.2.1 = 0 → AT (Ik x v11) s = some (s.1, (s.2.2.2.2.2.2.1, (s.2.2.2.2.2.1, s.2.2.2.2.2.2.2))) := fun v11 s hv hs => by
  rw [T8]
  unfold Ik
  rw [hv, hs]
  rfl
 have l3 : ∀ v11 s, v11.1 = [] → s.1 = 0 → AT (Il v11) s = some (s.2.2.2.2.2.1, (s.2.2.2.2.1, s.2.2.2.2.2.2)) := fun v11 s hv hs => by
  rw [T8]
  unfold Il
  rw [hv, hs]
  rfl
 rw [l2 _ _ rfl rfl]
 refine AA.bsome ?_
 dsimp only
 repeat' with_reducible first | refine AA.dec (fun hc => ?_) (fun hc => ?_) | refine AA.not (fun hc => ?_) (fun hc => ?_) | refine AA.beq (fun hc => ?_) (fun hc => ?_) | refine AA.bne (fun hc => ?_) (fun hc => ?_) | refine AA.cond (fun hc => ?_) (fun hc => ?_) | (refine AA.bsome ?_; try dsimp only) | refine AA.bcond ?_ | refine AA.bbind ?_ | refine AA.some ?_ | (rw [l3 _ _ rfl rfl]; refine AA.bsome ?_; dsimp only) | (refine AA.bind (La ?_) ?_; rotate_left 1; intro r hr) | (refine AA.bind (AA.ix ?_ ?_) ?_; rotate_left 2; rintro r ⟨hr, hm⟩) | (refine AA.bind (AA.app ?_) ?_; rotate_left 1; rintro r ⟨hr, hl, hl2⟩) | (refine AA.bind (AA.sapp ?_) ?_; rotate_left 1; rintro r ⟨hr, hl⟩) | (refine AA.bind (AA.ssl ?_ ?_ ?_) ?_; rotate_left 3; rintro r ⟨hr, hl⟩)
 all_goals try dsimp only [len] at *
 all_goals first | omega | (simp; done) | (intro hz; exact absurd hz (by decide)) | (exact fun _ => ⟨hD.set rfl (by grind) hr, by simp [Ej]⟩) | (cases hc; done) | grind
def DC (p : Ao) : Nat := p.2.1.countP fun f => f.2.1
def UC (p : Ao) : Nat := p.2.1.countP fun f => f.2.2.2
theorem Zw {α : Type} {l : List α} {i : Nat} {o n : α} {q : α → Bool} (h : l[i]? = some o) : (l.set i n).countP q + (if q o = true then 1 else 0) = l.countP q + (if q n = true then 1 else 0) := by
 induction l generalizing i with
 | nil => simp at h
 | cons t r ih =>
  cases i with
  | zero =>
   simp at h
   subst h
   simp only [List.set_cons_zero, List.countP_cons]
   omega
  | succ i =>
   have := ih (i := i) (by simpa using h)
   simp only [List.set_cons_succ, List.countP_cons]
   omega
theorem G9 {x : Ao × Int × Ac} (h : x.1.2.1.length ≤ 16777216) (h1 : 0 ≤ x.2.1 ∧ x.2.1 < x.1.2.1.length) : AA (Di x) fun r => r = (x.1.1, x.1.2.1.set x.2.1.toNat x.2.2, x.1.2.2) := by
 unfold Di
 refine AA.bind (AA.app (by simpa using h)) fun r hr => ?_
 obtain ⟨hr, hl, _⟩ := hr
 rw [List.nil_append] at hr
 subst hr
 refine AA.bind (AA.ix h1.1 h1.2) fun _ _ => ?_
 refine AA.bind (AA.ix h1.1 h1.2) fun _ _ => ?_
 exact AA.some rfl
def cW (f : Ac) : Af × Bool × Int := (f.1, f.2.1, f.2.2.1)
def CF (l : List Ac) : List (Af × Bool × Int) := l.map cW
theorem jQ {l : List Ac} {i : Nat} {f g : Ac} (h : l[i]? = some f) (hc : cW g = cW f) : CF (l.set i g) = CF l := by
 unfold CF
 rw [List.map_set, hc]
 apply List.ext_getElem?
 intro j
 rw [List.getElem?_set]
 split
 ·rename_i hj
  subst hj
  split
  ·rw [List.getElem?_map, h]; rfl
  ·rename_i hl
   rw [List.getElem?_eq_none (by omega)]
 ·rfl
theorem dX {l m : List Ac} (h : CF m = CF l) {i : Nat} {f : Ac} (hf : m[i]? = some f) : ∃ g, l[i]? = some g ∧ cW g = cW f := by
 have : (CF m)[i]? = some (cW f) := by unfold CF; rw [List.getElem?_map, hf]; rfl
 rw [h] at this
 unfold CF at this
 rw [List.getElem?_map] at this
 cases hg : l[i]? with
 | none => rw [hg] at this; cases this
 | some g => rw [hg] at this; injection this with this; exact ⟨g, rfl, this⟩
theorem jP {l m : List Ac} (h : CF m = CF l) : m.length = l.length := by
 have := congrArg List.length h
 simpa [CF] using this
theorem eM {p : Ao} : DC p = (CF p.2.1).countP fun c => c.2.1 := by
 unfold DC CF
 rw [List.countP_map]
 rfl
theorem EI.congr {l m : List Ac} {n : Int} (h : CF m = CF l) (hv : EI l n) : EI m n := by
 refine ⟨fun i f hi hf => ?_, fun i j f g hij hj hf hg => ?_⟩
 ·obtain ⟨g, h1, h2⟩ := dX h hf
  have := hv.1 i g hi h1
  unfold cW at h2
  injection h2 with e1 e2
  injection e2 with e2 e3
  unfold Yc at *
  rw [← e1, ← e2, ← e3]
  exact this
 ·obtain ⟨f', h1, h2⟩ := dX h hf
  obtain ⟨g', h3, h4⟩ := dX h hg
  have := hv.2 i j f' g' hij hj h1 h3
  unfold cW at h2 h4
  injection h2 with e1 _
  injection h4 with e2 _
  rw [← e1, ← e2]
  exact this
theorem Ml.uniq {p : Ao} (h : Ml p) {i j : Nat} {f g : Ac} (hf : p.2.1[i]? = some f) (hg : p.2.1[j]? = some g) (e : f.1.1 = g.1.1) : f = g := by
 have li : i < p.2.1.length := by
  rcases Nat.lt_or_ge i p.2.1.length with h | h
  ·exact h
  ·rw [List.getElem?_eq_none h] at hf; cases hf
 have lj : j < p.2.1.length := by
  rcases Nat.lt_or_ge j p.2.1.length with h | h
  ·exact h
  ·rw [List.getElem?_eq_none h] at hg; cases hg
 have hv := h.2.2.2.2.2.2
 rcases Nat.lt_trichotomy i j with h1 | h1 | h1
 ·exact absurd e (hv i j f g h1 (by omega) hf hg)
 ·subst h1; rw [hf] at hg; injection hg
 ·exact absurd e.symm (hv j i g f h1 (by omega) hg hf)
theorem PZ {c : List (Af × Bool × Int)} {z : Int} {s : Ao} (h : c = CF s.2.1 ∧ z = s.1 ∧ 0 ≤ s.2.2 ∧ s.2.2 < s.2.1.length ∧ s.2.1.length ≤ 64) : AA (AT Hd s) fun r => c = CF r.2.1 ∧ z = r.1 ∧ 0 ≤ r.2.2 ∧ r.2.2 < r.2.1.length ∧ r.2.1.length ≤ 64 := by
 refine AA.loop (fun s => c = CF s.2.1 ∧ z = s.1 ∧ 0 ≤ s.2.2 ∧ s.2.2 < s.2.1.length ∧ s.2.1.length ≤ 64) UC h (fun s hI => ?_)
 obtain ⟨h0, h1, h2, h3, h4⟩ := hI
 unfold Hd
 refine AA.bind (AA.ix h2 h3) fun f hf => ?_
 refine AA.cond (fun hc => ?_) (fun hc => AA.some ⟨h0, h1, h2, h3, h4⟩)
 refine AA.bind (AA.ix h2 h3) fun f2 hf2 => ?_
 have e : f2 = f := by rw [hf.1] at hf2; exact (Option.some.inj hf2.1).symm
 subst e
 refine AA.bind (G9 (by dsimp only; omega) ⟨h2, h3⟩) fun p hp => ?_
 subst hp
 dsimp only
 have hl : (s.2.1.set s.2.2.toNat (f2.1, f2.2.1, f2.2.2.1, false)).length = s.2.1.length := List.length_set
 refine AA.beq (fun hz => ?_) (fun hz => AA.some ?_)
 ·simp only [len, hl] at hz; omega
 ·have e := AI (x := s.2.2 + 1) (by omega)
  have n1 := Int.tmod_nonneg (len (s.2.1.set s.2.2.toNat (f2.1, f2.2.1, f2.2.2.1, false))) (a := s.2.2 + 1) (by omega)
  have n2 := Int.tmod_lt_of_pos (s.2.2 + 1) (b := len (s.2.1.set s.2.2.toNat (f2.1, f2.2.1, f2.2.2.1, false))) (by simp only [len, hl]; omega)
  have u := Zw (q := fun f : Ac => f.2.2.2) (n := (f2.1, f2.2.1, f2.2.2.1, false)) hf.1
  rw [hc] at u
  simp only [if_true, Bool.false_eq_true, if_false, Nat.add_zero] at u
  dsimp only
  rw [e]
  refine ⟨⟨?_, h1, n1, n2, by rw [hl]; exact h4⟩, ?_⟩
  ·rw [h0]; exact (jQ (g := (f2.1, f2.2.1, f2.2.2.1, false)) hf.1 rfl).symm
  ·unfold UC
   dsimp only
   omega
theorem Sa {x : Ao} : AA (GI x) fun r => (r.2.2 = 0 → Ml x ∧ Ml r.1 ∧ CF r.1.2.1 = CF x.2.1 ∧ Xx r.1 r.2.1) ∧ (Ml x → x.2.1.length ≠ 0 → r.2.2 = 0) := by
 unfold GI
 refine AA.bind CA fun v hv => ?_
 refine AA.not (fun hc => AA.some ⟨fun hz => absurd hz (by decide), fun h _ => ?_⟩) (fun hc => ?_)
 ·rw [hv.2 h] at hc; cases hc
 have hp := hv.1 hc
 have hq := hp
 obtain ⟨p1, p2, p3, p4, p5, p6⟩ := hp
 refine AA.beq (fun hz => AA.some ⟨fun hz => absurd hz (by decide), fun _ h => absurd hz (by simpa [len] using h)⟩) (fun hz => ?_)
 simp only [len] at hz
 refine AA.bind (PZ ⟨rfl, rfl, p4, by omega, by omega⟩) fun p hp => ?_
 obtain ⟨q1, q2, q3, q4, q5⟩ := hp
 refine AA.bind (AA.ix q3 q4) fun f hf => ?_
 have hl := jP q1
 refine AA.some ⟨fun _ => ⟨hq, ⟨by dsimp only; omega, by dsimp only; omega, by dsimp only; omega, q3, .inr q4, ?_⟩, q1.symm, ⟨_, f, hf.1, rfl⟩⟩, fun _ _ => rfl⟩
 rw [← hl]
 exact EI.congr q1.symm p6
theorem U2 {x : Ao × Int} : AA (H8 x) fun r => True := by
 unfold H8
 repeat' with_reducible first | refine AA.dec (fun hc => ?_) (fun hc => ?_) | refine AA.not (fun hc => ?_) (fun hc => ?_) | refine AA.cond (fun hc => ?_) (fun hc => ?_) | (refine AA.bsome ?_; try dsimp only) | refine AA.bcond ?_ | refine AA.bbind ?_ | refine AA.some ?_ | (refine AA.bind (CA) ?_; intro r hr) | (refine AA.bind (Da ?_) ?_; rotate_left 1; intro r hr) | (refine AA.bind (AA.ix ?_ ?_) ?_; rotate_left 2; rintro r ⟨hr, hm⟩) | (refine AA.bind (AA.app ?_) ?_; rotate_left 1; rintro r ⟨hr, hl, hl2⟩) | (refine AA.bind (AA.lsl ?_ ?_ ?_) ?_; rotate_left 3; rintro r ⟨hr, hl⟩)
 all_goals try (have hv : Ml x.1 := (by grind); have hv1 := hv.1; have hv2 := hv.2.1; have hv3 := hv.2.2.1)
 all_goals try dsimp only [len] at *
 all_goals first | trivial | omega | grind [AI]
theorem Tm {x : Ao × Int × Int} : AA (G7 x) fun r => r.2 = 0 → Ml x.1 ∧ DC r.1 ≤ DC x.1 ∧ ∀ (i : Nat) (f : Ac), x.1.2.1[i]? = some f → f.1.1 = x.2.1 → f.2.1 = true → f.1.2.1 = x.2.2 → DC r.1 < DC x.1 := by
 unfold G7
 refine AA.bind CA fun v hv => ?_
 refine AA.not (fun hc => AA.some (fun hz => absurd hz (by decide))) (fun hc => ?_)
 have hp := hv.1 hc
 have p3 := hp.2.2.1
 have p2 := hp.2.1
 refine AA.bind (Da (by dsimp only; omega)) fun i hi => ?_
 obtain ⟨i1, i2, i3, i4⟩ := hi
 dsimp only at i1 i2 i3 i4
 refine AA.dec (fun hc => AA.some (fun hz => absurd hz (by decide))) (fun hc => ?_)
 obtain ⟨f, hf, hid⟩ := i3 (by omega)
 refine AA.bind (AA.ix (by omega) i2) fun g hg => ?_
 have e : g = f := by have := hg.1; rw [hf] at this; exact (Option.some.inj this).symm
 subst e
 refine AA.dec (fun hc => AA.some (fun hz => absurd hz (by decide))) (fun hlsn => ?_)
 refine AA.not (fun hd => AA.some (fun _ => ⟨hp, Nat.le_refl _, fun j k hk hkid hkd _ => ?_⟩)) (fun hd => ?_)
 ·have := hp.uniq hk hf (by rw [hkid, hid])
  subst this
  rw [hd] at hkd; cases hkd
 refine AA.bind (P := fun n : Ac => (g.1.2.1 = x.2.2 → n.2.1 = false) ∧ True) ?_ fun n hn => ?_
 ·repeat' with_reducible first | refine AA.dec (fun hc => ?_) (fun hc => ?_) | refine AA.not (fun hc => ?_) (fun hc => ?_) | refine AA.beq (fun hc => ?_) (fun hc => ?_) | refine AA.cond (fun hc => ?_) (fun hc => ?_) | (refine AA.bsome ?_; try dsimp only) | refine AA.bcond ?_ | refine AA.bbind ?_ | refine AA.some ?_ | (refine AA.bind (AA.ix ?_ ?_) ?_; rotate_left 2; rintro r ⟨hr, hm⟩)
  all_goals grind
 ·refine AA.bind (G9 (by dsimp only; omega) ⟨by dsimp only; omega, by dsimp only; omega⟩) fun p hp2 => ?_
  subst hp2
  refine AA.some fun _ => ?_
  have u := Zw (q := fun f : Ac => f.2.1) (n := n) hf
  rw [hd] at u
  refine ⟨hp, ?_, fun j k hk hkid hkd hkl => ?_⟩
  ·unfold DC
   dsimp only
   simp only [if_true] at u
   split at u <;> omega
  ·have := hp.uniq hk hf (by rw [hkid, hid])
   subst this
   rw [hn.1 hkl] at u
   unfold DC
   dsimp only
   simp only [if_true, Bool.false_eq_true, if_false] at u
   omega
end Go.Pm
namespace Go.Pm
open Go Go.Ab
set_option maxHeartbeats 400000
theorem PV {x : Af} {s : BF × Int} (h : 0 ≤ s.2 ∧ s.2 ≤ 16 ∧ ZA x ∧ (s.1.length : Int) = 12 + 13 * s.2) : AA (AT (HW x) s) fun r => r.length = 220 := by
 refine AA.loop (fun (s : BF × Int) => 0 ≤ s.2 ∧ s.2 ≤ 16 ∧ ZA x ∧ (s.1.length : Int) = 12 + 13 * s.2) (fun (s : BF × Int) => (16 - s.2).toNat) h (fun s hI => ?_)
 unfold HW
 obtain ⟨h0, h1, h2, h3⟩ := hI
 have hcell : ∀ i, (x.2.2 i).2.length ≤ 12 := fun i => ((h2.2.2.2.2 i).1).1
 repeat' with_reducible first | refine AA.dec (fun hc => ?_) (fun hc => ?_) | refine AA.cond (fun hc => ?_) (fun hc => ?_) | (refine AA.bsome ?_; try dsimp only) | refine AA.bcond ?_ | refine AA.bbind ?_ | refine AA.some ?_ | (refine AA.bind (BA ?_) ?_; rotate_left 1; intro r hr) | (refine AA.bind (Jm ?_) ?_; rotate_left 1; intro r hr) | (refine AA.bind (AA.aget ?_ ?_) ?_; rotate_left 2; intro r hr) | (refine AA.bind (AA.sapp ?_) ?_; rotate_left 1; rintro r ⟨hr, hl⟩)
 all_goals try dsimp only [len] at *
 all_goals try (have e := AI (x := s.2 + 1) (by omega))
 all_goals first | omega | (subst_vars; (try (have q1 := hcell ⟨s.2.toNat, by omega⟩)); (try (have e2 := AI (x := 12 - ((x.2.2 ⟨s.2.toNat, by omega⟩).2.length : Int)) (by omega))); first | omega | grind) | grind
theorem Ie {x : Af} : AA (DW x) fun r => r.2 = 0 → r.1.length = 256 := by
 unfold DW
 repeat' with_reducible first | refine AA.bne (fun hc => ?_) (fun hc => ?_) | refine AA.cond (fun hc => ?_) (fun hc => ?_) | refine AA.some ?_ | (refine AA.bind (D1) ?_; intro r hr) | (refine AA.bind (BA ?_) ?_; rotate_left 1; intro r hr) | (refine AA.bind (PV ?_) ?_; rotate_left 1; intro r hr) | (refine AA.bind (Jm ?_) ?_; rotate_left 1; intro r hr) | (refine AA.bind (Dq ?_) ?_; rotate_left 1; intro r hr) | (refine AA.bind (AA.sapp ?_) ?_; rotate_left 1; rintro r ⟨hr, hl⟩)
 all_goals try dsimp only [len] at *
 all_goals try (have e := AI (x := 244 - ((220 : Nat) : Int)) (by omega))
 all_goals first | omega | (intro hz; exact absurd hz (by assumption)) | grind [AI]
theorem Tc {x : Unit} : AA (Gy x) fun r => r.length = 256 := by
 unfold Gy
 repeat' with_reducible first | refine AA.some ?_ | (refine AA.bind (Jm ?_) ?_; rotate_left 1; intro r hr)
 all_goals ((try dsimp only [len] at *); (try first | omega | assumption | grind [AI]))
theorem PU {x : BF} {s : Int × Af × Af} (h : 0 ≤ s.1 ∧ s.1 ≤ 16 ∧ x.length = 256) : AA (AT (HV x) s) fun r => True := by
 refine AA.loop (fun (s : Int × Af × Af) => 0 ≤ s.1 ∧ s.1 ≤ 16 ∧ x.length = 256) (fun (s : Int × Af × Af) => (16 - s.1).toNat) h (fun s hI => ?_)
 unfold HV
 obtain ⟨h0, h1, h2⟩ := hI
 have e1 := AI (x := s.1 * 13) (by omega)
 have e2 := AI (x := 12 + s.1 * 13) (by omega)
 have e3 := AI (x := 12 + s.1 * 13 + 1) (by omega)
 rw [e1, e2, e3]
 repeat' with_reducible first | refine AA.dec (fun hc => ?_) (fun hc => ?_) | refine AA.beq (fun hc => ?_) (fun hc => ?_) | refine AA.cond (fun hc => ?_) (fun hc => ?_) | refine AA.some ?_ | (refine AA.bind (AA.aget ?_ ?_) ?_; rotate_left 2; intro r hr) | (refine AA.bind (AA.ssl ?_ ?_ ?_) ?_; rotate_left 3; rintro r ⟨hr, hl⟩) | (refine AA.bind (AA.six ?_ ?_) ?_; rotate_left 2; rintro r ⟨hr, hl⟩)
 all_goals try dsimp only [len] at *
 all_goals first | omega | grind [AI]
theorem SS {x : BF} (h : x.length ≤ 1099511627776) : AA (GC x) fun r => True := by
 unfold GC
 repeat' with_reducible first | refine AA.beq (fun hc => ?_) (fun hc => ?_) | refine AA.bne (fun hc => ?_) (fun hc => ?_) | refine AA.cond (fun hc => ?_) (fun hc => ?_) | (refine AA.inl ?_; try dsimp only) | (refine AA.inr ?_; try dsimp only) | (refine AA.sum ?_ ?_ <;> (intro u hu; try subst hu)) | refine AA.some ?_ | (refine AA.bind (Tc) ?_; intro r hr) | (refine AA.bind (A7 ?_) ?_; rotate_left 1; intro r hr) | (refine AA.bind (Dq ?_) ?_; rotate_left 1; intro r hr) | (refine AA.bind (PU ?_) ?_; rotate_left 1; intro r hr) | (refine AA.bind (Ie) ?_; intro r hr) | (refine AA.bind (AA.ssl ?_ ?_ ?_) ?_; rotate_left 3; rintro r ⟨hr, hl⟩)
 all_goals try dsimp only [len] at *
 all_goals first | trivial | omega | grind
theorem Vx {x : Int} : AA (JU x) fun r => r.1 = x := by
 unfold JU
 repeat' with_reducible first | refine AA.some ?_
 all_goals trivial
theorem P9 {x : BF × Int} (h : x.1.length ≤ 1099511627776) : AA (FI x) fun r => r.2 = 0 → r.1.1 = x.2 := by
 unfold FI
 repeat' with_reducible first | refine AA.dec (fun hc => ?_) (fun hc => ?_) | refine AA.beq (fun hc => ?_) (fun hc => ?_) | refine AA.bne (fun hc => ?_) (fun hc => ?_) | refine AA.cond (fun hc => ?_) (fun hc => ?_) | refine AA.some ?_ | (refine AA.bind (SS ?_) ?_; rotate_left 1; intro r hr) | (refine AA.bind (Vx) ?_; intro r hr)
 all_goals first | assumption | (intro hz; exact absurd hz (by assumption)) | (intro hz; exact absurd hz (by decide)) | (intro _; assumption) | grind
theorem To {x : Av × Int × Int × BF} (h : x.2.2.2.length ≤ 1099511627776) : AA (HA x) fun r => r.2 = 0 → r.1.1 = x.2.1 := by
 unfold HA
 repeat' with_reducible first | refine AA.dec (fun hc => ?_) (fun hc => ?_) | refine AA.not (fun hc => ?_) (fun hc => ?_) | refine AA.bne (fun hc => ?_) (fun hc => ?_) | refine AA.cond (fun hc => ?_) (fun hc => ?_) | refine AA.some ?_ | (refine AA.bind (DE) ?_; intro r hr) | (refine AA.bind (P9 ?_) ?_; rotate_left 1; intro r hr) | (refine AA.bind (AA.ix ?_ ?_) ?_; rotate_left 2; rintro r ⟨hr, hm⟩)
 all_goals try dsimp only [len] at *
 all_goals first | assumption | omega | (intro hz; exact absurd hz (by assumption)) | (intro hz; exact absurd hz (by decide)) | (intro _; assumption) | grind
theorem My {x : Af × B6} : AA (Ex x) fun r => r.2 = 0 → r.1.1 = x.1.1 := by
 unfold Ex
 repeat' with_reducible first | refine AA.not (fun hc => ?_) (fun hc => ?_) | refine AA.beq (fun hc => ?_) (fun hc => ?_) | refine AA.bne (fun hc => ?_) (fun hc => ?_) | refine AA.cond (fun hc => ?_) (fun hc => ?_) | refine AA.some ?_ | (refine AA.bind (Mz) ?_; intro r hr) | (refine AA.bind (AA.aget ?_ ?_) ?_; rotate_left 2; intro r hr)
 all_goals first | (intro hz; exact absurd hz (by decide)) | (intro _; rfl) | omega | grind [OW]
theorem Tx {x : Af × AE} : AA (HK x) fun r => r.2 = 0 → r.1.1 = x.1.1 := by
 unfold HK
 repeat' with_reducible first | refine AA.not (fun hc => ?_) (fun hc => ?_) | refine AA.bne (fun hc => ?_) (fun hc => ?_) | refine AA.cond (fun hc => ?_) (fun hc => ?_) | refine AA.some ?_ | (refine AA.bind (Bf) ?_; intro r hr) | (refine AA.bind (BY) ?_; intro r hr) | (refine AA.bind (D1) ?_; intro r hr) | (refine AA.bind (My) ?_; intro r hr)
 all_goals first | (intro hz; exact absurd hz (by assumption)) | (intro hz; exact absurd hz (by decide)) | (intro _; exact hr (by assumption)) | grind
theorem Tj {x : AE × List AE} (h : x.2.length ≤ 16777215) : AA (G4 x) fun r => r.length = x.2.length + 1 := by
 unfold G4
 repeat' with_reducible first | refine AA.some ?_ | (refine AA.bind (AA.app ?_) ?_; rotate_left 1; rintro r ⟨hr, hl, hl2⟩)
 all_goals first | (simp at *; omega) | (simp at *; done)
end Go.Pm
namespace Go.Pm
open Go Go.Ab
set_option maxHeartbeats 400000
theorem XE {α : Type} {l : List α} {i : Nat} {a : α} (h : l[i]? = some a) : i < l.length := by
 rcases Nat.lt_or_ge i l.length with q | q
 ·exact q
 ·rw [List.getElem?_eq_none q] at h; cases h
theorem Q6 {x : AZ × Int × Int × Int} {s : List AE × Int} (hx : 0 ≤ x.2.2.2 ∧ Cl x.1) (h : s.1.length = 0) : AA (AT (Jo x) s) fun r => (∀ u, r = .inl u → u.1.length ≤ 4096) ∧ ∀ u, r = .inr u → u.1.length ≤ 4096 := by
 refine AA.loop (fun s => s.1.length ≤ 4096 ∧ (s.1.length = 0 ∨ (s.1.length : Int) + s.2 ≤ x.1.1 + x.1.2.1.length - 1)) (fun s => s.2.toNat) ⟨by omega, .inl h⟩ (fun s hI => ?_)
 obtain ⟨h1, h2⟩ := hI
 unfold Jo
 refine AA.dec (fun hc => ?_) (fun hc => AA.some ⟨fun u hu => (by cases hu), fun u hu => (by cases hu; exact h1)⟩)
 refine AA.bind C3 fun g hg => ?_
 refine AA.bne (fun _ => AA.some ⟨fun u hu => (by cases hu; simp), fun u hu => (by cases hu)⟩) (fun hz => ?_)
 obtain ⟨g1, g2, g3, g4⟩ := hg.1 hz
 have g5 := XE g3
 refine AA.bind BY fun v hv => ?_
 refine AA.not (fun _ => AA.some ⟨fun u hu => (by cases hu; simp), fun u hu => (by cases hu)⟩) (fun _ => ?_)
 refine AA.bne (fun _ => AA.some ⟨fun u hu => (by cases hu; simp), fun u hu => (by cases hu)⟩) (fun _ => ?_)
 have v1 := hx.2.1
 have v2 := hx.2.2.2.1
 dsimp only at g2 g3 g4 g5
 have p1 := g1.2.2.2.2.1
 have p2 := g1.2.2.2.2.2.1
 refine AA.bind (Tj (by dsimp only; omega)) fun r hr => ?_
 dsimp only at hr
 refine AA.some ⟨⟨?_, .inr ?_⟩, ?_⟩
 ·dsimp only; omega
 ·dsimp only; omega
 ·dsimp only; omega
theorem Uz {x : AZ × Int × Int × Int} : AA (H5 x) fun r => r.1.length ≤ 4096 := by
 unfold H5
 refine AA.bind A4 fun v hv => ?_
 refine AA.not (fun hc => AA.some (by simp)) (fun hc => ?_)
 refine AA.dec (fun hc => AA.some (by simp)) (fun _ => ?_)
 refine AA.dec (fun hc => AA.some (by simp)) (fun _ => ?_)
 refine AA.dec (fun hc => AA.some (by simp)) (fun _ => ?_)
 refine AA.dec (fun hc => AA.some (by simp)) (fun _ => ?_)
 refine AA.bind (Q6 ⟨by omega, hv.1 hc⟩ rfl) fun r hr => ?_
 refine AA.sum (fun u hu => AA.some (hr.1 u hu)) (fun u hu => ?_)
 exact AA.dec (fun hc => AA.some (by simp)) (fun _ => AA.some (hr.2 u hu))
theorem Tz {x : AZ × Af × Int} : AA (HM x) fun r => r.1.length ≤ 4096 := by
 unfold HM
 repeat' with_reducible first | refine AA.dec (fun hc => ?_) (fun hc => ?_) | refine AA.not (fun hc => ?_) (fun hc => ?_) | refine AA.bne (fun hc => ?_) (fun hc => ?_) | refine AA.cond (fun hc => ?_) (fun hc => ?_) | refine AA.some ?_ | (refine AA.bind (A4) ?_; intro r hr) | (refine AA.bind (D1) ?_; intro r hr) | (refine AA.bind (Uz) ?_; intro r hr)
 all_goals first | (simp; done) | assumption
theorem RQ {v0 : List AE × Int} {p : Int} {s : Int × Af × Af} (h : 0 ≤ s.1 ∧ s.1 ≤ v0.1.length ∧ v0.1.length ≤ 4096 ∧ s.2.1.1 = p) : AA (AT (Jz v0) s) fun r => (∀ u, r = .inl u → u.2.1 ≠ 0) ∧ ∀ u, r = .inr u → u.1.1 = p := by
 refine AA.loop (fun (s : Int × Af × Af) => 0 ≤ s.1 ∧ s.1 ≤ v0.1.length ∧ v0.1.length ≤ 4096 ∧ s.2.1.1 = p) (fun (s : Int × Af × Af) => ((v0.1.length : Int) - s.1).toNat) h (fun s hI => ?_)
 unfold Jz
 repeat' with_reducible first | refine AA.dec (fun hc => ?_) (fun hc => ?_) | refine AA.bne (fun hc => ?_) (fun hc => ?_) | refine AA.cond (fun hc => ?_) (fun hc => ?_) | refine AA.some ?_ | (refine AA.bind (Tx) ?_; intro r hr) | (refine AA.bind (AA.ix ?_ ?_) ?_; rotate_left 2; rintro r ⟨hr, hm⟩)
 all_goals try dsimp only [len] at *
 all_goals first | omega | (refine ⟨fun u hu => ?_, fun u hu => ?_⟩ <;> cases hu <;> first | assumption | exact hI.2.2.2) | (have e := AI (x := s.1 + 1) (by omega); have := hr (by assumption); omega) | trace_state
theorem VF {x : AZ × Af × Int} : AA (II x) fun r => r.2.2 = 0 → r.1.1 = x.2.1.1 := by
 unfold II
 refine AA.bind Tz fun v hv => ?_
 refine AA.bne (fun hc => AA.some (fun hz => absurd hz hc)) (fun hz => ?_)
 refine AA.bind (RQ (p := x.2.1.1) ⟨by dsimp only; omega, by dsimp only; omega, hv, rfl⟩) fun r hr => ?_
 exact AA.sum (fun u hu => AA.some (fun hz => absurd hz (hr.1 u hu))) (fun u hu => AA.some fun _ => hr.2 u hu)
theorem VE {x : AZ × Af × Int} : AA (IH x) fun r => r.2 = 0 → r.1.1 = x.2.1.1 := by
 unfold IH
 exact AA.bind VF fun r hr => AA.some hr
end Go.Pm
namespace Go.Pm
open Go Go.Ab
set_option maxHeartbeats 400000
def KS (k m : AC) : Prop := m.1 = k.1 ∧ LX k.2.2.1 m.2.2.1 ∧ Cl m.2.2.1 ∧ m.2.2.2.2.1 = k.2.2.2.2.1 ∧ m.2.2.2.2.2.1 = k.2.2.2.2.2.1 ∧ SK m
theorem KS.refl {k : AC} (h : SK k) (hv : Cl k.2.2.1) : KS k k := ⟨rfl, LX.refl _, hv, rfl, rfl, h⟩
theorem KS.trans {a b c : AC} (h : KS a b) (g : KS b c) : KS a c :=
 ⟨g.1.trans h.1, h.2.1.trans g.2.1, g.2.2.1, g.2.2.2.1.trans h.2.2.2.1, g.2.2.2.2.1.trans h.2.2.2.2.1, g.2.2.2.2.2⟩
theorem LX.of {a b : AZ} (h : b.1 = a.1) (g : b.2.1 = a.2.1) : LX a b := ⟨h, [], by rw [g, List.append_nil]⟩
theorem Fk {x : AC × Int} (h : SK x.1) (hl : Cl x.1.2.2.1) : AA (C5 x) fun r => KS x.1 r ∧ r.2.2.2.1 = x.1.2.2.2.1 := by
 unfold C5
 refine AA.bind DZ fun v hv => ?_
 refine AA.bind Ff fun w hw => ?_
 refine AA.bcond ?_
 refine AA.beq (fun hc => AA.some ?_) (fun hc => AA.some ⟨KS.refl h hl, rfl⟩)
 obtain ⟨w1, w2, w3⟩ := hw hc
 exact ⟨⟨rfl, LX.of w3 w2, w1, rfl, rfl, h⟩, rfl⟩
theorem RK {x : AC × Int × Int} (h : SK x.1) : AA (Fm x) fun r => r.2 = 0 → VK x.1 ∧ KS x.1 r.1 ∧ DC r.1.2.2.2.1 ≤ DC x.1.2.2.2.1 ∧ ∀ (i : Nat) (f : Ac), x.1.2.2.2.1.2.1[i]? = some f → f.1.1 = x.2.1 → f.2.1 = true → f.1.2.1 = x.2.2 → DC r.1.2.2.2.1 < DC x.1.2.2.2.1 := by
 unfold Fm
 refine AA.bind (A0 h) fun v hv => ?_
 refine AA.not (fun hc => AA.some (fun hz => absurd hz (by decide))) (fun hc => ?_)
 have hk := hv hc
 refine AA.dec (fun hc => AA.some (fun hz => absurd hz (by decide))) (fun _ => ?_)
 refine AA.dec (fun hc => AA.some (fun hz => absurd hz (by decide))) (fun _ => ?_)
 refine AA.dec (fun hc => AA.some (fun hz => absurd hz (by decide))) (fun _ => ?_)
 refine AA.bind DZ fun _ _ => ?_
 refine AA.dec (fun hc => AA.some (fun hz => absurd hz (by decide))) (fun _ => ?_)
 refine AA.bind Ct fun i hi => ?_
 refine AA.bind (P := fun s => (∃ u, s = .inl u ∧ u.1 ≠ 0) ∨ ∃ u, s = .inr u ∧ DC u.1 ≤ DC x.1.2.2.2.1 ∧ ∀ (i : Nat) (f : Ac), x.1.2.2.2.1.2.1[i]? = some f → f.1.1 = x.2.1 → f.2.1 = true → f.1.2.1 = x.2.2 → DC u.1 < DC x.1.2.2.2.1) ?_ fun s hs => ?_
 ·refine AA.dec (fun hc => ?_) (fun hc => AA.some (.inr ⟨_, rfl, Nat.le_refl _, fun j f hj hid _ _ => ?_⟩))
  ·refine AA.bind Tm fun c hcl => ?_
   refine AA.bne (fun hc => AA.some (.inl ⟨_, rfl, hc⟩)) (fun hc => AA.some (.inr ⟨_, rfl, (hcl hc).2⟩))
  ·exact absurd (hi.2.2.2 hk.2.2.2.1 ⟨j, f, hj, hid⟩) hc
 ·rcases hs with ⟨u, rfl, hu⟩ | ⟨u, rfl, hu⟩
  ·exact AA.inl (AA.some fun hz => absurd hz hu)
  ·refine AA.inr ?_
   refine AA.bind (C4 h) fun a ha => ?_
   refine AA.bne (fun hc => AA.some (fun hz => absurd hz hc)) (fun hc => AA.some fun _ => ?_)
   obtain ⟨_, a1, a2, a3, a4, a5, a6, a7, a8⟩ := ha hc
   exact ⟨hk, ⟨a1, a2, a3, a5, a6.2.1 rfl, a8⟩, hu⟩
theorem U5 {x : AC} (h : SK x) : AA (IB x) fun r => r.2.2.2 = 0 → VK x ∧ KS x r.1 ∧ (r.2.2.1 = true → DC r.1.2.2.2.1 = DC x.2.2.2.1 ∧ ∃ (i : Nat) (f : Ac), r.1.2.2.2.1.2.1[i]? = some f ∧ f.1 = r.2.1 ∧ f.2.1 = true) := by
 unfold IB
 refine AA.bind (A0 h) fun v hv => ?_
 refine AA.not (fun hc => AA.some (fun hz => absurd hz (by decide))) (fun hc => ?_)
 have hk := hv hc
 refine AA.dec (fun hc => AA.some (fun _ => ⟨hk, KS.refl h hk.2.2.1, fun hz => by cases hz⟩)) (fun hfull => ?_)
 have hne : x.2.2.2.1.2.1.length ≠ 0 := by have := hk.2.2.2.1.1; simp only [len] at hfull; omega
 refine AA.bind Sa fun w hw => ?_
 obtain ⟨_, w2, w3, w4⟩ := hw.1 (hw.2 hk.2.2.2.1 hne)
 refine AA.bind Ct fun i hi => ?_
 have i0 := hi.2.2.2 w2 w4
 refine AA.bind (AA.ix i0 hi.2.1) fun f hf => ?_
 refine AA.not (fun hc => ?_) (fun hc => ?_)
 ·refine AA.bind U2 fun d _ => AA.some fun _ => ⟨hk, ⟨rfl, LX.refl _, hk.2.2.1, rfl, rfl, h⟩, fun hz => by cases hz⟩
 ·refine AA.bind (Fk h hk.2.2.1) fun k hkk => AA.some fun _ => ⟨hk, hkk.1, fun _ => ⟨?_, i.toNat, f, ?_, rfl, hc⟩⟩
  ·rw [hkk.2, eM, eM, w3]
  ·rw [hkk.2]; exact hf.1
theorem M6 {x : AB × AC × Af} (h : SK x.2.1) (hd : DI x.1.2) : AA (E5 x) fun r => r.2 = 0 → KS x.2.1 r.1.1 ∧ DI r.1.2 ∧ DC r.1.1.2.2.2.1 ≤ DC x.2.1.2.2.2.1 ∧ ((∃ (i : Nat) (f : Ac), x.2.1.2.2.2.1.2.1[i]? = some f ∧ f.1 = x.2.2 ∧ f.2.1 = true) → DC r.1.1.2.2.2.1 < DC x.2.1.2.2.2.1) := by
 unfold E5
 refine AA.bind Ie fun v hv => ?_
 refine AA.bind (Tf hd) fun w hw => ?_
 refine AA.bne (fun hc => AA.some (fun hz => absurd hz hc)) (fun hc => ?_)
 refine AA.bind (RK h) fun u hu => ?_
 refine AA.bne (fun hc => AA.some (fun hz => absurd hz hc)) (fun hc2 => AA.some fun _ => ?_)
 obtain ⟨_, u2, u3, u4⟩ := hu hc2
 refine ⟨u2, (hw hc).1, u3, fun ⟨i, f, hf, hp, hb⟩ => u4 i f hf ?_ hb ?_⟩
 ·rw [hp]
 ·rw [hp]
def SvR (s r : AB) : Prop := KS s.1 r.1 ∧ DI r.2
theorem VH {x : AB} (h : SK x.1) (hl : Cl x.1.2.2.1) (hd : DI x.2) : AA (IK x) fun r => r.2 = 0 → SvR x r.1 := by
 unfold IK
 refine AA.bind (P := fun r => r.1 = 0 → SvR x r.2) ?_ fun r hr => AA.some hr
 refine AA.loop (fun s => SvR x s.1) (fun s => DC s.1.1.2.2.2.1) ⟨KS.refl h hl, hd⟩ (fun s hI => ?_)
 unfold M5
 refine AA.bind (U5 hI.1.2.2.2.2.2) fun v hv => ?_
 refine AA.bne (fun hc => AA.some (fun hz => absurd hz hc)) (fun hc => ?_)
 obtain ⟨v1, v2, v3⟩ := hv hc
 refine AA.not (fun hc => AA.some (fun _ => ⟨hI.1.trans v2, hI.2⟩)) (fun hcd => ?_)
 refine AA.bind (M6 v2.2.2.2.2.2 hI.2) fun w hw => ?_
 refine AA.bne (fun hc => AA.some (fun hz => absurd hz hc)) (fun hc => AA.some ?_)
 obtain ⟨w1, w2, w3, w4⟩ := hw hc
 obtain ⟨q1, q2⟩ := v3 hcd
 exact ⟨⟨(hI.1.trans v2).trans w1, w2⟩, by have := w4 q2; dsimp only at *; omega⟩
end Go.Pm
namespace Go.Pm
open Go Go.Ab
set_option maxHeartbeats 400000
theorem Pf {x : AC × Af} {s : Int × List AO} (h : 0 ≤ s.1 ∧ s.1 ≤ x.1.2.2.2.2.2.2.2.length ∧ x.1.2.2.2.2.2.2.2.length ≤ 16777216 ∧ s.2.length ≤ s.1) : AA (AT (Hj x) s) fun r => r.length ≤ x.1.2.2.2.2.2.2.2.length := by
 refine AA.loop (fun (s : Int × List AO) => 0 ≤ s.1 ∧ s.1 ≤ x.1.2.2.2.2.2.2.2.length ∧ x.1.2.2.2.2.2.2.2.length ≤ 16777216 ∧ s.2.length ≤ s.1) (fun (s : Int × List AO) => ((x.1.2.2.2.2.2.2.2.length : Int) - s.1).toNat) h (fun s hI => ?_)
 unfold Hj
 repeat' with_reducible first | refine AA.dec (fun hc => ?_) (fun hc => ?_) | refine AA.bne (fun hc => ?_) (fun hc => ?_) | refine AA.cond (fun hc => ?_) (fun hc => ?_) | (refine AA.bsome ?_; try dsimp only) | refine AA.bcond ?_ | refine AA.bbind ?_ | refine AA.some ?_ | (refine AA.bind (AA.ix ?_ ?_) ?_; rotate_left 2; rintro r ⟨hr, hm⟩) | (refine AA.bind (AA.app ?_) ?_; rotate_left 1; rintro r ⟨hr, hl, hl2⟩)
 all_goals ((try dsimp only [len] at *); (try first | omega | assumption | grind [AI]))
theorem Sg {x : AC × Af} (h : SK x.1) : AA (GO x) fun r => r.2 = 0 → KS x.1 r.1 ∧ Xx r.1.2.2.2.1 x.2.1 := by
 unfold GO
 refine AA.bind (A0 h) fun v hv => ?_
 refine AA.not (fun hc => AA.some (fun hz => absurd hz (by decide))) (fun hc => ?_)
 have hk := hv hc
 refine AA.dec (fun hc => AA.some (fun hz => absurd hz (by decide))) (fun _ => ?_)
 refine AA.dec (fun hc => AA.some (fun hz => absurd hz (by decide))) (fun _ => ?_)
 refine AA.bind (ET h) fun _ _ => ?_
 refine AA.dec (fun hc => AA.some (fun hz => absurd hz (by decide))) (fun _ => ?_)
 refine AA.bind (ET h) fun _ _ => ?_
 refine AA.dec (fun hc => AA.some (fun hz => absurd hz (by decide))) (fun _ => ?_)
 refine AA.bind CA fun v3 _ => ?_
 refine AA.not (fun hc => AA.some (fun hz => absurd hz (by decide))) (fun _ => ?_)
 refine AA.bind D1 fun v4 _ => ?_
 refine AA.bne (fun hc => ?_) (fun _ => ?_)
 ·exact AA.bne (fun _ => AA.some (fun hz => absurd hz hc)) (fun h0 => absurd h0 hc)
 have p2 := hk.2.2.2.1.2.1
 have p3 := hk.2.2.2.1.2.2.1
 refine AA.bind (Da (by dsimp only; omega)) fun i hi => ?_
 refine AA.dec (fun hc => AA.some (fun hz => absurd hz (by decide))) (fun _ => ?_)
 refine AA.beq (fun hc => AA.some (fun hz => absurd hz (by decide))) (fun _ => ?_)
 refine AA.bind (AA.app (by simp; omega)) fun v8 h8 => ?_
 obtain ⟨h8, h8l, _⟩ := h8
 rw [List.nil_append] at h8
 subst h8
 refine AA.bind (AA.app (by simp; omega)) fun v9 h9 => ?_
 obtain ⟨h9, h9l, _⟩ := h9
 have hlast : v9[v9.length - 1]? = some (x.2, (false, (0, true))) := by rw [h9]; simp
 have hn : (v9.length : Int) - 1 = ((v9.length - 1 : Nat) : Int) := by simp at h9l; omega
 have e := AI (x := (v9.length : Int) - 1) (by simp at h9l; omega)
 refine AA.bind (Fl h) fun v10 _ => ?_
 refine AA.bind (P := fun v : List Ac × AC × Int × Int × Int × Int × Int × Int => (∃ (i : Nat) (f : Ac), v.1[i]? = some f ∧ f.1.1 = x.2.1) ∧ KS x.1 v.2.1) ?_ fun v21 h21 => ?_
 ·refine AA.cond (fun _ => ?_) (fun _ => AA.some ⟨⟨_, _, hlast, rfl⟩, KS.refl h hk.2.2.1⟩)
  rw [hn] at e
  simp only [len, hn, e]
  have hlt : v9.length - 1 < v9.length := by simp at h9l; omega
  refine AA.bind (AA.ix (by omega) (by omega)) fun v11 h11 => ?_
  refine AA.bind (AA.ix (by omega) (by omega)) fun v12 h12 => ?_
  have e12 : v12.1 = x.2 := by have := h12.1; simp only [Int.toNat_natCast] at this; rw [hlast] at this; rw [← Option.some.inj this]
  have hl1 : (Ej v9 ((v9.length - 1 : Nat) : Int) (v12.1, (true, v12.2.2))).length = v9.length := by simp [Ej]
  refine AA.bind (AA.ix (by omega) (by omega)) fun v13 h13 => ?_
  refine AA.bind (AA.ix (by omega) (by omega)) fun v14 h14 => ?_
  have e14 : v14.1 = x.2 := by
   have := h14.1
   simp only [Int.toNat_natCast, Ej] at this
   rw [List.getElem?_set_self hlt] at this
   rw [← Option.some.inj this, e12]
  refine AA.bind (Pf ⟨by simp, by simp, h.2.2, by simp⟩) fun v20 h20 => ?_
  refine AA.some ⟨⟨v9.length - 1, (v14.1, (v14.2.1, (v10.1.2.1, v14.2.2.2))), ?_, by rw [e14]⟩, rfl, LX.refl _, hk.2.2.1, rfl, rfl, h.1, h.2.1, ?_⟩
  ·simp only [Ej, Int.toNat_natCast]
   rw [List.getElem?_set_self (by simpa using hlt)]
  ·have := h.2.2; dsimp only at *; omega
 ·obtain ⟨i, f, hf, hid⟩ := h21.1
  exact AA.some fun _ => ⟨h21.2, i, f, hf, hid⟩
theorem D8 {x : AB × Int} (h : SK x.1.1) (hd : DI x.1.2) : AA (CY x) fun r => r.2 = 0 → SvR x.1 r.1 ∧ Xx r.1.1.2.2.2.1 x.2 := by
 unfold CY
 refine AA.bind (A0 h) fun v hv => ?_
 refine AA.not (fun hc => AA.some (fun hz => absurd hz (by decide))) (fun hc => ?_)
 have hk := hv hc
 refine AA.dec (fun hc => AA.some (fun hz => absurd hz (by decide))) (fun _ => ?_)
 refine AA.dec (fun hc => AA.some (fun hz => absurd hz (by decide))) (fun _ => ?_)
 refine AA.bind Ct fun i hi => ?_
 refine AA.dec (fun hc => AA.some fun _ => ⟨⟨KS.refl h hk.2.2.1, hd⟩, ?_⟩) (fun _ => ?_)
 ·obtain ⟨_, f, hf, hid⟩ := hi.2.2.1 hc
  exact ⟨_, f, hf, hid⟩
 refine AA.bind (VH h hk.2.2.1 hd) fun v2 h2 => ?_
 refine AA.bne (fun hc => AA.some (fun hz => absurd hz hc)) (fun hc2 => ?_)
 obtain ⟨r1, r2⟩ := h2 hc2
 have r3 := r1.2.2.2.2.2
 refine AA.bind (Uv r2) fun v3 h3 => ?_
 refine AA.bne (fun hc => AA.some (fun hz => absurd hz hc)) (fun hc3 => ?_)
 refine AA.bind (ET r3) fun v4 _ => ?_
 refine AA.bind (To (by have := h3 hc3; dsimp only; omega)) fun v5 h5 => ?_
 refine AA.bne (fun hc => AA.some (fun hz => absurd hz hc)) (fun hc5 => ?_)
 refine AA.bind VE fun v6 h6 => ?_
 refine AA.bne (fun hc => AA.some (fun hz => absurd hz hc)) (fun hc6 => ?_)
 refine AA.bind (Sg r3) fun v7 h7 => ?_
 refine AA.bne (fun hc => AA.some (fun hz => absurd hz hc)) (fun hc7 => AA.some fun _ => ?_)
 obtain ⟨s1, s2⟩ := h7 hc7
 have e5 := h5 hc5
 have e6 := h6 hc6
 dsimp only at e5 e6 s2
 rw [e6, e5] at s2
 exact ⟨⟨r1.trans s1, r2⟩, s2⟩
end Go.Pm
namespace Go.Pm
open Go Go.Ab
set_option maxHeartbeats 400000
def KL (k m : AC) : Prop := m.1 = k.1 ∧ LX k.2.2.1 m.2.2.1 ∧ SK m ∧ Cl m.2.2.1
theorem KL.refl {k : AC} (h : SK k) (hl : Cl k.2.2.1) : KL k k := ⟨rfl, LX.refl _, h, hl⟩
theorem KL.trans {a b c : AC} (h : KL a b) (g : KL b c) : KL a c := ⟨g.1.trans h.1, h.2.1.trans g.2.1, g.2.2⟩
theorem KS.kl {a b : AC} (h : KS a b) : KL a b := ⟨h.1, h.2.1, h.2.2.2.2.2, h.2.2.1⟩
theorem jN.kl {a b : AC} {k t : Int} (h : jN a k t b) : KL a b := ⟨h.1, h.2.1, h.2.2.2.2.2.2.2, h.2.2.1⟩
theorem SK.locks {k : AC} {l : AY} (h : SK k) (hl : DQ l) : SK (k.1, (k.2.1, (k.2.2.1, (k.2.2.2.1, (l, k.2.2.2.2.2))))) := ⟨hl, h.2⟩
theorem V1 {x : Ao × Int} : AA (JX x) fun r => True := by
 unfold JX
 refine AA.bind Ct fun v hv => ?_
 refine AA.dec (fun _ => AA.some trivial) (fun hc => ?_)
 have hp := hv.2.2.1 (by omega)
 have p2 := hp.1.2.1
 have p3 := hp.1.2.2.1
 refine AA.bind (AA.ix (by omega) hv.2.1) fun v1 _ => ?_
 exact AA.bind (G9 (by dsimp only; omega) ⟨by dsimp only; omega, hv.2.1⟩) fun r _ => AA.some trivial
theorem SZ {x : Ao × Af} : AA (GH x) fun r => True := by
 unfold GH
 refine AA.bind CA fun v hv => ?_
 refine AA.not (fun _ => AA.some trivial) (fun hc => ?_)
 have hp := hv.1 hc
 have p2 := hp.2.1
 have p3 := hp.2.2.1
 refine AA.bind D1 fun _ _ => ?_
 refine AA.bne (fun _ => AA.some trivial) (fun _ => ?_)
 refine AA.bind (Da (by dsimp only; omega)) fun i hi => ?_
 refine AA.dec (fun _ => AA.some trivial) (fun hc => ?_)
 refine AA.bind (AA.ix (by omega) hi.2.1) fun v3 _ => ?_
 refine AA.dec (fun _ => AA.some trivial) (fun _ => ?_)
 refine AA.bind (P := fun _ => True) (AA.not (fun _ => AA.some trivial) (fun _ => AA.some trivial)) fun v4 _ => ?_
 exact AA.bind (G9 (by dsimp only; omega) ⟨by dsimp only; omega, hi.2.1⟩) fun r _ => AA.some trivial
theorem Py.cell {e : AE} (h : Py e) : 0 ≤ e.2.2.2.2.2.2.1.2.1 ∧ e.2.2.2.2.2.2.1.2.1 < 16 := by
 have hk := h.2.2.2.2.2.2.2.2
 unfold RZ at hk
 grind [OW, NM]
theorem OD {x : AC × AE} (h : SK x.1) (hl : Cl x.1.2.2.1) (hc : 0 ≤ x.2.2.2.2.2.2.2.1.2.1 ∧ x.2.2.2.2.2.2.2.1.2.1 < 16) : AA (F6 x) fun r => KL x.1 r.1 ∧ (r.2 = 0 → eO x.1.2.2.2.2.2.1 x.2.2.1 x.2.2.2.1 r.1.2.2.2.2.2.1) := by
 unfold F6
 refine AA.bind (C4 h) fun v hv => ?_
 refine AA.bne (fun hc => AA.some ⟨KL.refl h hl, fun hz => absurd hz hc⟩) (fun hz => ?_)
 have ha := (hv hz).2
 refine AA.bind E1 fun v1 _ => ?_
 refine AA.bind (AA.aget hc.1 hc.2) fun _ _ => ?_
 refine AA.bind (AA.aget hc.1 hc.2) fun _ _ => ?_
 refine AA.bind SZ fun v4 _ => ?_
 exact AA.bne (fun hc => AA.some ⟨KL.refl h hl, fun hz => absurd hz hc⟩) (fun _ => AA.some ⟨ha.kl, fun _ => ha.2.2.2.2.2.1⟩)
theorem Au {x : Int} : AA (Aa x) fun r => r.1 = 5 := by
 unfold Aa
 exact AA.some rfl
theorem WC {x : Int} : AA (Aa x) fun r => r.1 = 5 ∧ r.2.2.2.2 = x := by
 unfold Aa
 exact AA.some ⟨rfl, rfl⟩
theorem gY {l : List AJ} {id : Int} (h : l.length ≤ 16777216) (hh : WD l id) : AA (CN (l, id)) fun r => 0 ≤ r ∧ r < l.length := by
 unfold CN
 refine AA.bind (P := fun r => ∃ u : Int, r = .inl u ∧ 0 ≤ u ∧ u < l.length) ?_ fun r hr => ?_
 ·refine AA.loop (fun (s : Int) => 0 ≤ s ∧ s ≤ l.length ∧ ∀ (j : Nat) (t : AJ), j < s → l[j]? = some t → t.1 ≠ id) (fun (s : Int) => ((l.length : Int) - s).toNat) ⟨Int.le_refl _, by omega, fun j t hj => absurd hj (by omega)⟩ (fun s hI => ?_)
  obtain ⟨h1, h2, h3⟩ := hI
  unfold Fj
  have e := AI (x := s + 1) (by omega)
  refine AA.dec (fun hc => ?_) (fun hc => ?_)
  ·simp only [len] at hc
   refine AA.bind (AA.ix h1 hc) fun v1 hv1 => ?_
   refine AA.beq (fun _ => AA.some ⟨s, rfl, h1, hc⟩) (fun hne => AA.some ?_)
   dsimp only at hne
   rw [e]
   refine ⟨⟨by omega, by omega, fun j t hj ht => ?_⟩, by omega⟩
   by_cases hjs : (j : Int) = s
   ·have : s.toNat = j := by omega
    rw [this] at hv1
    rw [ht] at hv1
    have := Option.some.inj hv1.1
    rw [this]; exact hne
   ·exact h3 j t (by omega) ht
  ·obtain ⟨j, t, hj, ht⟩ := hh
   have := XE hj
   simp only [len] at hc
   exact absurd ht (h3 j t (by omega) hj)
 ·obtain ⟨u, rfl, hu⟩ := hr
  exact AA.inl (AA.some hu)
theorem Zj {l : List AJ} {id : Int} (h : l.length ≤ 16777216) (hh : WD l id) : AA (A9 (l, id)) fun r => 0 ≤ r ∧ r < l.length := by
 unfold A9
 exact AA.bind (gY h hh) fun r hr => AA.some hr
theorem Si {x : AC × Int} (h : SK x.1) (hl : Cl x.1.2.2.1) (hh : WD x.1.2.2.2.2.2.1 x.2) : AA (GQ x) fun r => KL x.1 r.1 ∧ (r.2.1 = 1 ∨ r.2.1 = 5) := by
 unfold GQ
 refine AA.bind (Zj h.2.1 hh) fun v0 h0 => ?_
 refine AA.bind (AA.ix h0.1 h0.2) fun v1 _ => ?_
 refine AA.bind (P := fun s => (∃ u, s = .inl u ∧ KL x.1 u.1) ∨ ∃ u, s = .inr u ∧ KL x.1 u.1 ∧ (u.2.1 = 1 ∨ u.2.1 = 5)) ?_ fun s hs => ?_
 ·refine AA.beq (fun _ => ?_) (fun _ => ?_)
  ·refine AA.bind (FK h.2.1) fun v2 h2 => AA.some (.inl ⟨_, rfl, rfl, LX.refl _, ⟨h.1, ?_, h.2.2⟩, hl⟩)
   have := YZ x.1.2.2.2.2.2.1 x.2
   have h21 := h.2.1
   dsimp only at *
   rw [h2]
   omega
  ·refine AA.bind (C4 h) fun v3 h3 => ?_
   refine AA.bne (fun hc => ?_) (fun hz => ?_)
   ·exact AA.bind Au fun v4 h4 => AA.some (.inr ⟨_, rfl, KL.refl h hl, .inr h4⟩)
   ·have ha := (h3 hz).2
    refine AA.bind (Fk ha.kl.2.2.1 ha.kl.2.2.2) fun v5 h5 => AA.some (.inl ⟨_, rfl, ha.kl.trans h5.1.kl⟩)
 ·rcases hs with ⟨u, rfl, hu⟩ | ⟨u, rfl, hu⟩
  ·refine AA.inl ?_
   refine AA.bind (HY hu.2.2.1.1) fun v8 h8 => AA.some ⟨⟨hu.1, hu.2.1, hu.2.2.1.locks h8, hu.2.2.2⟩, .inl rfl⟩
  ·exact AA.inr (AA.some hu)
theorem O7 {x : AC × Int × BQ} {v1 : AJ} {s : Int} (h : 0 ≤ s ∧ s ≤ v1.2.2.2.2.1.length ∧ (v1.2.2.2.2.1.length : Int) ≤ 16777216) : AA (AT (Gk x v1) s) fun r => True := by
 refine AA.loop (fun (s : Int) => 0 ≤ s ∧ s ≤ v1.2.2.2.2.1.length ∧ (v1.2.2.2.2.1.length : Int) ≤ 16777216) (fun (s : Int) => ((v1.2.2.2.2.1.length : Int) - s).toNat) h (fun s hI => ?_)
 unfold Gk
 repeat' with_reducible first | refine AA.dec (fun hc => ?_) (fun hc => ?_) | refine AA.beq (fun hc => ?_) (fun hc => ?_) | refine AA.cond (fun hc => ?_) (fun hc => ?_) | refine AA.some ?_ | (refine AA.bind (C3) ?_; intro r hr) | (refine AA.bind (AA.ix ?_ ?_) ?_; rotate_left 2; rintro r ⟨hr, hm⟩)
 all_goals ((try dsimp only [len] at *); (try first | omega | assumption | grind [AI]))
theorem jU {l : List AJ} {i : Nat} {t : AJ} (h : l[i]? = some t) : t.2.2.2.2.1.length < TP l := by
 induction l generalizing i with
 | nil => simp at h
 | cons a r ih =>
  unfold TP
  rw [List.map_cons, List.sum_cons]
  cases i with
  | zero =>
   simp at h
   rw [h]
   omega
  | succ i =>
   have := ih (i := i) (by simpa using h)
   unfold TP at this
   omega
theorem TP_le {l : List AJ} (h : ∀ (i : Nat) (t : AJ), l[i]? = some t → t.2.2.2.2.1.length ≤ 4096) : TP l ≤ l.length * 4097 := by
 induction l with
 | nil => simp [TP]
 | cons a r ih =>
  have h0 := h 0 a (by simp)
  have h1 := ih (fun i t ht => h (i + 1) t (by simpa using ht))
  unfold TP at *
  rw [List.map_cons, List.sum_cons, List.length_cons]
  omega
theorem P0.tp {l : List AJ} (h : P0 l) : TP l ≤ 262208 := by
 have := TP_le (l := l) (fun i t ht => (h.2 i t ht).1)
 have := h.1
 omega
theorem RM {x : AC × Int × BQ} (h : x.1.2.2.2.2.2.1.length ≤ 16777216) (hs : TP x.1.2.2.2.2.2.1 ≤ 262208) (hh : WD x.1.2.2.2.2.2.1 x.2.1) : AA (Fo x) fun r => True := by
 unfold Fo
 refine AA.bind (Zj h hh) fun v0 h0 => ?_
 refine AA.bind (AA.ix h0.1 h0.2) fun v1 h1 => ?_
 have := jU h1.1
 refine AA.bind (O7 ⟨Int.le_refl _, by omega, by omega⟩) fun r _ => ?_
 exact AA.sum (fun _ _ => AA.some trivial) (fun _ _ => AA.some trivial)
theorem M3 {x : AC × Int × Int} (h : SK x.1) (hl : Cl x.1.2.2.1) (hv : P0 x.1.2.2.2.2.2.1) (hx : x.2.1 ≠ 0) (hh : WD x.1.2.2.2.2.2.1 x.2.1) : AA (E3 x) fun r => KL x.1 r.1 ∧ (r.2.1 = x.2.2 ∨ r.2.1 = 5) := by
 unfold E3
 refine AA.bind (SV h.1) fun v0 hv0 => ?_
 refine AA.bind (Zj h.2.1 hh) fun v1 h1 => ?_
 refine AA.bind (AA.ix h1.1 h1.2) fun v2 _ => ?_
 refine AA.beq (fun _ => ?_) (fun _ => ?_)
 ·refine AA.bind (FK h.2.1) fun v3 h3 => ?_
  refine AA.bind (HY hv0) fun v4 h4 => AA.some ⟨⟨rfl, LX.refl _, ⟨h4, ?_, h.2.2⟩, hl⟩, .inl rfl⟩
  have := YZ x.1.2.2.2.2.2.1 x.2.1
  have h21 := h.2.1
  dsimp only at *
  rw [h3]
  omega
 ·have hk := h.locks hv0
  refine AA.bind (C4 hk) fun v5 h5 => ?_
  refine AA.bne (fun hc => ?_) (fun hz => ?_)
  ·exact AA.bind Au fun v6 h6 => AA.some ⟨KL.refl h hl, .inr h6⟩
  ·have ha := (h5 hz).2
   have hq := ha.2.2.2.2.2.1
   have tp := (hq.2.2.1 hx (by show (4 : Int) ≠ 1; decide)).2
   have tp0 := hv.tp
   have hx2 := hq.2.2.2 hx rfl
   have hkl : KL x.1 v5.1 := ⟨ha.1, ha.2.1, ha.kl.2.2⟩
   have hs := hkl.2.2.1
   refine AA.bind (P := fun r => KL x.1 r) ?_ fun r hr => AA.some ⟨hr, .inl rfl⟩
   refine AA.loop (fun (s : Int × AC) => 0 ≤ s.1 ∧ s.1 ≤ v5.1.2.2.2.2.1.1.length ∧ KL x.1 s.2 ∧ s.2.2.2.2.2.2.1 = v5.1.2.2.2.2.2.1) (fun s => ((v5.1.2.2.2.2.1.1.length : Int) - s.1).toNat) (s := ((0 : Int), v5.1)) ⟨Int.le_refl _, by dsimp only; omega, hkl, rfl⟩ (fun s hI => ?_)
   obtain ⟨i1, i2, i3, i4⟩ := hI
   unfold MA
   have hb := hs.1.1
   refine AA.dec (fun hc => ?_) (fun _ => AA.some i3)
   simp only [len] at hc
   have e := AI (x := s.1 + 1) (by omega)
   refine AA.bind (AA.ix i1 hc) fun v8 _ => ?_
   refine AA.beq (fun _ => ?_) (fun _ => AA.some ⟨⟨by dsimp only; omega, by dsimp only; omega, i3, i4⟩, by dsimp only; omega⟩)
   refine AA.bind (AA.ix i1 hc) fun v9 _ => ?_
   refine AA.bind (RM (by dsimp only; rw [i4]; exact hs.2.1) (by dsimp only at *; rw [i4]; omega) (by dsimp only; rw [i4]; exact hx2)) fun v10 _ => ?_
   refine AA.bind (P := fun k => KL x.1 k ∧ k.2.2.2.2.2.1 = v5.1.2.2.2.2.2.1) ?_ fun v13 h13 => AA.some ⟨⟨by dsimp only; omega, by dsimp only; omega, h13.1, h13.2⟩, by dsimp only; omega⟩
   refine AA.not (fun _ => ?_) (fun _ => AA.some ⟨i3, i4⟩)
   refine AA.bind (AA.ix i1 hc) fun v11 _ => ?_
   exact AA.bind (Nd i3.2.2.1.1) fun v12 h12 => AA.some ⟨⟨i3.1, i3.2.1, i3.2.2.1.locks h12, i3.2.2.2⟩, i4⟩
end Go.Pm
namespace Go.Pm
open Go Go.Ab
set_option maxHeartbeats 400000
theorem Sf {x : AC × BV} : AA (GN x) fun r => r = 0 → x.2.1 = 4 ∨ x.2.1 = 5 ∨ x.2.1 = 6 ∨ x.2.1 = 7 ∨ (0 ≤ x.2.2.2.1 ∧ x.2.2.2.1 < 16) := by
 unfold GN
 refine AA.bind (P := fun v => True) (AA.cond (fun _ => AA.some trivial) (fun _ => AA.bind (P := fun _ => True) (AA.cond (fun _ => AA.some trivial) (fun _ => AA.some trivial)) fun _ _ => AA.some trivial)) fun v1 _ => ?_
 refine AA.bind (P := fun s => (∃ u, s = .inl u ∧ u = 1) ∨ ∃ u, s = .inr u ∧ (x.2.1 = 4 ∨ x.2.1 = 5 ∨ x.2.1 = 6 ∨ x.2.1 = 7 ∨ (0 ≤ x.2.2.2.1 ∧ x.2.2.2.1 < 16))) ?_ fun s hs => ?_
 ·refine AA.cond (fun _ => ?_) (fun _ => ?_)
  ·refine AA.dec (fun _ => AA.some (.inl ⟨_, rfl, rfl⟩)) (fun _ => ?_)
   refine AA.dec (fun _ => AA.some (.inl ⟨_, rfl, rfl⟩)) (fun _ => ?_)
   refine AA.dec (fun _ => AA.some (.inl ⟨_, rfl, rfl⟩)) (fun c1 => ?_)
   refine AA.dec (fun _ => AA.some (.inl ⟨_, rfl, rfl⟩)) (fun c2 => ?_)
   refine AA.bind (P := fun _ => True) (AA.cond (fun _ => AA.some trivial) (fun _ => AA.some trivial)) fun v2 _ => AA.some (.inr ⟨_, rfl, ?_⟩)
   omega
  ·refine AA.bind (P := fun s => (∃ u, s = .inl u ∧ u = 1) ∨ ∃ u, s = .inr u ∧ (x.2.1 = 4 ∨ x.2.1 = 5 ∨ x.2.1 = 6 ∨ x.2.1 = 7)) ?_ fun s hs => ?_
   ·refine AA.beq (fun h7 => ?_) (fun _ => ?_)
    ·refine AA.dec (fun _ => AA.some (.inl ⟨_, rfl, rfl⟩)) (fun _ => ?_)
     refine AA.dec (fun _ => AA.some (.inl ⟨_, rfl, rfl⟩)) (fun _ => AA.some (.inr ⟨_, rfl, by omega⟩))
    ·refine AA.bind (P := fun b => b = true → x.2.1 = 4 ∨ x.2.1 = 5 ∨ x.2.1 = 6) ?_ fun v4 h4 => ?_
     ·refine AA.beq (fun h => AA.some fun _ => .inl h) (fun _ => ?_)
      refine AA.bind (P := fun b => b = true → x.2.1 = 4 ∨ x.2.1 = 5 ∨ x.2.1 = 6) ?_ fun v4 h4 => AA.some h4
      exact AA.beq (fun h => AA.some fun _ => .inr (.inl h)) (fun _ => AA.some fun h => .inr (.inr (by simpa using h)))
     ·refine AA.cond (fun h => AA.some (.inr ⟨_, rfl, ?_⟩)) (fun _ => AA.some (.inl ⟨_, rfl, rfl⟩))
      have := h4 h
      omega
   ·rcases hs with ⟨u, rfl, hu⟩ | ⟨u, rfl, hu⟩
    ·exact AA.inl (AA.some (.inl ⟨_, rfl, hu⟩))
    ·exact AA.inr (AA.some (.inr ⟨_, rfl, by omega⟩))
 ·rcases hs with ⟨u, rfl, hu⟩ | ⟨u, rfl, hu⟩
  ·exact AA.inl (AA.some fun hz => by omega)
  ·refine AA.inr ?_
   refine AA.not (fun _ => AA.some fun hz => absurd hz (by decide)) (fun _ => ?_)
   exact AA.dec (fun _ => AA.some fun hz => absurd hz (by decide)) (fun _ => AA.some fun _ => hu)
theorem Ni {x : Int × BV} : AA (FU x) fun r => True := by
 unfold FU
 refine AA.beq (fun _ => AA.some trivial) (fun _ => ?_)
 refine AA.bind (P := fun _ => True) (AA.cond (fun _ => AA.some trivial) (fun _ => AA.some trivial)) fun v _ => ?_
 exact AA.cond (fun _ => AA.some trivial) (fun _ => AA.some trivial)
theorem RN {x : AC × Int × BV} (h : SK x.1) : AA (Fp x) fun r => r = 0 → VK x.1 ∧ WD x.1.2.2.2.2.2.1 x.2.1 ∧ (x.2.2.1 = 4 ∨ x.2.2.1 = 5 ∨ x.2.2.1 = 6 ∨ x.2.2.1 = 7 ∨ (0 ≤ x.2.2.2.2.1 ∧ x.2.2.2.2.1 < 16)) := by
 unfold Fp
 refine AA.bind (A0 h) fun v hv => ?_
 refine AA.not (fun _ => AA.some fun hz => absurd hz (by decide)) (fun hc => ?_)
 refine AA.bind (CM h.2.1) fun v1 h1 => ?_
 refine AA.dec (fun _ => AA.some fun hz => absurd hz (by decide)) (fun hc1 => ?_)
 refine AA.bind (AA.ix (by omega) h1.2.1) fun v2 _ => ?_
 refine AA.bne (fun _ => AA.some fun hz => absurd hz (by decide)) (fun _ => ?_)
 refine AA.bind Sf fun v3 h3 => ?_
 refine AA.bne (fun hc => AA.some fun hz => absurd hz hc) (fun hc3 => ?_)
 refine AA.bind (Es h.1) fun v4 _ => ?_
 refine AA.bind Ni fun v5 _ => ?_
 have q : (0 : Int) = 0 → VK x.1 ∧ WD x.1.2.2.2.2.2.1 x.2.1 ∧ (x.2.2.1 = 4 ∨ x.2.2.1 = 5 ∨ x.2.2.1 = 6 ∨ x.2.2.1 = 7 ∨ (0 ≤ x.2.2.2.2.1 ∧ x.2.2.2.2.1 < 16)) := fun _ => by
  obtain ⟨t, ht, hid⟩ := h1.2.2 (by omega)
  exact ⟨hv hc, ⟨_, t, ht, hid⟩, h3 hc3⟩
 refine AA.cond (fun _ => ?_) (fun _ => AA.some q)
 refine AA.bne (fun _ => ?_) (fun _ => AA.some q)
 refine AA.not (fun _ => AA.some fun hz => absurd hz (by decide)) (fun _ => ?_)
 exact AA.not (fun _ => AA.some fun hz => absurd hz (by decide)) (fun _ => AA.some q)
theorem Sh {x : AC × Int × BV} (h : SK x.1) (hl : Cl x.1.2.2.1) (hp : Ml x.1.2.2.2.1) (hc : 0 ≤ x.2.2.2.2.1 ∧ x.2.2.2.2.1 < 16) : AA (GP x) fun r => KL x.1 r.1 ∧ (r.2.1 = 1 ∨ r.2.1 = 3 ∨ r.2.1 = 5) ∧ (r.2.1 = 3 → r.2.2.2.1 = x.2.2.2.1 ∧ ¬ Xx x.1.2.2.2.1 x.2.2.2.1 ∧ r.1 = x.1) := by
 unfold GP
 have kr := KL.refl h hl
 refine AA.bind E1 fun v0 h0 => ?_
 refine AA.not (fun hc => AA.some ⟨kr, .inr (.inl rfl), fun _ => ⟨rfl, h0.2 hc hp, rfl⟩⟩) (fun _ => ?_)
 refine AA.beq (fun _ => ?_) (fun _ => ?_)
 ·refine AA.bind V1 fun v1 _ => ?_
  refine AA.bind (AA.aget hc.1 hc.2) fun _ _ => ?_
  refine AA.bind (AA.aget hc.1 hc.2) fun _ _ => ?_
  exact AA.some ⟨kr, (.inl rfl), fun hz => absurd hz (by show (1 : Int) ≠ 3; decide)⟩
 ·refine AA.bind (AA.aget hc.1 hc.2) fun _ _ => ?_
  refine AA.bind (AA.aget hc.1 hc.2) fun v5 _ => ?_
  refine AA.bind (P := fun v : B6 => v.2.1 = x.2.2.2.2.1) (AA.cond (fun _ => AA.some rfl) (fun _ => AA.some rfl)) fun v6 h6 => ?_
  refine AA.bind (OD h hl (by dsimp only; rw [h6]; exact hc)) fun v7 h7 => ?_
  refine AA.bne (fun _ => ?_) (fun _ => ?_)
  ·exact AA.bind Au fun v8 h8 => AA.some ⟨kr, .inr (.inr h8), fun hz => by dsimp only at hz; omega⟩
  ·exact AA.some ⟨h7.1, (.inl rfl), fun hz => absurd hz (by show (1 : Int) ≠ 3; decide)⟩
theorem Ts {x : List Int} : AA (HG x) fun r => True := by
 unfold HG
 refine AA.beq (fun _ => AA.some trivial) (fun hc => ?_)
 simp only [len] at hc
 exact AA.bind (AA.ix (Int.le_refl _) (by omega)) fun _ _ => AA.some trivial
theorem V4 {x : AC × Int} (h : SK x.1) : AA (JZ x) fun r => True := by
 unfold JZ
 refine AA.bind (G6 h.1) fun v0 _ => ?_
 exact AA.bind Ts fun v1 _ => AA.some trivial
theorem Wg {x : AC × Int × BV} (h : SK x.1) (hl : Cl x.1.2.2.1) : AA (KZ x) fun r => KL x.1 r.1 ∧ (r.2.1 = 3 → r.2.2.2.1 = x.2.2.2.1 ∧ ¬ Xx x.1.2.2.2.1 x.2.2.2.1 ∧ r.1.2.2.2.1 = x.1.2.2.2.1) ∧ (r.2.1 = 2 ∨ r.2.1 = 3 → r.1.2.2.2.2.2.1 = x.1.2.2.2.2.2.1) := by
 unfold KZ
 have kr := KL.refl h hl
 refine AA.bind (RN h) fun v0 h0 => ?_
 refine AA.bne (fun _ => ?_) (fun hz => ?_)
 ·exact AA.bind Au fun v1 h1 => AA.some ⟨kr, fun hz => by dsimp only at hz; omega, fun _ => rfl⟩
 obtain ⟨hk, hh, hact⟩ := h0 hz
 have hx : x.2.1 ≠ 0 := by
  obtain ⟨j, t, hj, ht⟩ := hh
  have := (hk.2.2.2.2.2.1.2 j t hj).2.2
  omega
 refine AA.beq (fun _ => ?_) (fun c4 => ?_)
 ·exact AA.bind (Si h hl hh) fun v2 h2 => AA.some ⟨h2.1, fun hz => by have := h2.2; omega, fun hz => by have := h2.2; omega⟩
 refine AA.beq (fun _ => ?_) (fun c5 => ?_)
 ·refine AA.bind (M3 h hl hk.2.2.2.2.2.1 hx hh) fun v3 h3 => AA.some ?_
  have h32 := h3.2
  dsimp only at h32
  exact ⟨h3.1, fun hz => by omega, fun hz => by omega⟩
 refine AA.bind (P := fun b => b = true ↔ x.2.2.1 = 6 ∨ x.2.2.1 = 7) ?_ fun v4 h4 => ?_
 ·refine AA.beq (fun h6 => AA.some (by simp [h6])) (fun h6 => AA.some (by simp [h6]))
 refine AA.cond (fun _ => ?_) (fun c67 => ?_)
 ·refine AA.bind U4 fun v5 h5 => ?_
  refine AA.bind (P := fun v => v.2 = 0 → v.1.length ≤ 64) ?_ fun v7 h7 => ?_
  ·exact AA.cond (fun _ => AA.bind U3 fun v6 h6 => AA.some h6) (fun _ => AA.some h5)
  ·refine AA.bne (fun _ => ?_) (fun hz => AA.some ⟨⟨rfl, LX.refl _, ⟨h.1, ?_, h.2.2⟩, hl⟩, fun hz => absurd hz (by show (1 : Int) ≠ 3; decide), fun hz => absurd hz (by show ¬ ((1 : Int) = 2 ∨ (1 : Int) = 3); decide)⟩)
   ·exact AA.bind Au fun v8 h8 => AA.some ⟨kr, fun hz => by dsimp only at hz; omega, fun _ => rfl⟩
   ·have := h7 hz
    dsimp only
    omega
 have hcell : 0 ≤ x.2.2.2.2.1 ∧ x.2.2.2.2.1 < 16 := by
  have : ¬ (x.2.2.1 = 6 ∨ x.2.2.1 = 7) := fun h => by rw [h4.2 h] at c67; cases c67
  omega
 refine AA.bind Ni fun v9 _ => ?_
 refine AA.bind (Q7 h.1) fun v10 h10 => ?_
 refine AA.bne (fun _ => ?_) (fun _ => ?_)
 ·exact AA.bind Au fun v8 h8 => AA.some ⟨kr, fun hz => by dsimp only at hz; omega, fun _ => rfl⟩
 have hk2 := h.locks h10
 have tr : ∀ m, KL (x.1.1, (x.1.2.1, (x.1.2.2.1, (x.1.2.2.2.1, (v10.1, x.1.2.2.2.2.2))))) m → KL x.1 m := fun m hm => ⟨hm.1, hm.2.1, hm.2.2⟩
 refine AA.cond (fun _ => ?_) (fun _ => ?_)
 ·refine AA.bind (Sh hk2 hl hk.2.2.2.1 hcell) fun v12 h12 => ?_
  refine AA.beq (fun h5 => AA.some ⟨kr, fun hz => by dsimp only at hz; omega, fun _ => rfl⟩) (fun _ => AA.some ⟨tr _ h12.1, fun hz => ?_, fun hz => ?_⟩)
  ·obtain ⟨a, b, c⟩ := h12.2.2 hz
   exact ⟨a, b, by rw [c]⟩
  ·have h122 := h12.2.1
   obtain ⟨a, b, c⟩ := h12.2.2 (by omega)
   rw [c]
 ·refine AA.bind (Tl h10) fun v13 _ => ?_
  refine AA.dec (fun _ => ?_) (fun _ => ?_)
  ·refine AA.bind (M3 hk2 hl hk.2.2.2.2.2.1 hx hh) fun v14 h14 => ?_
   have h142 := h14.2
   dsimp only at h142
   exact AA.beq (fun h5 => AA.some ⟨kr, fun hz => by dsimp only at hz; omega, fun _ => rfl⟩) (fun _ => AA.some ⟨tr _ h14.1, fun hz => by omega, fun hz => by omega⟩)
  ·exact AA.bind (V4 hk2) fun v15 _ => AA.some ⟨⟨rfl, LX.refl _, hk2, hl⟩, fun hz => absurd hz (by show (2 : Int) ≠ 3; decide), fun _ => rfl⟩
end Go.Pm
namespace Go.Pm
open Go Go.Ab
set_option maxHeartbeats 400000
def RTx (l : List AJ) (id : Int) (t : AJ) : Prop := ∃ v, A9 (l, id) = some v ∧ 0 ≤ v ∧ l[v.toNat]? = some t ∧ t.1 = id
theorem RTx.uniq {l : List AJ} {id : Int} {t u : AJ} (h : RTx l id t) (g : RTx l id u) : u = t := by
 obtain ⟨v, h1, h2, h3, h4⟩ := h
 obtain ⟨w, g1, g2, g3, g4⟩ := g
 rw [h1] at g1
 cases g1
 rw [h3] at g3
 exact (Option.some.inj g3).symm
def NX (k : AC) (id : Int) (e : AE) : Prop := ∃ t lsn, RTx k.2.2.2.2.2.1 id t ∧ t.2.2.2.2.1[t.2.2.2.2.1.length - 1]? = some lsn ∧ k.2.2.1.2.1[(lsn - k.2.2.1.1).toNat]? = some e
theorem NX.uniq {k m : AC} {id : Int} {e f : AE} (h : NX k id e) (g : NX m id f) (ht : m.2.2.2.2.2.1 = k.2.2.2.2.2.1) (hl : LX k.2.2.1 m.2.2.1) : f = e := by
 obtain ⟨t, n, h1, h2, h3⟩ := h
 obtain ⟨u, w, g1, g2, g3⟩ := g
 rw [ht] at g1
 have := h1.uniq g1
 subst this
 rw [h2] at g2
 cases g2
 have := hl.get h3
 rw [hl.1] at g3
 rw [this] at g3
 exact (Option.some.inj g3).symm
theorem Et {x : AC × Int} (h : SK x.1) : AA (Ck x) fun r => r.2 = 0 → VK x.1 ∧ RTx x.1.2.2.2.2.2.1 x.2 r.1 ∧ r.1.2.2.2.2.1.length ≤ 4096 ∧ r.1.1 ≠ 0 := by
 unfold Ck
 refine AA.bind (A0 h) fun v hv => ?_
 refine AA.not (fun _ => AA.some fun hz => absurd hz (by decide)) (fun hc => ?_)
 have hk := hv hc
 refine AA.bind' (CM h.2.1) fun v1 e1 h1 => ?_
 refine AA.dec (fun _ => AA.some fun hz => absurd hz (by decide)) (fun hc1 => ?_)
 refine AA.bind (AA.ix (by omega) h1.2.1) fun v2 _ => ?_
 refine AA.beq (fun _ => AA.some fun hz => absurd hz (by decide)) (fun _ => ?_)
 refine AA.bind (AA.ix (by omega) h1.2.1) fun v3 h3 => ?_
 refine AA.some fun _ => ⟨hk, ⟨v1, e1, by omega, h3.1, ?_⟩, ?_, ?_⟩
 ·obtain ⟨t, ht, hid⟩ := h1.2.2 (by omega)
  have h31 := h3.1
  dsimp only at ht
  rw [ht] at h31
  rw [← Option.some.inj h31]; exact hid
 ·exact (hk.2.2.2.2.2.1.2 _ _ h3.1).1
 ·have := (hk.2.2.2.2.2.1.2 _ _ h3.1).2.2
  dsimp only
  omega
theorem U7 {x : AC × Int} (h : SK x.1) : AA (D7 x) fun r => r.2 = true → VK x.1 ∧ NX x.1 x.2 r.1 ∧ Py r.1 := by
 unfold D7
 refine AA.bind (Et h) fun v0 h0 => ?_
 refine AA.bne (fun _ => AA.some fun hz => by cases hz) (fun hz => ?_)
 obtain ⟨hk, hr, hl, _⟩ := h0 hz
 refine AA.beq (fun _ => AA.some fun hz => by cases hz) (fun hc => ?_)
 simp only [len] at hc
 have e := AI (x := len v0.1.2.2.2.2.1 - 1) (by simp only [len]; omega)
 rw [e]
 refine AA.bind (AA.ix (by simp only [len]; omega) (by simp only [len]; omega)) fun v1 _ => ?_
 refine AA.dec (fun _ => AA.some fun hz => by cases hz) (fun _ => ?_)
 refine AA.bind (AA.ix (by simp only [len]; omega) (by simp only [len]; omega)) fun v2 h2 => ?_
 refine AA.bind C3 fun v3 h3 => ?_
 refine AA.some fun hz => ?_
 have hz2 : v3.2 = 0 := by simpa using hz
 obtain ⟨g1, g2, g3, g4⟩ := h3.1 hz2
 refine ⟨hk, ⟨v0.1, v2, hr, ?_, g3⟩, g1⟩
 have h21 := h2.1
 have : (len v0.1.2.2.2.2.1 - 1).toNat = v0.1.2.2.2.2.1.length - 1 := by simp only [len]; omega
 rw [this] at h21
 exact h21
theorem Wh {x : AC × AJ × BQ × Int} (h : x.2.1.2.2.2.2.1.length ≤ 16777216) (h1 : 0 ≤ x.2.2.2 ∧ x.2.2.2 ≤ x.2.1.2.2.2.2.1.length) : AA (Ka x) fun r => r.2 = true → Py r.1 ∧ r.1.2.2.2.2.2.2.1.1 = x.2.2.1.1 := by
 unfold Ka
 have e := AI (x := x.2.2.2 - 1) (by omega)
 rw [e]
 refine AA.bind (P := fun r => ∀ u, r = .inl u → u.1 = true → Py u.2 ∧ u.2.2.2.2.2.2.2.1.1 = x.2.2.1.1) ?_ fun r hr => AA.sum (fun u hu => AA.some (hr u hu)) (fun _ _ => AA.some fun hz => by cases hz)
 refine AA.loop (fun (s : Int × AE) => -1 ≤ s.1 ∧ s.1 < x.2.1.2.2.2.2.1.length) (fun (s : Int × AE) => (s.1 + 1).toNat) ⟨by dsimp only; omega, by dsimp only; omega⟩ (fun s hI => ?_)
 unfold OE
 have e2 := AI (x := s.1 - 1) (by omega)
 rw [e2]
 refine AA.dec (fun hc => ?_) (fun _ => AA.some fun u hu => by cases hu)
 have nx : ((-1 ≤ s.1 - 1 ∧ s.1 - 1 < x.2.1.2.2.2.2.1.length) ∧ (s.1 - 1 + 1).toNat < (s.1 + 1).toNat) := ⟨by omega, by omega⟩
 refine AA.bind (AA.ix (by omega) hI.2) fun v1 _ => ?_
 refine AA.bind C3 fun v2 h2 => ?_
 refine AA.beq (fun hz => ?_) (fun _ => AA.some nx)
 refine AA.beq (fun hp => ?_) (fun _ => AA.some nx)
 refine AA.beq (fun _ => AA.some fun u hu _ => ?_) (fun _ => AA.some nx)
 cases hu
 exact ⟨(h2.1 hz).1, hp⟩
theorem MB {x : AC × Int × BQ} (h : SK x.1) : AA (EU x) fun r => r.2 = true → VK x.1 ∧ Py r.1 ∧ r.1.2.2.2.2.2.2.1.1 = x.2.2.1 := by
 unfold EU
 refine AA.bind (Et h) fun v0 h0 => ?_
 refine AA.bne (fun _ => AA.some fun hz => by cases hz) (fun hz => ?_)
 obtain ⟨hk, hr, hl, _⟩ := h0 hz
 refine AA.bne (fun _ => AA.some fun hz => by cases hz) (fun _ => ?_)
 refine AA.bind (Wh (by dsimp only; omega) ⟨by simp only [len]; omega, by simp only [len]; omega⟩) fun v1 h1 => AA.some fun hz => ?_
 exact ⟨hk, h1 hz⟩
theorem Q5 {x : B6} : AA (Fe x) fun r => r = (x.1, (x.2.1, (x.2.2.2, x.2.2.1))) := by
 unfold Fe
 exact AA.some rfl
theorem Nk {x : AC × AJ × AE} (h : SK x.1) (hl : Cl x.1.2.2.1) (hp : Ml x.1.2.2.2.1) (he : Py x.2.2) (hx : x.2.1.1 ≠ 0) : AA (DM x) fun r => KL x.1 r.1 ∧ (r.2.1 = 3 → r.2.2.2.1 = x.2.2.2.2.2.2.2.2.1.1 ∧ ¬ Xx x.1.2.2.2.1 x.2.2.2.2.2.2.2.2.1.1 ∧ r.1 = x.1) ∧ (r.2.1 ≠ 3 → r.2.1 ≠ 5 → r.2.2.1 ≠ 0 ∧ TP r.1.2.2.2.2.2.1 < TP x.1.2.2.2.2.2.1) ∧ (r.2.1 = 5 → r.2.2.2.2.2 ≠ 0) := by
 unfold DM
 have kr := KL.refl h hl
 refine AA.bind E1 fun v0 h0 => ?_
 refine AA.not (fun hc => AA.some ⟨kr, fun _ => ⟨rfl, h0.2 hc hp, rfl⟩, fun hz => absurd rfl hz, fun hz => absurd hz (by show (3 : Int) ≠ 5; decide)⟩) (fun _ => ?_)
 refine AA.bind Q5 fun v1 h1 => ?_
 subst h1
 refine AA.bind My fun v2 _ => ?_
 refine AA.bne (fun hc => ?_) (fun _ => ?_)
 ·exact AA.bind WC fun v3 h3 => AA.some ⟨kr, fun hz => by dsimp only at hz; omega, fun _ hz => absurd h3.1 hz, fun _ => by dsimp only; rw [h3.2]; exact hc⟩
 refine AA.bind (OD h hl he.cell) fun v4 h4 => ?_
 refine AA.bne (fun hc => ?_) (fun hz => ?_)
 ·exact AA.bind WC fun v3 h3 => AA.some ⟨kr, fun hz => by dsimp only at hz; omega, fun _ hz => absurd h3.1 hz, fun _ => by dsimp only; rw [h3.2]; exact hc⟩
 have hq := (h4.2 hz).2.2.1 hx (by show (2 : Int) ≠ 1; decide)
 have hlt := hq.1 (by show (2 : Int) ≠ 4; decide)
 have h5 : KL x.1 v4.1 := h4.1
 refine AA.bind (P := fun k => KL x.1 k ∧ k.2.2.2.2.2.1 = v4.1.2.2.2.2.2.1) ?_ fun v9 h9 => AA.some ⟨h9.1, fun hz => absurd hz (by show (1 : Int) ≠ 3; decide), fun _ _ => ⟨hx, by rw [h9.2]; exact hlt⟩, fun hz => absurd hz (by show (1 : Int) ≠ 5; decide)⟩
 refine AA.cond (fun _ => ?_) (fun _ => AA.some ⟨h5, rfl⟩)
 refine AA.bind (MB h5.2.2.1) fun v6 _ => ?_
 refine AA.bind (P := fun k => KL x.1 k ∧ k.2.2.2.2.2.1 = v4.1.2.2.2.2.2.1) ?_ fun v8 h8 => AA.some h8
 refine AA.not (fun _ => ?_) (fun _ => AA.some ⟨h5, rfl⟩)
 exact AA.bind (Nd h5.2.2.1.1) fun v7 h7 => AA.some ⟨⟨h5.1, h5.2.1, h5.2.2.1.locks h7, h5.2.2.2⟩, rfl⟩
theorem Nj {x : AC × Int} (h : SK x.1) (hl : Cl x.1.2.2.1) : AA (FV x) fun r => KL x.1 r.1 ∧ (r.2.1 = 3 → ∃ e, NX x.1 x.2 e ∧ r.2.2.2.1 = e.2.2.2.2.2.2.1.1 ∧ ¬ Xx x.1.2.2.2.1 e.2.2.2.2.2.2.1.1) ∧ (r.2.1 ≠ 3 → r.2.1 ≠ 5 → TP r.1.2.2.2.2.2.1 < TP x.1.2.2.2.2.2.1) ∧ (r.2.1 = 5 → r.2.2.2.2.2 ≠ 0) := by
 unfold FV
 have kr := KL.refl h hl
 refine AA.bind (Et h) fun v0 h0 => ?_
 refine AA.bne (fun hc => ?_) (fun hz => ?_)
 ·exact AA.bind WC fun v3 h3 => AA.some ⟨kr, fun hz => by dsimp only at hz; omega, fun _ hz => absurd h3.1 hz, fun _ => by dsimp only; rw [h3.2]; first | exact hc | decide⟩
 obtain ⟨hk, hr, hlen, hx⟩ := h0 hz
 have hx2 : x.2 ≠ 0 := by obtain ⟨v, _, _, _, hid⟩ := hr; rw [← hid]; exact hx
 have nxt : AA (Option.bind (D7 x) fun v5 =>
  bif (!v5.2) then
   Option.bind (Aa 14) fun v6 =>
   some (x.1, v6)
  else
  Option.bind (DM (x.1, (v0.1, v5.1))) fun v7 =>
  some v7) fun r => KL x.1 r.1 ∧ (r.2.1 = 3 → ∃ e, NX x.1 x.2 e ∧ r.2.2.2.1 = e.2.2.2.2.2.2.1.1 ∧ ¬ Xx x.1.2.2.2.1 e.2.2.2.2.2.2.1.1) ∧ (r.2.1 ≠ 3 → r.2.1 ≠ 5 → TP r.1.2.2.2.2.2.1 < TP x.1.2.2.2.2.2.1) ∧ (r.2.1 = 5 → r.2.2.2.2.2 ≠ 0) := by
  refine AA.bind (U7 h) fun v5 h5 => ?_
  refine AA.not (fun _ => ?_) (fun hc => ?_)
  ·exact AA.bind WC fun v3 h3 => AA.some ⟨kr, fun hz => by dsimp only at hz; omega, fun _ hz => absurd h3.1 hz, fun _ => by dsimp only; rw [h3.2]; first | exact hc | decide⟩
  ·obtain ⟨_, hn, he⟩ := h5 hc
   refine AA.bind (Nk h hl hk.2.2.2.1 he hx) fun v7 h7 => AA.some ⟨h7.1, fun hz => ?_, fun a b => (h7.2.2.1 a b).2, h7.2.2.2⟩
   obtain ⟨a, b, _⟩ := h7.2.1 hz
   exact ⟨_, hn, a, b⟩
 refine AA.beq (fun _ => ?_) (fun _ => nxt)
 refine AA.beq (fun _ => ?_) (fun _ => nxt)
 refine AA.bind (C4 h) fun v2 h2 => ?_
 refine AA.bne (fun hc => ?_) (fun hz => ?_)
 ·exact AA.bind WC fun v3 h3 => AA.some ⟨kr, fun hz => by dsimp only at hz; omega, fun _ hz => absurd h3.1 hz, fun _ => by dsimp only; rw [h3.2]; first | exact hc | decide⟩
 have ha := (h2 hz).2
 have hq := (ha.2.2.2.2.2.1.2.2.1 hx2 (by show (5 : Int) ≠ 1; decide)).1 (by show (5 : Int) ≠ 4; decide)
 have hkl := ha.kl
 exact AA.bind (HY hkl.2.2.1.1) fun v4 h4 => AA.some ⟨⟨hkl.1, hkl.2.1, hkl.2.2.1.locks h4, hkl.2.2.2⟩, fun hz => absurd hz (by show (1 : Int) ≠ 3; decide), fun _ _ => hq, fun hz => absurd hz (by show (1 : Int) ≠ 5; decide)⟩
theorem U6 {x : AC × Int × BQ} (h : SK x.1) (hl : Cl x.1.2.2.1) : AA (IC x) fun r => KL x.1 r.1 ∧ (r.2.1 = 3 → r.2.2.2.1 = x.2.2.1 ∧ ¬ Xx x.1.2.2.2.1 x.2.2.1 ∧ r.1 = x.1) ∧ (r.2.1 ≠ 3 → r.2.1 ≠ 5 → r.2.2.1 ≠ 0 → TP r.1.2.2.2.2.2.1 < TP x.1.2.2.2.2.2.1) := by
 unfold IC
 have kr := KL.refl h hl
 refine AA.bind (Et h) fun v0 h0 => ?_
 refine AA.bne (fun _ => ?_) (fun hz => ?_)
 ·exact AA.bind Au fun v3 h3 => AA.some ⟨kr, fun hz => by dsimp only at hz; omega, fun _ hz => absurd h3 hz⟩
 obtain ⟨hk, hr, hlen, hx⟩ := h0 hz
 refine AA.bne (fun _ => ?_) (fun _ => ?_)
 ·exact AA.bind Au fun v3 h3 => AA.some ⟨kr, fun hz => by dsimp only at hz; omega, fun _ hz => absurd h3 hz⟩
 refine AA.bind (MB h) fun v3 h3 => ?_
 refine AA.not (fun _ => AA.some ⟨kr, fun hz => absurd hz (by show (1 : Int) ≠ 3; decide), fun _ _ hz => absurd rfl hz⟩) (fun hc => ?_)
 obtain ⟨_, he, hpg⟩ := h3 hc
 refine AA.bind (Nk h hl hk.2.2.2.1 he hx) fun v7 h7 => AA.some ⟨h7.1, fun hz => ?_, fun a b _ => (h7.2.2.1 a b).2⟩
 have := h7.2.1 hz
 dsimp only at this
 rw [hpg] at this
 exact this
theorem Lf {x : AB × Int} (h : SK x.1.1) : AA (CC x) fun r => True := by
 unfold CC
 refine AA.bind (CM h.2.1) fun v0 h0 => ?_
 refine AA.dec (fun hc => ?_) (fun _ => AA.some trivial)
 exact AA.bind (AA.ix hc h0.2.1) fun _ _ => AA.some trivial
end Go.Pm
namespace Go.Pm
open Go Go.Ab
set_option maxHeartbeats 400000
def SR (x s : AB) : Prop := KL x.1 s.1 ∧ DI s.2
theorem SR.trans {a b c : AB} (h : SR a b) (g : SR b c) : SR a c := ⟨h.1.trans g.1, g.2⟩
theorem SvR.sr {a b : AB} (h : SvR a b) : SR a b := ⟨h.1.kl, h.2⟩
open Classical in
noncomputable def flag (p : Prop) : Nat := if p then 1 else 0
theorem ec (p : Prop) : flag p ≤ 1 := by unfold flag; split <;> omega
theorem bz {p : Prop} (h : p) : flag p = 1 := by unfold flag; rw [if_pos h]
theorem bx {p : Prop} (h : ¬ p) : flag p = 0 := by unfold flag; rw [if_neg h]
theorem Qg {x : AB × Int} (h : SK x.1.1) (hl : Cl x.1.1.2.2.1) (hd : DI x.1.2) : AA (CP x) fun r => r.2 = 0 → SR x.1 r.1 := by
 unfold CP
 refine AA.bind (A0 h) fun v hv => ?_
 refine AA.not (fun _ => AA.some fun hz => absurd hz (by decide)) (fun hc => ?_)
 refine AA.bind (CM h.2.1) fun v1 _ => ?_
 refine AA.dec (fun _ => AA.some fun hz => absurd hz (by decide)) (fun _ => ?_)
 refine AA.bind (P := fun r => (∀ u, r = .inl u → u.1 ≠ 0) ∧ ∀ u, r = .inr u → SR x.1 u.1) ?_ fun r hr => AA.sum (fun u hu => AA.some fun hz => absurd hz (hr.1 u hu)) (fun u hu => AA.some fun _ => hr.2 u hu)
 refine AA.loop (fun (s : AB × AB) => SR x.1 s.1) (fun (s : AB × AB) => 2 * TP s.1.1.2.2.2.2.2.1 + flag (∃ e, NX s.1.1 x.2 e ∧ ¬ Xx s.1.1.2.2.2.1 e.2.2.2.2.2.2.1.1)) ⟨KL.refl h hl, hd⟩ (fun s hI => ?_)
 unfold K6
 have hk := hI.1.2.2
 refine AA.bind (Lf hk.1) fun v3 _ => ?_
 refine AA.cond (fun _ => ?_) (fun _ => AA.some ⟨fun u hu => (by cases hu), fun u hu => (by cases hu; exact hI)⟩)
 refine AA.bind (Nj hk.1 hk.2) fun v4 h4 => ?_
 obtain ⟨k1, k2, k3, k4⟩ := h4
 refine AA.beq (fun h5 => ?_) (fun h5 => ?_)
 ·refine AA.some ⟨fun u hu => ?_, fun u hu => (by cases hu)⟩
  cases hu
  exact k4 h5
 refine AA.bind (P := fun r => (∃ u, r = .inl u ∧ u.1 ≠ 0) ∨ ∃ u, r = .inr u ∧ SR s.1 u.1 ∧ 2 * TP u.1.1.2.2.2.2.2.1 + flag (∃ e, NX u.1.1 x.2 e ∧ ¬ Xx u.1.1.2.2.2.1 e.2.2.2.2.2.2.1.1) < 2 * TP s.1.1.2.2.2.2.2.1 + flag (∃ e, NX s.1.1 x.2 e ∧ ¬ Xx s.1.1.2.2.2.1 e.2.2.2.2.2.2.1.1)) ?_ fun r hr => ?_
 ·refine AA.beq (fun c3 => ?_) (fun c3 => ?_)
  ·obtain ⟨e, e1, e2, e3⟩ := k2 c3
   refine AA.bind (D8 hk.1 hI.2) fun v5 h5 => ?_
   refine AA.bne (fun hc => AA.some (.inl ⟨_, rfl, hc⟩)) (fun hz => AA.some (.inr ⟨_, rfl, (h5 hz).1.sr, ?_⟩))
   obtain ⟨f1, f2⟩ := h5 hz
   have t1 := f1.1.2.2.2.2.1
   rw [bz (⟨e, e1, e3⟩ : ∃ e, NX s.1.1 x.2 e ∧ ¬ Xx s.1.1.2.2.2.1 e.2.2.2.2.2.2.1.1), bx, t1]
   ·dsimp only; omega
   ·rintro ⟨f, g1, g2⟩
    have := e1.uniq g1 t1 f1.1.2.1
    subst this
    dsimp only at f2
    rw [e2] at f2
    exact g2 f2
  ·refine AA.some (.inr ⟨_, rfl, ⟨k1, hI.2⟩, ?_⟩)
   have := k3 c3 h5
   have f := ec (∃ e, NX v4.1 x.2 e ∧ ¬ Xx v4.1.2.2.2.1 e.2.2.2.2.2.2.1.1)
   dsimp only at *
   omega
 ·rcases hr with ⟨u, rfl, hu⟩ | ⟨u, rfl, hu⟩
  ·refine AA.inl (AA.some ⟨fun w hw => ?_, fun w hw => (by cases hw)⟩)
   cases hw
   exact hu
  ·exact AA.inr (AA.some ⟨hI.trans hu.1, hu.2⟩)
theorem Wj {x : AB × Int × BV} (h : SK x.1.1) (hl : Cl x.1.1.2.2.1) (hd : DI x.1.2) : AA (Kc x) fun r => SR x.1 r.1 ∧ (r.2.1 = 2 → r.1.1.2.2.2.2.2.1 = x.1.1.2.2.2.2.2.1) := by
 unfold Kc
 refine AA.bind (P := fun r => SR x.1 r.1 ∧ (r.2.1 = 2 → r.1.1.2.2.2.2.2.1 = x.1.1.2.2.2.2.2.1)) ?_ fun r hr => AA.some hr
 refine AA.loop (fun (s : AB × AB × Aj) => SR x.1 s.1 ∧ s.1.1.2.2.2.2.2.1 = x.1.1.2.2.2.2.2.1) (fun (s : AB × AB × Aj) => flag (¬ Xx s.1.1.2.2.2.1 x.2.2.2.1)) ⟨⟨KL.refl h hl, hd⟩, rfl⟩ (fun s hI => ?_)
 obtain ⟨hI, hT⟩ := hI
 have hk := hI.1.2.2
 unfold OH
 refine AA.bind (Wg hk.1 hk.2) fun v1 h1 => ?_
 obtain ⟨k1, k2, k3⟩ := h1
 have i1 : SR x.1 (v1.1, s.1.2) := ⟨hI.1.trans k1, hI.2⟩
 have hk1 := k1.2.2
 refine AA.beq (fun c3 => ?_) (fun c3 => ?_)
 ·obtain ⟨a, b, c⟩ := k2 c3
  have d := k3 (.inr c3)
  refine AA.bind (D8 hk1.1 hI.2) fun v2 h2 => ?_
  refine AA.bne (fun _ => ?_) (fun hz => AA.some ?_)
  ·refine AA.bind Au fun v3 h3 => AA.some ⟨i1, fun _ => ?_⟩
   dsimp only at *
   rw [d, hT]
  ·obtain ⟨f1, f2⟩ := h2 hz
   refine ⟨⟨i1.trans f1.sr, ?_⟩, ?_⟩
   ·have := f1.1.2.2.2.2.1
    dsimp only at *
    rw [this, d, hT]
   ·dsimp only at *
    rw [bz b, bx]
    ·omega
    ·intro hn
     rw [a] at f2
     exact hn f2
 have fin : ∀ (Q : Step (AB × (AB × Aj)) (AB × Aj) → Prop), (∀ r : AB × Aj, SR x.1 r.1 ∧ (r.2.1 = 2 → r.1.1.2.2.2.2.2.1 = x.1.1.2.2.2.2.2.1) → Q (.done r)) → ∀ c : Int, c ≠ 2 → v1.2.1 = c → AA (Option.bind (CC ((v1.1, s.1.2), x.2.1)) fun v4 =>
  Option.bind ((
    bif v4 then
     Option.bind (CP ((v1.1, s.1.2), x.2.1)) fun v5 =>
     bif (v5.2 != 0) then
      Option.bind (Aa v5.2) fun v6 =>
      some (.inl ((v1.1, s.1.2), v6))
     else
     some (.inr (v5.1, s.2))
    else
    some (.inr ((v1.1, s.1.2), s.2))) : (Option ((AB × Aj) ⊕ (AB × (AB × Aj))))) fun v7 =>
  Sum.elim (fun u8 =>
   some (Step.done u8))
  (fun u9 =>
   some (.done (u9.1, v1.2))) v7) Q := by
  intro Q hQ c hc hc1
  refine AA.bind (Lf hk1.1) fun v4 _ => ?_
  refine AA.bind (P := fun r => (∃ u, r = .inl u ∧ SR x.1 u.1 ∧ u.2.1 = 5) ∨ ∃ u, r = .inr u ∧ SR x.1 u.1) ?_ fun r hr => ?_
  ·refine AA.cond (fun _ => ?_) (fun _ => AA.some (.inr ⟨_, rfl, i1⟩))
   refine AA.bind (Qg hk1.1 hk1.2 hI.2) fun v5 h5 => ?_
   refine AA.bne (fun _ => ?_) (fun hz => AA.some (.inr ⟨_, rfl, i1.trans (h5 hz)⟩))
   exact AA.bind Au fun v6 h6 => AA.some (.inl ⟨_, rfl, i1, h6⟩)
  ·rcases hr with ⟨u, rfl, hu⟩ | ⟨u, rfl, hu⟩
   ·exact AA.inl (AA.some (hQ _ ⟨hu.1, fun hz => by have := hu.2; omega⟩))
   ·exact AA.inr (AA.some (hQ _ ⟨hu, fun hz => by dsimp only at hz; omega⟩))
 have plain : SR x.1 (v1.1, s.1.2) ∧ (v1.2.1 = 2 → v1.1.2.2.2.2.2.1 = x.1.1.2.2.2.2.2.1) := ⟨i1, fun hz => by rw [k3 (.inl hz), hT]⟩
 refine AA.beq (fun c4 => fin _ (fun r hr => hr) 4 (by decide) c4) (fun _ => ?_)
 refine AA.beq (fun c1 => ?_) (fun _ => AA.some plain)
 refine AA.beq (fun _ => fin _ (fun r hr => hr) 1 (by decide) c1) (fun _ => ?_)
 exact AA.beq (fun _ => fin _ (fun r hr => hr) 1 (by decide) c1) (fun _ => AA.some plain)
theorem Tq {x : AC} (h : SK x) (hl : Cl x.2.2.1) : AA (HE x) fun r => r.2.2 = 0 → KL x r.1 := by
 unfold HE
 refine AA.bind (A0 h) fun v hv => ?_
 refine AA.not (fun _ => AA.some fun hz => absurd hz (by decide)) (fun hc => ?_)
 refine AA.dec (fun _ => AA.some fun hz => absurd hz (by decide)) (fun _ => ?_)
 refine AA.bind M2 fun v1 h1 => ?_
 refine AA.bne (fun hc => AA.some fun hz => absurd hz hc) (fun hz => AA.some fun _ => ⟨rfl, LX.refl _, ⟨h.1, ?_, h.2.2⟩, hl⟩)
 have := (h1 hz).2
 dsimp only
 omega
theorem T1 {x : AB} (h : SK x.1) (hl : Cl x.1.2.2.1) (hd : DI x.2) : AA (HO x) fun r => r.2.2 = 0 → SR x r.1 := by
 unfold HO
 refine AA.bind (Tq h hl) fun v0 h0 => ?_
 exact AA.bne (fun hc => AA.some fun hz => absurd hz hc) (fun hz => AA.some fun _ => ⟨h0 hz, hd⟩)
theorem Tr {x : AC × Int} (h : SK x.1) (hl : Cl x.1.2.2.1) : AA (HF x) fun r => r.2.2 = 0 → KL x.1 r.1 ∧ Ml x.1.2.2.2.1 ∧ Xx x.1.2.2.2.1 x.2 := by
 unfold HF
 refine AA.bind (A0 h) fun v hv => ?_
 refine AA.not (fun _ => AA.some fun hz => absurd hz (by decide)) (fun hc => ?_)
 refine AA.bind E1 fun v1 h1 => ?_
 refine AA.not (fun _ => AA.some fun hz => absurd hz (by decide)) (fun hc1 => ?_)
 obtain ⟨a, b, c, d⟩ := h1.1 hc1
 exact AA.bind (Fk h hl) fun v2 h2 => AA.some fun _ => ⟨h2.1.kl, a, c⟩
theorem T4 {x : AB × Int} (h : SK x.1.1) (hl : Cl x.1.1.2.2.1) (hd : DI x.1.2) : AA (HQ x) fun r => r.2 = 0 → SR x.1 r.1 := by
 unfold HQ
 refine AA.bind (Tr h hl) fun v0 h0 => ?_
 refine AA.bne (fun hc => AA.some fun hz => absurd hz hc) (fun hz => ?_)
 obtain ⟨a, b, c⟩ := h0 hz
 refine AA.bind Ct fun v1 h1 => ?_
 refine AA.bind (AA.ix (h1.2.2.2 b c) h1.2.1) fun v2 _ => ?_
 refine AA.not (fun _ => AA.some fun _ => ⟨KL.refl h hl, hd⟩) (fun _ => ?_)
 exact AA.bind (M6 a.2.2.1 hd) fun v3 h3 => AA.some fun hz => ⟨a.trans (h3 hz).1.kl, (h3 hz).2.1⟩
end Go.Pm
namespace Go.Pm
open Go Go.Ab
set_option maxHeartbeats 400000
theorem Tn {x : Ao} : AA (G8 x) fun r => r.length ≤ 64 := by
 unfold G8
 refine AA.bind CA fun v hv => ?_
 refine AA.not (fun _ => AA.some (by simp)) (fun hc => ?_)
 have p2 := (hv.1 hc).2.1
 have p3 := (hv.1 hc).2.2.1
 refine AA.bind (P := fun r => r.length ≤ 64) ?_ fun r hr => AA.some hr
 refine AA.loop (fun (s : Int × List AO) => 0 ≤ s.1 ∧ s.1 ≤ 64 ∧ s.2.length ≤ s.1) (fun (s : Int × List AO) => (64 - s.1).toNat) ⟨Int.le_refl _, by dsimp only; decide, by simp⟩ (fun s hI => ?_)
 obtain ⟨h1, h2, h3⟩ := hI
 unfold L8
 have e := AI (x := s.1 + 1) (by omega)
 rw [e]
 refine AA.dec (fun hc => ?_) (fun _ => AA.some (by omega))
 refine AA.bind (Da (by dsimp only; omega)) fun v2 hv2 => ?_
 refine AA.dec (fun hc => ?_) (fun _ => AA.some ⟨⟨by dsimp only; omega, by dsimp only; omega, by dsimp only; omega⟩, by dsimp only; omega⟩)
 refine AA.bind (AA.ix hc hv2.2.1) fun v3 _ => ?_
 refine AA.bind (P := fun l => l.length ≤ s.2.length + 1) ?_ fun v7 h7 => AA.some ⟨⟨by dsimp only; omega, by dsimp only; omega, by dsimp only; omega⟩, by dsimp only; omega⟩
 refine AA.cond (fun _ => ?_) (fun _ => AA.some (by omega))
 refine AA.bind (AA.ix hc hv2.2.1) fun _ _ => ?_
 refine AA.bind (AA.ix hc hv2.2.1) fun _ _ => ?_
 refine AA.bind (AA.app (by simp; omega)) fun v6 h6 => AA.some ?_
 have := h6.2.1
 simp at this
 omega
theorem Wi {x : AC} (h : SK x) : AA (Kb x) fun r => r.2 = 0 → r.1.2.2.2.1.length ≤ 16777216 := by
 unfold Kb
 refine AA.bind (A0 h) fun v hv => ?_
 refine AA.not (fun _ => AA.some fun hz => absurd hz (by decide)) (fun hc => ?_)
 have hk := hv hc
 have hk2 := hk.2.1
 refine AA.bind (P := fun r => r.1.length ≤ 16777216) ?_ fun r hr => AA.some fun _ => hr
 refine AA.loop (fun (s : Int × (List AO) × Int × Int × (List AJ) × Av) => 0 ≤ s.1 ∧ s.1 ≤ x.1 ∧ s.2.1.length ≤ 65 * s.1) (fun (s : Int × (List AO) × Int × Int × (List AJ) × Av) => (x.1 - s.1).toNat) ⟨Int.le_refl _, by have := hk.1; dsimp only; omega, by simp⟩ (fun s hI => ?_)
 obtain ⟨h1, h2, h3⟩ := hI
 unfold OF
 have e := AI (x := s.1 + 1) (by omega)
 rw [e]
 refine AA.dec (fun hc => ?_) (fun _ => AA.some (by omega))
 refine AA.bind (Fl h) fun v2 _ => ?_
 refine AA.bind (P := fun l => l.1.length ≤ s.2.1.length + 1) ?_ fun v4 h4 => ?_
 ·refine AA.cond (fun _ => ?_) (fun _ => AA.some (by omega))
  refine AA.bind (AA.app (by simp; omega)) fun v6 h6 => AA.some ?_
  have := h6.2.1
  simp at this
  dsimp only
  omega
 refine AA.bind Tn fun v5 h5 => ?_
 refine AA.bind (P := fun l => l.1.length ≤ s.2.1.length + 65) ?_ fun v10 h10 => AA.some ⟨⟨by dsimp only; omega, by dsimp only; omega, by dsimp only; omega⟩, by dsimp only; omega⟩
 refine AA.loop (fun (t : Int × (List AO) × Int × Int × (List AJ) × Av) => 0 ≤ t.1 ∧ t.1 ≤ v5.length ∧ t.2.1.length ≤ s.2.1.length + 1 + t.1) (fun (t : Int × (List AO) × Int × Int × (List AJ) × Av) => ((v5.length : Int) - t.1).toNat) ⟨Int.le_refl _, by dsimp only; omega, by dsimp only; omega⟩ (fun t hJ => ?_)
 obtain ⟨j1, j2, j3⟩ := hJ
 unfold OG
 have e2 := AI (x := t.1 + 1) (by omega)
 rw [e2]
 refine AA.dec (fun hc => ?_) (fun _ => AA.some (by omega))
 simp only [len] at hc
 refine AA.bind (AA.ix j1 hc) fun v7 _ => ?_
 refine AA.bind (P := fun l => l.1.length ≤ t.2.1.length + 1) ?_ fun v9 h9 => AA.some ⟨⟨by dsimp only; omega, by dsimp only; omega, by dsimp only; omega⟩, by dsimp only; omega⟩
 refine AA.cond (fun _ => ?_) (fun _ => AA.some (by omega))
 refine AA.bind (AA.app (by simp; omega)) fun v6 h6 => AA.some ?_
 have := h6.2.1
 simp at this
 dsimp only
 omega
theorem cN {x : AZ × Int} (h : Cl x.1) (h1 : x.2 ≤ x.1.1 + x.1.2.1.length - 1) : AA (Bg x) fun r => r.2 = 0 := by
 unfold Bg
 refine AA.bind A4 fun v hv => ?_
 refine AA.not (fun hc => ?_) (fun _ => ?_)
 ·rw [hv.2 h] at hc; cases hc
 refine AA.bind CH fun v1 h2 => ?_
 rw [h.last] at h2
 exact AA.dec (fun hc => absurd hc (by omega)) (fun _ => AA.some rfl)
theorem iE {x : AC × AE} (h : SK x.1) : AA (Bl x) fun r => r.2.2 = 0 → r.2.1 = r.1.2.2.1.1 + r.1.2.2.1.2.1.length - 1 := by
 unfold Bl
 refine AA.bind (A0 h) fun v hv => ?_
 refine AA.not (fun hc => AA.some (fun hz => absurd hz (by decide))) (fun hc => ?_)
 have hk := hv hc
 refine AA.bind (P := fun s => (∃ u, s = .inl u ∧ u.2.1 ≠ 0) ∨ ∃ u, s = .inr u ∧ True) ?_ fun s hs => ?_
 ·repeat' with_reducible first | refine AA.dec (fun hc => ?_) (fun hc => ?_) | refine AA.not (fun hc => ?_) (fun hc => ?_) | refine AA.bne (fun hc => ?_) (fun hc => ?_) | refine AA.cond (fun hc => ?_) (fun hc => ?_) | (refine AA.bsome ?_; try dsimp only) | refine AA.bcond ?_ | refine AA.bbind ?_ | refine AA.bsum ?_ | (refine AA.inl ?_; try dsimp only) | (refine AA.inr ?_; try dsimp only) | (refine AA.sum ?_ ?_ <;> (intro u hu; try subst hu)) | refine AA.some ?_ | (refine AA.bind (CM ?_) ?_; rotate_left 1; intro r hr) | (refine AA.bind (AA.ix ?_ ?_) ?_; rotate_left 2; rintro r ⟨hr, hm⟩)
  all_goals ((try dsimp only [len] at *); (try first | omega | assumption | grind [AI, SK]))
 ·rcases hs with ⟨u, rfl, hu⟩ | ⟨u, rfl, hu⟩
  ·exact AA.inl (AA.some fun hz => absurd hz hu)
  ·refine AA.inr ?_
   refine AA.bind (BY) fun v6 h6 => ?_
   refine AA.bind (P := fun v : AE => True) ?_ fun v8 h8 => ?_
   ·exact AA.cond (fun _ => AA.bind (ET h) fun _ _ => AA.some trivial) (fun _ => AA.some trivial)
   ·refine AA.bind (L6) fun v9 h9 => ?_
    refine AA.bne (fun hc => AA.some (fun hz => absurd hz hc)) (fun hc => ?_)
    obtain ⟨a1, a2, a3, a4, a5⟩ := h9 hc
    refine AA.bind (C3) fun v10 h10 => ?_
    refine AA.bind (Ng) fun v11 h11 => ?_
    refine AA.bne (fun hc => AA.some (fun hz => absurd hz hc)) (fun hc11 => ?_)
    refine AA.bind (KY) fun v12 h12 => ?_
    refine AA.bne (fun hc => AA.some (fun hz => absurd hz hc)) (fun hc12 => ?_)
    refine AA.some fun _ => ?_
    have hl : v9.1.2.1.length = x.1.2.2.1.2.1.length + 1 := by rw [a3]; simp
    dsimp only at *
    omega
theorem U8 {x : AC} (h : SK x) : AA (ID x) fun r => r.2.2 = 0 → KL x r.1 := by
 unfold ID
 refine AA.bind (Wi h) fun v0 h0 => ?_
 refine AA.bne (fun hc => AA.some fun hz => absurd hz hc) (fun hz => ?_)
 refine AA.bind (Sk (h0 hz)) fun v1 _ => ?_
 refine AA.dec (fun _ => AA.some fun hz => absurd hz (by decide)) (fun _ => ?_)
 refine AA.bind ((C4 h).and (iE h)) fun v2 h2 => ?_
 refine AA.bne (fun hc => AA.some fun hz => absurd hz hc) (fun hz => ?_)
 have ha := (h2.1 hz).2.kl
 have hb := h2.2 hz
 refine AA.bind (Ff.and (cN ha.2.2.2 (by dsimp only; omega))) fun v3 h3 => AA.some fun _ => ?_
 obtain ⟨w1, w2, w3⟩ := h3.1 h3.2
 exact ⟨ha.1, ha.2.1.trans (LX.of w3 w2), ha.2.2.1, w1⟩
theorem O9 {x : AB} (h : SK x.1) (hd : DI x.2) : AA (EW x) fun r => r.2.2 = 0 → SR x r.1 := by
 unfold EW
 refine AA.bind (U8 h) fun v0 h0 => ?_
 exact AA.bne (fun hc => AA.some fun hz => absurd hz hc) (fun hz => AA.some fun _ => ⟨h0 hz, hd⟩)
end Go.Pm
namespace Go.Pm
open Go Go.Ab
set_option maxHeartbeats 400000
theorem Sj {x : BF} (h : x.length ≤ 1099511627776) : AA (GR x) fun r => r.2 = 0 → Zl r.1 ∧ r.1.2.2.2.1.length ≤ 65536 := by
 unfold GR
 refine AA.bind (A7 h) fun v0 _ => ?_
 refine AA.bind (A7 h) fun v1 _ => ?_
 refine AA.bind (A7 h) fun v2 h2 => ?_
 refine AA.bne (fun hc => AA.some fun hz => absurd hz (by decide)) (fun hz2 => ?_)
 obtain ⟨a1, a2, a3, _⟩ := h2 hz2
 have a4 := a3 (by show (4 : Int) ≤ 4; decide)
 dsimp only at a1 a2
 have e1 := AI (x := len x - 10) (by simp only [len]; omega)
 rw [e1]
 refine AA.dec (fun hc => AA.some fun hz => absurd hz (by decide)) (fun hc => ?_)
 simp only [len] at hc
 have e2 := AI (x := 10 + v2.1) (by omega)
 rw [e2]
 refine AA.bind (AA.ssl (by decide) (by omega) (by omega)) fun v3 h3 => ?_
 refine AA.bind (A7 h) fun v4 h4 => ?_
 refine AA.bne (fun hc => AA.some fun hz => absurd hz (by decide)) (fun hz4 => ?_)
 obtain ⟨b1, b2, b3, b5⟩ := h4 hz4
 have b4 := b3 (by show (1 : Int) ≤ 4; decide)
 have b6 := b5 (by show (1 : Int) ≤ 2; decide)
 dsimp only at b1 b2
 have e3 := AI (x := len x - (10 + v2.1)) (by simp only [len]; omega)
 rw [e3]
 have e4 := AI (x := len x - (10 + v2.1) - 1) (by simp only [len]; omega)
 rw [e4]
 have e5 := AI (x := 17 * v4.1) (by omega)
 rw [e5]
 refine AA.dec (fun hc => AA.some fun hz => absurd hz (by decide)) (fun hc5 => ?_)
 simp only [len] at hc5
 have e6 := AI (x := 10 + v2.1 + 1) (by omega)
 rw [e6]
 refine AA.bind (P := fun r => r.1 = 10 + v2.1 + 1 + 17 * v4.1 ∧ r.2.1.length ≤ 65536) ?_ fun v10 h10 => ?_
 ·refine AA.loop (fun (s : Int × Int × List AO × Int × Int × List AJ × Av) => 0 ≤ s.2.1 ∧ s.2.1 ≤ v4.1 ∧ s.1 = 10 + v2.1 + 1 + 17 * s.2.1 ∧ s.2.2.1.length ≤ s.2.1) (fun (s : Int × Int × List AO × Int × Int × List AJ × Av) => (v4.1 - s.2.1).toNat) ⟨Int.le_refl _, by dsimp only; omega, by dsimp only; omega, by simp⟩ (fun s hI => ?_)
  obtain ⟨i1, i2, i3, i4⟩ := hI
  unfold Ld
  refine AA.dec (fun hc => ?_) (fun hc => AA.some ⟨by dsimp only; omega, by dsimp only; omega⟩)
  refine AA.bind (A7 h) fun _ _ => ?_
  refine AA.bind (A7 h) fun _ _ => ?_
  refine AA.bind (A7 h) fun _ _ => ?_
  refine AA.bind (AA.app (by simp; omega)) fun v9 h9 => ?_
  have l9 := h9.2.1
  simp only [List.length_cons, List.length_nil] at l9
  have w1 := AI (x := s.1 + 17) (by omega)
  have w2 := AI (x := s.2.1 + 1) (by omega)
  rw [w1, w2]
  exact AA.some ⟨⟨by dsimp only; omega, by dsimp only; omega, by dsimp only; omega, by dsimp only; omega⟩, by dsimp only; omega⟩
 have l3 := h3.2
 refine AA.bind (Sd (by omega)) fun v11 h11 => ?_
 refine AA.bne (fun hc => AA.some fun hz => absurd hz hc) (fun hz11 => ?_)
 refine AA.bind (AA.ssl (by omega) (by simp only [len]; omega) (by simp only [len]; omega)) fun v12 h12 => ?_
 have l12 := h12.2
 simp only [len] at l12
 refine AA.bind (Sb (by omega)) fun v13 h13 => ?_
 refine AA.bne (fun hc => AA.some fun hz => absurd hz hc) (fun hz13 => ?_)
 refine AA.bind (M4 (by dsimp only; omega)) fun v14 h14 => ?_
 exact AA.not (fun hc => AA.some fun hz => absurd hz (by decide)) (fun hc => AA.some fun _ => ⟨h14 hc, h10.2⟩)
theorem Py.data {e : AE} (h : Py e) : e.2.2.2.2.2.2.2.length ≤ 8192 := by
 have hk := h.2.2.2.2.2.2.2.2
 unfold RZ at hk
 grind
theorem Sl {x : AZ} : AA (GT x) fun r => r.2.2 = true → Zl r.1 ∧ r.1.2.2.2.1.length ≤ 65536 := by
 unfold GT
 refine AA.bind A4 fun v hv => ?_
 refine AA.not (fun _ => AA.some fun hz => by cases hz) (fun hc => ?_)
 have hl := hv.1 hc
 have hlen := hl.2.2.1
 have e := AI (x := len x.2.1 - 1) (by simp only [len]; omega)
 rw [e]
 refine AA.bind (P := fun r => ∀ u, r = .inl u → Zl u.2.2 ∧ u.2.2.2.2.2.1.length ≤ 65536) ?_ fun r hr => AA.sum (fun u hu => AA.some fun _ => hr u hu) (fun _ _ => AA.some fun hz => by cases hz)
 refine AA.loop (fun (s : Int × BR) => -1 ≤ s.1 ∧ s.1 < x.2.1.length) (fun (s : Int × BR) => (s.1 + 1).toNat) ⟨by simp only [len]; omega, by simp only [len]; omega⟩ (fun s hI => ?_)
 unfold Le
 have e2 := AI (x := s.1 - 1) (by omega)
 rw [e2]
 refine AA.dec (fun hc => ?_) (fun _ => AA.some fun u hu => by cases hu)
 have nx : ((-1 ≤ s.1 - 1 ∧ s.1 - 1 < x.2.1.length) ∧ (s.1 - 1 + 1).toNat < (s.1 + 1).toNat) := ⟨by omega, by omega⟩
 refine AA.bind (AA.ix hc hI.2) fun v2 _ => ?_
 refine AA.bne (fun _ => AA.some nx) (fun _ => ?_)
 refine AA.bind (AA.ix hc hI.2) fun v3 h3 => ?_
 have hd := (hl.2.2.2.2.2 _ _ h3.1).2.data
 refine AA.bind (Sj (by omega)) fun v4 h4 => ?_
 refine AA.beq (fun hz => ?_) (fun _ => AA.some nx)
 refine AA.bind (AA.ix hc hI.2) fun v5 _ => AA.some fun u hu => ?_
 cases hu
 exact h4 hz
theorem Qe {x : List AO × AE} {s : Bool × Int × List AO} (h : 0 ≤ s.2.1 ∧ s.2.1 ≤ x.1.length ∧ x.1.length ≤ 1000000 ∧ s.2.2.length ≤ s.2.1 + 1 ∧ (s.1 = false → (s.2.2.length : Int) ≤ s.2.1)) : AA (AT (JE x) s) fun r => r.2.length ≤ x.1.length + 1 ∧ (r.1 = false → r.2.length ≤ x.1.length) := by
 refine AA.loop (fun (s : Bool × Int × List AO) => 0 ≤ s.2.1 ∧ s.2.1 ≤ x.1.length ∧ x.1.length ≤ 1000000 ∧ s.2.2.length ≤ s.2.1 + 1 ∧ (s.1 = false → (s.2.2.length : Int) ≤ s.2.1)) (fun (s : Bool × Int × List AO) => ((x.1.length : Int) - s.2.1).toNat) h (fun s hI => ?_)
 unfold JE
 repeat' with_reducible first | refine AA.dec (fun hc => ?_) (fun hc => ?_) | refine AA.not (fun hc => ?_) (fun hc => ?_) | refine AA.beq (fun hc => ?_) (fun hc => ?_) | refine AA.cond (fun hc => ?_) (fun hc => ?_) | (refine AA.bsome ?_; try dsimp only) | refine AA.bcond ?_ | refine AA.bbind ?_ | refine AA.bsum ?_ | (refine AA.inl ?_; try dsimp only) | (refine AA.inr ?_; try dsimp only) | (refine AA.sum ?_ ?_ <;> (intro u hu; try subst hu)) | refine AA.some ?_ | (refine AA.bind (BY) ?_; intro r hr) | (refine AA.bind (AA.ix ?_ ?_) ?_; rotate_left 2; rintro r ⟨hr, hm⟩) | (refine AA.bind (AA.app ?_) ?_; rotate_left 1; rintro r ⟨hr, hl, hl2⟩)
 all_goals try dsimp only [len] at *
 all_goals try (have e := AI (x := s.2.1 + 1) (by omega))
 all_goals try (have hI5 := hI.2.2.2.2 (by assumption))
 all_goals (try simp only [List.length_cons, List.length_nil, Bool.true_eq_false, false_implies, and_true] at *)
 all_goals first | omega | grind
theorem Qf {x : List AO × AE} {s : Bool × Int × List AO} (h : 0 ≤ s.2.1 ∧ s.2.1 ≤ x.1.length ∧ x.1.length ≤ 1000000 ∧ s.2.2.length ≤ s.2.1 + 1 ∧ (s.1 = false → (s.2.2.length : Int) ≤ s.2.1)) : AA (AT (JF x) s) fun r => r.2.length ≤ x.1.length + 1 ∧ (r.1 = false → r.2.length ≤ x.1.length) := by
 refine AA.loop (fun (s : Bool × Int × List AO) => 0 ≤ s.2.1 ∧ s.2.1 ≤ x.1.length ∧ x.1.length ≤ 1000000 ∧ s.2.2.length ≤ s.2.1 + 1 ∧ (s.1 = false → (s.2.2.length : Int) ≤ s.2.1)) (fun (s : Bool × Int × List AO) => ((x.1.length : Int) - s.2.1).toNat) h (fun s hI => ?_)
 unfold JF
 repeat' with_reducible first | refine AA.dec (fun hc => ?_) (fun hc => ?_) | refine AA.not (fun hc => ?_) (fun hc => ?_) | refine AA.beq (fun hc => ?_) (fun hc => ?_) | refine AA.cond (fun hc => ?_) (fun hc => ?_) | (refine AA.bsome ?_; try dsimp only) | refine AA.bcond ?_ | refine AA.bbind ?_ | refine AA.bsum ?_ | (refine AA.inl ?_; try dsimp only) | (refine AA.inr ?_; try dsimp only) | (refine AA.sum ?_ ?_ <;> (intro u hu; try subst hu)) | refine AA.some ?_ | (refine AA.bind (BY) ?_; intro r hr) | (refine AA.bind (AA.ix ?_ ?_) ?_; rotate_left 2; rintro r ⟨hr, hm⟩) | (refine AA.bind (AA.app ?_) ?_; rotate_left 1; rintro r ⟨hr, hl, hl2⟩)
 all_goals try dsimp only [len] at *
 all_goals try (have e := AI (x := s.2.1 + 1) (by omega))
 all_goals try (have hI5 := hI.2.2.2.2 (by assumption))
 all_goals (try simp only [List.length_cons, List.length_nil, Bool.true_eq_false, false_implies, and_true] at *)
 all_goals first | omega | grind
theorem Tu {x : List AO × AE} (h : x.1.length ≤ 1000000) : AA (C6 x) fun r => r.length ≤ x.1.length + 1 := by
 unfold C6
 repeat' with_reducible first | refine AA.not (fun hc => ?_) (fun hc => ?_) | refine AA.bne (fun hc => ?_) (fun hc => ?_) | refine AA.cond (fun hc => ?_) (fun hc => ?_) | (refine AA.bsome ?_; try dsimp only) | refine AA.bcond ?_ | refine AA.bbind ?_ | refine AA.some ?_ | (refine AA.bind (BY) ?_; intro r hr) | (refine AA.bind (Qe ?_) ?_; rotate_left 1; intro r hr) | (refine AA.bind (Qf ?_) ?_; rotate_left 1; intro r hr) | (refine AA.bind (AA.app ?_) ?_; rotate_left 1; rintro r ⟨hr, hl, hl2⟩)
 all_goals try dsimp only [len] at *
 all_goals (try simp only [List.length_cons, List.length_nil] at *)
 all_goals first | omega | grind
end Go.Pm
namespace Go.Pm
open Go Go.Ab
set_option maxHeartbeats 400000
def HL (l : List AJ) : Prop := l.length ≤ 64 ∧ ∀ t ∈ l, t.2.2.2.2.1.length ≤ 4097
theorem P0.hl {l : List AJ} (h : P0 l) : HL l := ⟨h.1, fun t ht => by
 obtain ⟨i, hi⟩ := List.mem_iff_getElem?.1 ht
 have := (h.2 i t hi).1
 omega⟩
theorem HL.set {l : List AJ} {i : Nat} {n : AJ} (h : HL l) (hn : n.2.2.2.2.1.length ≤ 4097) : HL (l.set i n) := ⟨by rw [List.length_set]; exact h.1, fun t ht => by
 rcases List.mem_or_eq_of_mem_set ht with q | q
 ·exact h.2 t q
 ·rw [q]; exact hn⟩
theorem HL.rm {l : List AJ} {id : Int} (h : HL l) : HL (fk l id) := ⟨by have := YZ l id; have := h.1; omega, fun t ht => h.2 t (List.mem_filter.1 ht).1⟩
theorem P0.lens {l : List AJ} {i : Nat} {t : AJ} (h : P0 l) (ht : l[i]? = some t) : t.2.2.2.2.1.length ≤ 4096 := (h.2 i t ht).1
theorem iG {x : List AJ × AE} : AA (Cn x) fun r => r.2 = 0 → HL r.1 := by
 unfold Cn
 refine AA.bind CB fun v0 h0 => ?_
 refine AA.not (fun hc => AA.some fun hz => absurd hz (by decide)) (fun hc => ?_)
 have hv := h0 hc
 have h64 := hv.1
 refine AA.bind Bf fun v1 h1 => ?_
 refine AA.not (fun hc => AA.some fun hz => absurd hz (by decide)) (fun _ => ?_)
 refine AA.beq (fun hc => AA.some fun _ => hv.hl) (fun hne => ?_)
 refine AA.bind (ER (by dsimp only; omega)) fun v2 h2 => ?_
 refine AA.dec (fun hc => AA.some fun hz => absurd hz (by decide)) (fun hge => ?_)
 refine AA.bind (AA.ix (by omega) h2.2.1) fun v3 h3 => ?_
 have hl3 := hv.lens h3.1
 refine AA.bne (fun hc => AA.some fun hz => absurd hz (by decide)) (fun _ => ?_)
 refine AA.bind (P := fun s => (∃ u, s = .inl u ∧ u.2.2.2.2.1.length ≤ 4097) ∨ ∃ u, s = .inr u ∧ (u.2 = 0 → HL u.1)) ?_ fun s hs => ?_
 ·refine AA.beq (fun _ => ?_) (fun _ => ?_)
  ·refine AA.bind (AA.app (by simp; omega)) fun v4 h4 => ?_
   have l4 := h4.2.1
   simp only [List.length_nil] at l4
   refine AA.bind (AA.app (by simp; omega)) fun v5 h5 => AA.some (.inl ⟨_, rfl, ?_⟩)
   have l5 := h5.2.1
   simp only [List.length_nil, List.length_cons] at l5
   dsimp only
   omega
  ·refine AA.bind (P := fun s => (∃ u, s = .inr u ∧ u.2.2.2.2.1.length ≤ 4097) ∨ ∃ u, s = .inl u ∧ (u.2 = 0 → HL u.1)) ?_ fun s hs => ?_
   ·refine AA.beq (fun _ => ?_) (fun _ => ?_)
    ·refine AA.bind (Lc ⟨Int.le_refl _, by dsimp only; omega, hl3, by simp⟩) fun v11 h11 => ?_
     exact AA.beq (fun _ => AA.some (.inr ⟨_, rfl, fun hz => absurd hz (by decide)⟩)) (fun _ => AA.some (.inl ⟨_, rfl, by dsimp only; omega⟩))
    ·refine AA.beq (fun _ => AA.some (.inl ⟨_, rfl, by dsimp only; omega⟩)) (fun _ => ?_)
     exact AA.bind (FK (by dsimp only; omega)) fun v12 h12 => AA.some (.inr ⟨_, rfl, fun _ => by rw [h12]; exact hv.hl.rm⟩)
   ·rcases hs with ⟨u, rfl, hu⟩ | ⟨u, rfl, hu⟩
    ·exact AA.inr (AA.some (.inl ⟨_, rfl, hu⟩))
    ·exact AA.inl (AA.some (.inr ⟨_, rfl, hu⟩))
 ·rcases hs with ⟨u, rfl, hu⟩ | ⟨u, rfl, hu⟩
  ·refine AA.inl ?_
   refine AA.bind (I3 (by omega)) fun v18 h18 => ?_
   refine AA.bind (HB (by dsimp only; omega) ⟨by dsimp only; omega, h2.2.1⟩) fun v19 h19 => AA.some fun _ => ?_
   rw [h19]
   exact hv.hl.set (by rw [h18.2]; exact hu)
  ·exact AA.inr (AA.some hu)
def AN (n : Int) (m : Nat) (a : A8) : Prop := a.1 = n ∧ HL a.2.2.2.1 ∧ a.2.2.2.2.2.1.length ≤ m
theorem VC {x : A8 × AE} {n : Int} {m : Nat} (h : AN n m x.1) (hm : m ≤ 1000000) : AA (IF x) fun r => r.2 = 0 → AN n (m + 1) r.1 := by
 unfold IF
 obtain ⟨a1, a2, a3⟩ := h
 have a4 := a2.1
 repeat' with_reducible first | refine AA.dec (fun hc => ?_) (fun hc => ?_) | refine AA.bne (fun hc => ?_) (fun hc => ?_) | refine AA.cond (fun hc => ?_) (fun hc => ?_) | (refine AA.bsome ?_; try dsimp only) | refine AA.bcond ?_ | refine AA.bbind ?_ | refine AA.bsum ?_ | (refine AA.inl ?_; try dsimp only) | (refine AA.inr ?_; try dsimp only) | (refine AA.sum ?_ ?_ <;> (intro u hu; try subst hu)) | refine AA.some ?_ | (refine AA.bind iG ?_; intro r hr) | (refine AA.bind (CM ?_) ?_; rotate_left 1; intro r hr) | (refine AA.bind (M2) ?_; intro r hr) | (refine AA.bind (KY) ?_; intro r hr) | (refine AA.bind (BY) ?_; intro r hr) | (refine AA.bind (Tu ?_) ?_; rotate_left 1; intro r hr)
 all_goals try dsimp only [len] at *
 all_goals first | omega | (intro hz; exact absurd hz (by assumption)) | (intro hz; exact absurd hz (by decide)) | (intro _; unfold AN; refine ⟨by first | assumption | grind, by grind, by first | omega | grind⟩) | grind
theorem OC {x : Int} : AA (F5 x) fun r => True := by
 unfold F5
 refine AA.dec (fun _ => AA.some trivial) (fun _ => ?_)
 refine AA.dec (fun _ => AA.some trivial) (fun _ => ?_)
 exact AA.bind (AA.mk (by omega) (by omega)) fun _ _ => AA.some trivial
theorem Tw {x : AZ × Int} : AA (HJ x) fun r => r.2 = 0 → AN x.2 65536 r.1 := by
 unfold HJ
 refine AA.bind Sl fun v0 h0 => ?_
 refine AA.not (fun _ => ?_) (fun hc => ?_)
 ·refine AA.dec (fun hc => AA.some fun hz => absurd hz (by decide)) (fun _ => ?_)
  exact AA.bind OC fun v1 _ => AA.some fun _ => ⟨rfl, ⟨by simp, fun t ht => by simp at ht⟩, by simp⟩
 ·obtain ⟨b1, b2⟩ := h0 hc
  exact AA.bne (fun hc => AA.some fun hz => absurd hz (by decide)) (fun _ => AA.some fun _ => ⟨rfl, b1.2.2.1.hl, b2⟩)
theorem U9 {x : AQ × AQ} : AA (IE x) fun r => True := by
 unfold IE
 refine AA.bne (fun _ => AA.some trivial) (fun _ => ?_)
 exact AA.bne (fun _ => AA.some trivial) (fun _ => AA.some trivial)
theorem RP {x : List AQ × AQ} {s : Int} (h : 0 ≤ s ∧ s ≤ x.1.length ∧ (x.1.length : Int) ≤ 16777216) : AA (AT (Jy x) s) fun r => 0 ≤ r ∧ r ≤ x.1.length := by
 refine AA.loop (fun (s : Int) => 0 ≤ s ∧ s ≤ x.1.length ∧ (x.1.length : Int) ≤ 16777216) (fun (s : Int) => ((x.1.length : Int) - s).toNat) h (fun s hI => ?_)
 unfold Jy
 repeat' with_reducible first | refine AA.dec (fun hc => ?_) (fun hc => ?_) | refine AA.cond (fun hc => ?_) (fun hc => ?_) | refine AA.some ?_ | (refine AA.bind (U9) ?_; intro r hr) | (refine AA.bind (AA.ix ?_ ?_) ?_; rotate_left 2; rintro r ⟨hr, hm⟩)
 all_goals ((try dsimp only [len] at *); (try first | omega | assumption | grind [AI]))
theorem VD {x : List AQ × AQ} (h : x.1.length ≤ 1000000) : AA (IG x) fun r => r.length ≤ x.1.length + 1 := by
 unfold IG
 refine AA.bind (RP ⟨Int.le_refl _, by omega, by omega⟩) fun p hp => ?_
 have main : AA (Option.bind (lsl x.1 0 p) fun v10 =>
 Option.bind (lsl x.1 p (len x.1)) fun v11 =>
 Option.bind (app [] v10) fun v12 =>
 Option.bind (app v12 ([x.2] : List (Int × ((Int × Int) × Int)))) fun v13 =>
 Option.bind (app v13 v11) fun v14 =>
 some v14) fun r => r.length ≤ x.1.length + 1 := by
  refine AA.bind (AA.lsl (Int.le_refl _) hp.1 hp.2) fun v10 h10 => ?_
  refine AA.bind (AA.lsl hp.1 (by simp only [len]; omega) (by simp only [len]; omega)) fun v11 h11 => ?_
  have l10 := h10.2
  have l11 := h11.2
  simp only [len] at l11
  refine AA.bind (AA.app (by simp; omega)) fun v12 h12 => ?_
  have l12 := h12.2.1
  simp only [List.length_nil] at l12
  refine AA.bind (AA.app (by simp; omega)) fun v13 h13 => ?_
  have l13 := h13.2.1
  simp only [List.length_nil, List.length_cons] at l13
  refine AA.bind (AA.app (by omega)) fun v14 h14 => AA.some ?_
  have l14 := h14.2.1
  omega
 refine AA.dec (fun hc => ?_) (fun _ => main)
 simp only [len] at hc
 refine AA.bind (AA.ix hp.1 hc) fun v4 _ => ?_
 exact AA.cond (fun _ => AA.some (by omega)) (fun _ => main)
theorem Tv {x : AZ × List AJ} (h : HL x.2) : AA (HI x) fun r => r.1.length ≤ 262208 := by
 unfold HI
 have h1 := h.1
 refine AA.bind (P := fun r => (∀ u, r = .inl u → u.1.length ≤ 262208) ∧ ∀ u, r = .inr u → u.length ≤ 262208) ?_ fun r hr => AA.sum (fun u hu => AA.some (hr.1 u hu)) (fun u hu => AA.some (hr.2 u hu))
 refine AA.loop (fun (s : List AQ × Int) => 0 ≤ s.2 ∧ s.2 ≤ x.2.length ∧ s.1.length ≤ 4097 * s.2) (fun (s : List AQ × Int) => ((x.2.length : Int) - s.2).toNat) ⟨Int.le_refl _, by dsimp only; omega, by simp⟩ (fun s hI => ?_)
 obtain ⟨i1, i2, i3⟩ := hI
 unfold MC
 have e := AI (x := s.2 + 1) (by omega)
 rw [e]
 refine AA.dec (fun hc => ?_) (fun _ => AA.some ⟨fun u hu => (by cases hu), fun u hu => (by cases hu; omega)⟩)
 simp only [len] at hc
 obtain ⟨t, t1, t2⟩ := AA.ix (l := x.2) i1 hc
 have tl := h.2 t t2.2
 refine AA.bind (P := fun r => (∀ u, r = .inl u → u.1.length ≤ 262208) ∧ ∀ u, r = .inr u → u.length ≤ 4097 * (s.2 + 1)) ?_ fun r hr => ?_
 ·refine AA.loop (fun (q : List AQ × Int) => 0 ≤ q.2 ∧ q.2 ≤ t.2.2.2.2.1.length ∧ q.1.length ≤ 4097 * s.2 + q.2) (fun (q : List AQ × Int) => ((t.2.2.2.2.1.length : Int) - q.2).toNat) ⟨Int.le_refl _, by dsimp only; omega, by dsimp only; omega⟩ (fun q hJ => ?_)
  obtain ⟨j1, j2, j3⟩ := hJ
  unfold MD
  rw [t1]
  refine AA.bsome ?_
  have e2 := AI (x := q.2 + 1) (by omega)
  rw [e2]
  refine AA.dec (fun hc => ?_) (fun _ => AA.some ⟨fun u hu => (by cases hu), fun u hu => (by cases hu; omega)⟩)
  simp only [len] at hc
  refine AA.bsome ?_
  refine AA.bind (AA.ix j1 hc) fun v4 _ => ?_
  refine AA.bind C3 fun v5 _ => ?_
  refine AA.bne (fun _ => AA.some ⟨fun u hu => (by cases hu; simp), fun u hu => (by cases hu)⟩) (fun _ => ?_)
  refine AA.bne (fun _ => AA.some ⟨fun u hu => (by cases hu; simp), fun u hu => (by cases hu)⟩) (fun _ => ?_)
  refine AA.bsome ?_
  refine AA.bne (fun _ => AA.some ⟨fun u hu => (by cases hu; simp), fun u hu => (by cases hu)⟩) (fun _ => ?_)
  refine AA.bind (VD (by dsimp only; omega)) fun v7 h7 => AA.some ?_
  dsimp only at h7
  exact ⟨⟨by dsimp only; omega, by dsimp only; omega, by dsimp only; omega⟩, by dsimp only; omega⟩
 ·refine AA.sum (fun u hu => AA.some ⟨fun w hw => ?_, fun w hw => (by cases hw)⟩) (fun u hu => AA.some ?_)
  ·cases hw
   exact hr.1 u hu
  ·have := hr.2 u hu
   exact ⟨⟨by dsimp only; omega, by dsimp only; omega, by dsimp only; omega⟩, by dsimp only; omega⟩
theorem RO {x : AZ × Int} : AA (Fq x) fun r => r.2 = 0 → r.1.1 = x.2 ∧ HL r.1.2.2.2.1 ∧ r.1.2.2.2.2.1.length ≤ 262208 ∧ r.1.2.2.2.2.2.1.length ≤ 70000 := by
 unfold Fq
 refine AA.bind A4 fun v hv => ?_
 refine AA.not (fun _ => AA.some fun hz => absurd hz (by decide)) (fun hc => ?_)
 have hl := hv.1 hc
 have hlen := hl.2.2.1
 refine AA.dec (fun _ => AA.some fun hz => absurd hz (by decide)) (fun _ => ?_)
 refine AA.dec (fun _ => AA.some fun hz => absurd hz (by decide)) (fun _ => ?_)
 refine AA.bind Tw fun v1 h1 => ?_
 refine AA.bne (fun hc => AA.some fun hz => absurd hz hc) (fun hz1 => ?_)
 have hb := h1 hz1
 refine AA.bind (P := fun r => (∀ u, r = .inl u → u.1 ≠ 0) ∧ ∀ u, r = .inr u → AN x.2 70000 u.1) ?_ fun r hr => AA.sum (fun u hu => AA.some fun hz => absurd hz (hr.1 u hu)) (fun u hu => ?_)
 ·refine AA.loop (fun (s : Int × A8 × A8) => 0 ≤ s.1 ∧ s.1 ≤ x.1.2.1.length ∧ AN x.2 (65536 + s.1.toNat) s.2.1) (fun (s : Int × A8 × A8) => ((x.1.2.1.length : Int) - s.1).toNat) ⟨Int.le_refl _, by dsimp only; omega, hb⟩ (fun s hI => ?_)
  obtain ⟨i1, i2, i3⟩ := hI
  unfold LG
  have e := AI (x := s.1 + 1) (by omega)
  rw [e]
  refine AA.dec (fun hc => ?_) (fun _ => AA.some ⟨fun u hu => (by cases hu), fun u hu => ?_⟩)
  ·simp only [len] at hc
   have en : (s.1 + 1).toNat = s.1.toNat + 1 := by omega
   refine AA.bind (AA.ix i1 hc) fun v3 _ => ?_
   refine AA.dec (fun _ => AA.some ⟨⟨by dsimp only; omega, by dsimp only; omega, ?_⟩, by dsimp only; omega⟩) (fun _ => ?_)
   ·obtain ⟨q1, q2, q3⟩ := i3
    exact ⟨q1, q2, by dsimp only; omega⟩
   refine AA.bind (AA.ix i1 hc) fun v4 _ => ?_
   refine AA.bind (VC i3 (by omega)) fun v5 h5 => ?_
   refine AA.bne (fun hc => AA.some ⟨fun u hu => (by cases hu; exact hc), fun u hu => (by cases hu)⟩) (fun hz => AA.some ⟨⟨by dsimp only; omega, by dsimp only; omega, ?_⟩, by dsimp only; omega⟩)
   have := h5 hz
   dsimp only
   rw [en]
   exact this
  ·cases hu
   obtain ⟨q1, q2, q3⟩ := i3
   exact ⟨q1, q2, by omega⟩
 ·obtain ⟨q1, q2, q3⟩ := hr.2 u hu
  have q64 := q2.1
  refine AA.bind (P := fun l => HL l) ?_ fun v14 h14 => ?_
  ·refine AA.loop (fun (s : Int × List AJ) => 0 ≤ s.1 ∧ s.1 ≤ u.1.2.2.2.1.length ∧ s.2.length ≤ s.1 ∧ ∀ t ∈ s.2, t.2.2.2.2.1.length ≤ 4097) (fun (s : Int × List AJ) => ((u.1.2.2.2.1.length : Int) - s.1).toNat) ⟨Int.le_refl _, by dsimp only; omega, by simp, fun t ht => by simp at ht⟩ (fun s hI => ?_)
   obtain ⟨i1, i2, i3, i4⟩ := hI
   unfold LH
   have e := AI (x := s.1 + 1) (by omega)
   rw [e]
   refine AA.dec (fun hc => ?_) (fun _ => AA.some ⟨by omega, i4⟩)
   simp only [len] at hc
   refine AA.bind (AA.ix i1 hc) fun v10 _ => ?_
   refine AA.bind (P := fun l => l.length ≤ s.2.length + 1 ∧ ∀ t ∈ l, t.2.2.2.2.1.length ≤ 4097) ?_ fun v13 h13 => AA.some ⟨⟨by dsimp only; omega, by dsimp only; omega, by have := h13.1; dsimp only; omega, h13.2⟩, by dsimp only; omega⟩
   refine AA.dec (fun _ => ?_) (fun _ => AA.some ⟨by omega, i4⟩)
   refine AA.bind (AA.ix i1 hc) fun v11 h11 => ?_
   refine AA.bind (AA.app (by simp; omega)) fun v12 h12 => AA.some ⟨?_, fun t ht => ?_⟩
   ·have := h12.2.1
    simp at this
    omega
   ·rw [h12.1] at ht
    rcases List.mem_append.1 ht with w | w
    ·exact i4 t w
    ·simp at w
     rw [w]
     exact q2.2 _ h11.2
  ·refine AA.bind (Tv h14) fun v15 h15 => ?_
   exact AA.bne (fun hc => AA.some fun hz => absurd hz hc) (fun hz => AA.some fun _ => ⟨q1, h14, h15, q3⟩)
theorem OB {x : Int} : AA (F4 x) fun r => True := by
 unfold F4
 repeat' with_reducible first | refine AA.dec (fun hc => ?_) (fun hc => ?_) | refine AA.cond (fun hc => ?_) (fun hc => ?_) | refine AA.some ?_
 all_goals trivial
theorem T0 {x : AZ × A8 × Int} (hl : Cl x.1) (h : HL x.2.1.2.2.2.1 ∧ x.2.1.2.2.2.2.1.length ≤ 262208 ∧ x.2.1.2.2.2.2.2.1.length ≤ 70000) : AA (HN x) fun r => r.2 = 0 → r.1.1 = x.2.1.1 ∧ SK r.1 ∧ Cl r.1.2.2.1 ∧ r.1.2.2.1.1 = x.1.1 := by
 unfold HN
 obtain ⟨a1, a2, a3⟩ := h
 have a4 := a1.1
 refine AA.bind OB fun v0 _ => ?_
 refine AA.bne (fun _ => AA.some fun hz => absurd hz (by decide)) (fun _ => ?_)
 have hk : SK (x.2.1.1, (x.2.1.2.1, (x.1, (v0.1, ((x.2.1.2.2.2.2.1, []), (x.2.1.2.2.2.1, (x.2.1.2.2.2.2.2.2, x.2.1.2.2.2.2.2.1))))))) := ⟨⟨by dsimp only; omega, by simp⟩, by dsimp only; omega, by dsimp only; omega⟩
 refine AA.bind (A0 hk) fun v1 _ => ?_
 refine AA.not (fun _ => AA.some fun hz => absurd hz (by decide)) (fun _ => ?_)
 refine AA.bind (P := fun r => (∀ u, r = .inl u → u.1 ≠ 0) ∧ ∀ u, r = .inr u → KL (x.2.1.1, (x.2.1.2.1, (x.1, (v0.1, ((x.2.1.2.2.2.2.1, []), (x.2.1.2.2.2.1, (x.2.1.2.2.2.2.2.2, x.2.1.2.2.2.2.2.1))))))) u.1) ?_ fun r hr => AA.sum (fun u hu => AA.some fun hz => absurd hz (hr.1 u hu)) (fun u hu => AA.some fun _ => ?_)
 ·refine AA.loop (fun (s : Int × AC × AC) => 0 ≤ s.1 ∧ s.1 ≤ x.2.1.2.2.2.1.length ∧ KL (x.2.1.1, (x.2.1.2.1, (x.1, (v0.1, ((x.2.1.2.2.2.2.1, []), (x.2.1.2.2.2.1, (x.2.1.2.2.2.2.2.2, x.2.1.2.2.2.2.2.1))))))) s.2.1) (fun (s : Int × AC × AC) => ((x.2.1.2.2.2.1.length : Int) - s.1).toNat) ⟨Int.le_refl _, by dsimp only; omega, KL.refl hk hl⟩ (fun s hI => ?_)
  obtain ⟨i1, i2, i3⟩ := hI
  unfold ME
  have e := AI (x := s.1 + 1) (by omega)
  rw [e]
  refine AA.dec (fun hc => ?_) (fun _ => AA.some ⟨fun u hu => (by cases hu), fun u hu => (by cases hu; exact i3)⟩)
  simp only [len] at hc
  refine AA.bind (AA.ix i1 hc) fun v3 _ => ?_
  refine AA.beq (fun _ => AA.some ⟨⟨by dsimp only; omega, by dsimp only; omega, i3⟩, by dsimp only; omega⟩) (fun _ => ?_)
  refine AA.bind (AA.ix i1 hc) fun v4 _ => ?_
  refine AA.bind (C4 i3.2.2.1) fun v5 h5 => ?_
  refine AA.bne (fun hc => AA.some ⟨fun u hu => (by cases hu; exact hc), fun u hu => (by cases hu)⟩) (fun hz => AA.some ⟨⟨by dsimp only; omega, by dsimp only; omega, i3.trans (h5 hz).2.kl⟩, by dsimp only; omega⟩)
 ·have := hr.2 u hu
  exact ⟨this.1, this.2.2.1, this.2.2.2, this.2.1.1⟩
end Go.Pm
namespace Go.Pm
open Go Go.Ab
set_option maxHeartbeats 400000
theorem VM {x : AB × Int × BQ} (h : SK x.1.1) (hl : Cl x.1.1.2.2.1) (hd : DI x.1.2) : AA (IP x) fun r => SR x.1 r.1 ∧ (r.2.1 ≠ 0 → TP r.1.1.2.2.2.2.2.1 < TP x.1.1.2.2.2.2.2.1) := by
 unfold IP
 refine AA.bind (P := fun r => SR x.1 r.2.2 ∧ (r.1 ≠ 0 → TP r.2.2.1.2.2.2.2.2.1 < TP x.1.1.2.2.2.2.2.1)) ?_ fun r hr => AA.some hr
 refine AA.loop (fun (s : Int × AB × AB) => SR x.1 s.2.1 ∧ TP s.2.1.1.2.2.2.2.2.1 ≤ TP x.1.1.2.2.2.2.2.1 ∧ (s.1 ≠ 0 → TP s.2.1.1.2.2.2.2.2.1 < TP x.1.1.2.2.2.2.2.1)) (fun (s : Int × AB × AB) => 2 * TP s.2.1.1.2.2.2.2.2.1 + flag (¬ Xx s.2.1.1.2.2.2.1 x.2.2.1)) ⟨⟨KL.refl h hl, hd⟩, Nat.le_refl _, fun hz => absurd rfl hz⟩ (fun s hI => ?_)
 obtain ⟨hI, hT, hU⟩ := hI
 have hk := hI.1.2.2
 unfold M8
 refine AA.bind (U6 hk.1 hk.2) fun v1 h1 => ?_
 obtain ⟨k1, k2, k3⟩ := h1
 refine AA.beq (fun _ => AA.some ⟨hI, hU⟩) (fun c5 => ?_)
 refine AA.bind (P := fun r => (∃ u, r = .inl u ∧ u.1 = s.1 ∧ u.2.2 = s.2.1) ∨ ∃ u, r = .inr u ∧ SR s.2.1 u.2.1 ∧ (TP u.2.1.1.2.2.2.2.2.1 < TP s.2.1.1.2.2.2.2.2.1 ∨ (u.1 = s.1 ∧ TP u.2.1.1.2.2.2.2.2.1 = TP s.2.1.1.2.2.2.2.2.1 ∧ Xx u.2.1.1.2.2.2.1 x.2.2.1 ∧ ¬ Xx s.2.1.1.2.2.2.1 x.2.2.1))) ?_ fun r hr => ?_
 ·refine AA.beq (fun c3 => ?_) (fun c3 => ?_)
  ·obtain ⟨a, b, c⟩ := k2 c3
   refine AA.bind (D8 hk.1 hI.2) fun v2 h2 => ?_
   refine AA.bne (fun _ => AA.some (.inl ⟨_, rfl, rfl, rfl⟩)) (fun hz => AA.some (.inr ⟨_, rfl, (h2 hz).1.sr, .inr ⟨rfl, ?_, ?_, b⟩⟩))
   ·have := (h2 hz).1.1.2.2.2.2.1
    exact congrArg TP this
   ·have := (h2 hz).2
    rw [a] at this
    exact this
  ·refine AA.beq (fun _ => AA.some (.inl ⟨_, rfl, rfl, rfl⟩)) (fun c0 => AA.some (.inr ⟨_, rfl, ⟨k1, hI.2⟩, .inl (k3 c3 c5 c0)⟩))
 ·rcases hr with ⟨u, rfl, hu⟩ | ⟨u, rfl, hu⟩
  ·refine AA.inl (AA.some ?_)
   dsimp only
   rw [hu.1, hu.2]
   exact ⟨hI, hU⟩
  ·refine AA.inr (AA.some ?_)
   obtain ⟨q1, q2⟩ := hu
   rcases q2 with q2 | ⟨q2, q3, q4, q5⟩
   ·have f := ec (¬ Xx u.2.1.1.2.2.2.1 x.2.2.1)
    exact ⟨⟨hI.trans q1, by omega, fun _ => by omega⟩, by first | omega | (dsimp only; omega)⟩
   ·refine ⟨⟨hI.trans q1, by omega, fun hz => by rw [q3]; exact hU (by rw [← q2]; exact hz)⟩, ?_⟩
    try dsimp only
    rw [bz q5, bx (fun h => h q4), q3]
    omega
theorem MF {x : AC × Int} (h : SK x.1) : AA (EV x) fun r => True := by
 unfold EV
 refine AA.bind (A0 h) fun v hv => ?_
 refine AA.bind (P := fun _ => True) ?_ fun r _ => AA.sum (fun _ _ => AA.some trivial) (fun _ _ => AA.some trivial)
 refine AA.cond (fun _ => ?_) (fun _ => AA.some trivial)
 refine AA.bind (CM h.2.1) fun v1 h1 => ?_
 refine AA.dec (fun hc => ?_) (fun _ => AA.some trivial)
 refine AA.bind (AA.ix hc h1.2.1) fun _ _ => ?_
 refine AA.beq (fun _ => ?_) (fun _ => AA.some trivial)
 exact AA.bind (AA.ix hc h1.2.1) fun _ _ => AA.some trivial
theorem RS {x : AC} {s : Int × List Int} (h : 0 ≤ s.1 ∧ s.1 ≤ x.2.2.2.2.2.1.length ∧ x.2.2.2.2.2.1.length ≤ 16777216 ∧ s.2.length ≤ s.1 ∧ SK x) : AA (AT (J0 x) s) fun r => True := by
 refine AA.loop (fun (s : Int × List Int) => 0 ≤ s.1 ∧ s.1 ≤ x.2.2.2.2.2.1.length ∧ x.2.2.2.2.2.1.length ≤ 16777216 ∧ s.2.length ≤ s.1 ∧ SK x) (fun (s : Int × List Int) => ((x.2.2.2.2.2.1.length : Int) - s.1).toNat) h (fun s hI => ?_)
 unfold J0
 repeat' with_reducible first | refine AA.dec (fun hc => ?_) (fun hc => ?_) | refine AA.cond (fun hc => ?_) (fun hc => ?_) | (refine AA.bsome ?_; try dsimp only) | refine AA.bcond ?_ | refine AA.bbind ?_ | refine AA.some ?_ | (refine AA.bind (MF ?_) ?_; rotate_left 1; intro r hr) | (refine AA.bind (AA.ix ?_ ?_) ?_; rotate_left 2; rintro r ⟨hr, hm⟩) | (refine AA.bind (AA.app ?_) ?_; rotate_left 1; rintro r ⟨hr, hl, hl2⟩)
 all_goals ((try dsimp only [len] at *); (try first | omega | assumption | grind [AI]))
theorem VG {x : AC} (h : SK x) : AA (IJ x) fun r => True := by
 unfold IJ
 exact AA.bind (RS ⟨Int.le_refl _, by dsimp only; omega, h.2.1, by simp, h⟩) fun _ _ => AA.some trivial
theorem O8 {x : AC × Int} {v0 : AQ × Bool} {v1 : List Int} {s : Int × BQ} (h : 0 ≤ s.1 ∧ s.1 ≤ v1.length ∧ v1.length ≤ 16777216 ∧ SK x.1) : AA (AT (Gl x v0 v1) s) fun r => True := by
 refine AA.loop (fun (s : Int × BQ) => 0 ≤ s.1 ∧ s.1 ≤ v1.length ∧ v1.length ≤ 16777216 ∧ SK x.1) (fun (s : Int × BQ) => ((v1.length : Int) - s.1).toNat) h (fun s hI => ?_)
 unfold Gl
 repeat' with_reducible first | refine AA.dec (fun hc => ?_) (fun hc => ?_) | refine AA.cond (fun hc => ?_) (fun hc => ?_) | refine AA.some ?_ | (refine AA.bind (MF ?_) ?_; rotate_left 1; intro r hr) | (refine AA.bind (AA.ix ?_ ?_) ?_; rotate_left 2; rintro r ⟨hr, hm⟩)
 all_goals ((try dsimp only [len] at *); (try first | omega | assumption | grind [AI]))
theorem RR {x : AC × Int} (h : SK x.1) : AA (Fr x) fun r => True := by
 unfold Fr
 refine AA.bind (Es h.1) fun v0 _ => ?_
 refine AA.not (fun _ => AA.some trivial) (fun _ => ?_)
 refine AA.bind (G6 h.1) fun v1 h1 => ?_
 refine AA.bind (O8 ⟨Int.le_refl _, by dsimp only; omega, by omega, h⟩) fun r _ => ?_
 exact AA.sum (fun _ _ => AA.some trivial) (fun _ _ => AA.some trivial)
theorem Wk {x : AB × Int × BV} (h : SK x.1.1) (hl : Cl x.1.1.2.2.1) (hd : DI x.1.2) : AA (Ke x) fun r => SR x.1 r.1 := by
 unfold Ke
 refine AA.bind (P := fun r => SR x.1 r.1) ?_ fun r hr => AA.some hr
 refine AA.loop (fun (s : AB × AB × Aj) => SR x.1 s.1) (fun (s : AB × AB × Aj) => TP s.1.1.2.2.2.2.2.1) ⟨KL.refl h hl, hd⟩ (fun s hI => ?_)
 have hk := hI.1.2.2
 unfold OI
 refine AA.bind (Wj hk.1 hk.2 hI.2) fun v1 h1 => ?_
 have i1 := hI.trans h1.1
 have hk1 := i1.1.2.2
 refine AA.bne (fun _ => AA.some i1) (fun c2 => ?_)
 have ht := h1.2 c2
 refine AA.bind (RR hk1.1) fun v2 _ => ?_
 refine AA.not (fun _ => AA.some i1) (fun _ => ?_)
 refine AA.bind (VM hk1.1 hk1.2 i1.2) fun v3 h3 => ?_
 have i3 := i1.trans h3.1
 refine AA.bne (fun _ => ?_) (fun _ => ?_)
 ·exact AA.bind Au fun v4 _ => AA.some i3
 refine AA.beq (fun _ => AA.some i3) (fun c0 => AA.some ⟨i3, ?_⟩)
 have := h3.2 c0
 dsimp only at *
 rw [ht] at this
 exact this
theorem VL {x : AB} (h : SK x.1) (hl : Cl x.1.2.2.1) (hd : DI x.2) : AA (IN x) fun r => r.2.2 = 0 → SR x r.1 := by
 unfold IN
 refine AA.bind (A0 h) fun v hv => ?_
 refine AA.not (fun _ => AA.some fun hz => absurd hz (by decide)) (fun hc => ?_)
 refine AA.dec (fun hc => ?_) (fun _ => ?_)
 ·simp only [len] at hc
  refine AA.bind (AA.ix (Int.le_refl _) hc) fun v1 _ => ?_
  exact AA.bind (D8 h hd) fun v2 h2 => AA.some fun hz => (h2 hz).1.sr
 refine AA.bind (VG h) fun v3 _ => ?_
 refine AA.beq (fun _ => AA.some fun _ => ⟨KL.refl h hl, hd⟩) (fun hne => ?_)
 simp only [len] at hne
 refine AA.bind (P := fun r => r.2.1 = 0 → SR x r.2.2) ?_ fun r hr => AA.some hr
 obtain ⟨id, e1, e2⟩ := (AA.ix (l := v3) (i := 0) (Int.le_refl _) (by omega))
 refine AA.loop (fun (s : AB × AB) => SR x s.1) (fun (s : AB × AB) => flag (∃ e, NX s.1.1 id e ∧ ¬ Xx s.1.1.2.2.2.1 e.2.2.2.2.2.2.1.1)) ⟨KL.refl h hl, hd⟩ (fun s hI => ?_)
 have hk := hI.1.2.2
 unfold M7
 rw [e1]
 refine AA.bsome ?_
 refine AA.bind (Nj hk.1 hk.2) fun v6 h6 => ?_
 obtain ⟨k1, k2, k3, k4⟩ := h6
 refine AA.beq (fun h5 => AA.some fun hz => absurd hz (k4 h5)) (fun _ => ?_)
 refine AA.bne (fun _ => AA.some fun _ => ⟨hI.1.trans k1, hI.2⟩) (fun c3 => ?_)
 obtain ⟨e, g1, g2, g3⟩ := k2 c3
 refine AA.bind (D8 hk.1 hI.2) fun v7 h7 => ?_
 refine AA.bne (fun hc => AA.some fun hz => absurd hz hc) (fun hz => AA.some ⟨hI.trans (h7 hz).1.sr, ?_⟩)
 obtain ⟨f1, f2⟩ := h7 hz
 have t1 := f1.1.2.2.2.2.1
 rw [bz (⟨e, g1, g3⟩ : ∃ e, NX s.1.1 id e ∧ ¬ Xx s.1.1.2.2.2.1 e.2.2.2.2.2.2.1.1), bx]
 ·omega
 ·rintro ⟨f, q1, q2⟩
  have := g1.uniq q1 t1 f1.1.2.1
  subst this
  dsimp only at f2
  rw [g2] at f2
  exact q2 f2
end Go.Pm
namespace Go.Pm
open Go Go.Ab
set_option maxHeartbeats 400000
def runN {S R : Type} (f : S → Option (Step S R)) : Nat → S → Option R
 | 0, _ => none
 | n + 1, s =>
  match f s with
  | some (.next s') => runN f n s'
  | some (.done r) => some r
  | none => none
theorem cG {S R : Type} {f : S → Option (Step S R)} {r : R} : ∀ {n : Nat} {s : S}, runN f n s = some r → AT f s = some r
 | 0, s, h => by cases h
 | n + 1, s, h => by
  simp only [runN] at h
  rw [T8]
  split at h
  ·rename_i s' e
   rw [e]
   exact cG h
  ·rename_i r' e
   rw [e]
   exact h
  ·cases h
def an : BF := [80, 77, 76, 71, 1, 0, 0, 0, 0, 0, 0, 0]
theorem ir : AR (([80, 77, 76, 71] : List UInt8), (1, 8)) = some an := by
 have e : AR (([80, 77, 76, 71] : List UInt8), (1, 8)) = Option.bind (AT (EM (([80, 77, 76, 71] : List UInt8), (1, 8))) (([80, 77, 76, 71] : List UInt8), 0)) fun v2 => some v2 := by kernel_rfl
 rw [e, cG (n := 10) (r := an) (by kernel_rfl)]
 rfl
theorem iX : An (an, (4, 8)) = some (1, 0) := by
 have e : An (an, (4, 8)) = Option.bind (AT (GB (an, (4, 8))) (0, 0)) fun v2 => some ((wi v2), 0) := by kernel_rfl
 rw [e, cG (n := 10) (r := 1) (by kernel_rfl)]
 rfl
def HD (s : BF) : Prop := ∃ q t, s = q ++ (an ++ t) ∧ q.length = 4
theorem iu {x : BF × Int × Int} (h : x.1.length ≤ 1099511627776) : AA (AR x) fun r => ∃ t, r = x.1 ++ t := by
 unfold AR
 refine AA.dec (fun _ => AA.some ⟨[], by simp⟩) (fun c1 => ?_)
 refine AA.dec (fun _ => AA.some ⟨[], by simp⟩) (fun c2 => ?_)
 refine AA.bind (P := fun r => ∃ t, r = x.1 ++ t) ?_ fun v hv => AA.some hv
 refine AA.loop (fun (s : BF × Int) => 0 ≤ s.2 ∧ s.2 ≤ 8 ∧ s.1.length ≤ 1099511627776 + s.2 ∧ ∃ t, s.1 = x.1 ++ t) (fun (s : BF × Int) => (8 - s.2).toNat) ⟨Int.le_refl _, by dsimp only; omega, by dsimp only; omega, [], by simp⟩ (fun s hI => ?_)
 obtain ⟨i1, i2, i3, t, i4⟩ := hI
 unfold EM
 have e := AI (x := s.2 + 1) (by omega)
 have e8 := AI (x := 8 * s.2) (by omega)
 rw [e, e8]
 refine AA.dec (fun hc => ?_) (fun _ => AA.some ⟨t, i4⟩)
 refine AA.dec (fun hc2 => ?_) (fun _ => ?_)
 ·exfalso
  have := cM (8 * s.2)
  omega
 refine AA.bind (AA.sapp (by simp [Du]; omega)) fun v1 h1 => AA.some ?_
 obtain ⟨e1, l1⟩ := h1
 simp only [Du, List.map_cons, List.map_nil, List.length_cons, List.length_nil] at l1
 exact ⟨⟨by dsimp only; omega, by dsimp only; omega, by dsimp only; omega, ⟨_, by dsimp only; rw [e1, i4, List.append_assoc]⟩⟩, by dsimp only; omega⟩
theorem iY : AA (D3 1) HD := by
 unfold D3
 rw [ir]
 refine AA.bsome ?_
 refine AA.bind (P := HD) ?_ fun v1 h1 => AA.some h1
 unfold CU
 refine AA.dec (fun hc => absurd hc (by decide)) (fun _ => ?_)
 refine AA.bind (BA (by simp)) fun v0 h0 => ?_
 have l0 := h0.1 (by decide) (by decide)
 simp only [List.length_nil] at l0
 refine AA.bind (AA.sapp (by have : an.length = 12 := rfl; omega)) fun v1 h1 => ?_
 obtain ⟨e1, l1⟩ := h1
 have l12 : an.length = 12 := rfl
 refine AA.bind (Dq (by omega)) fun v2 _ => ?_
 refine AA.bind (iu (by dsimp only; omega)) fun v3 h3 => AA.some ?_
 obtain ⟨t, e3⟩ := h3
 dsimp only at e3
 exact ⟨v0, t, by rw [e3, e1, List.append_assoc], by omega⟩
theorem dT {x : BF} (h : x.length ≤ 1099511627776) : AA (Bs (x, 0)) fun r => r.2.2 = 0 → r.1 = (x.drop 4).take r.1.length := by
 unfold Bs
 refine AA.dec (fun hc => absurd hc (by simp)) (fun _ => ?_)
 refine AA.dec (fun hc => absurd hc (by simp only [len]; omega)) (fun _ => ?_)
 refine AA.bind (A7 (by dsimp only; omega)) fun v0 h0 => ?_
 refine AA.bne (fun _ => AA.some fun hz => absurd hz (by decide)) (fun hz0 => ?_)
 obtain ⟨a1, a2, a3, a4⟩ := h0 hz0
 have a5 := a3 (by dsimp only; omega)
 dsimp only at a2
 refine AA.dec (fun _ => AA.some fun hz => absurd hz (by decide)) (fun c1 => ?_)
 dsimp only at c1 ⊢
 have e1 := AI (x := len x - 0) (by simp only [len]; omega)
 have e2 := AI (x := v0.1 + 8) (by omega)
 have e3 := AI (x := (0 : Int) + 4) (by omega)
 have e4 := AI (x := (0 : Int) + 4 + v0.1) (by omega)
 have e5 := AI (x := (0 : Int) + 8) (by omega)
 have e6 := AI (x := (0 : Int) + 8 + v0.1) (by omega)
 rw [e1, e2, e3, e4, e5, e6]
 refine AA.dec (fun _ => AA.some fun hz => absurd hz (by decide)) (fun c2 => ?_)
 simp only [len] at c2
 refine AA.bind (A7 (by dsimp only; omega)) fun v1 _ => ?_
 refine AA.bind (AA.ssl (by omega) (by omega) (by omega)) fun v2 h2 => ?_
 refine AA.bind (Dq (by have := h2.2; omega)) fun v3 _ => ?_
 refine AA.bne (fun _ => AA.some fun hz => absurd hz (by decide)) (fun _ => ?_)
 refine AA.bind (AA.ssl (by omega) (by omega) (by omega)) fun v4 h4 => AA.some fun _ => ?_
 obtain ⟨e7, l7⟩ := h4
 dsimp only
 have e8 : v4.length = ((0 : Int) + 4 + v0.1).toNat - ((0 : Int) + 4).toNat := by omega
 rw [e8]
 exact e7
theorem HD.pay {s p : BF} (h : HD s) (hp : p = (s.drop 4).take p.length) (hl : p.length = 12) : p = an := by
 obtain ⟨q, t, rfl, hq⟩ := h
 rw [hp, hl, ← hq, List.drop_left]
 exact List.take_left' rfl
theorem Nc {x : Int} : AA (D3 x) fun r => r.length ≤ 8408 := by
 unfold D3
 refine AA.bind (BA (by simp)) fun v0 _ => ?_
 exact AA.bind Fd fun v1 h1 => AA.some h1
theorem Fg {x : AE} : AA (Ez x) fun r => r.length ≤ 8408 := by
 unfold Ez
 refine AA.bind L5 fun v0 _ => ?_
 exact AA.bind Fd fun v1 h1 => AA.some h1
theorem M0 {x : AZ × Int} : AA (C2 x) fun r => r.length ≤ 1099511627776 := by
 unfold C2
 refine AA.bind A4 fun v hv => ?_
 refine AA.not (fun _ => AA.some (by simp)) (fun hc => ?_)
 have hl := (hv.1 hc).2.2.1
 refine AA.bind Nc fun v1 h1 => ?_
 refine AA.bind (P := fun r => r.1.length ≤ 100000000 ∧ r.2.length ≤ 100000000) ?_ fun v11 h11 => ?_
 ·refine AA.loop (fun (s : BF × BF × Int) => 0 ≤ s.2.2 ∧ s.2.2 ≤ x.1.2.1.length ∧ s.1.length ≤ 8408 * s.2.2 + 8408 ∧ s.2.1.length ≤ 8408 * s.2.2) (fun (s : BF × BF × Int) => ((x.1.2.1.length : Int) - s.2.2).toNat) ⟨Int.le_refl _, by dsimp only; omega, by dsimp only; omega, by simp⟩ (fun s hI => ?_)
  obtain ⟨i1, i2, i3, i4⟩ := hI
  unfold In
  have e := AI (x := s.2.2 + 1) (by omega)
  rw [e]
  refine AA.dec (fun hc => ?_) (fun _ => AA.some ⟨by dsimp only; omega, by dsimp only; omega⟩)
  simp only [len] at hc
  refine AA.bind (AA.ix i1 hc) fun v3 _ => ?_
  refine AA.bind (P := fun r => r.1.length ≤ 8408 * (s.2.2 + 1) + 8408 ∧ r.2.length ≤ 8408 * (s.2.2 + 1)) ?_ fun v10 h10 => AA.some ⟨⟨by dsimp only; omega, by dsimp only; omega, h10.1, h10.2⟩, by dsimp only; omega⟩
  refine AA.dec (fun _ => ?_) (fun _ => ?_)
  ·refine AA.bind (AA.ix i1 hc) fun v4 _ => ?_
   refine AA.bind Fg fun v5 h5 => ?_
   refine AA.bind (AA.sapp (by omega)) fun v6 h6 => AA.some ?_
   have l6 := h6.2
   exact ⟨by dsimp only; omega, by dsimp only; omega⟩
  ·refine AA.bind (AA.ix i1 hc) fun v4 _ => ?_
   refine AA.bind Fg fun v5 h5 => ?_
   refine AA.bind (AA.sapp (by omega)) fun v6 h6 => AA.some ?_
   have l6 := h6.2
   exact ⟨by dsimp only; omega, by dsimp only; omega⟩
 ·have hb : 0 ≤ (if ((len v11.2) < (if (0 > x.2) then 0 else x.2)) then (len v11.2) else (if (0 > x.2) then 0 else x.2)) ∧ (if ((len v11.2) < (if (0 > x.2) then 0 else x.2)) then (len v11.2) else (if (0 > x.2) then 0 else x.2)) ≤ v11.2.length := by
   simp only [len]
   split <;> split <;> omega
  refine AA.bind (AA.ssl (Int.le_refl _) hb.1 hb.2) fun v12 h12 => ?_
  have l12 := h12.2
  refine AA.bind (AA.sapp (by omega)) fun v13 h13 => AA.some ?_
  have l13 := h13.2
  omega
theorem Cl.frc {a f g : Int} {l : List AE} (h : Cl (a, l, f)) (h1 : a - 1 ≤ g) (h2 : g ≤ a + l.length - 1) : Cl (a, l, g) :=
 ⟨h.1, h.2.1, h.2.2.1, h1, h2, h.2.2.2.2.2⟩
theorem Uy {x : BF} (h : x.length ≤ 1099511627776) (hx : x = [] ∨ HD x) : AA (H4 x) fun r => r.2 = 0 → Cl r.1 ∧ r.1.1 = 1 := by
 unfold H4
 refine AA.bind ((Er h).and (dT h)) fun v0 h0 => ?_
 obtain ⟨h0, hpay⟩ := h0
 refine AA.bne (fun _ => AA.some fun hz => absurd hz (by decide)) (fun hz0 => ?_)
 have l0 := (h0 hz0).1
 have hne : x ≠ [] := by
  rintro rfl
  have := (h0 hz0).2
  simp only [List.length_nil] at this
  omega
 refine AA.bne (fun _ => AA.some fun hz => absurd hz (by decide)) (fun h12 => ?_)
 simp only [len] at h12
 refine AA.bind (AA.ssl (Int.le_refl _) (by decide) (by omega)) fun v1 _ => ?_
 refine AA.bne (fun _ => AA.some fun hz => absurd hz (by decide)) (fun _ => ?_)
 have hp12 : v0.1 = an := (hx.resolve_left hne).pay (hpay hz0) (by omega)
 rw [hp12, iX]
 refine AA.bsome ?_
 generalize hv2 : ((1 : Int), (0 : Int)) = v2
 have f1 : v2.1 = 1 := by rw [← hv2]
 refine AA.dec (fun _ => AA.some fun hz => absurd hz (by decide)) (fun c1 => ?_)
 refine AA.dec (fun _ => AA.some fun hz => absurd hz (by decide)) (fun c2 => ?_)
 have e0 := AI (x := v2.1 - 1) (by omega)
 rw [e0]
 refine AA.bind (P := fun r => (∀ u, r = .inl u → Cl u.2 ∧ u.2.1 = 1) ∧ ∀ u, r = .inr u → Cl (u.2.1, (u.1, u.2.2.1)) ∧ u.2.1 = 1) ?_ fun r hr => AA.sum (fun u hu => AA.some fun _ => hr.1 u hu) (fun u hu => AA.some fun _ => hr.2 u hu)
 refine AA.loop (fun (s : Int × List AE × Int × Int × AZ) => (Cl (s.2.2.1, (s.2.1, s.2.2.2.1)) ∧ s.2.2.1 = 1) ∧ s.2.2.2.1 = s.2.2.1 + s.2.1.length - 1) (fun (s : Int × List AE × Int × Int × AZ) => 4096 - s.2.1.length) ⟨⟨⟨by dsimp only; omega, by dsimp only; omega, by simp, by dsimp only; omega, by first | (simp; done) | (simp; omega), fun i e hi => by simp at hi⟩, f1⟩, by first | (simp; done) | (simp; omega)⟩ (fun s hI => ?_)
 obtain ⟨hv', hl⟩ := hI
 obtain ⟨hv, hf1⟩ := id hv'
 have b1 := hv.1
 have b2 := hv.2.1
 have b3 := hv.2.2.1
 dsimp only at b1 b2 b3
 unfold M1
 refine AA.dec (fun hc => ?_) (fun _ => AA.some ⟨fun u hu => (by cases hu), fun u hu => (by cases hu; exact hv')⟩)
 simp only [len] at hc
 refine AA.bind (Er h) fun v4 h4 => ?_
 refine AA.bne (fun _ => AA.some ⟨fun u hu => (by cases hu; exact hv'), fun u hu => (by cases hu)⟩) (fun hz4 => ?_)
 refine AA.bind (L4 (by have := (h4 hz4).1; omega)) fun v5 h5 => ?_
 refine AA.bne (fun _ => AA.some ⟨fun u hu => (by cases hu; exact hv'), fun u hu => (by cases hu)⟩) (fun hz5 => ?_)
 refine AA.bne (fun _ => AA.some ⟨fun u hu => (by cases hu; exact hv'), fun u hu => (by cases hu)⟩) (fun he => ?_)
 have e1 := AI (x := s.2.2.2.1 + 1) (by omega)
 rw [e1] at he
 refine AA.bind (AA.app (by simp; omega)) fun v6 h6 => AA.some ?_
 have l6 := h6.2.1
 simp only [List.length_cons, List.length_nil] at l6
 have hv2 := hv.append (e := v5.1) (l := v6) (by dsimp only; omega) (h5 hz5) (by dsimp only; omega) h6.1
 dsimp only at hv2
 exact ⟨⟨⟨hv2.frc (by dsimp only; omega) (by dsimp only; omega), hf1⟩, by dsimp only; omega⟩, by dsimp only; omega⟩
theorem cX {x : AZ × Int} (hf : x.1.1 = 1) : AA (C2 x) fun r => r = [] ∨ HD r := by
 unfold C2
 refine AA.bind A4 fun v hv => ?_
 refine AA.not (fun _ => AA.some (.inl rfl)) (fun hc => ?_)
 have hl := (hv.1 hc).2.2.1
 rw [hf]
 refine AA.bind (Nc.and iY) fun v1 h1 => ?_
 obtain ⟨h1, hh⟩ := h1
 refine AA.bind (P := fun r => r.1.length ≤ 100000000 ∧ r.2.length ≤ 100000000 ∧ HD r.1) ?_ fun v11 h11 => ?_
 ·refine AA.loop (fun (s : BF × BF × Int) => 0 ≤ s.2.2 ∧ s.2.2 ≤ x.1.2.1.length ∧ s.1.length ≤ 8408 * s.2.2 + 8408 ∧ s.2.1.length ≤ 8408 * s.2.2 ∧ HD s.1) (fun (s : BF × BF × Int) => ((x.1.2.1.length : Int) - s.2.2).toNat) ⟨Int.le_refl _, by dsimp only; omega, by dsimp only; omega, by simp, hh⟩ (fun s hI => ?_)
  obtain ⟨i1, i2, i3, i4, i5⟩ := hI
  unfold In
  have e := AI (x := s.2.2 + 1) (by omega)
  rw [e]
  refine AA.dec (fun hc => ?_) (fun _ => AA.some ⟨by dsimp only; omega, by dsimp only; omega, i5⟩)
  simp only [len] at hc
  refine AA.bind (AA.ix i1 hc) fun v3 _ => ?_
  refine AA.bind (P := fun r => r.1.length ≤ 8408 * (s.2.2 + 1) + 8408 ∧ r.2.length ≤ 8408 * (s.2.2 + 1) ∧ HD r.1) ?_ fun v10 h10 => AA.some ⟨⟨by dsimp only; omega, by dsimp only; omega, h10.1, h10.2.1, h10.2.2⟩, by dsimp only; omega⟩
  refine AA.dec (fun _ => ?_) (fun _ => ?_)
  ·refine AA.bind (AA.ix i1 hc) fun v4 _ => ?_
   refine AA.bind Fg fun v5 h5 => ?_
   refine AA.bind (AA.sapp (by omega)) fun v6 h6 => AA.some ?_
   obtain ⟨e6, l6⟩ := h6
   obtain ⟨q, t, w1, w2⟩ := i5
   exact ⟨by dsimp only; omega, by dsimp only; omega, q, t ++ v5, by dsimp only; rw [e6, w1]; simp only [List.append_assoc], w2⟩
  ·refine AA.bind (AA.ix i1 hc) fun v4 _ => ?_
   refine AA.bind Fg fun v5 h5 => ?_
   refine AA.bind (AA.sapp (by omega)) fun v6 h6 => AA.some ?_
   have l6 := h6.2
   exact ⟨by dsimp only; omega, by dsimp only; omega, i5⟩
 ·have hb : 0 ≤ (if ((len v11.2) < (if (0 > x.2) then 0 else x.2)) then (len v11.2) else (if (0 > x.2) then 0 else x.2)) ∧ (if ((len v11.2) < (if (0 > x.2) then 0 else x.2)) then (len v11.2) else (if (0 > x.2) then 0 else x.2)) ≤ v11.2.length := by
   simp only [len]
   split <;> split <;> omega
  refine AA.bind (AA.ssl (Int.le_refl _) hb.1 hb.2) fun v12 h12 => ?_
  have l12 := h12.2
  refine AA.bind (AA.sapp (by have := h11.1; have := h11.2.1; omega)) fun v13 h13 => AA.some (.inr ?_)
  obtain ⟨q, t, w1, w2⟩ := h11.2.2
  exact ⟨q, t ++ v12, by rw [h13.1, w1]; simp only [List.append_assoc], w2⟩
def SQ (n : Int) (s : AB) : Prop := s.1.1 = n ∧ SK s.1 ∧ Cl s.1.2.2.1 ∧ DI s.2 ∧ s.1.2.2.1.1 = 1
theorem SQ.sr {n : Int} {s r : AB} (h : SQ n s) (g : SR s r) : SQ n r := ⟨g.1.1.trans h.1, g.1.2.2.1, g.1.2.2.2, g.2, g.1.2.1.1.trans h.2.2.2.2⟩
theorem VI {x : A2 × BF × Int × Int} (h : x.2.1.length ≤ 1099511627776) (hb : x.2.1 = [] ∨ HD x.2.1) (hd : DI x.1) : AA (IL x) fun r => r.2 = 0 → SQ x.2.2.1 r.1 := by
 unfold IL
 refine AA.bind (Uy h hb) fun v0 h0 => ?_
 refine AA.bne (fun hc => AA.some fun hz => absurd hz hc) (fun hz0 => ?_)
 refine AA.bind RO fun v1 h1 => ?_
 refine AA.bne (fun hc => AA.some fun hz => absurd hz hc) (fun hz1 => ?_)
 have ha := h1 hz1
 refine AA.bind (T0 (h0 hz0).1 ha.2) fun v2 h2 => ?_
 refine AA.bne (fun hc => AA.some fun hz => absurd hz hc) (fun hz2 => AA.some fun _ => ?_)
 obtain ⟨q1, q2, q3, q4⟩ := h2 hz2
 exact ⟨q1.trans ha.1, q2, q3, hd, q4.trans (h0 hz0).2⟩
theorem VJ {x : A2 × BF × Int × Int} (h : x.2.1.length ≤ 1099511627776) (hb : x.2.1 = [] ∨ HD x.2.1) (hd : DI x.1) : AA (IM x) fun r => r.2 = 0 → SQ x.2.2.1 r.1 := by
 unfold IM
 exact AA.bind (VI h hb hd) fun v0 h0 => AA.some h0
theorem T2 {x : AB × Int × Int × Int} (h : SK x.1.1) (hl : Cl x.1.1.2.2.1) (hd : DI x.1.2) (hf : x.1.1.2.2.1.1 = 1) : AA (HP x) fun r => DI r.1 ∧ r.2.length ≤ 1099511627776 ∧ (r.2 = [] ∨ HD r.2) := by
 unfold HP
 refine AA.bind Ct fun i hi => ?_
 refine AA.dec (fun hc => ?_) (fun _ => AA.bind (M0.and (cX hf)) fun v10 h10 => AA.some ⟨hd, h10⟩)
 refine AA.bind (AA.ix hc hi.2.1) fun v1 _ => ?_
 refine AA.bind (P := fun r => DI r.2 ∧ r.1.2.2.1.1 = 1) ?_ fun v8 h8 => AA.bind (M0.and (cX h8.2)) fun v9 h9 => AA.some ⟨h8.1, h9⟩
 refine AA.cond (fun _ => ?_) (fun _ => AA.some ⟨hd, hf⟩)
 refine AA.bind (AA.ix hc hi.2.1) fun v2 _ => ?_
 refine AA.bind Ie fun v3 _ => ?_
 refine AA.bind (AA.ix hc hi.2.1) fun v4 _ => ?_
 refine AA.bind (Fk h hl) fun v5 h5 => ?_
 refine AA.bind (Uw hd) fun v6 h6 => ?_
 refine AA.bind (P := fun d => DI d) ?_ fun v7 h7 => AA.some ⟨h7, h5.1.2.1.1.trans hf⟩
 exact AA.beq (fun hz => AA.some (h6 hz)) (fun _ => AA.some hd)
theorem CQ {x : Int} : AA (Bp x) fun r => True := by
 unfold Bp
 exact AA.bne (fun _ => AA.bind Au fun _ _ => AA.some trivial) (fun _ => AA.some trivial)
end Go.Pm
namespace Go.Pm
open Go Go.Ab
set_option maxHeartbeats 400000
theorem Sm {m : Nat} {c : AB × Bool} {s : Int × List Int × AB × Bool} (hm : m ≤ 16777216) (h : 0 ≤ s.1 ∧ s.1 ≤ m ∧ s.2.1.length = m ∧ s.2.2 = c) : AA (AT Kf s) fun r => r.1.length = m ∧ r.2 = c := by
 refine AA.loop (fun (s : Int × List Int × AB × Bool) => 0 ≤ s.1 ∧ s.1 ≤ m ∧ s.2.1.length = m ∧ s.2.2 = c) (fun (s : Int × List Int × AB × Bool) => ((m : Int) - s.1).toNat) h (fun s hI => ?_)
 obtain ⟨i1, i2, i3, i4⟩ := hI
 unfold Kf
 have e := AI (x := s.1 + 1) (by omega)
 rw [e]
 refine AA.dec (fun hc => ?_) (fun _ => AA.some ⟨i3, i4⟩)
 simp only [len] at hc
 refine AA.bind (AA.ix i1 hc) fun _ _ => ?_
 refine AA.bind (AA.ix i1 hc) fun _ _ => ?_
 exact AA.some ⟨⟨by dsimp only; omega, by dsimp only; omega, by simp [Ej, i3], i4⟩, by dsimp only; omega⟩
theorem V7 {n : Int} {x : AB × List Fv} (h : SQ n x.1) : AA (Jc x) fun r => SQ n r.1 := by
 unfold Jc
 refine AA.bind (P := fun r => SQ n r.2.2.2.1) ?_ fun r hr => AA.some hr
 refine AA.loop (fun (s : Int × List Aj × List Int × List EH × AB × Bool) => 0 ≤ s.1 ∧ s.1 ≤ 1000 ∧ s.2.1.length ≤ s.1 ∧ s.2.2.1.length ≤ s.1 ∧ s.2.2.2.1.length ≤ s.1 ∧ SQ n s.2.2.2.2.1) (fun (s : Int × List Aj × List Int × List EH × AB × Bool) => (1000 - s.1).toNat) ⟨Int.le_refl _, by dsimp only; omega, by simp, by simp, by simp, h⟩ (fun s hI => ?_)
 obtain ⟨i1, i2, i3, i4, i5, hq⟩ := hI
 obtain ⟨q1, q2, q3, q4, q5⟩ := id hq
 unfold Nl
 refine AA.dec (fun hc => ?_) (fun _ => AA.some hq)
 refine AA.dec (fun hc2 => ?_) (fun _ => AA.some hq)
 refine AA.not (fun _ => ?_) (fun _ => AA.some hq)
 simp only [len] at hc
 have e := AI (x := s.1 + 1) (by omega)
 have fin : ∀ (v : Aj) (t : List Int × List EH × AB × Bool), t.1.length ≤ s.1 + 1 → t.2.1.length ≤ s.1 + 1 → SQ n t.2.2.1 → ∀ Q : Step (Int × ((List Aj) × ((List Int) × ((List EH) × (AB × Bool))))) ((List Aj) × ((List Int) × ((List EH) × (AB × Bool)))) → Prop, (∀ s' : Int × List Aj × List Int × List EH × AB × Bool, (0 ≤ s'.1 ∧ s'.1 ≤ 1000 ∧ s'.2.1.length ≤ s'.1 ∧ s'.2.2.1.length ≤ s'.1 ∧ s'.2.2.2.1.length ≤ s'.1 ∧ SQ n s'.2.2.2.2.1) ∧ (1000 - s'.1).toNat < (1000 - s.1).toNat → Q (.next s')) → AA (Option.bind (app s.2.1 ([v] : List (Int × (Int × (Int × ((Bool × BF) × Int)))))) fun v7 => some (.next ((wi (s.1 + 1)), (v7, t)))) Q := by
  intro v t h1 h2 h3 Q hQ
  refine AA.bind (AA.app (by simp; omega)) fun v7 h7 => AA.some (hQ _ ?_)
  have l7 := h7.2.1
  simp only [List.length_cons, List.length_nil] at l7
  rw [e]
  exact ⟨⟨by dsimp only; omega, by dsimp only; omega, by dsimp only; omega, by dsimp only; omega, by dsimp only; omega, h3⟩, by dsimp only; omega⟩
 have same : ∀ (v : Aj) (Q : Step (Int × ((List Aj) × ((List Int) × ((List EH) × (AB × Bool))))) ((List Aj) × ((List Int) × ((List EH) × (AB × Bool)))) → Prop), (∀ s' : Int × List Aj × List Int × List EH × AB × Bool, (0 ≤ s'.1 ∧ s'.1 ≤ 1000 ∧ s'.2.1.length ≤ s'.1 ∧ s'.2.2.1.length ≤ s'.1 ∧ s'.2.2.2.1.length ≤ s'.1 ∧ SQ n s'.2.2.2.2.1) ∧ (1000 - s'.1).toNat < (1000 - s.1).toNat → Q (.next s')) → AA (Option.bind (app s.2.1 ([v] : List (Int × (Int × (Int × ((Bool × BF) × Int)))))) fun v7 => some (.next ((wi (s.1 + 1)), (v7, s.2.2)))) Q := fun v Q hQ => fin v s.2.2 (by omega) (by omega) hq Q hQ
 refine AA.bind (AA.ix i1 hc) fun v1 _ => ?_
 refine AA.beq (fun _ => ?_) (fun _ => ?_)
 ·refine AA.bind (T1 q2 q3 q4) fun v2 h2 => ?_
  refine AA.bind (P := fun r => r.1.length ≤ s.1 + 1 ∧ r.2 = s.2.2.2.2) ?_ fun v4 h4 => ?_
  ·refine AA.beq (fun _ => ?_) (fun _ => AA.some ⟨by dsimp only; omega, rfl⟩)
   refine AA.bind (AA.app (by simp; omega)) fun v3 h3 => AA.some ⟨?_, rfl⟩
   have := h3.2.1
   simp at this
   dsimp only
   omega
  refine AA.bind (P := fun r => SQ n r.1) ?_ fun v5 h5 => ?_
  ·refine AA.beq (fun hz => AA.some (hq.sr (h2 hz))) (fun _ => AA.some (by rw [h4.2]; exact hq))
  refine AA.bind CQ fun v6 _ => ?_
  exact fin _ (v4.1, (s.2.2.2.1, v5)) h4.1 (by dsimp only; omega) h5 _ (fun _ h => h)
 refine AA.beq (fun _ => ?_) (fun _ => ?_)
 ·refine AA.dec (fun _ => AA.bind Au fun v8 _ => same _ _ (fun _ h => h)) (fun c1 => ?_)
  refine AA.dec (fun _ => AA.bind Au fun v8 _ => same _ _ (fun _ h => h)) (fun c2 => ?_)
  simp only [len] at c2
  have e1 := AI (x := v1.2.1 - 1) (by omega)
  rw [e1]
  refine AA.bind (AA.ix (by omega) (by omega)) fun v12 _ => ?_
  refine AA.bind (AA.ix (by omega) (by omega)) fun v13 _ => ?_
  refine AA.beq (fun _ => AA.bind Au fun v8 _ => same _ _ (fun _ h => h)) (fun _ => ?_)
  refine AA.bind (AA.ix (by omega) (by omega)) fun v16 _ => ?_
  refine AA.bind (AA.ix (by omega) (by omega)) fun v17 _ => ?_
  refine AA.bind (Wk q2 q3 q4) fun v18 h18 => ?_
  have hq2 := hq.sr h18
  refine AA.beq (fun _ => same _ _ (fun _ h => h)) (fun _ => ?_)
  refine AA.beq (fun _ => ?_) (fun _ => ?_)
  ·refine AA.bind (P := fun r => r.1.length ≤ s.1 + 1 ∧ SQ n r.2.1) ?_ fun v22 h22 => fin _ (s.2.2.1, v22) (by dsimp only; omega) h22.1 h22.2 _ (fun _ h => h)
   refine AA.beq (fun _ => ?_) (fun _ => AA.some ⟨by dsimp only; omega, hq2⟩)
   refine AA.bind DZ fun v20 _ => ?_
   refine AA.bind (AA.app (by simp; omega)) fun v21 h21 => AA.some ⟨?_, hq2⟩
   have := h21.2.1
   simp at this
   dsimp only
   omega
  ·exact fin _ (s.2.2.1, (s.2.2.2.1, (v18.1, s.2.2.2.2.2))) (by dsimp only; omega) (by dsimp only; omega) hq2 _ (fun _ h => h)
 refine AA.beq (fun _ => ?_) (fun _ => ?_)
 ·refine AA.bind (T4 q2 q3 q4) fun v25 h25 => ?_
  refine AA.bind (P := fun r => SQ n r.1) (AA.beq (fun hz => AA.some (hq.sr (h25 hz))) (fun _ => AA.some hq)) fun v26 h26 => ?_
  refine AA.bind CQ fun v27 _ => ?_
  exact fin _ (s.2.2.1, (s.2.2.2.1, v26)) (by dsimp only; omega) (by dsimp only; omega) h26 _ (fun _ h => h)
 refine AA.beq (fun _ => ?_) (fun _ => ?_)
 ·refine AA.bind (O9 q2 q4) fun v25 h25 => ?_
  refine AA.bind (P := fun r => SQ n r.1) (AA.beq (fun hz => AA.some (hq.sr (h25 hz))) (fun _ => AA.some hq)) fun v26 h26 => ?_
  refine AA.bind CQ fun v27 _ => ?_
  exact fin _ (s.2.2.1, (s.2.2.2.1, v26)) (by dsimp only; omega) (by dsimp only; omega) h26 _ (fun _ h => h)
 refine AA.beq (fun _ => ?_) (fun _ => ?_)
 ·refine AA.bind DZ fun v33 _ => ?_
  refine AA.bind Ff fun v34 h34 => ?_
  refine AA.bind (P := fun r => SQ n r.1) (AA.beq (fun hz => AA.some ⟨q1, q2, (h34 hz).1, q4, (h34 hz).2.2.trans q5⟩) (fun _ => AA.some hq)) fun v26 h26 => ?_
  refine AA.bind CQ fun v27 _ => ?_
  exact fin _ (s.2.2.1, (s.2.2.2.1, v26)) (by dsimp only; omega) (by dsimp only; omega) h26 _ (fun _ h => h)
 refine AA.beq (fun _ => ?_) (fun _ => ?_)
 ·refine AA.bind (T2 q2 q3 q4 q5) fun v38 h38 => ?_
  refine AA.bind (VJ h38.2.1 h38.2.2 h38.1) fun v39 h39 => ?_
  refine AA.bind (Sm (m := s.2.2.1.length) (c := s.2.2.2.2) (by omega) ⟨Int.le_refl _, by dsimp only; omega, rfl, rfl⟩) fun v43 h43 => ?_
  refine AA.bne (fun _ => ?_) (fun hz => ?_)
  ·refine AA.bind CQ fun v44 _ => ?_
   exact fin _ (v43.1, (s.2.2.2.1, (v43.2.1, true))) (by have := h43.1; dsimp only; omega) (by dsimp only; omega) (by dsimp only; rw [h43.2]; exact hq) _ (fun _ h => h)
  ·refine AA.bind CQ fun v44 _ => ?_
   have h39' := h39 hz
   dsimp only at h39'
   rw [q1] at h39'
   exact fin _ (v43.1, (s.2.2.2.1, (v39.1, v43.2.2))) (by have := h43.1; dsimp only; omega) (by dsimp only; omega) h39' _ (fun _ h => h)
 refine AA.beq (fun _ => ?_) (fun _ => ?_)
 ·refine AA.bind (VL q2 q3 q4) fun v25 h25 => ?_
  refine AA.bind (P := fun r => SQ n r.1) (AA.beq (fun hz => AA.some (hq.sr (h25 hz))) (fun _ => AA.some hq)) fun v26 h26 => ?_
  refine AA.bind CQ fun v27 _ => ?_
  exact fin _ (s.2.2.1, (s.2.2.2.1, v26)) (by dsimp only; omega) (by dsimp only; omega) h26 _ (fun _ h => h)
 exact AA.bind Au fun v8 _ => same _ _ (fun _ h => h)
end Go.Pm
namespace Go.Pm
open Go Go.Ab
set_option maxHeartbeats 400000
def CX (b : AD) : Prop := 0 ≤ b.2 ∧ b.1.length ≤ 16777216 ∧ ∀ x ∈ b.1, 0 ≤ x ∧ x < 256
theorem CX.step {b : AD} (h : CX b) (h1 : b.2 < b.1.length) : CX (b.1, wi (b.2 + 1)) := by
 obtain ⟨a1, a2, a3⟩ := h
 have e := AI (x := b.2 + 1) (by omega)
 rw [e]
 exact ⟨by dsimp only; omega, a2, a3⟩
theorem OP {b : AD} (h : CX b) : AA (Dx b 256) fun r => CX r.2 ∧ 0 ≤ r.1 ∧ r.1 < 256 := by
 unfold Dx
 refine AA.dec (fun _ => AA.some ⟨h, Int.le_refl _, by show (0 : Int) < 256; decide⟩) (fun hc => ?_)
 simp only [len] at hc
 refine AA.dec (fun hc => absurd hc (by decide)) (fun _ => ?_)
 refine AA.bind (AA.ix h.1 (by omega)) fun v0 h0 => ?_
 obtain ⟨b1, b2⟩ := h.2.2 v0 h0.2
 have e := AI (x := v0) (by omega)
 refine AA.dec (fun hc => absurd hc (by decide)) (fun _ => ?_)
 refine AA.beq (fun hc => absurd hc (by decide)) (fun _ => AA.some ⟨h.step (by omega), ?_, ?_⟩)
 ·dsimp only; rw [e]; exact Int.tmod_nonneg _ b1
 ·dsimp only; rw [e]; exact Int.tmod_lt_of_pos _ (by decide)
theorem AL {b : AD} {x : Int} (h : CX b) (hx : x ≤ 4611686018427387904) : AA (AM b x) fun r => CX r.2 ∧ 0 ≤ r.1 ∧ (r.1 = 0 ∨ r.1 < x) := by
 unfold AM
 refine AA.dec (fun _ => AA.some ⟨h, Int.le_refl _, .inl rfl⟩) (fun hc => ?_)
 simp only [len] at hc
 refine AA.dec (fun _ => AA.some ⟨h, Int.le_refl _, .inl rfl⟩) (fun hx1 => ?_)
 refine AA.bind (AA.ix h.1 (by omega)) fun v0 h0 => ?_
 obtain ⟨b1, b2⟩ := h.2.2 v0 h0.2
 have e := AI (x := v0) (by omega)
 rw [e]
 refine AA.dec (fun _ => ?_) (fun _ => ?_)
 ·refine AA.bind (OP (h.step (by omega))) fun v1 h1 => ?_
  refine AA.beq (fun hc => absurd hc (by omega)) (fun _ => AA.some ⟨h1.1, ?_, .inr ?_⟩)
  ·have e1 := AI (x := 256 * v0) (by omega)
   have e2 := AI (x := 256 * v0 + v1.1) (by omega)
   dsimp only
   rw [e1, e2]
   exact Int.tmod_nonneg _ (by omega)
  ·exact Int.tmod_lt_of_pos _ (by omega)
 ·refine AA.beq (fun hc => absurd hc (by omega)) (fun _ => AA.some ⟨h.step (by omega), Int.tmod_nonneg _ b1, .inr (Int.tmod_lt_of_pos _ (by omega))⟩)
theorem PS {b : AD} {x : Unit} (h : CX b) : AA (Eo b x) fun r => CX r.2 := by
 unfold Eo
 refine AA.bind (AL h (by decide)) fun v0 h0 => ?_
 refine AA.bind (AL h0.1 (by decide)) fun v1 h1 => ?_
 refine AA.bind (P := fun r => CX r.2 ∧ 0 ≤ r.1 ∧ r.1 ≤ 14) ?_ fun v3 h3 => ?_
 ·refine AA.beq (fun _ => ?_) (fun _ => AA.some ⟨h1.1, h0.2.1, by have := h0.2.2; dsimp only; omega⟩)
  refine AA.bind (AL h1.1 (by decide)) fun v2 h2 => AA.some ⟨h2.1, h2.2.1, by have := h2.2.2; omega⟩
 obtain ⟨c1, c2, c3⟩ := h3
 refine AA.bind (P := fun l : List Int => l.length = 0) ⟨_, if_pos ⟨Int.le_refl _, c2, by omega⟩, by simp⟩ fun v4 h4 => ?_
 refine AA.bind (P := fun r => CX r.2) ?_ fun v8 h8 => AA.some h8
 refine AA.loop (fun (s : Int × List Int × AD) => 0 ≤ s.1 ∧ s.1 ≤ v3.1 ∧ s.2.1.length ≤ s.1 ∧ CX s.2.2) (fun (s : Int × List Int × AD) => (v3.1 - s.1).toNat) ⟨Int.le_refl _, c2, by dsimp only; omega, c1⟩ (fun s hI => ?_)
 obtain ⟨i1, i2, i3, i4⟩ := hI
 unfold Kr
 have e := AI (x := s.1 + 1) (by omega)
 rw [e]
 refine AA.dec (fun _ => ?_) (fun _ => AA.some i4)
 refine AA.bind (AL i4 (by decide)) fun v6 h6 => ?_
 refine AA.bind (AA.app (by simp; omega)) fun v7 h7 => AA.some ?_
 have l7 := h7.2.1
 simp only [List.length_cons, List.length_nil] at l7
 exact ⟨⟨by dsimp only; omega, by dsimp only; omega, by dsimp only; omega, h6.1⟩, by dsimp only; omega⟩
theorem LF {b : AD} {x : Unit} (h : CX b) : AA (Dv b x) fun r => CX r.2 := by
 unfold Dv
 refine AA.bind (AL h (by decide)) fun v0 h0 => ?_
 refine AA.beq (fun _ => AA.bind (AL h0.1 (by decide)) fun v1 h1 => AA.some h1.1) (fun _ => ?_)
 refine AA.beq (fun _ => ?_) (fun _ => AA.bind (AL h0.1 (by decide)) fun v1 h1 => AA.some h1.1)
 refine AA.bind (AL h0.1 (by decide)) fun v2 h2 => ?_
 have := h2.2.2
 refine AA.bind (AA.ix h2.2.1 (by simp; omega)) fun _ _ => ?_
 exact AA.bind (AA.ix h2.2.1 (by simp; omega)) fun _ _ => AA.some h2.1
theorem Oi {b : AD} {x : Int} (h : CX b) (hx : x ≤ 1099511627776) : AA (EB b x) fun r => CX r.2 := by
 unfold EB
 refine AA.bind (AL h (by decide)) fun v0 h0 => ?_
 have h02 := h0.2.2
 refine AA.bind (AA.ix h0.2.1 (by simp; omega)) fun _ _ => ?_
 refine AA.bind (AA.ix h0.2.1 (by simp; omega)) fun v2 _ => ?_
 refine AA.bind (P := fun _ => True) (AA.cond (fun _ => AA.some trivial) (fun _ => AA.bind (P := fun _ => True) (AA.cond (fun _ => AA.some trivial) (fun _ => AA.some trivial)) fun _ _ => AA.some trivial)) fun v4 _ => ?_
 refine AA.bind (P := fun r => CX r.1) ?_ fun v12 h12 => ?_
 ·refine AA.cond (fun _ => ?_) (fun _ => ?_)
  ·refine AA.bind (AL h0.1 (by omega)) fun v5 h5 => ?_
   refine AA.bind (AL h5.1 (by decide)) fun v6 h6 => ?_
   refine AA.bind (P := fun r => CX r.1) ?_ fun v9 h9 => AA.some h9
   refine AA.cond (fun _ => ?_) (fun _ => AA.some h6.1)
   refine AA.bind (PS h6.1) fun v7 h7 => ?_
   have hb : 0 ≤ (if (12 < (len v7.1)) then 12 else (len v7.1)) ∧ (if (12 < (len v7.1)) then 12 else (len v7.1)) ≤ v7.1.length := by
    simp only [len]
    split <;> omega
   exact AA.bind (AA.ssl (Int.le_refl _) hb.1 hb.2) fun v8 _ => AA.some h7
  ·refine AA.bind (P := fun r => CX r.1) ?_ fun v9 h9 => AA.some h9
   exact AA.cond (fun _ => AA.bind (AL h0.1 (by decide)) fun v10 h10 => AA.some h10.1) (fun _ => AA.some h0.1)
 refine AA.bind (AL h12 (by decide)) fun v13 h13 => ?_
 refine AA.bind (P := fun r => CX r.1) ?_ fun v16 h16 => AA.some h16
 refine AA.cond (fun _ => ?_) (fun _ => AA.some h13.1)
 refine AA.bind (LF h13.1) fun v14 h14 => ?_
 exact AA.bind (LF h14) fun v15 h15 => AA.some h15
theorem PT {b : AD} {x : Int × Int × Bool} (h : CX b) (hx : 0 ≤ x.1 ∧ x.1 ≤ 64 ∧ x.2.1 ≤ 64) : AA (Ep b x) fun r => CX r.2 := by
 unfold Ep
 have e := AI (x := x.1 + 1) (by omega)
 rw [e]
 refine AA.bind (AL h (by decide)) fun v0 h0 => ?_
 refine AA.bind (P := fun _ => True) (AA.cond (fun _ => AA.some trivial) (fun _ => AA.some trivial)) fun v1 _ => ?_
 refine AA.cond (fun _ => AA.some h0.1) (fun _ => ?_)
 refine AA.cond (fun _ => AA.bind (AL h0.1 (by omega)) fun v2 h2 => AA.some h2.1) (fun _ => ?_)
 refine AA.cond (fun _ => AA.some h0.1) (fun _ => ?_)
 refine AA.cond (fun _ => AA.some h0.1) (fun _ => ?_)
 refine AA.bind (P := fun s => (∃ u, s = .inl u ∧ CX u.1) ∨ ∃ u, s = .inr u ∧ CX u.1) ?_ fun s hs => ?_
 ·refine AA.cond (fun _ => ?_) (fun _ => ?_)
  ·refine AA.cond (fun _ => ?_) (fun _ => AA.some (.inr ⟨_, rfl, h0.1⟩))
   refine AA.bind (AL h0.1 (by decide)) fun v3 h3 => ?_
   refine AA.bind (AL h3.1 (by decide)) fun v4 h4 => ?_
   refine AA.bind (AL h4.1 (by omega)) fun v5 h5 => ?_
   exact AA.bind (AL h5.1 (by decide)) fun v6 h6 => AA.some (.inl ⟨_, rfl, h6.1⟩)
  ·exact AA.cond (fun _ => AA.some (.inl ⟨_, rfl, h0.1⟩)) (fun _ => AA.some (.inr ⟨_, rfl, h0.1⟩))
 ·rcases hs with ⟨u, rfl, hu⟩ | ⟨u, rfl, hu⟩
  ·exact AA.inl (AA.some hu)
  ·refine AA.inr ?_
   refine AA.bind (AL hu (by omega)) fun v10 h10 => ?_
   exact AA.bind (Oi h10.1 (by omega)) fun v11 h11 => AA.some h11
theorem Nv {b : AD} {x : Int × Int × Bool} (h : CX b) (hx : 0 ≤ x.1 ∧ x.1 ≤ 64 ∧ x.2.1 ≤ 1000 ∧ -1000 ≤ x.2.1) : AA (Dl b x) fun r => CX r.2 := by
 unfold Dl
 have e := AI (x := x.2.1 + 1) (by omega)
 rw [e]
 refine AA.bind (AL h (by omega)) fun v0 h0 => ?_
 have h02 := h0.2.2
 have h01 := h0.2.1
 refine AA.bind (P := fun r => CX r.2) ?_ fun v4 h4 => AA.some h4
 refine AA.loop (fun (s : Int × List Fv × AD) => 0 ≤ s.1 ∧ s.1 + s.2.1.length ≤ 1010 ∧ CX s.2.2) (fun (s : Int × List Fv × AD) => s.1.toNat) ⟨h01, by simp; omega, h0.1⟩ (fun s hI => ?_)
 obtain ⟨i1, i2, i3⟩ := hI
 unfold Hu
 have e := AI (x := s.1 - 1) (by omega)
 rw [e]
 refine AA.dec (fun _ => ?_) (fun _ => AA.some i3)
 refine AA.bind (PT i3 ⟨hx.1, hx.2.1, by show (5 : Int) ≤ 64; decide⟩) fun v2 h2 => ?_
 refine AA.bind (AA.app (by simp; omega)) fun v3 h3 => AA.some ?_
 have l3 := h3.2.1
 simp only [List.length_cons, List.length_nil] at l3
 exact ⟨⟨by dsimp only; omega, by dsimp only; omega, h2⟩, by dsimp only; omega⟩
end Go.Pm
namespace Go.Pm
open Go Go.Ab
set_option maxHeartbeats 400000
theorem Cl.new : Cl (1, ([], 0)) := ⟨by decide, by decide, by simp, by decide, by simp, fun i e h => by simp at h⟩
theorem K0 {x : Unit} : AA (Ef x) fun r => r = (1, ([], 0)) := by
 unfold Ef
 exact AA.some rfl
theorem V5 {x : Int × Int} (h : 1 ≤ x.1 ∧ x.1 ≤ 64 ∧ 1 ≤ x.2 ∧ x.2 ≤ 64) : AA (Ja x) fun r => r.2 = 0 ∧ r.1.1 = x.1 ∧ SK r.1 ∧ Cl r.1.2.2.1 ∧ r.1.2.2.1.1 = 1 := by
 unfold Ja
 refine AA.dec (fun hc => absurd hc (by omega)) (fun _ => ?_)
 refine AA.dec (fun hc => absurd hc (by omega)) (fun _ => ?_)
 refine AA.dec (fun hc => absurd hc (by omega)) (fun _ => ?_)
 refine AA.dec (fun hc => absurd hc (by omega)) (fun _ => ?_)
 refine AA.bind OB fun v0 _ => ?_
 refine AA.bind OC fun v1 _ => ?_
 refine AA.bind K0 fun v2 h2 => AA.some ⟨rfl, rfl, ⟨⟨by simp, by simp⟩, by simp, by simp⟩, ?_⟩
 dsimp only
 rw [h2]
 exact ⟨Cl.new, rfl⟩
theorem iU {x : Int} (h : 1 ≤ x ∧ x ≤ 64) : AA (Ee x) fun r => r.2 = 0 := by
 unfold Ee
 refine AA.dec (fun hc => absurd hc (by omega)) (fun _ => ?_)
 refine AA.dec (fun hc => absurd hc (by omega)) (fun _ => ?_)
 exact AA.bind (L3 (by omega)) fun v0 _ => AA.some rfl
theorem V6 {x : Int × Int} (h : 1 ≤ x.1 ∧ x.1 ≤ 64 ∧ 1 ≤ x.2 ∧ x.2 ≤ 64) : AA (Jb x) fun r => SQ x.1 r.1 := by
 unfold Jb
 refine AA.bind (V5 h) fun v0 h0 => ?_
 refine AA.bne (fun hc => absurd h0.1 hc) (fun _ => ?_)
 refine AA.bind ((Vy).and (iU ⟨h.1, h.2.1⟩)) fun v1 h1 => ?_
 refine AA.bne (fun hc => absurd h1.2 hc) (fun _ => AA.some ?_)
 exact ⟨h0.2.1, h0.2.2.1, h0.2.2.2.1, (h1.1 h1.2).1, h0.2.2.2.2⟩
theorem OQ {b : AD} {x : Int × Bool} (h : CX b) (hx : x.1 ≤ 1000 ∧ -1000 ≤ x.1) : AA (Dy b x) fun r => CX r.2 ∧ ∃ n, 1 ≤ n ∧ n ≤ 4 ∧ SQ n r.1 := by
 unfold Dy
 refine AA.bind (AL h (by decide)) fun v0 h0 => ?_
 refine AA.bind (AL h0.1 (by decide)) fun v1 h1 => ?_
 obtain ⟨a1, a2, a3⟩ := h0
 obtain ⟨b1, b2, b3⟩ := h1
 have e0 := AI (x := 1 + v0.1) (by omega)
 have e1 := AI (x := 1 + v1.1) (by omega)
 rw [e0, e1]
 refine AA.bind (V6 ⟨by dsimp only; omega, by dsimp only; omega, by dsimp only; omega, by dsimp only; omega⟩) fun v2 h2 => ?_
 refine AA.bind (Nv b1 ⟨by dsimp only; omega, by dsimp only; omega, hx.1, hx.2⟩) fun v3 h3 => ?_
 exact AA.bind (V7 h2) fun v4 h4 => AA.some ⟨h3, _, by dsimp only; omega, by dsimp only; omega, h4⟩
theorem KA {b : AD} {x : Int × Bool} (h : CX b) (hx : x.1 ≤ 1000 ∧ -1000 ≤ x.1) : AA (EC b x) fun r => CX r.2 ∧ 1 ≤ r.1.1 ∧ r.1.1 ≤ 4 ∧ SK r.1 ∧ Cl r.1.2.2.1 ∧ r.1.2.2.1.1 = 1 := by
 unfold EC
 refine AA.bind (OQ h hx) fun v0 h0 => AA.some ?_
 obtain ⟨c, n, n1, n2, q1, q2, q3, q4, q5⟩ := h0
 exact ⟨c, by dsimp only; omega, by dsimp only; omega, q2, q3, q5⟩
theorem Wf {b : AD} {x : Int} (h : CX b) (hx : x ≤ 1000 ∧ -1000 ≤ x) : AA (FE b x) fun r => CX r.2.2 ∧ 1 ≤ r.1 ∧ r.1 ≤ 4 ∧ Cl r.2.1 := by
 unfold FE
 refine AA.bind (KA h hx) fun v0 h0 => ?_
 obtain ⟨c, n1, n2, q2, q3, q4⟩ := h0
 refine AA.bind DZ fun v1 h1 => ?_
 have e := h1 q3
 refine AA.bind (Ff.and (cN q3 (by dsimp only; omega))) fun v2 h2 => AA.some ⟨c, n1, n2, (h2.1 h2.2).1⟩
end Go.Pm
namespace Go.Pm
open Go Go.Ab
set_option maxHeartbeats 400000
theorem Li {x : Int × Int × Int × Int × Int} : AA (D9 x) fun r => r = true ↔ 1 ≤ x.1 ∧ x.1 ≤ x.2.1 ∧ x.2.1 ≤ 1099511627776 ∧ 0 ≤ x.2.2.1 ∧ x.2.2.1 ≤ x.2.2.2.1 ∧ x.2.2.2.1 < 64 ∧ 0 ≤ x.2.2.2.2 ∧ x.2.2.2.2 ≤ 8 := by
 unfold D9
 repeat' with_reducible first | refine AA.dec (fun hc => ?_) (fun hc => ?_) | refine AA.cond (fun hc => ?_) (fun hc => ?_) | refine AA.some ?_
 all_goals simp only [decide_eq_true_eq, Bool.false_eq_true, false_iff]
 all_goals omega
theorem Hl {x : AE × AE} : AA (DF x) fun r => True := by
 unfold DF
 repeat' with_reducible first | refine AA.dec (fun hc => ?_) (fun hc => ?_) | refine AA.beq (fun hc => ?_) (fun hc => ?_) | refine AA.cond (fun hc => ?_) (fun hc => ?_) | refine AA.some ?_
 all_goals trivial
theorem Ph {x : List AE × AE} {s : Int} (h : 0 ≤ s ∧ s ≤ x.1.length ∧ (x.1.length : Int) ≤ 16777216) : AA (AT (Hm x) s) fun r => 0 ≤ r ∧ r ≤ x.1.length := by
 refine AA.loop (fun (s : Int) => 0 ≤ s ∧ s ≤ x.1.length ∧ (x.1.length : Int) ≤ 16777216) (fun (s : Int) => ((x.1.length : Int) - s).toNat) h (fun s hI => ?_)
 unfold Hm
 repeat' with_reducible first | refine AA.dec (fun hc => ?_) (fun hc => ?_) | refine AA.cond (fun hc => ?_) (fun hc => ?_) | refine AA.some ?_ | (refine AA.bind (Hl) ?_; intro r hr) | (refine AA.bind (AA.ix ?_ ?_) ?_; rotate_left 2; rintro r ⟨hr, hm⟩)
 all_goals ((try dsimp only [len] at *); (try first | omega | assumption | grind [AI]))
theorem MG {x : List AE × AE} (h : x.1.length ≤ 16777215) : AA (Dc x) fun r => r.1.length ≤ x.1.length + 1 := by
 unfold Dc
 refine AA.bind (Ph ⟨Int.le_refl _, by omega, by omega⟩) fun p hp => ?_
 have main : AA (Option.bind (lsl x.1 0 p) fun v12 =>
  Option.bind (lsl x.1 p (len x.1)) fun v13 =>
  Option.bind (app [] v12) fun v14 =>
  Option.bind (app v14 ([x.2] : List (Int × (Int × (Int × (Int × (Int × (Int × ((Int × (Int × ((Bool × BF) × (Bool × BF)))) × BF))))))))) fun v15 =>
  Option.bind (app v15 v13) fun v16 =>
  some (v16, true)) fun r => r.1.length ≤ x.1.length + 1 := by
  refine AA.bind (AA.lsl (Int.le_refl _) hp.1 hp.2) fun v10 h10 => ?_
  refine AA.bind (AA.lsl hp.1 (by simp only [len]; omega) (by simp only [len]; omega)) fun v11 h11 => ?_
  have l10 := h10.2
  have l11 := h11.2
  simp only [len] at l11
  refine AA.bind (AA.app (by simp; omega)) fun v12 h12 => ?_
  have l12 := h12.2.1
  simp only [List.length_nil] at l12
  refine AA.bind (AA.app (by simp; omega)) fun v13 h13 => ?_
  have l13 := h13.2.1
  simp only [List.length_nil, List.length_cons] at l13
  refine AA.bind (AA.app (by omega)) fun v14 h14 => AA.some ?_
  have l14 := h14.2.1
  dsimp only
  omega
 refine AA.dec (fun hc => ?_) (fun _ => main)
 simp only [len] at hc
 refine AA.bind (AA.ix hp.1 hc) fun v4 _ => ?_
 refine AA.bind Hl fun v5 _ => ?_
 refine AA.beq (fun _ => ?_) (fun _ => main)
 exact AA.bind (AA.ix hp.1 hc) fun v6 _ => AA.some (by dsimp only; omega)
theorem Qh {x : AK} {s : Int} (h : 0 ≤ s ∧ s ≤ x.2.2.2.2.2.length ∧ (x.2.2.2.2.2.length : Int) ≤ 16777216) : AA (AT (JH x) s) fun r => r ≠ .inl true := by
 refine AA.loop (fun (s : Int) => 0 ≤ s ∧ s ≤ x.2.2.2.2.2.length ∧ (x.2.2.2.2.2.length : Int) ≤ 16777216) (fun (s : Int) => ((x.2.2.2.2.2.length : Int) - s).toNat) h (fun s hI => ?_)
 unfold JH
 repeat' with_reducible first | refine AA.dec (fun hc => ?_) (fun hc => ?_) | refine AA.not (fun hc => ?_) (fun hc => ?_) | refine AA.beq (fun hc => ?_) (fun hc => ?_) | refine AA.bne (fun hc => ?_) (fun hc => ?_) | refine AA.cond (fun hc => ?_) (fun hc => ?_) | (refine AA.bsome ?_; try dsimp only) | refine AA.bcond ?_ | refine AA.bbind ?_ | refine AA.bsum ?_ | (refine AA.inl ?_; try dsimp only) | (refine AA.inr ?_; try dsimp only) | (refine AA.sum ?_ ?_ <;> (intro u hu; try subst hu)) | refine AA.some ?_ | (refine AA.bind (Bf) ?_; intro r hr) | (refine AA.bind (BY) ?_; intro r hr) | (refine AA.bind (Hl) ?_; intro r hr) | (refine AA.bind (AA.ix ?_ ?_) ?_; rotate_left 2; rintro r ⟨hr, hm⟩)
 all_goals ((try dsimp only [len] at *); (try first | omega | assumption | grind [AI] | ((try simp (disch := omega) only [AI, ne_eq, Sum.inl.injEq, Sum.inr.injEq, reduceCtorEq, not_false_eq_true, Bool.not_eq_true, len, true_and, and_true, or_false, false_or, false_implies, implies_true] at *) <;> (try intros) <;> (try and_intros) <;> (try intros) <;> (first | omega | assumption | grind))))
def Zm (x : AK) : Prop := 1 ≤ x.1 ∧ x.1 ≤ x.2.1 ∧ x.2.1 ≤ 1099511627776 ∧ 0 ≤ x.2.2.1 ∧ x.2.2.1 ≤ x.2.2.2.1 ∧ x.2.2.2.1 < 64 ∧ 0 ≤ x.2.2.2.2.1 ∧ x.2.2.2.2.1 ≤ 8 ∧ x.2.2.2.2.2.length ≤ 4096
theorem Fs {x : AK} : AA (C7 x) fun r => r = true → Zm x := by
 unfold C7
 refine AA.bind Li fun v0 h0 => ?_
 refine AA.not (fun _ => AA.some fun hz => by cases hz) (fun hc => ?_)
 have hn := h0.1 hc
 dsimp only at hn
 refine AA.dec (fun _ => AA.some fun hz => by cases hz) (fun hl => ?_)
 simp only [len] at hl
 refine AA.bind (Qh ⟨Int.le_refl _, by omega, by omega⟩) fun r hr => ?_
 have q : Zm x := ⟨hn.1, hn.2.1, hn.2.2.1, hn.2.2.2.1, hn.2.2.2.2.1, hn.2.2.2.2.2.1, hn.2.2.2.2.2.2.1, hn.2.2.2.2.2.2.2, by omega⟩
 exact AA.sum (fun u hu => AA.some fun _ => q) (fun u hu => AA.some fun _ => q)
theorem RT {x : List AE × Int × Int × Int × Int × Int} {s : Int × AK} (h : 0 ≤ s.1 ∧ s.1 ≤ x.1.length ∧ x.1.length ≤ 16777215) : AA (AT (J1 x) s) fun r => ∀ u, r = .inl u → u.1 ≠ 0 := by
 refine AA.loop (fun (s : Int × AK) => 0 ≤ s.1 ∧ s.1 ≤ x.1.length ∧ x.1.length ≤ 16777215) (fun (s : Int × AK) => ((x.1.length : Int) - s.1).toNat) h (fun s hI => ?_)
 unfold J1
 repeat' with_reducible first | refine AA.dec (fun hc => ?_) (fun hc => ?_) | refine AA.not (fun hc => ?_) (fun hc => ?_) | refine AA.cond (fun hc => ?_) (fun hc => ?_) | refine AA.some ?_ | (refine AA.bind (Bf) ?_; intro r hr) | (refine AA.bind (AA.ix ?_ ?_) ?_; rotate_left 2; rintro r ⟨hr, hm⟩)
 all_goals ((try dsimp only [len] at *); (try first | omega | assumption | grind [AI]))
theorem RU {s7 : Bool × Int × AK} {v8 : AE} {s : Bool × Int} (h : 0 ≤ s.2 ∧ s.2 ≤ s7.2.2.2.2.2.2.2.length ∧ s7.2.2.2.2.2.2.2.length ≤ 16777215) : AA (AT (J2 s7 v8) s) fun r => True := by
 refine AA.loop (fun (s : Bool × Int) => 0 ≤ s.2 ∧ s.2 ≤ s7.2.2.2.2.2.2.2.length ∧ s7.2.2.2.2.2.2.2.length ≤ 16777215) (fun (s : Bool × Int) => ((s7.2.2.2.2.2.2.2.length : Int) - s.2).toNat) h (fun s hI => ?_)
 unfold J2
 repeat' with_reducible first | refine AA.dec (fun hc => ?_) (fun hc => ?_) | refine AA.not (fun hc => ?_) (fun hc => ?_) | refine AA.beq (fun hc => ?_) (fun hc => ?_) | refine AA.cond (fun hc => ?_) (fun hc => ?_) | refine AA.some ?_ | (refine AA.bind (AA.ix ?_ ?_) ?_; rotate_left 2; rintro r ⟨hr, hm⟩)
 all_goals ((try dsimp only [len] at *); (try first | omega | assumption | grind [AI]))
theorem VO {x : List AE × Int × Int × Int × Int × Int} (h : x.1.length ≤ 16777215) : AA (IR x) fun r => r.2 = 0 → Zm r.1 := by
 unfold IR
 refine AA.bind Li fun v0 _ => ?_
 refine AA.not (fun _ => AA.some fun hz => absurd hz (by decide)) (fun _ => ?_)
 refine AA.bind (RT ⟨Int.le_refl _, by dsimp only; omega, h⟩) fun v4 h4 => ?_
 refine AA.sum (fun u hu => AA.some fun hz => absurd hz (h4 u hu)) (fun u hu => ?_)
 refine AA.bind (P := fun r => r.2.2.2.2.2.2.length ≤ 16777215) ?_ fun v15 h15 => ?_
 ·refine AA.loop (fun (s : Bool × Int × AK) => 0 ≤ s.2.1 ∧ s.2.1 ≤ x.1.length ∧ s.2.2.2.2.2.2.2.length ≤ s.2.1) (fun (s : Bool × Int × AK) => ((x.1.length : Int) - s.2.1).toNat) ⟨Int.le_refl _, by dsimp only; omega, by simp⟩ (fun s hI => ?_)
  obtain ⟨i1, i2, i3⟩ := hI
  unfold M9
  have e := AI (x := s.2.1 + 1) (by omega)
  rw [e]
  refine AA.dec (fun hc => ?_) (fun _ => AA.some (by dsimp only; omega))
  simp only [len] at hc
  have nx : ((0 ≤ s.2.1 + 1 ∧ s.2.1 + 1 ≤ x.1.length ∧ s.2.2.2.2.2.2.2.length ≤ s.2.1 + 1) ∧ ((x.1.length : Int) - (s.2.1 + 1)).toNat < ((x.1.length : Int) - s.2.1).toNat) := ⟨⟨by omega, by omega, by omega⟩, by omega⟩
  refine AA.bind (AA.ix i1 hc) fun v8 _ => ?_
  refine AA.bind BY fun v9 _ => ?_
  refine AA.not (fun _ => AA.some nx) (fun _ => ?_)
  refine AA.dec (fun _ => AA.some nx) (fun _ => ?_)
  refine AA.dec (fun _ => AA.some nx) (fun _ => ?_)
  refine AA.dec (fun _ => AA.some nx) (fun _ => ?_)
  refine AA.dec (fun _ => AA.some nx) (fun _ => ?_)
  refine AA.bind (RU ⟨Int.le_refl _, by dsimp only; omega, by omega⟩) fun v13 _ => ?_
  refine AA.bind (MG (by dsimp only; omega)) fun v14 h14 => AA.some ?_
  dsimp only at h14
  exact ⟨⟨by dsimp only; omega, by dsimp only; omega, by dsimp only; omega⟩, by dsimp only; omega⟩
 refine AA.cond (fun _ => AA.some fun hz => absurd hz (by decide)) (fun _ => ?_)
 refine AA.dec (fun _ => AA.some fun hz => absurd hz (by decide)) (fun _ => ?_)
 refine AA.bind Fs fun v16 h16 => ?_
 exact AA.not (fun _ => AA.some fun hz => absurd hz (by decide)) (fun hc => AA.some fun _ => h16 hc)
theorem VN {x : AK} : AA (IQ x) fun r => True := by
 unfold IQ
 repeat' with_reducible first | refine AA.some ?_ | (refine AA.bind (BA ?_) ?_; rotate_left 1; intro r hr)
 all_goals first | trivial | (simp only [List.length_cons, List.length_nil] at *; omega)
theorem JG {x : AK} : AA (EX x) fun r => r.1.length ≤ 1099511627776 := by
 unfold EX
 refine AA.bind Fs fun v0 h0 => ?_
 refine AA.not (fun _ => AA.some (by simp)) (fun hc => ?_)
 have hl := (h0 hc).2.2.2.2.2.2.2.2
 refine AA.bind VN fun v1 _ => ?_
 refine AA.bind Fd fun v2 h2 => ?_
 refine AA.bind (P := fun r : BF => r.length ≤ 1099511627776) ?_ fun v8 h8 => AA.some h8
 refine AA.loop (fun (s : BF × Int) => 0 ≤ s.2 ∧ s.2 ≤ x.2.2.2.2.2.length ∧ s.1.length ≤ 8408 * s.2 + 8408) (fun (s : BF × Int) => ((x.2.2.2.2.2.length : Int) - s.2).toNat) ⟨Int.le_refl _, by dsimp only; omega, by dsimp only; omega⟩ (fun s hI => ?_)
 obtain ⟨i1, i2, i3⟩ := hI
 unfold Lh
 have e := AI (x := s.2 + 1) (by omega)
 rw [e]
 refine AA.dec (fun hc => ?_) (fun _ => AA.some (by omega))
 simp only [len] at hc
 refine AA.bind (AA.ix i1 hc) fun v4 _ => ?_
 refine AA.bind L5 fun v5 _ => ?_
 refine AA.bind Fd fun v6 h6 => ?_
 refine AA.bind (AA.sapp (by omega)) fun v7 h7 => AA.some ?_
 have l7 := h7.2
 exact ⟨⟨by dsimp only; omega, by dsimp only; omega, by dsimp only; omega⟩, by dsimp only; omega⟩
theorem So {x : BF × Int × Int} (h : x.1.length ≤ 1099511627776) : AA (Bq x) fun r => True := by
 unfold Bq
 exact AA.bind (A7 h) fun _ _ => AA.some trivial
theorem Sn {x : BF} (h : x.length ≤ 1099511627776) : AA (GU x) fun r => r.2 = 0 → Zm r.1 := by
 unfold GU
 refine AA.bind (Er h) fun v0 h0 => ?_
 refine AA.bne (fun hc => AA.some fun hz => absurd hz hc) (fun hz0 => ?_)
 have l0 := (h0 hz0).1
 refine AA.bne (fun _ => AA.some fun hz => absurd hz (by decide)) (fun h33 => ?_)
 simp only [len] at h33
 refine AA.bind (AA.ssl (Int.le_refl _) (by decide) (by omega)) fun v1 _ => ?_
 refine AA.bne (fun _ => AA.some fun hz => absurd hz (by decide)) (fun _ => ?_)
 have hn : ∀ y, AA (Bq (v0.1, y)) fun _ => True := fun y => So (by dsimp only; omega)
 refine AA.bind (hn _) fun v2 _ => ?_
 refine AA.bind (hn _) fun v3 _ => ?_
 refine AA.bind (hn _) fun v4 _ => ?_
 refine AA.bind (hn _) fun v5 _ => ?_
 refine AA.bind (hn _) fun v6 _ => ?_
 refine AA.bind (hn _) fun v7 _ => ?_
 refine AA.dec (fun _ => AA.some fun hz => absurd hz (by decide)) (fun hc7 => ?_)
 refine AA.bind (P := fun r => ∀ u, r = .inl u → u.1 ≠ 0) ?_ fun v12 h12 => ?_
 ·refine AA.loop (fun (s : Int × Int × List AE × Int × Int × Int × Int × Int × AK) => 0 ≤ s.2.1 ∧ s.2.1 ≤ 4096 ∧ s.2.2.1.length ≤ s.2.1) (fun (s : Int × Int × List AE × Int × Int × Int × Int × Int × AK) => (4096 - s.2.1).toNat) ⟨Int.le_refl _, by dsimp only; decide, by simp⟩ (fun s hI => ?_)
  obtain ⟨i1, i2, i3⟩ := hI
  unfold Lg
  have e := AI (x := s.2.1 + 1) (by omega)
  rw [e]
  refine AA.dec (fun hc => ?_) (fun _ => AA.some fun u hu => by cases hu)
  refine AA.bind (Er h) fun v9 h9 => ?_
  refine AA.bne (fun hc => AA.some fun u hu => by cases hu; exact hc) (fun hz9 => ?_)
  refine AA.bind (L4 (by have := (h9 hz9).1; omega)) fun v10 _ => ?_
  refine AA.bne (fun hc => AA.some fun u hu => by cases hu; exact hc) (fun _ => ?_)
  refine AA.bind (AA.app (by simp; omega)) fun v11 h11 => AA.some ?_
  have l11 := h11.2.1
  simp only [List.length_cons, List.length_nil] at l11
  exact ⟨⟨by dsimp only; omega, by dsimp only; omega, by dsimp only; omega⟩, by dsimp only; omega⟩
 refine AA.sum (fun u hu => AA.some fun hz => absurd hz (h12 u hu)) (fun u hu => ?_)
 refine AA.bne (fun _ => AA.some fun hz => absurd hz (by decide)) (fun _ => ?_)
 refine AA.bind Fs fun v15 h15 => ?_
 exact AA.not (fun _ => AA.some fun hz => absurd hz (by decide)) (fun hc => AA.some fun _ => h15 hc)
end Go.Pm
namespace Go.Pm
open Go Go.Ab
set_option maxHeartbeats 400000
def SA (a : AF) : Prop := a.1.length ≤ 16 ∧ a.2.2.1.length ≤ 16777216 ∧ ∀ f ∈ a.2.2.1, f.2.2.length ≤ 1099511627776
def VA (a : AF) : Prop := 1 ≤ a.2.1 ∧ a.2.1 ≤ 64 ∧ 1 ≤ a.1.length ∧ a.1.length ≤ 16 ∧ 1 ≤ a.2.2.2.1 ∧ a.2.2.2.1 ≤ 1099511627777 ∧ 1 ≤ a.2.2.2.2 ∧ a.2.2.2.2 ≤ 1073741825 ∧ a.2.2.1.length ≤ 256
theorem MI {x : Int × List Int} : AA (Cu x) fun r => r = true → 1 ≤ x.1 ∧ x.1 ≤ 64 ∧ 1 ≤ x.2.length ∧ x.2.length ≤ 16 := by
 unfold Cu
 refine AA.dec (fun _ => AA.some fun hz => by cases hz) (fun c1 => ?_)
 refine AA.dec (fun _ => AA.some fun hz => by cases hz) (fun c2 => ?_)
 refine AA.dec (fun _ => AA.some fun hz => by cases hz) (fun c3 => ?_)
 refine AA.dec (fun _ => AA.some fun hz => by cases hz) (fun c4 => ?_)
 simp only [len] at c3 c4
 refine AA.bind (AA.ix (Int.le_refl _) (by omega)) fun v0 _ => ?_
 refine AA.bne (fun _ => AA.some fun hz => by cases hz) (fun _ => ?_)
 refine AA.bind (P := fun _ => True) ?_ fun r _ => ?_
 ·refine AA.loop (fun (s : Int) => 1 ≤ s ∧ s ≤ x.2.length) (fun (s : Int) => ((x.2.length : Int) - s).toNat) ⟨Int.le_refl _, by omega⟩ (fun s hI => ?_)
  unfold Hn
  have e1 := AI (x := s - 1) (by omega)
  have e2 := AI (x := s + 1) (by omega)
  rw [e1, e2]
  refine AA.dec (fun hc => ?_) (fun _ => AA.some trivial)
  simp only [len] at hc
  refine AA.bind (AA.ix (by omega) (by omega)) fun _ _ => ?_
  refine AA.bind (AA.ix (by omega) (by omega)) fun _ _ => ?_
  exact AA.dec (fun _ => AA.some trivial) (fun _ => AA.some ⟨⟨by omega, by omega⟩, by omega⟩)
 ·refine AA.sum (fun u _ => AA.some fun _ => ⟨by omega, by omega, by omega, by omega⟩) (fun u _ => ?_)
  have e := AI (x := len x.2 - 1) (by simp only [len]; omega)
  rw [e]
  exact AA.bind (AA.ix (by simp only [len]; omega) (by simp only [len]; omega)) fun v7 _ => AA.some fun _ => ⟨by omega, by omega, by omega, by omega⟩
theorem V8 {x : Int × List Int} (h : x.2.length ≤ 16) : AA (Cc x) fun r => SA r.1 := by
 unfold Cc
 refine AA.bind MI fun v0 _ => ?_
 refine AA.not (fun _ => AA.some ⟨by simp, by simp, fun f hf => by simp at hf⟩) (fun _ => ?_)
 refine AA.bind (AA.app (by simp; omega)) fun v1 h1 => AA.some ⟨?_, by simp, fun f hf => by simp at hf⟩
 have := h1.2.1
 simp only [List.length_nil] at this
 dsimp only
 omega
theorem Qi {x : AF} {s : Int × Int} (h : 0 ≤ s.2 ∧ s.2 ≤ x.2.2.1.length ∧ x.2.2.1.length ≤ 256) : AA (AT (FL x) s) fun r => r ≠ .inl true := by
 refine AA.loop (fun (s : Int × Int) => 0 ≤ s.2 ∧ s.2 ≤ x.2.2.1.length ∧ x.2.2.1.length ≤ 256) (fun (s : Int × Int) => ((x.2.2.1.length : Int) - s.2).toNat) h (fun s hI => ?_)
 unfold FL
 repeat' with_reducible first | refine AA.dec (fun hc => ?_) (fun hc => ?_) | refine AA.cond (fun hc => ?_) (fun hc => ?_) | refine AA.some ?_ | (refine AA.bind (AA.ix ?_ ?_) ?_; rotate_left 2; rintro r ⟨hr, hm⟩)
 all_goals ((try dsimp only [len] at *); (try first | omega | assumption | grind [AI]))
theorem Ft {x : AF} : AA (CZ x) fun r => r = true → VA x := by
 unfold CZ
 refine AA.bind MI fun v0 h0 => ?_
 refine AA.not (fun _ => AA.some fun hz => by cases hz) (fun hc => ?_)
 obtain ⟨a1, a2, a3, a4⟩ := h0 hc
 refine AA.dec (fun _ => AA.some fun hz => by cases hz) (fun c1 => ?_)
 refine AA.dec (fun _ => AA.some fun hz => by cases hz) (fun c2 => ?_)
 refine AA.dec (fun _ => AA.some fun hz => by cases hz) (fun c3 => ?_)
 refine AA.dec (fun _ => AA.some fun hz => by cases hz) (fun c4 => ?_)
 refine AA.dec (fun _ => AA.some fun hz => by cases hz) (fun c5 => ?_)
 simp only [len] at c5
 refine AA.bind (Qi ⟨Int.le_refl _, by dsimp only; omega, by omega⟩) fun r hr => ?_
 have q : VA x := ⟨a1, a2, a3, a4, by omega, by omega, by omega, by omega, by omega⟩
 exact AA.sum (fun u _ => AA.some fun _ => q) (fun u _ => AA.some fun _ => q)
theorem NA {x : AF × Int} (h : x.1.1.length ≤ 16) (h1 : 0 ≤ x.2 ∧ x.2 < x.1.1.length) : AA (E6 x) fun r => True := by
 unfold E6
 have e := AI (x := x.2 + 1) (by omega)
 rw [e]
 refine AA.bind (P := fun _ => True) ?_ fun v1 _ => AA.bind (AA.ix h1.1 h1.2) fun v2 _ => AA.some trivial
 refine AA.dec (fun hc => ?_) (fun _ => AA.some trivial)
 simp only [len] at hc
 exact AA.bind (AA.ix (by omega) hc) fun v0 _ => AA.some trivial
theorem Pi {x : AF × AK} (h : x.1.1.length ≤ 16) : AA (Eu x) fun r => -1 ≤ r ∧ r < 16 := by
 unfold Eu
 refine AA.bind (P := fun r => ∀ u, r = .inl u → 0 ≤ u ∧ u < 16) ?_ fun r hr => AA.sum (fun u hu => AA.some (by have := hr u hu; omega)) (fun _ _ => AA.some (by decide))
 refine AA.loop (fun (s : Int) => 0 ≤ s ∧ s ≤ x.1.1.length) (fun (s : Int) => ((x.1.1.length : Int) - s).toNat) ⟨Int.le_refl _, by omega⟩ (fun s hI => ?_)
 unfold Kt
 have e := AI (x := s + 1) (by omega)
 rw [e]
 refine AA.dec (fun hc => ?_) (fun _ => AA.some fun u hu => by cases hu)
 simp only [len] at hc
 have nx : ((0 ≤ s + 1 ∧ s + 1 ≤ x.1.1.length) ∧ ((x.1.1.length : Int) - (s + 1)).toNat < ((x.1.1.length : Int) - s).toNat) := ⟨⟨by omega, by omega⟩, by omega⟩
 refine AA.bind (NA h ⟨hI.1, hc⟩) fun v1 _ => ?_
 refine AA.beq (fun _ => ?_) (fun _ => AA.some nx)
 exact AA.beq (fun _ => AA.some fun u hu => by cases hu; omega) (fun _ => AA.some nx)
theorem Sp {x : AF × BJ} (h : x.1.1.length ≤ 16) (h1 : x.2.2.2.length ≤ 1099511627776) : AA (GV x) fun r => 0 ≤ r.2 → Zm r.1 := by
 unfold GV
 refine AA.bne (fun _ => AA.some fun hz => absurd hz (by decide)) (fun _ => ?_)
 refine AA.bind (Sn h1) fun v0 h0 => ?_
 refine AA.bne (fun _ => AA.some fun hz => absurd hz (by decide)) (fun hz => ?_)
 exact AA.bind (Pi h) fun v1 _ => AA.some fun _ => h0 hz
theorem PA {x : AK × Int} {s : Int × (List AE) × Int × Int × Int × Int × Int} (h : 0 ≤ s.1 ∧ s.1 ≤ x.1.2.2.2.2.2.length ∧ x.1.2.2.2.2.2.length ≤ 4096 ∧ s.2.1.length ≤ s.1) : AA (AT (Gm x) s) fun r => r.1.length ≤ 4096 := by
 refine AA.loop (fun (s : Int × (List AE) × Int × Int × Int × Int × Int) => 0 ≤ s.1 ∧ s.1 ≤ x.1.2.2.2.2.2.length ∧ x.1.2.2.2.2.2.length ≤ 4096 ∧ s.2.1.length ≤ s.1) (fun (s : Int × (List AE) × Int × Int × Int × Int × Int) => ((x.1.2.2.2.2.2.length : Int) - s.1).toNat) h (fun s hI => ?_)
 unfold Gm
 repeat' with_reducible first | refine AA.dec (fun hc => ?_) (fun hc => ?_) | refine AA.cond (fun hc => ?_) (fun hc => ?_) | (refine AA.bsome ?_; try dsimp only) | refine AA.bcond ?_ | refine AA.bbind ?_ | refine AA.some ?_ | (refine AA.bind (AA.ix ?_ ?_) ?_; rotate_left 2; rintro r ⟨hr, hm⟩) | (refine AA.bind (AA.app ?_) ?_; rotate_left 1; rintro r ⟨hr, hl, hl2⟩)
 all_goals ((try dsimp only [len] at *); (try first | omega | assumption | grind [AI]))
theorem RW {x : AK × Int} (h : x.1.2.2.2.2.2.length ≤ 4096) : AA (Fu x) fun r => r.2.2.2.2.2.length ≤ 4096 := by
 unfold Fu
 refine AA.dec (fun _ => AA.some h) (fun _ => ?_)
 exact AA.bind (PA ⟨Int.le_refl _, by dsimp only; omega, h, by simp⟩) fun v5 h5 => AA.some h5
theorem RV {x : AF × AZ × Int} {v2 : List AE} {s : Int × AF} (h : 0 ≤ s.1 ∧ s.1 ≤ v2.length ∧ v2.length ≤ 4096) : AA (AT (J3 x v2) s) fun r => ∀ u, r = .inl u → u.1 ≠ 0 := by
 refine AA.loop (fun (s : Int × AF) => 0 ≤ s.1 ∧ s.1 ≤ v2.length ∧ v2.length ≤ 4096) (fun (s : Int × AF) => ((v2.length : Int) - s.1).toNat) h (fun s hI => ?_)
 unfold J3
 repeat' with_reducible first | refine AA.dec (fun hc => ?_) (fun hc => ?_) | refine AA.beq (fun hc => ?_) (fun hc => ?_) | refine AA.cond (fun hc => ?_) (fun hc => ?_) | refine AA.some ?_ | (refine AA.bind (AA.ix ?_ ?_) ?_; rotate_left 2; rintro r ⟨hr, hm⟩)
 all_goals ((try dsimp only [len] at *); (try first | omega | assumption | grind [AI]))
end Go.Pm
namespace Go.Pm
open Go Go.Ab
set_option maxHeartbeats 400000
def RL (l : List AK) : Prop := ∀ r ∈ l, r.2.2.2.2.2.length ≤ 4096
theorem Qk {s2 : List AK × List Int × Int} {v4 : AK × Int} {s : Int} (h : 0 ≤ s ∧ s ≤ s2.1.length ∧ s2.1.length ≤ 16777215) : AA (AT (JJ s2 v4) s) fun r => 0 ≤ r ∧ r ≤ s2.1.length := by
 refine AA.loop (fun (s : Int) => 0 ≤ s ∧ s ≤ s2.1.length) (fun (s : Int) => s.toNat) ⟨h.1, h.2.1⟩ (fun s hI => ?_)
 unfold JJ
 have hb := h.2.2
 have e := AI (x := s - 1) (by omega)
 rw [e]
 refine AA.dec (fun hc => ?_) (fun _ => AA.some hI)
 refine AA.bind (AA.ix (by omega) (by omega)) fun v6 _ => ?_
 exact AA.dec (fun _ => AA.some ⟨⟨by omega, by omega⟩, by omega⟩) (fun _ => AA.some hI)
theorem Qj {x : AF} {s1 : Int × List AK × List Int × List Bool} (h : VA x) (hs : SA x) (hp : 0 ≤ s1.1) : AA (AT (JI x s1) ([], ([], 0))) fun r => r.2.length = r.1.length ∧ r.1.length ≤ 256 ∧ RL r.1 := by
 have a4 := h.2.2.2.1
 have a9 := h.2.2.2.2.2.2.2.2
 refine AA.loop (fun (s : List AK × List Int × Int) => 0 ≤ s.2.2 ∧ s.2.2 ≤ x.2.2.1.length ∧ s.2.1.length = s.1.length ∧ s.1.length ≤ s.2.2 ∧ RL s.1) (fun (s : List AK × List Int × Int) => ((x.2.2.1.length : Int) - s.2.2).toNat) ⟨Int.le_refl _, by dsimp only; omega, rfl, by simp, fun r hr => by simp at hr⟩ (fun s hI => ?_)
 obtain ⟨i1, i2, i3, i4, i5⟩ := hI
 unfold JI
 have e := AI (x := s.2.2 + 1) (by omega)
 rw [e]
 refine AA.dec (fun hc => ?_) (fun _ => AA.some ⟨i3, by dsimp only; omega, i5⟩)
 simp only [len] at hc
 refine AA.bind (AA.ix i1 hc) fun v3 h3 => ?_
 refine AA.bind (Sp a4 (hs.2.2 v3 h3.2)) fun v4 h4 => ?_
 refine AA.bne (fun _ => AA.some ⟨⟨by dsimp only; omega, by dsimp only; omega, i3, by dsimp only; omega, i5⟩, by dsimp only; omega⟩) (fun heq => ?_)
 have hv4 := h4 (by omega)
 refine AA.bind (Qk ⟨by simp only [len]; omega, by simp only [len]; omega, by omega⟩) fun v7 h7 => ?_
 refine AA.bind (AA.lsl (Int.le_refl _) h7.1 h7.2) fun v8 h8 => ?_
 refine AA.bind (AA.lsl h7.1 (by simp only [len]; omega) (by simp only [len]; omega)) fun v9 h9 => ?_
 have l8 := h8.2
 have l9 := h9.2
 simp only [len] at l9
 refine AA.bind (AA.app (by simp; omega)) fun v10 h10 => ?_
 have l10 := h10.2.1
 simp only [List.length_nil] at l10
 refine AA.bind (AA.app (by simp; omega)) fun v11 h11 => ?_
 have l11 := h11.2.1
 simp only [List.length_nil, List.length_cons] at l11
 refine AA.bind (AA.app (by omega)) fun v12 h12 => ?_
 have l12 := h12.2.1
 refine AA.bind (AA.lsl (Int.le_refl _) h7.1 (by omega)) fun v13 h13 => ?_
 have l13 := h13.2
 refine AA.bind (AA.ix i1 hc) fun v14 _ => ?_
 refine AA.bind (AA.lsl h7.1 (by simp only [len]; omega) (by simp only [len]; omega)) fun v15 h15 => ?_
 have l15 := h15.2
 simp only [len] at l15
 refine AA.bind (AA.app (by simp; omega)) fun v16 h16 => ?_
 have l16 := h16.2.1
 simp only [List.length_nil] at l16
 refine AA.bind (AA.app (by simp; omega)) fun v17 h17 => ?_
 have l17 := h17.2.1
 simp only [List.length_nil, List.length_cons] at l17
 refine AA.bind (AA.app (by omega)) fun v18 h18 => AA.some ?_
 have l18 := h18.2.1
 refine ⟨⟨by dsimp only; omega, by dsimp only; omega, by dsimp only; omega, by dsimp only; omega, fun r hr => ?_⟩, by dsimp only; omega⟩
 dsimp only at hr
 rw [h12.1, h11.1, h10.1, h8.1, h9.1] at hr
 rcases List.mem_append.1 hr with w | w
 ·rcases List.mem_append.1 w with w | w
  ·rw [List.nil_append] at w
   exact i5 r (List.mem_of_mem_drop (List.mem_of_mem_take w))
  ·simp at w
   rw [w]
   exact hv4.2.2.2.2.2.2.2.2
 ·exact i5 r (List.mem_of_mem_drop (List.mem_of_mem_take w))
def T3 (n : Int) (t : List AK × List Int × List Bool) : Prop := t.2.1.length = t.1.length ∧ t.2.2.length = t.1.length ∧ t.1.length ≤ n ∧ RL t.1
theorem Ql {v19 : List AK × List Int} {n : Int} {t : List AK × List Int × List Bool} (h : v19.2.length = v19.1.length ∧ v19.1.length ≤ 256 ∧ RL v19.1) (hn : n ≤ 100000) (ht : T3 n t) : AA (AT (JK v19) (0, (0, t))) fun r => T3 (n + 256) r := by
 refine AA.loop (fun (s : Int × Int × List AK × List Int × List Bool) => 0 ≤ s.2.1 ∧ s.2.1 ≤ v19.1.length ∧ T3 (n + s.2.1) s.2.2) (fun (s : Int × Int × List AK × List Int × List Bool) => ((v19.1.length : Int) - s.2.1).toNat) ⟨Int.le_refl _, by dsimp only; omega, by simpa using ht⟩ (fun s hI => ?_)
 obtain ⟨i1, i2, j1, j2, j3, j4⟩ := hI
 obtain ⟨h1, h2, h3⟩ := h
 unfold JK
 have e := AI (x := s.2.1 + 1) (by omega)
 rw [e]
 refine AA.dec (fun hc => ?_) (fun _ => AA.some ⟨j1, j2, by omega, j4⟩)
 simp only [len] at hc
 refine AA.bind (AA.ix i1 hc) fun v21 _ => ?_
 refine AA.dec (fun _ => AA.some ⟨⟨by dsimp only; omega, by dsimp only; omega, j1, j2, by dsimp only; omega, j4⟩, by dsimp only; omega⟩) (fun _ => ?_)
 refine AA.bind (AA.ix i1 hc) fun v22 h22 => ?_
 refine AA.bind (AA.ix i1 (by omega)) fun v23 _ => ?_
 refine AA.bind (AA.ix i1 hc) fun v24 _ => ?_
 refine AA.bind (RW (h3 v22 h22.2)) fun v25 h25 => ?_
 refine AA.bind (AA.app (by simp; omega)) fun v26 h26 => ?_
 have l26 := h26.2.1
 simp only [List.length_nil, List.length_cons] at l26
 refine AA.bind (AA.app (by simp; omega)) fun v27 h27 => ?_
 have l27 := h27.2.1
 simp only [List.length_nil, List.length_cons] at l27
 refine AA.bind (AA.app (by simp; omega)) fun v28 h28 => ?_
 have l28 := h28.2.1
 simp only [List.length_nil, List.length_cons] at l28
 refine AA.bind (AA.ix i1 hc) fun v29 _ => AA.some ?_
 refine ⟨⟨by dsimp only; omega, by dsimp only; omega, by dsimp only; omega, by dsimp only; omega, by dsimp only; omega, fun r hr => ?_⟩, by dsimp only; omega⟩
 dsimp only at hr
 rw [h26.1] at hr
 rcases List.mem_append.1 hr with w | w
 ·exact j4 r w
 ·simp at w
  rw [w]
  exact h25
theorem NC {x : AF} (hs : SA x) : AA (HS x) fun r => T3 4096 r := by
 unfold HS
 refine AA.bind Ft fun v0 h0 => ?_
 refine AA.not (fun _ => AA.some ⟨rfl, rfl, by simp, fun r hr => by simp at hr⟩) (fun hc => ?_)
 have hv := h0 hc
 have a4 := hv.2.2.2.1
 refine AA.bind (P := fun r => T3 4096 r) ?_ fun r hr => AA.some hr
 refine AA.loop (fun (s : Int × List AK × List Int × List Bool) => 0 ≤ s.1 ∧ s.1 ≤ x.1.length ∧ T3 (256 * s.1) s.2) (fun (s : Int × List AK × List Int × List Bool) => ((x.1.length : Int) - s.1).toNat) ⟨Int.le_refl _, by dsimp only; omega, rfl, rfl, by simp, fun r hr => by simp at hr⟩ (fun s hI => ?_)
 obtain ⟨i1, i2, i3⟩ := hI
 unfold MH
 have e := AI (x := s.1 + 1) (by omega)
 rw [e]
 refine AA.dec (fun hc => ?_) (fun _ => AA.some ⟨i3.1, i3.2.1, by have := i3.2.2.1; omega, i3.2.2.2⟩)
 simp only [len] at hc
 refine AA.bind (Qj hv hs i1) fun v19 h19 => ?_
 refine AA.bind (Ql h19 (by omega) i3) fun v30 h30 => AA.some ⟨⟨by dsimp only; omega, by dsimp only; omega, h30.1, h30.2.1, by have := h30.2.2.1; dsimp only; omega, h30.2.2.2⟩, by dsimp only; omega⟩
end Go.Pm
