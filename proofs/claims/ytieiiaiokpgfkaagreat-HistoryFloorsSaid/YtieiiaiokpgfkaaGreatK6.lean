/- What these functions answer, part 6. Texts of the folder wip, laid in few files with shorter names by a program (wip/tools/pack.py); nothing is assumed. -/
import Derived.Test.YtieiiaiokpgfkaaGreatK5
set_option linter.unusedVariables false
set_option linter.unusedSimpArgs false
set_option linter.unusedSectionVars false
namespace Go.Pm
open Go Go.Ab
set_option maxHeartbeats 400000
theorem gd {x : List AK × List Bool} {s5 : Int × AK × AK} {a : AK} (hx : RL x.1) (h : 0 ≤ s5.1 ∧ s5.1 < x.1.length) (ha : a.2.2.2.2.2.length ≤ 1000000) : AA (AT (JL x s5) (0, a)) fun r => r.2.2.2.2.2.length ≤ a.2.2.2.2.2.length + 4096 := by
 obtain ⟨t, t1, t2⟩ := AA.ix (l := x.1) h.1 h.2
 have tl := hx t t2.2
 refine AA.loop (fun (s : Int × AK) => 0 ≤ s.1 ∧ s.1 ≤ t.2.2.2.2.2.length ∧ s.2.2.2.2.2.2.length ≤ a.2.2.2.2.2.length + s.1) (fun (s : Int × AK) => ((t.2.2.2.2.2.length : Int) - s.1).toNat) ⟨Int.le_refl _, by dsimp only; omega, by dsimp only; omega⟩ (fun s hI => ?_)
 obtain ⟨i1, i2, i3⟩ := hI
 unfold JL
 rw [t1]
 refine AA.bsome ?_
 have e := AI (x := s.1 + 1) (by omega)
 rw [e]
 refine AA.dec (fun hc => ?_) (fun _ => AA.some (by omega))
 simp only [len] at hc
 refine AA.bsome ?_
 refine AA.bind (AA.ix i1 hc) fun v18 _ => ?_
 refine AA.bind (MG (by dsimp only; omega)) fun v19 h19 => AA.some ?_
 dsimp only at h19
 exact ⟨⟨by dsimp only; omega, by dsimp only; omega, by dsimp only; omega⟩, by dsimp only; omega⟩
theorem NE {x : List AK × List Bool} (hx : RL x.1) (h : 1 ≤ x.1.length ∧ x.1.length ≤ 8) (h2 : x.2.length = x.1.length) : AA (HT x) fun r => True := by
 unfold HT
 have e := AI (x := len x.1 - 1) (by simp only [len]; omega)
 rw [e]
 have z : ∀ i : Int, 0 ≤ i → i < x.1.length → AA (ix x.1 i) fun _ => True := fun i a b => (AA.ix a b).mono fun _ _ => trivial
 refine AA.bind (z _ (Int.le_refl _) (by omega)) fun v0 _ => ?_
 refine AA.bind (z _ (by simp only [len]; omega) (by simp only [len]; omega)) fun v1 _ => ?_
 refine AA.bind (z _ (Int.le_refl _) (by omega)) fun v2 _ => ?_
 refine AA.bind (z _ (Int.le_refl _) (by omega)) fun v3 _ => ?_
 refine AA.bind (z _ (Int.le_refl _) (by omega)) fun v4 _ => ?_
 refine AA.bind (P := fun _ => True) ?_ fun r _ => AA.sum (fun _ _ => AA.some trivial) (fun u _ => AA.bind Fs fun v30 _ => AA.some trivial)
 refine AA.loop (fun (s : Int × AK × AK) => 0 ≤ s.1 ∧ s.1 ≤ x.1.length ∧ s.2.1.2.2.2.2.2.length ≤ 4096 * s.1) (fun (s : Int × AK × AK) => ((x.1.length : Int) - s.1).toNat) ⟨Int.le_refl _, by dsimp only; omega, by simp⟩ (fun s hI => ?_)
 obtain ⟨i1, i2, i3⟩ := hI
 unfold MJ
 have e1 := AI (x := s.1 + 1) (by omega)
 have e2 := AI (x := s.1 - 1) (by omega)
 rw [e1, e2]
 refine AA.dec (fun hc => ?_) (fun _ => AA.some trivial)
 simp only [len] at hc
 have zz : AA (ix x.1 s.1) fun _ => True := z _ i1 hc
 have z0 : AA (ix x.1 0) fun _ => True := z _ (Int.le_refl _) (by omega)
 refine AA.bind (AA.ix i1 (by omega)) fun v6 _ => ?_
 refine AA.not (fun _ => AA.some trivial) (fun _ => ?_)
 refine AA.bind zz fun v7 _ => ?_
 refine AA.bind z0 fun v8 _ => ?_
 refine AA.bne (fun _ => AA.some trivial) (fun _ => ?_)
 refine AA.bind zz fun v9 _ => ?_
 refine AA.bind z0 fun v10 _ => ?_
 refine AA.bne (fun _ => AA.some trivial) (fun _ => ?_)
 refine AA.bind zz fun v11 _ => ?_
 refine AA.bind z0 fun v12 _ => ?_
 refine AA.bne (fun _ => AA.some trivial) (fun _ => ?_)
 have gr := gd (s5 := s) (a := s.2.1) hx ⟨i1, hc⟩ (by omega)
 refine AA.dec (fun hpos => ?_) (fun _ => ?_)
 ·refine AA.bind zz fun v13 _ => ?_
  refine AA.bind (z _ (by omega) (by omega)) fun v14 _ => ?_
  refine AA.bne (fun _ => AA.some trivial) (fun _ => ?_)
  exact AA.bind gr fun v20 h20 => AA.some ⟨⟨by dsimp only; omega, by dsimp only; omega, by dsimp only; omega⟩, by dsimp only; omega⟩
 ·have gr2 : AA (AT (MK x s) (0, s.2.1)) fun r => r.2.2.2.2.2.length ≤ s.2.1.2.2.2.2.2.length + 4096 := gr
  exact AA.bind gr2 fun v20 h20 => AA.some ⟨⟨by dsimp only; omega, by dsimp only; omega, by dsimp only; omega⟩, by dsimp only; omega⟩
theorem Lj {x : AF × Int} {v1 : List AK × List Int × List Bool} {s2 : Int × AF} {s6 : Int × List BJ × List Int × Int × Int × Int} (h : 0 ≤ s2.1 ∧ 2 ≤ x.2 ∧ x.2 ≤ 8 ∧ s2.1 + x.2 ≤ v1.2.1.length ∧ v1.2.1.length ≤ 4096) (h6 : 0 ≤ s6.1 ∧ s6.1 < x.1.2.2.1.length) : AA (AT (J6 x v1 s2 s6) (false, s2.1)) fun r => True := by
 obtain ⟨h1, h2, h3, h4, h5⟩ := h
 refine AA.loop (fun (s : Bool × Int) => s2.1 ≤ s.2 ∧ s.2 ≤ s2.1 + x.2) (fun (s : Bool × Int) => (s2.1 + x.2 - s.2).toNat) ⟨Int.le_refl _, by dsimp only; omega⟩ (fun s hI => ?_)
 unfold J6
 have e1 := AI (x := s.2 + 1) (by omega)
 have e2 := AI (x := s2.1 + x.2) (by omega)
 rw [e1, e2]
 refine AA.dec (fun hc => ?_) (fun _ => AA.some trivial)
 refine AA.cond (fun _ => AA.some ⟨⟨by dsimp only; omega, by dsimp only; omega⟩, by dsimp only; omega⟩) (fun _ => ?_)
 refine AA.bind (AA.ix (by omega) (by omega)) fun v8 _ => ?_
 exact AA.bind (AA.ix h6.1 h6.2) fun v9 _ => AA.some ⟨⟨by dsimp only; omega, by dsimp only; omega⟩, by dsimp only; omega⟩
theorem Nm {x : AF × Int} (hs : SA x.1) : AA (Co x) fun r => r.2.2 = 0 → r.2.1 = true → SA r.1 ∧ r.1.2.2.2.2 = x.1.2.2.2.2 + 1 ∧ x.1.2.2.2.2 ≤ 1073741824 := by
 unfold Co
 refine AA.bind Ft fun v0 h0 => ?_
 refine AA.not (fun _ => AA.some fun hz => absurd hz (by decide)) (fun hc => ?_)
 have hv := h0 hc
 obtain ⟨a1, a2, a3, a4, a5, a6, a7, a8, a9⟩ := hv
 refine AA.dec (fun _ => AA.some fun hz => absurd hz (by decide)) (fun c1 => ?_)
 refine AA.dec (fun _ => AA.some fun hz => absurd hz (by decide)) (fun c2 => ?_)
 refine AA.bind (NC hs) fun v1 h1 => ?_
 obtain ⟨t1, t2, t3, t4⟩ := h1
 refine AA.bind (P := fun r => ∀ u, r = .inl u → u.2.1 = 0 → u.1 = true → SA u.2.2 ∧ u.2.2.2.2.2.2 = x.1.2.2.2.2 + 1 ∧ x.1.2.2.2.2 ≤ 1073741824) ?_ fun r hr => AA.sum (fun u hu => AA.some (hr u hu)) (fun u hu => AA.some fun _ hz => by cases hz)
 refine AA.loop (fun (s : Int × AF) => 0 ≤ s.1 ∧ s.1 ≤ v1.1.length) (fun (s : Int × AF) => ((v1.1.length : Int) - s.1).toNat) ⟨Int.le_refl _, by dsimp only; omega⟩ (fun s hI => ?_)
 obtain ⟨i1, i2⟩ := hI
 unfold J4
 have e1 := AI (x := s.1 + 1) (by omega)
 have e2 := AI (x := s.1 + x.2) (by omega)
 rw [e1, e2]
 refine AA.dec (fun hc => ?_) (fun _ => AA.some fun u hu => by cases hu)
 simp only [len] at hc
 refine AA.bind (AA.lsl i1 (by omega) (by omega)) fun v3 h3 => ?_
 refine AA.bind (AA.lsl i1 (by omega) (by omega)) fun v4 h4 => ?_
 have l3 := h3.2
 have l4 := h4.2
 refine AA.bind (NE (fun r hr => t4 r (by dsimp only at hr; rw [h3.1] at hr; exact List.mem_of_mem_drop (List.mem_of_mem_take hr))) ⟨by dsimp only; omega, by dsimp only; omega⟩ (by dsimp only; omega)) fun v5 _ => ?_
 refine AA.not (fun _ => AA.some ⟨⟨by dsimp only; omega, by dsimp only; omega⟩, by dsimp only; omega⟩) (fun _ => ?_)
 refine AA.dec (fun _ => AA.some fun u hu hz => by cases hu; exact absurd hz (by decide)) (fun c3 => ?_)
 refine AA.bind (P := fun r => r.1.length ≤ 256 ∧ (∀ f ∈ r.1, f.2.2.length ≤ 1099511627776) ∧ r.2.1 = x.1.1 ∧ r.2.2.2.2 = x.1.2.2.2.2) ?_ fun v14 h14 => ?_
 ·refine AA.loop (fun (q : Int × List BJ × List Int × Int × Int × Int) => 0 ≤ q.1 ∧ q.1 ≤ x.1.2.2.1.length ∧ q.2.1.length ≤ q.1 ∧ (∀ f ∈ q.2.1, f.2.2.length ≤ 1099511627776) ∧ q.2.2.1 = x.1.1 ∧ q.2.2.2.2.2 = x.1.2.2.2.2) (fun (q : Int × List BJ × List Int × Int × Int × Int) => ((x.1.2.2.1.length : Int) - q.1).toNat) ⟨Int.le_refl _, by dsimp only; omega, by simp, fun f hf => by simp at hf, rfl, rfl⟩ (fun q hJ => ?_)
  obtain ⟨j1, j2, j3, j4, j5, j6⟩ := hJ
  unfold J5
  have e3 := AI (x := q.1 + 1) (by omega)
  rw [e3]
  refine AA.dec (fun hc => ?_) (fun _ => AA.some ⟨by omega, j4, j5, j6⟩)
  simp only [len] at hc
  refine AA.bind (Lj ⟨i1, by omega, by omega, by omega, by omega⟩ ⟨j1, hc⟩) fun v10 _ => ?_
  refine AA.bind (P := fun t => t.1.length ≤ q.2.1.length + 1 ∧ (∀ f ∈ t.1, f.2.2.length ≤ 1099511627776) ∧ t.2 = q.2.2) ?_ fun v13 h13 => AA.some ⟨⟨by dsimp only; omega, by dsimp only; omega, by have := h13.1; dsimp only; omega, h13.2.1, by dsimp only; rw [h13.2.2]; exact j5, by dsimp only; rw [h13.2.2]; exact j6⟩, by dsimp only; omega⟩
  refine AA.not (fun _ => ?_) (fun _ => AA.some ⟨by omega, j4, rfl⟩)
  refine AA.bind (AA.ix j1 hc) fun v11 h11 => ?_
  refine AA.bind (AA.app (by simp; omega)) fun v12 h12 => AA.some ⟨?_, fun f hf => ?_, rfl⟩
  ·have := h12.2.1
   simp at this
   dsimp only
   omega
  ·dsimp only at hf
   rw [h12.1] at hf
   rcases List.mem_append.1 hf with w | w
   ·exact j4 f w
   ·simp at w
    rw [w]
    exact hs.2.2 _ h11.2
 obtain ⟨b1, b2, b3, b4⟩ := h14
 refine AA.bind JG fun v15 h15 => ?_
 refine AA.bind (AA.app (by simp; omega)) fun v16 h16 => AA.some fun u hu _ _ => ?_
 cases hu
 have l16 := h16.2.1
 simp only [List.length_cons, List.length_nil] at l16
 have e4 := AI (x := v14.2.2.2.2 + 1) (by rw [b4]; omega)
 refine ⟨⟨by dsimp only; rw [b3]; exact a4, by dsimp only; omega, fun f hf => ?_⟩, by dsimp only; rw [e4, b4], by omega⟩
 dsimp only at hf
 rw [h16.1] at hf
 rcases List.mem_append.1 hf with w | w
 ·exact b2 f w
 ·simp at w
  rw [w]
  exact h15
end Go.Pm
namespace Go.Pm
open Go Go.Ab
set_option maxHeartbeats 400000
theorem Oj {b : AD} {x : BF} (h : CX b) (hx : x.length ≤ 1099511627776) : AA (ED b x) fun r => CX r.2 ∧ r.1.length ≤ x.length + 1 := by
 unfold ED
 refine AA.beq (fun _ => ?_) (fun hne => ?_)
 ·refine AA.bind (AL h (by decide)) fun v0 h0 => AA.some ⟨h0.1, ?_⟩
  dsimp only
  rw [LN]
  simp
 simp only [len] at hne
 refine AA.bind (AL h (by simp only [len]; omega)) fun v1 h1 => ?_
 obtain ⟨c1, c2, c3⟩ := h1
 simp only [len] at c3
 have e := AI (x := v1.1 + 1) (by omega)
 rw [e]
 refine AA.bind (AL c1 (by decide)) fun v2 h2 => ?_
 refine AA.beq (fun _ => ?_) (fun _ => ?_)
 ·refine AA.bind (AA.ssl (Int.le_refl _) c2 (by omega)) fun v3 h3 => ?_
  refine AA.bind (AA.ssl (by omega) (by simp only [len]; omega) (by simp only [len]; omega)) fun v4 h4 => ?_
  have l3 := h3.2
  have l4 := h4.2
  simp only [len] at l4
  refine AA.bind (AA.sapp (by omega)) fun v5 h5 => AA.some ⟨h2.1, ?_⟩
  have l5 := h5.2
  dsimp only
  omega
 refine AA.beq (fun _ => ?_) (fun _ => ?_)
 ·refine AA.bind (AL h2.1 (by decide)) fun v6 h6 => ?_
  have lb : (Du ([(IntKind.wrap .u8 v6.1)] : List Int)).length = 1 := by rw [LN]; rfl
  refine AA.bind (AA.sapp (by omega)) fun v7 h7 => AA.some ⟨h6.1, ?_⟩
  have l7 := h7.2
  dsimp only
  omega
 refine AA.bind (AA.ssl (Int.le_refl _) c2 (by omega)) fun v8 h8 => ?_
 refine AA.bind (AA.six c2 (by omega)) fun v9 _ => ?_
 refine AA.bind (AA.ssl (by omega) (by simp only [len]; omega) (by simp only [len]; omega)) fun v10 h10 => ?_
 refine AA.bind (AL h2.1 (by decide)) fun v11 h11 => ?_
 have l8 := h8.2
 have l10 := h10.2
 simp only [len] at l10
 generalize hB : Du ([(IntKind.wrap .u8 (((BitVec.toNat ((BitVec.ofInt 8 v9) ^^^ (BitVec.ofInt 8 (IntKind.wrap .u8 (wi (1 + v11.1)))))) : Nat) : Int))] : List Int) = B
 have lb : B.length = 1 := by rw [← hB, LN]; rfl
 refine AA.bind (AA.sapp (by omega)) fun v12 h12 => ?_
 have l12 := h12.2
 refine AA.bind (AA.sapp (by omega)) fun v13 h13 => AA.some ⟨h11.1, ?_⟩
 have l13 := h13.2
 dsimp only
 omega
end Go.Pm
namespace Go.Pm
open Go Go.Ab
set_option maxHeartbeats 400000
theorem fF {x : AZ × Int} (h : Cl x.1) (h1 : x.2 = x.1.1 + x.1.2.1.length - 1) : AA (Bg x) fun r => r.1.2.2 = r.1.1 + r.1.2.1.length - 1 ∧ r.1.1 = x.1.1 := by
 unfold Bg
 refine AA.bind A4 fun v hv => ?_
 refine AA.not (fun hc => ?_) (fun _ => ?_)
 ·rw [hv.2 h] at hc; cases hc
 refine AA.bind CH fun v1 h2 => ?_
 rw [h.last] at h2
 have h5 := h.2.2.2.2.1
 refine AA.dec (fun hc => absurd hc (by omega)) (fun _ => AA.some ⟨?_, rfl⟩)
 dsimp only
 split <;> omega
theorem dZ {b : AD} {x : Int} (h : CX b) (hx : x ≤ 1000 ∧ -1000 ≤ x) : AA (FE b x) fun r => r.2.1.2.2 = r.2.1.1 + r.2.1.2.1.length - 1 ∧ r.2.1.1 = 1 := by
 unfold FE
 refine AA.bind (KA h hx) fun v0 h0 => ?_
 obtain ⟨c, n1, n2, q2, q3, q4⟩ := h0
 refine AA.bind DZ fun v1 h1 => ?_
 exact AA.bind (fF q3 (h1 q3)) fun v2 h2 => AA.some ⟨h2.1, h2.2.trans q4⟩
theorem V0 {x : AZ × Int} (h : Cl x.1) (hf : x.1.2.2 = x.1.1 + x.1.2.1.length - 1) (h1 : x.1.1 ≤ x.2) (h2 : x.2 ≤ x.1.2.2 + 1) (h3 : x.2 ≤ 1099511627776) : AA (JW x) fun r => r.2 = 0 ∧ Cl r.1 ∧ r.1.1 = x.2 := by
 unfold JW
 obtain ⟨a1, a2, a3, a4, a5, a6⟩ := id h
 refine AA.bind A4 fun v hv => ?_
 refine AA.not (fun hc => ?_) (fun _ => ?_)
 ·rw [hv.2 h] at hc; cases hc
 refine AA.dec (fun hc => absurd hc (by omega)) (fun _ => ?_)
 refine AA.bind CH fun v1 hl => ?_
 rw [h.last] at hl
 have e1 := AI (x := v1 + 1) (by omega)
 have e2 := AI (x := x.1.2.2 + 1) (by omega)
 have e3 := AI (x := x.2 - x.1.1) (by omega)
 rw [e1, e2, e3]
 refine AA.dec (fun hc => absurd hc (by omega)) (fun _ => ?_)
 refine AA.dec (fun hc => absurd hc (by omega)) (fun _ => ?_)
 refine AA.dec (fun hc => absurd hc (by omega)) (fun _ => ?_)
 refine AA.bind (AA.lsl (by omega) (by simp only [len]; omega) (by simp only [len]; omega)) fun v2 h2' => ?_
 have l2 := h2'.2
 simp only [len] at l2
 refine AA.bind (AA.app (by simp; omega)) fun v3 h3' => AA.some ⟨rfl, ?_, rfl⟩
 have e4 := h3'.1
 rw [List.nil_append] at e4
 subst e4
 refine ⟨by dsimp only; omega, by dsimp only; omega, by dsimp only; omega, by dsimp only; omega, by dsimp only; omega, fun i e he => ?_⟩
 dsimp only at he ⊢
 rw [h2'.1, List.getElem?_take] at he
 split at he
 ·rw [List.getElem?_drop] at he
  have := a6 _ e he
  exact ⟨by have := this.1; omega, this.2⟩
 ·cases he
end Go.Pm
namespace Go.Pm
open Go Go.Ab
set_option maxHeartbeats 400000
def Ris (l : List Int) (n : Int) : Prop := ∀ (i : Nat) (a b : Int), (i : Int) + 1 < n → l[i]? = some a → l[i + 1]? = some b → a < b
def BD (n : Int) (l : List Int) : Prop := 1 ≤ n ∧ n ≤ 64 ∧ 1 ≤ l.length ∧ l.length ≤ 16 ∧ l[0]? = some 0 ∧ Ris l l.length ∧ ∀ a, l[l.length - 1]? = some a → a < n
theorem Xe {x : Int × List Int} : AA (Cu x) fun r => r = true ↔ BD x.1 x.2 := by
 unfold Cu
 refine AA.dec (fun c => AA.some ⟨fun hz => (by cases hz), fun h => (by have := h.1; omega)⟩) (fun c1 => ?_)
 refine AA.dec (fun c => AA.some ⟨fun hz => (by cases hz), fun h => (by have := h.2.1; omega)⟩) (fun c2 => ?_)
 refine AA.dec (fun c => AA.some ⟨fun hz => (by cases hz), fun h => (by have := h.2.2.1; simp only [len] at c; omega)⟩) (fun c3 => ?_)
 refine AA.dec (fun c => AA.some ⟨fun hz => (by cases hz), fun h => (by have := h.2.2.2.1; simp only [len] at c; omega)⟩) (fun c4 => ?_)
 simp only [len] at c3 c4
 refine AA.bind (AA.ix (Int.le_refl _) (by omega)) fun v0 h0 => ?_
 have h00 := h0.1
 refine AA.bne (fun c => AA.some ⟨fun hz => (by cases hz), fun h => ?_⟩) (fun hv0 => ?_)
 ·have := h.2.2.2.2.1
  simp only [Int.toNat_zero] at h00
  rw [h00] at this
  exact absurd (Option.some.inj this) c
 rw [hv0] at h00
 refine AA.bind (P := fun r => (r = .inl false ∧ ¬ Ris x.2 x.2.length) ∨ (r = .inr () ∧ Ris x.2 x.2.length)) ?_ fun r hr => ?_
 ·refine AA.loop (fun (s : Int) => 1 ≤ s ∧ s ≤ x.2.length ∧ Ris x.2 s) (fun (s : Int) => ((x.2.length : Int) - s).toNat) ⟨Int.le_refl _, by omega, fun i a b hi => absurd hi (by omega)⟩ (fun s hI => ?_)
  obtain ⟨i1, i2, i3⟩ := hI
  unfold Hn
  have e1 := AI (x := s - 1) (by omega)
  have e2 := AI (x := s + 1) (by omega)
  rw [e1, e2]
  refine AA.dec (fun hc => ?_) (fun hc => AA.some (.inr ⟨rfl, ?_⟩))
  ·simp only [len] at hc
   refine AA.bind (AA.ix (by omega) (by omega)) fun a ha => ?_
   refine AA.bind (AA.ix (by omega) hc) fun b hb => ?_
   have ea : (s - 1).toNat + 1 = s.toNat := by omega
   refine AA.dec (fun hge => AA.some (.inl ⟨rfl, fun hR => ?_⟩)) (fun hlt => AA.some ⟨⟨by omega, by omega, fun i p q hi hp hq => ?_⟩, by omega⟩)
   ·have := hR (s - 1).toNat a b (by omega) ha.1 (by rw [ea]; exact hb.1)
    omega
   ·by_cases he : (i : Int) + 1 < s
    ·exact i3 i p q he hp hq
    ·have ei : i = (s - 1).toNat := by omega
     subst ei
     rw [ea] at hq
     rw [ha.1] at hp
     rw [hb.1] at hq
     have := Option.some.inj hp
     have := Option.some.inj hq
     omega
  ·simp only [len] at hc
   have : s = x.2.length := by omega
   rw [← this]
   exact i3
 ·rcases hr with ⟨rfl, hr⟩ | ⟨rfl, hr⟩
  ·exact AA.inl (AA.some ⟨fun hz => (by cases hz), fun h => absurd h.2.2.2.2.2.1 hr⟩)
  ·refine AA.inr ?_
   have e := AI (x := len x.2 - 1) (by simp only [len]; omega)
   rw [e]
   refine AA.bind (AA.ix (by simp only [len]; omega) (by simp only [len]; omega)) fun v7 h7 => AA.some ?_
   have h71 := h7.1
   have en : (len x.2 - 1).toNat = x.2.length - 1 := by simp only [len]; omega
   rw [en] at h71
   rw [decide_eq_true_eq]
   refine ⟨fun hlt => ⟨by omega, by omega, by omega, by omega, h00, hr, fun a ha => ?_⟩, fun h => h.2.2.2.2.2.2 v7 h71⟩
   rw [h71] at ha
   have := Option.some.inj ha
   omega
end Go.Pm
namespace Go.Pm
open Go Go.Ab
set_option maxHeartbeats 400000
def BI (i : Int) (l : List Int) : Prop := 1 ≤ l.length ∧ l.length ≤ 16 ∧ l[0]? = some 0 ∧ Ris l l.length ∧ ∀ a, l[l.length - 1]? = some a → a < i
theorem BI.mono {i : Int} {l : List Int} (h : BI i l) : BI (i + 1) l := ⟨h.1, h.2.1, h.2.2.1, h.2.2.2.1, fun a ha => by have := h.2.2.2.2 a ha; omega⟩
theorem BI.push {i : Int} {l m : List Int} (h : BI i l) (hl : l.length < 16) (hm : m = l ++ [i]) : BI (i + 1) m := by
 subst hm
 obtain ⟨h1, h2, h3, h4, h5⟩ := h
 have el : (l ++ [i]).length = l.length + 1 := by simp
 refine ⟨by omega, by omega, ?_, fun k a b hk ha hb => ?_, fun a ha => ?_⟩
 ·rw [List.getElem?_append_left (by omega)]; exact h3
 ·rw [el] at hk
  rw [List.getElem?_append_left (by omega)] at ha
  by_cases hkk : k + 1 < l.length
  ·rw [List.getElem?_append_left hkk] at hb
   exact h4 k a b (by omega) ha hb
  ·have ek : k = l.length - 1 := by omega
   subst ek
   rw [List.getElem?_append_right (by omega)] at hb
   have e0 : l.length - 1 + 1 - l.length = 0 := by omega
   rw [e0] at hb
   simp at hb
   have := h5 a ha
   omega
 ·rw [el] at ha
  rw [List.getElem?_append_right (by omega)] at ha
  have e0 : l.length + 1 - 1 - l.length = 0 := by omega
  rw [e0] at ha
  simp at ha
  omega
theorem fE {b : AD} {x : Int} (h : CX b) (hx : 1 ≤ x ∧ x ≤ 64) : AA (Gw b x) fun r => CX r.2 ∧ BD x r.1 := by
 unfold Gw
 refine AA.bind (P := fun r => CX r.2 ∧ BD x r.1) ?_ fun r hr => AA.some hr
 refine AA.loop (fun (s : Int × List Int × AD) => 1 ≤ s.1 ∧ s.1 ≤ x ∧ BI s.1 s.2.1 ∧ CX s.2.2) (fun (s : Int × List Int × AD) => (x - s.1).toNat) ⟨Int.le_refl _, hx.1, ⟨by simp, by simp, by simp, fun i a b hi => absurd hi (by simp; omega), fun a ha => by simp at ha; omega⟩, h⟩ (fun s hI => ?_)
 obtain ⟨i1, i2, i3, i4⟩ := hI
 unfold Lz
 have e := AI (x := s.1 + 1) (by omega)
 rw [e]
 refine AA.dec (fun hc => ?_) (fun hc => AA.some ⟨i4, ?_⟩)
 ·refine AA.bind (AL i4 (by decide)) fun v1 h1 => ?_
  refine AA.beq (fun _ => ?_) (fun _ => AA.some ⟨⟨by dsimp only; omega, by dsimp only; omega, i3.mono, h1.1⟩, by dsimp only; omega⟩)
  refine AA.bind (P := fun l => BI (s.1 + 1) l) ?_ fun v3 h3 => AA.some ⟨⟨by dsimp only; omega, by dsimp only; omega, h3, h1.1⟩, by dsimp only; omega⟩
  refine AA.dec (fun hl => ?_) (fun _ => AA.some i3.mono)
  simp only [len] at hl
  exact AA.bind (AA.app (by simp; omega)) fun v2 h2 => AA.some (i3.push (by omega) h2.1)
 ·have es : s.1 = x := by omega
  rw [es] at i3
  exact ⟨hx.1, hx.2, i3.1, i3.2.1, i3.2.2.1, i3.2.2.2.1, i3.2.2.2.2⟩
end Go.Pm
namespace Go.Pm
open Go Go.Ab
set_option maxHeartbeats 400000
def FR (l : List BJ) (m n : Int) : Prop := (∀ (i : Nat) (f : BJ), (i : Int) < n → l[i]? = some f → 0 < f.2.1 ∧ f.2.1 < m) ∧ ∀ (i : Nat) (f g : BJ), (i : Int) + 1 < n → l[i]? = some f → l[i + 1]? = some g → f.2.1 < g.2.1
def VB (a : AF) : Prop := BD a.2.1 a.1 ∧ 1 ≤ a.2.2.2.1 ∧ a.2.2.2.1 ≤ 1099511627777 ∧ 1 ≤ a.2.2.2.2 ∧ a.2.2.2.2 ≤ 1073741825 ∧ a.2.2.1.length ≤ 256 ∧ FR a.2.2.1 a.2.2.2.2 a.2.2.1.length
theorem cO {x : AF} : AA (CZ x) fun r => r = true ↔ VB x := by
 unfold CZ
 refine AA.bind Xe fun v0 h0 => ?_
 refine AA.not (fun hc => AA.some ⟨fun hz => (by cases hz), fun h => (by rw [h0.2 h.1] at hc; cases hc)⟩) (fun hc => ?_)
 have hb := h0.1 hc
 refine AA.dec (fun c => AA.some ⟨fun hz => (by cases hz), fun h => (by have := h.2.1; omega)⟩) (fun c1 => ?_)
 refine AA.dec (fun c => AA.some ⟨fun hz => (by cases hz), fun h => (by have := h.2.2.1; omega)⟩) (fun c2 => ?_)
 refine AA.dec (fun c => AA.some ⟨fun hz => (by cases hz), fun h => (by have := h.2.2.2.1; omega)⟩) (fun c3 => ?_)
 refine AA.dec (fun c => AA.some ⟨fun hz => (by cases hz), fun h => (by have := h.2.2.2.2.1; omega)⟩) (fun c4 => ?_)
 refine AA.dec (fun c => AA.some ⟨fun hz => (by cases hz), fun h => (by have := h.2.2.2.2.2.1; simp only [len] at c; omega)⟩) (fun c5 => ?_)
 simp only [len] at c5
 refine AA.bind (P := fun r => (r = .inl false ∧ ¬ FR x.2.2.1 x.2.2.2.2 x.2.2.1.length) ∨ (r = .inr () ∧ FR x.2.2.1 x.2.2.2.2 x.2.2.1.length)) ?_ fun r hr => ?_
 ·refine AA.loop (fun (s : Int × Int) => 0 ≤ s.2 ∧ s.2 ≤ x.2.2.1.length ∧ FR x.2.2.1 x.2.2.2.2 s.2 ∧ 0 ≤ s.1 ∧ (s.2 = 0 → s.1 = 0) ∧ ∀ f, 0 < s.2 → x.2.2.1[(s.2 - 1).toNat]? = some f → f.2.1 = s.1) (fun (s : Int × Int) => ((x.2.2.1.length : Int) - s.2).toNat) ⟨Int.le_refl _, by dsimp only; omega, ⟨fun i f hi => absurd hi (by dsimp only; omega), fun i f g hi => absurd hi (by dsimp only; omega)⟩, Int.le_refl _, fun _ => rfl, fun f hf => absurd hf (by dsimp only; omega)⟩ (fun s hI => ?_)
  obtain ⟨i1, i2, i3, i4, i5, i6⟩ := hI
  unfold FL
  have e := AI (x := s.2 + 1) (by omega)
  rw [e]
  refine AA.dec (fun hc => ?_) (fun hc => AA.some (.inr ⟨rfl, ?_⟩))
  ·simp only [len] at hc
   refine AA.bind (AA.ix i1 hc) fun v2 h2 => ?_
   have h21 := h2.1
   refine AA.dec (fun hle => AA.some (.inl ⟨rfl, fun hF => ?_⟩)) (fun hlt => ?_)
   ·by_cases hz : s.2 = 0
    ·have := (hF.1 s.2.toNat v2 (by omega) h21).1
     have := i5 hz
     omega
    ·obtain ⟨f, hf⟩ : ∃ f, x.2.2.1[(s.2 - 1).toNat]? = some f := ⟨_, List.getElem?_eq_getElem (by omega)⟩
     have e1 : (s.2 - 1).toNat + 1 = s.2.toNat := by omega
     have := hF.2 (s.2 - 1).toNat f v2 (by omega) hf (by rw [e1]; exact h21)
     have := i6 f (by omega) hf
     omega
   refine AA.bind (AA.ix i1 hc) fun v3 h3 => ?_
   have e3 : v3 = v2 := by have := h3.1; rw [h21] at this; exact (Option.some.inj this).symm
   subst e3
   refine AA.dec (fun hge => AA.some (.inl ⟨rfl, fun hF => ?_⟩)) (fun hlt2 => ?_)
   ·have := (hF.1 s.2.toNat v3 (by omega) h21).2
    omega
   refine AA.bind (AA.ix i1 hc) fun v4 h4 => AA.some ?_
   have e4 : v4 = v3 := by have := h4.1; rw [h21] at this; exact (Option.some.inj this).symm
   subst e4
   refine ⟨⟨by dsimp only; omega, by dsimp only; omega, ⟨fun i f hi hf => ?_, fun i f g hi hf hg => ?_⟩, by dsimp only; omega, fun hz => absurd hz (by dsimp only; omega), fun f _ hf => ?_⟩, by dsimp only; omega⟩
   ·dsimp only at hi
    by_cases hii : (i : Int) < s.2
    ·exact i3.1 i f hii hf
    ·have ei : i = s.2.toNat := by omega
     subst ei
     rw [h21] at hf
     have := Option.some.inj hf
     subst this
     exact ⟨by omega, by omega⟩
   ·dsimp only at hi
    by_cases hii : (i : Int) + 1 < s.2
    ·exact i3.2 i f g hii hf hg
    ·have ei : i = (s.2 - 1).toNat := by omega
     have e1 : i + 1 = s.2.toNat := by omega
     rw [e1, h21] at hg
     have := Option.some.inj hg
     subst this
     rw [ei] at hf
     have := i6 f (by omega) hf
     omega
   ·dsimp only at hf ⊢
    have e1 : (s.2 + 1 - 1).toNat = s.2.toNat := by omega
    rw [e1, h21] at hf
    have := Option.some.inj hf
    rw [this]
  ·simp only [len] at hc
   have : s.2 = x.2.2.1.length := by omega
   rw [← this]
   exact i3
 ·rcases hr with ⟨rfl, hr⟩ | ⟨rfl, hr⟩
  ·exact AA.inl (AA.some ⟨fun hz => (by cases hz), fun h => absurd h.2.2.2.2.2.2 hr⟩)
  ·exact AA.inr (AA.some ⟨fun _ => ⟨hb, by omega, by omega, by omega, by omega, by omega, hr⟩, fun _ => rfl⟩)
end Go.Pm
namespace Go.Pm
open Go Go.Ab
set_option maxHeartbeats 1000000
theorem Yu {x : Int} : AA (NW x) fun r => r = true ↔ 0 ≤ x ∧ x < 64 := by
 unfold NW
 repeat' with_reducible first | refine AA.dec (fun hc => ?_) (fun hc => ?_) | refine AA.cond (fun hc => ?_) (fun hc => ?_) | refine AA.some ?_
 all_goals grind
theorem WZ {x : EG} : AA (Ge x) fun r => r = true ↔ Ss x := by
 unfold Ge Ss
 repeat' first
   | with_reducible refine AA.dec (fun hc => ?_) (fun hc => ?_)
   | with_reducible refine AA.not (fun hc => ?_) (fun hc => ?_)
   | with_reducible refine AA.beq (fun hc => ?_) (fun hc => ?_)
   | with_reducible refine AA.bne (fun hc => ?_) (fun hc => ?_)
   | with_reducible refine AA.cond (fun hc => ?_) (fun hc => ?_)
   |(with_reducible refine AA.bsome ?_; try dsimp only)
   | with_reducible refine AA.bcond ?_
   | with_reducible refine AA.bbind ?_
   | with_reducible refine AA.bsum ?_
   |(with_reducible refine AA.inl ?_; try dsimp only)
   |(with_reducible refine AA.inr ?_; try dsimp only)
   |(with_reducible refine AA.sum ?_ ?_ <;> (intro u hu; try subst hu))
   | with_reducible refine AA.some ?_
   | with_reducible refine AA.none ?_
   |(with_reducible refine AA.bind (AA.ix ?_ ?_) ?_; rotate_left 2; rintro r ⟨hr, hm⟩)
   |(with_reducible refine AA.bind (AA.app ?_) ?_; rotate_left 1; rintro r ⟨hr, hl, hl2⟩)
   |(with_reducible refine AA.bind (AA.aget ?_ ?_) ?_; rotate_left 2; intro r hr)
   |(with_reducible refine AA.bind (AA.sapp ?_) ?_; rotate_left 1; rintro r ⟨hr, hl⟩)
   |(with_reducible refine AA.bind (AA.ssl ?_ ?_ ?_) ?_; rotate_left 3; rintro r ⟨hr, hl⟩)
   |(with_reducible refine AA.bind (AA.lsl ?_ ?_ ?_) ?_; rotate_left 3; rintro r ⟨hr, hl⟩)
   |(with_reducible refine AA.bind (AA.six ?_ ?_) ?_; rotate_left 2; rintro r ⟨hr, hl⟩)
   |(with_reducible refine AA.bind (AA.mk ?_ ?_) ?_; rotate_left 2; rintro r ⟨hr, hl⟩)
 all_goals grind
theorem TZ {x : B6} : AA (LD x) fun r => r = true ↔ OW x := by
 unfold LD OW
 repeat' first
   | with_reducible refine AA.dec (fun hc => ?_) (fun hc => ?_)
   | with_reducible refine AA.not (fun hc => ?_) (fun hc => ?_)
   | with_reducible refine AA.beq (fun hc => ?_) (fun hc => ?_)
   | with_reducible refine AA.bne (fun hc => ?_) (fun hc => ?_)
   | with_reducible refine AA.cond (fun hc => ?_) (fun hc => ?_)
   |(with_reducible refine AA.bsome ?_; try dsimp only)
   | with_reducible refine AA.bcond ?_
   | with_reducible refine AA.bbind ?_
   | with_reducible refine AA.bsum ?_
   |(with_reducible refine AA.inl ?_; try dsimp only)
   |(with_reducible refine AA.inr ?_; try dsimp only)
   |(with_reducible refine AA.sum ?_ ?_ <;> (intro u hu; try subst hu))
   | with_reducible refine AA.some ?_
   | with_reducible refine AA.none ?_
   |(with_reducible refine AA.bind (Yu) ?_; intro r hr)
   |(with_reducible refine AA.bind (WZ) ?_; intro r hr)
   |(with_reducible refine AA.bind (AA.ix ?_ ?_) ?_; rotate_left 2; rintro r ⟨hr, hm⟩)
   |(with_reducible refine AA.bind (AA.app ?_) ?_; rotate_left 1; rintro r ⟨hr, hl, hl2⟩)
   |(with_reducible refine AA.bind (AA.aget ?_ ?_) ?_; rotate_left 2; intro r hr)
   |(with_reducible refine AA.bind (AA.sapp ?_) ?_; rotate_left 1; rintro r ⟨hr, hl⟩)
   |(with_reducible refine AA.bind (AA.ssl ?_ ?_ ?_) ?_; rotate_left 3; rintro r ⟨hr, hl⟩)
   |(with_reducible refine AA.bind (AA.lsl ?_ ?_ ?_) ?_; rotate_left 3; rintro r ⟨hr, hl⟩)
   |(with_reducible refine AA.bind (AA.six ?_ ?_) ?_; rotate_left 2; rintro r ⟨hr, hl⟩)
   |(with_reducible refine AA.bind (AA.mk ?_ ?_) ?_; rotate_left 2; rintro r ⟨hr, hl⟩)
 all_goals grind
theorem OO {x : Int × AE} : AA (Jl x) fun r => r = true ↔ 0 ≤ x.1 ∧ x.1 < x.2.1 := by
 unfold Jl
 repeat' with_reducible first | refine AA.dec (fun hc => ?_) (fun hc => ?_) | refine AA.cond (fun hc => ?_) (fun hc => ?_) | refine AA.some ?_
 all_goals grind
theorem LE {x : B6} : AA (Hs x) fun r => r = true ↔ x = NM := by
 unfold Hs NM
 obtain ⟨a, b, ⟨c, d⟩, e, f⟩ := x
 refine AA.some ?_
 simp [Prod.ext_iff, and_assoc]
theorem EK {x : AE} : AA (DO x) fun r => r = true := by
 unfold DO
 exact AA.some rfl
theorem YO {x : AE} : AA (MQ x) fun r => r = true ↔ 1 ≤ x.2.2.2.2.2.1 ∧ x.2.2.2.2.2.1 ≤ x.2.2.2.1 := by
 unfold MQ
 repeat' with_reducible first | refine AA.dec (fun hc => ?_) (fun hc => ?_) | refine AA.cond (fun hc => ?_) (fun hc => ?_) | refine AA.some ?_
 all_goals grind
theorem YP {x : B6} : AA (MR x) fun r => r = true ↔ 0 ≤ x.1 ∧ x.1 < 64 ∧ x.2 = NM.2 := by
 unfold MR NM
 obtain ⟨a, b, ⟨c, d⟩, e, f⟩ := x
 refine AA.cond (fun hc => ?_) (fun hc => AA.some ?_)
 ·refine AA.dec (fun h1 => AA.some ?_) (fun h1 => AA.some ?_)
  ·simp at hc
   simp [hc, h1]
   try omega
  ·simp
   try omega
 ·simp [Prod.ext_iff] at hc ⊢
  try grind
theorem O2 {x : AE} : AA (Kv x) fun r => Py x → r = true := by
 unfold Kv
 refine AA.dec (fun hc => AA.some fun h => ?_) (fun h1 => ?_)
 ·have := h.1; omega
 refine AA.dec (fun hc => AA.some fun h => ?_) (fun h2 => ?_)
 ·have := h.2.1; omega
 refine AA.dec (fun hc => AA.some fun h => ?_) (fun h3 => ?_)
 ·have := h.2.2.2.2.2.2.2.2; unfold RZ at this; omega
 refine AA.dec (fun hc => AA.some fun h => ?_) (fun h4 => ?_)
 ·have := h.2.2.2.2.2.2.2.2; unfold RZ at this; omega
 refine AA.bind OO fun v0 e0 => ?_
 refine AA.not (fun hc => AA.some fun h => ?_) (fun h5 => ?_)
 ·rw [e0.2 ⟨h.2.2.1, h.2.2.2.1⟩] at hc; cases hc
 refine AA.bind OO fun v1 e1 => ?_
 refine AA.not (fun hc => AA.some fun h => ?_) (fun h6 => ?_)
 ·rw [e1.2 ⟨h.2.2.2.2.1, h.2.2.2.2.2.1⟩] at hc; cases hc
 refine AA.bind OO fun v2 e2 => ?_
 refine AA.not (fun hc => AA.some fun h => ?_) (fun h7 => ?_)
 ·rw [e2.2 ⟨h.2.2.2.2.2.2.1, h.2.2.2.2.2.2.2.1⟩] at hc; cases hc
 refine AA.mono (P := fun r => RZ x → r = true) ?_ fun r h h8 => h h8.2.2.2.2.2.2.2.2
 clear e0 e1 e2 h5 h6 h7
 obtain ⟨a, b, c, d, e, f, g, m⟩ := x
 unfold RZ
 dsimp only at *
 refine AA.dec (fun hc => absurd hc (by omega)) (fun k0 => ?_)
 refine AA.dec (fun k1 => ?_) (fun k1 => ?_)
 ·subst k1
  repeat' first
    | with_reducible refine AA.dec (fun hc => ?_) (fun hc => ?_)
    | with_reducible refine AA.not (fun hc => ?_) (fun hc => ?_)
    | with_reducible refine AA.beq (fun hc => ?_) (fun hc => ?_)
    | with_reducible refine AA.bne (fun hc => ?_) (fun hc => ?_)
    | with_reducible refine AA.cond (fun hc => ?_) (fun hc => ?_)
    |(with_reducible refine AA.bsome ?_; try dsimp only)
    | with_reducible refine AA.bcond ?_
    | with_reducible refine AA.bbind ?_
    | with_reducible refine AA.bsum ?_
    |(with_reducible refine AA.inl ?_; try dsimp only)
    |(with_reducible refine AA.inr ?_; try dsimp only)
    |(with_reducible refine AA.sum ?_ ?_ <;> (intro u hu; try subst hu))
    | with_reducible refine AA.some ?_
    | with_reducible refine AA.none ?_
    |(with_reducible refine AA.bind (EK) ?_; intro r hr)
    |(with_reducible refine AA.bind (TZ) ?_; intro r hr)
    |(with_reducible refine AA.bind (AA.ix ?_ ?_) ?_; rotate_left 2; rintro r ⟨hr, hm⟩)
    |(with_reducible refine AA.bind (AA.app ?_) ?_; rotate_left 1; rintro r ⟨hr, hl, hl2⟩)
    |(with_reducible refine AA.bind (AA.aget ?_ ?_) ?_; rotate_left 2; intro r hr)
    |(with_reducible refine AA.bind (AA.sapp ?_) ?_; rotate_left 1; rintro r ⟨hr, hl⟩)
    |(with_reducible refine AA.bind (AA.ssl ?_ ?_ ?_) ?_; rotate_left 3; rintro r ⟨hr, hl⟩)
    |(with_reducible refine AA.bind (AA.lsl ?_ ?_ ?_) ?_; rotate_left 3; rintro r ⟨hr, hl⟩)
    |(with_reducible refine AA.bind (AA.six ?_ ?_) ?_; rotate_left 2; rintro r ⟨hr, hl⟩)
    |(with_reducible refine AA.bind (AA.mk ?_ ?_) ?_; rotate_left 2; rintro r ⟨hr, hl⟩)
  all_goals grind
 refine AA.dec (fun k2 => ?_) (fun k2 => ?_)
 ·subst k2
  repeat' first
    | with_reducible refine AA.dec (fun hc => ?_) (fun hc => ?_)
    | with_reducible refine AA.not (fun hc => ?_) (fun hc => ?_)
    | with_reducible refine AA.beq (fun hc => ?_) (fun hc => ?_)
    | with_reducible refine AA.bne (fun hc => ?_) (fun hc => ?_)
    | with_reducible refine AA.cond (fun hc => ?_) (fun hc => ?_)
    |(with_reducible refine AA.bsome ?_; try dsimp only)
    | with_reducible refine AA.bcond ?_
    | with_reducible refine AA.bbind ?_
    | with_reducible refine AA.bsum ?_
    |(with_reducible refine AA.inl ?_; try dsimp only)
    |(with_reducible refine AA.inr ?_; try dsimp only)
    |(with_reducible refine AA.sum ?_ ?_ <;> (intro u hu; try subst hu))
    | with_reducible refine AA.some ?_
    | with_reducible refine AA.none ?_
    |(with_reducible refine AA.bind (YO) ?_; intro r hr)
    |(with_reducible refine AA.bind (TZ) ?_; intro r hr)
    |(with_reducible refine AA.bind (AA.ix ?_ ?_) ?_; rotate_left 2; rintro r ⟨hr, hm⟩)
    |(with_reducible refine AA.bind (AA.app ?_) ?_; rotate_left 1; rintro r ⟨hr, hl, hl2⟩)
    |(with_reducible refine AA.bind (AA.aget ?_ ?_) ?_; rotate_left 2; intro r hr)
    |(with_reducible refine AA.bind (AA.sapp ?_) ?_; rotate_left 1; rintro r ⟨hr, hl⟩)
    |(with_reducible refine AA.bind (AA.ssl ?_ ?_ ?_) ?_; rotate_left 3; rintro r ⟨hr, hl⟩)
    |(with_reducible refine AA.bind (AA.lsl ?_ ?_ ?_) ?_; rotate_left 3; rintro r ⟨hr, hl⟩)
    |(with_reducible refine AA.bind (AA.six ?_ ?_) ?_; rotate_left 2; rintro r ⟨hr, hl⟩)
    |(with_reducible refine AA.bind (AA.mk ?_ ?_) ?_; rotate_left 2; rintro r ⟨hr, hl⟩)
  all_goals grind
 refine AA.dec (fun k3 => ?_) (fun k3 => ?_)
 ·subst k3
  repeat' first
    | with_reducible refine AA.dec (fun hc => ?_) (fun hc => ?_)
    | with_reducible refine AA.not (fun hc => ?_) (fun hc => ?_)
    | with_reducible refine AA.beq (fun hc => ?_) (fun hc => ?_)
    | with_reducible refine AA.bne (fun hc => ?_) (fun hc => ?_)
    | with_reducible refine AA.cond (fun hc => ?_) (fun hc => ?_)
    |(with_reducible refine AA.bsome ?_; try dsimp only)
    | with_reducible refine AA.bcond ?_
    | with_reducible refine AA.bbind ?_
    | with_reducible refine AA.bsum ?_
    |(with_reducible refine AA.inl ?_; try dsimp only)
    |(with_reducible refine AA.inr ?_; try dsimp only)
    |(with_reducible refine AA.sum ?_ ?_ <;> (intro u hu; try subst hu))
    | with_reducible refine AA.some ?_
    | with_reducible refine AA.none ?_
    |(with_reducible refine AA.bind (EK) ?_; intro r hr)
    |(with_reducible refine AA.bind (LE) ?_; intro r hr)
    |(with_reducible refine AA.bind (AA.ix ?_ ?_) ?_; rotate_left 2; rintro r ⟨hr, hm⟩)
    |(with_reducible refine AA.bind (AA.app ?_) ?_; rotate_left 1; rintro r ⟨hr, hl, hl2⟩)
    |(with_reducible refine AA.bind (AA.aget ?_ ?_) ?_; rotate_left 2; intro r hr)
    |(with_reducible refine AA.bind (AA.sapp ?_) ?_; rotate_left 1; rintro r ⟨hr, hl⟩)
    |(with_reducible refine AA.bind (AA.ssl ?_ ?_ ?_) ?_; rotate_left 3; rintro r ⟨hr, hl⟩)
    |(with_reducible refine AA.bind (AA.lsl ?_ ?_ ?_) ?_; rotate_left 3; rintro r ⟨hr, hl⟩)
    |(with_reducible refine AA.bind (AA.six ?_ ?_) ?_; rotate_left 2; rintro r ⟨hr, hl⟩)
    |(with_reducible refine AA.bind (AA.mk ?_ ?_) ?_; rotate_left 2; rintro r ⟨hr, hl⟩)
  all_goals grind
 refine AA.dec (fun k4 => ?_) (fun k4 => ?_)
 ·subst k4
  repeat' first
    | with_reducible refine AA.dec (fun hc => ?_) (fun hc => ?_)
    | with_reducible refine AA.not (fun hc => ?_) (fun hc => ?_)
    | with_reducible refine AA.beq (fun hc => ?_) (fun hc => ?_)
    | with_reducible refine AA.bne (fun hc => ?_) (fun hc => ?_)
    | with_reducible refine AA.cond (fun hc => ?_) (fun hc => ?_)
    |(with_reducible refine AA.bsome ?_; try dsimp only)
    | with_reducible refine AA.bcond ?_
    | with_reducible refine AA.bbind ?_
    | with_reducible refine AA.bsum ?_
    |(with_reducible refine AA.inl ?_; try dsimp only)
    |(with_reducible refine AA.inr ?_; try dsimp only)
    |(with_reducible refine AA.sum ?_ ?_ <;> (intro u hu; try subst hu))
    | with_reducible refine AA.some ?_
    | with_reducible refine AA.none ?_
    |(with_reducible refine AA.bind (EK) ?_; intro r hr)
    |(with_reducible refine AA.bind (LE) ?_; intro r hr)
    |(with_reducible refine AA.bind (AA.ix ?_ ?_) ?_; rotate_left 2; rintro r ⟨hr, hm⟩)
    |(with_reducible refine AA.bind (AA.app ?_) ?_; rotate_left 1; rintro r ⟨hr, hl, hl2⟩)
    |(with_reducible refine AA.bind (AA.aget ?_ ?_) ?_; rotate_left 2; intro r hr)
    |(with_reducible refine AA.bind (AA.sapp ?_) ?_; rotate_left 1; rintro r ⟨hr, hl⟩)
    |(with_reducible refine AA.bind (AA.ssl ?_ ?_ ?_) ?_; rotate_left 3; rintro r ⟨hr, hl⟩)
    |(with_reducible refine AA.bind (AA.lsl ?_ ?_ ?_) ?_; rotate_left 3; rintro r ⟨hr, hl⟩)
    |(with_reducible refine AA.bind (AA.six ?_ ?_) ?_; rotate_left 2; rintro r ⟨hr, hl⟩)
    |(with_reducible refine AA.bind (AA.mk ?_ ?_) ?_; rotate_left 2; rintro r ⟨hr, hl⟩)
  all_goals grind
 refine AA.dec (fun k5 => ?_) (fun k5 => ?_)
 ·subst k5
  repeat' first
    | with_reducible refine AA.dec (fun hc => ?_) (fun hc => ?_)
    | with_reducible refine AA.not (fun hc => ?_) (fun hc => ?_)
    | with_reducible refine AA.beq (fun hc => ?_) (fun hc => ?_)
    | with_reducible refine AA.bne (fun hc => ?_) (fun hc => ?_)
    | with_reducible refine AA.cond (fun hc => ?_) (fun hc => ?_)
    |(with_reducible refine AA.bsome ?_; try dsimp only)
    | with_reducible refine AA.bcond ?_
    | with_reducible refine AA.bbind ?_
    | with_reducible refine AA.bsum ?_
    |(with_reducible refine AA.inl ?_; try dsimp only)
    |(with_reducible refine AA.inr ?_; try dsimp only)
    |(with_reducible refine AA.sum ?_ ?_ <;> (intro u hu; try subst hu))
    | with_reducible refine AA.some ?_
    | with_reducible refine AA.none ?_
    |(with_reducible refine AA.bind (EK) ?_; intro r hr)
    |(with_reducible refine AA.bind (LE) ?_; intro r hr)
    |(with_reducible refine AA.bind (AA.ix ?_ ?_) ?_; rotate_left 2; rintro r ⟨hr, hm⟩)
    |(with_reducible refine AA.bind (AA.app ?_) ?_; rotate_left 1; rintro r ⟨hr, hl, hl2⟩)
    |(with_reducible refine AA.bind (AA.aget ?_ ?_) ?_; rotate_left 2; intro r hr)
    |(with_reducible refine AA.bind (AA.sapp ?_) ?_; rotate_left 1; rintro r ⟨hr, hl⟩)
    |(with_reducible refine AA.bind (AA.ssl ?_ ?_ ?_) ?_; rotate_left 3; rintro r ⟨hr, hl⟩)
    |(with_reducible refine AA.bind (AA.lsl ?_ ?_ ?_) ?_; rotate_left 3; rintro r ⟨hr, hl⟩)
    |(with_reducible refine AA.bind (AA.six ?_ ?_) ?_; rotate_left 2; rintro r ⟨hr, hl⟩)
    |(with_reducible refine AA.bind (AA.mk ?_ ?_) ?_; rotate_left 2; rintro r ⟨hr, hl⟩)
  all_goals grind
 refine AA.dec (fun k6 => ?_) (fun k6 => ?_)
 ·subst k6
  repeat' first
    | with_reducible refine AA.dec (fun hc => ?_) (fun hc => ?_)
    | with_reducible refine AA.not (fun hc => ?_) (fun hc => ?_)
    | with_reducible refine AA.beq (fun hc => ?_) (fun hc => ?_)
    | with_reducible refine AA.bne (fun hc => ?_) (fun hc => ?_)
    | with_reducible refine AA.cond (fun hc => ?_) (fun hc => ?_)
    |(with_reducible refine AA.bsome ?_; try dsimp only)
    | with_reducible refine AA.bcond ?_
    | with_reducible refine AA.bbind ?_
    | with_reducible refine AA.bsum ?_
    |(with_reducible refine AA.inl ?_; try dsimp only)
    |(with_reducible refine AA.inr ?_; try dsimp only)
    |(with_reducible refine AA.sum ?_ ?_ <;> (intro u hu; try subst hu))
    | with_reducible refine AA.some ?_
    | with_reducible refine AA.none ?_
    |(with_reducible refine AA.bind (EK) ?_; intro r hr)
    |(with_reducible refine AA.bind (LE) ?_; intro r hr)
    |(with_reducible refine AA.bind (AA.ix ?_ ?_) ?_; rotate_left 2; rintro r ⟨hr, hm⟩)
    |(with_reducible refine AA.bind (AA.app ?_) ?_; rotate_left 1; rintro r ⟨hr, hl, hl2⟩)
    |(with_reducible refine AA.bind (AA.aget ?_ ?_) ?_; rotate_left 2; intro r hr)
    |(with_reducible refine AA.bind (AA.sapp ?_) ?_; rotate_left 1; rintro r ⟨hr, hl⟩)
    |(with_reducible refine AA.bind (AA.ssl ?_ ?_ ?_) ?_; rotate_left 3; rintro r ⟨hr, hl⟩)
    |(with_reducible refine AA.bind (AA.lsl ?_ ?_ ?_) ?_; rotate_left 3; rintro r ⟨hr, hl⟩)
    |(with_reducible refine AA.bind (AA.six ?_ ?_) ?_; rotate_left 2; rintro r ⟨hr, hl⟩)
    |(with_reducible refine AA.bind (AA.mk ?_ ?_) ?_; rotate_left 2; rintro r ⟨hr, hl⟩)
  all_goals grind
 refine AA.dec (fun k7 => ?_) (fun k7 => ?_)
 ·subst k7
  repeat' first
    | with_reducible refine AA.dec (fun hc => ?_) (fun hc => ?_)
    | with_reducible refine AA.not (fun hc => ?_) (fun hc => ?_)
    | with_reducible refine AA.beq (fun hc => ?_) (fun hc => ?_)
    | with_reducible refine AA.bne (fun hc => ?_) (fun hc => ?_)
    | with_reducible refine AA.cond (fun hc => ?_) (fun hc => ?_)
    |(with_reducible refine AA.bsome ?_; try dsimp only)
    | with_reducible refine AA.bcond ?_
    | with_reducible refine AA.bbind ?_
    | with_reducible refine AA.bsum ?_
    |(with_reducible refine AA.inl ?_; try dsimp only)
    |(with_reducible refine AA.inr ?_; try dsimp only)
    |(with_reducible refine AA.sum ?_ ?_ <;> (intro u hu; try subst hu))
    | with_reducible refine AA.some ?_
    | with_reducible refine AA.none ?_
    |(with_reducible refine AA.bind (EK) ?_; intro r hr)
    |(with_reducible refine AA.bind (YP) ?_; intro r hr)
    |(with_reducible refine AA.bind (AA.ix ?_ ?_) ?_; rotate_left 2; rintro r ⟨hr, hm⟩)
    |(with_reducible refine AA.bind (AA.app ?_) ?_; rotate_left 1; rintro r ⟨hr, hl, hl2⟩)
    |(with_reducible refine AA.bind (AA.aget ?_ ?_) ?_; rotate_left 2; intro r hr)
    |(with_reducible refine AA.bind (AA.sapp ?_) ?_; rotate_left 1; rintro r ⟨hr, hl⟩)
    |(with_reducible refine AA.bind (AA.ssl ?_ ?_ ?_) ?_; rotate_left 3; rintro r ⟨hr, hl⟩)
    |(with_reducible refine AA.bind (AA.lsl ?_ ?_ ?_) ?_; rotate_left 3; rintro r ⟨hr, hl⟩)
    |(with_reducible refine AA.bind (AA.six ?_ ?_) ?_; rotate_left 2; rintro r ⟨hr, hl⟩)
    |(with_reducible refine AA.bind (AA.mk ?_ ?_) ?_; rotate_left 2; rintro r ⟨hr, hl⟩)
  all_goals grind
 refine AA.dec (fun k8 => ?_) (fun k8 => ?_)
 ·subst k8
  repeat' first
    | with_reducible refine AA.dec (fun hc => ?_) (fun hc => ?_)
    | with_reducible refine AA.not (fun hc => ?_) (fun hc => ?_)
    | with_reducible refine AA.beq (fun hc => ?_) (fun hc => ?_)
    | with_reducible refine AA.bne (fun hc => ?_) (fun hc => ?_)
    | with_reducible refine AA.cond (fun hc => ?_) (fun hc => ?_)
    |(with_reducible refine AA.bsome ?_; try dsimp only)
    | with_reducible refine AA.bcond ?_
    | with_reducible refine AA.bbind ?_
    | with_reducible refine AA.bsum ?_
    |(with_reducible refine AA.inl ?_; try dsimp only)
    |(with_reducible refine AA.inr ?_; try dsimp only)
    |(with_reducible refine AA.sum ?_ ?_ <;> (intro u hu; try subst hu))
    | with_reducible refine AA.some ?_
    | with_reducible refine AA.none ?_
    |(with_reducible refine AA.bind (EK) ?_; intro r hr)
    |(with_reducible refine AA.bind (LE) ?_; intro r hr)
    |(with_reducible refine AA.bind (AA.ix ?_ ?_) ?_; rotate_left 2; rintro r ⟨hr, hm⟩)
    |(with_reducible refine AA.bind (AA.app ?_) ?_; rotate_left 1; rintro r ⟨hr, hl, hl2⟩)
    |(with_reducible refine AA.bind (AA.aget ?_ ?_) ?_; rotate_left 2; intro r hr)
    |(with_reducible refine AA.bind (AA.sapp ?_) ?_; rotate_left 1; rintro r ⟨hr, hl⟩)
    |(with_reducible refine AA.bind (AA.ssl ?_ ?_ ?_) ?_; rotate_left 3; rintro r ⟨hr, hl⟩)
    |(with_reducible refine AA.bind (AA.lsl ?_ ?_ ?_) ?_; rotate_left 3; rintro r ⟨hr, hl⟩)
    |(with_reducible refine AA.bind (AA.six ?_ ?_) ?_; rotate_left 2; rintro r ⟨hr, hl⟩)
    |(with_reducible refine AA.bind (AA.mk ?_ ?_) ?_; rotate_left 2; rintro r ⟨hr, hl⟩)
  all_goals grind
 ·exfalso
  omega
theorem Vg {x : AZ} : AA (Ly x) fun r => r = wi (wi (x.1 + len x.2.1) - 1) := by
 unfold Ly
 exact AA.some rfl
theorem Rm {x : AZ} (h : Cl x) : AA (Kq x) fun r => r = true := by
 obtain ⟨a1, a2, a3, a4, a5, a6⟩ := id h
 unfold Kq
 refine AA.dec (fun hc => absurd hc (by omega)) (fun _ => ?_)
 refine AA.dec (fun hc => absurd hc (by omega)) (fun _ => ?_)
 refine AA.dec (fun hc => absurd hc (by simp only [len]; omega)) (fun _ => ?_)
 have e0 := AI (x := x.1 - 1) (by omega)
 rw [e0]
 refine AA.dec (fun hc => absurd hc (by omega)) (fun _ => ?_)
 refine AA.bind Vg fun v0 h0 => ?_
 rw [h.last] at h0
 refine AA.dec (fun hc => absurd hc (by omega)) (fun _ => ?_)
 refine AA.bind (P := fun r => ∃ u, r = .inr u) ?_ fun r hr => ?_
 ·refine AA.loop (fun (s : Int) => 0 ≤ s ∧ s ≤ x.2.1.length) (fun (s : Int) => ((x.2.1.length : Int) - s).toNat) ⟨Int.le_refl _, by omega⟩ (fun s hI => ?_)
  obtain ⟨i1, i2⟩ := hI
  unfold P8
  refine AA.dec (fun hc => ?_) (fun _ => AA.some ⟨_, rfl⟩)
  simp only [len] at hc
  refine AA.bind (AA.ix i1 hc) fun v2 h2 => ?_
  have q := a6 s.toNat v2 h2.1
  have e1 := AI (x := x.1 + s) (by omega)
  have e2 := AI (x := s + 1) (by omega)
  rw [e1, e2]
  refine AA.bne (fun hc => absurd (by have := q.1; omega) hc) (fun _ => ?_)
  refine AA.bind O2 fun v3 h3 => ?_
  refine AA.not (fun hc => ?_) (fun _ => AA.some ⟨⟨by omega, by omega⟩, by omega⟩)
  rw [h3 q.2] at hc; cases hc
 ·obtain ⟨u, rfl⟩ := hr
  exact AA.inr (AA.some rfl)
theorem Ta {x : AZ} (h : Cl x) : AA (Nb x) fun r => r = x.1 + x.2.1.length - 1 := by
 unfold Nb
 refine AA.bind (Rm h) fun v hv => ?_
 refine AA.not (fun hc => ?_) (fun _ => ?_)
 ·rw [hv] at hc; cases hc
 refine AA.bind Vg fun v1 h1 => AA.some ?_
 rw [h.last] at h1
 exact h1
theorem KO {x : AF} (h : VB x) : AA (GZ x) fun r => r = true := by
 obtain ⟨⟨b1, b2, b3, b4, b5, b6, b7⟩, a1, a2, a3, a4, a5, a6⟩ := id h
 unfold GZ
 refine AA.dec (fun hc => absurd hc (by omega)) (fun _ => ?_)
 refine AA.dec (fun hc => absurd hc (by omega)) (fun _ => ?_)
 refine AA.dec (fun hc => absurd hc (by simp only [len]; omega)) (fun _ => ?_)
 refine AA.dec (fun hc => absurd hc (by simp only [len]; omega)) (fun _ => ?_)
 refine AA.bind (AA.ix (Int.le_refl _) (by omega)) fun v0 h0 => ?_
 have h00 := h0.1
 rw [show ((0 : Int).toNat) = 0 from rfl, b5] at h00
 injection h00 with h00
 refine AA.bne (fun hc => absurd h00.symm hc) (fun _ => ?_)
 have e0 := AI (x := len x.1 - 1) (by simp only [len]; omega)
 rw [e0]
 refine AA.bind (AA.ix (by simp only [len]; omega) (by simp only [len]; omega)) fun v1 h1 => ?_
 have h11 := h1.1
 have e1 : (len x.1 - 1).toNat = x.1.length - 1 := by simp only [len]; omega
 rw [e1] at h11
 refine AA.dec (fun hc => absurd hc (by have := b7 v1 h11; omega)) (fun _ => ?_)
 refine AA.bind (P := fun r => ∃ u, r = .inr u) ?_ fun r hr => ?_
 ·refine AA.loop (fun (s : Int) => 1 ≤ s ∧ s ≤ x.1.length) (fun (s : Int) => ((x.1.length : Int) - s).toNat) ⟨Int.le_refl _, by omega⟩ (fun s hI => ?_)
  obtain ⟨i1, i2⟩ := hI
  unfold PJ
  refine AA.dec (fun hc => ?_) (fun _ => AA.some ⟨_, rfl⟩)
  simp only [len] at hc
  have e2 := AI (x := s - 1) (by omega)
  have e3 := AI (x := s + 1) (by omega)
  rw [e2, e3]
  refine AA.bind (AA.ix (by omega) (by omega)) fun v3 h3 => ?_
  refine AA.bind (AA.ix (by omega) hc) fun v4 h4 => ?_
  have q := b6 (s - 1).toNat v3 v4 (by omega) h3.1 (by have : (s - 1).toNat + 1 = s.toNat := by omega
                                                       rw [this]; exact h4.1)
  refine AA.dec (fun hc => absurd hc (by omega)) (fun _ => AA.some ⟨⟨by omega, by omega⟩, by omega⟩)
 ·obtain ⟨u, rfl⟩ := hr
  refine AA.inr ?_
  refine AA.dec (fun hc => absurd hc (by omega)) (fun _ => ?_)
  refine AA.dec (fun hc => absurd hc (by omega)) (fun _ => ?_)
  refine AA.dec (fun hc => absurd hc (by omega)) (fun _ => ?_)
  refine AA.dec (fun hc => absurd hc (by omega)) (fun _ => ?_)
  refine AA.dec (fun hc => absurd hc (by simp only [len]; omega)) (fun _ => ?_)
  refine AA.bind (P := fun r => ∃ u, r = .inr u) ?_ fun r hr => ?_
  ·refine AA.loop (fun (s : Int × Int) => 0 ≤ s.2 ∧ s.2 ≤ x.2.2.1.length ∧ (s.2 = 0 → s.1 = 0) ∧ ∀ f : BJ, 0 < s.2 → x.2.2.1[(s.2 - 1).toNat]? = some f → s.1 = f.2.1) (fun (s : Int × Int) => ((x.2.2.1.length : Int) - s.2).toNat) ⟨Int.le_refl _, by dsimp only; omega, fun _ => rfl, fun f hf => by dsimp only at hf; omega⟩ (fun s hI => ?_)
   obtain ⟨i1, i2, i3, i4⟩ := hI
   unfold PK
   refine AA.dec (fun hc => ?_) (fun _ => AA.some ⟨_, rfl⟩)
   simp only [len] at hc
   have e3 := AI (x := s.2 + 1) (by omega)
   rw [e3]
   refine AA.bind (AA.ix i1 hc) fun v9 h9 => ?_
   have q1 := a6.1 s.2.toNat v9 (by omega) h9.1
   have q2 : s.1 < v9.2.1 := by
    by_cases hz : s.2 = 0
    ·rw [i3 hz]; exact q1.1
    ·have hlt : (s.2 - 1).toNat < x.2.2.1.length := by omega
     have hg : x.2.2.1[(s.2 - 1).toNat]? = some x.2.2.1[(s.2 - 1).toNat] := List.getElem?_eq_getElem hlt
     have := a6.2 (s.2 - 1).toNat _ v9 (by omega) hg (by have : (s.2 - 1).toNat + 1 = s.2.toNat := by omega
                                                         rw [this]; exact h9.1)
     rw [i4 _ (by omega) hg]
     exact this
   refine AA.dec (fun hc => absurd hc (by omega)) (fun _ => ?_)
   refine AA.dec (fun hc => absurd hc (by have := q1.2; omega)) (fun _ => AA.some ⟨⟨by dsimp only; omega, by dsimp only; omega, fun hz => ?_, fun f hf hq => ?_⟩, by dsimp only; omega⟩)
   ·dsimp only at hz; omega
   ·dsimp only at hq ⊢
    have e4 : (s.2 + 1 - 1).toNat = s.2.toNat := by omega
    rw [e4, h9.1] at hq
    injection hq with hq
    rw [hq]
  ·obtain ⟨u, rfl⟩ := hr
   exact AA.inr (AA.some rfl)
theorem Rl {x : AF × AZ × Int × Int} (h : VB x.1) (hl : Cl x.2.1) (hp : 0 ≤ x.2.2.1 ∧ x.2.2.1 < x.1.2.1 ∧ 0 ≤ x.2.2.2) : AA (Hq x) fun r => r = 0 := by
 unfold Hq
 refine AA.bind (KO h) fun v hv => ?_
 refine AA.not (fun hc => ?_) (fun _ => ?_)
 ·rw [hv] at hc; cases hc
 refine AA.bind (Rm hl) fun v1 hv1 => ?_
 refine AA.not (fun hc => ?_) (fun _ => ?_)
 ·rw [hv1] at hc; cases hc
 refine AA.dec (fun hc => absurd hc (by omega)) (fun _ => ?_)
 refine AA.dec (fun hc => absurd hc (by omega)) (fun _ => ?_)
 exact AA.dec (fun hc => absurd hc (by omega)) (fun _ => AA.some rfl)
end Go.Pm
namespace Go.Pm
open Go Go.Ab
set_option maxHeartbeats 1000000
theorem d7 {a v i : Int} (hi : 0 ≤ i) (hi2 : i < 8) (ha : 0 ≤ a) (ha2 : a < 2 ^ (8 * i.toNat)) (hv : 0 ≤ v) (hv2 : v < 256) :
  0 ≤ IntKind.wrap .u64 (((BitVec.toNat ((BitVec.ofInt 64 a) ||| (BitVec.ofInt 64 (IntKind.wrap .u64 ((IntKind.wrap .u64 v) * (2 ^ (min (Int.toNat (wi (8 * i))) 64))))))) : Nat) : Int) ∧
  IntKind.wrap .u64 (((BitVec.toNat ((BitVec.ofInt 64 a) ||| (BitVec.ofInt 64 (IntKind.wrap .u64 ((IntKind.wrap .u64 v) * (2 ^ (min (Int.toNat (wi (8 * i))) 64))))))) : Nat) : Int) < 2 ^ (8 * (wi (i + 1)).toNat) := by
 have h := cu hi hi2 ha ha2 hv hv2
 have e2 : wi (8 * i) = 8 * i := AI (by omega)
 have e3 : IntKind.wrap .u64 (wi (8 * i)) = wi (8 * i) := by rw [e2, ac]; omega
 rw [e3] at h
 exact h
theorem im {n : Int} (h : n ≤ 1) : (2 : Int) ^ (8 * n.toNat) ≤ 256 := by
 have : n.toNat = 0 ∨ n.toNat = 1 := by omega
 rcases this with h | h <;> rw [h] <;> decide
theorem FH {x : BF × Int × Int} (h : x.1.length ≤ 2199023255552) : AA (Ek x) fun r => (r.2 = 0 → 0 ≤ x.2.1 ∧ x.2.1 + x.2.2 ≤ x.1.length ∧ (x.2.2 ≤ 4 → 0 ≤ r.1 ∧ r.1 < 4294967296) ∧ (x.2.2 ≤ 1 → r.1 < 256)) ∧ (r.2 ≠ 0 → r.1 = 0) := by
 unfold Ek
 refine AA.dec (fun _ => AA.some ⟨fun hz => absurd hz (by decide), fun _ => rfl⟩) (fun c1 => ?_)
 refine AA.dec (fun _ => AA.some ⟨fun hz => absurd hz (by decide), fun _ => rfl⟩) (fun c2 => ?_)
 refine AA.dec (fun _ => AA.some ⟨fun hz => absurd hz (by decide), fun _ => rfl⟩) (fun c3 => ?_)
 refine AA.dec (fun _ => AA.some ⟨fun hz => absurd hz (by decide), fun _ => rfl⟩) (fun c4 => ?_)
 simp only [len] at c4 ⊢
 have e0 := AI (x := (x.1.length : Int) - x.2.1) (by omega)
 rw [e0]
 refine AA.dec (fun _ => AA.some ⟨fun hz => absurd hz (by decide), fun _ => rfl⟩) (fun c5 => ?_)
 refine AA.bind (P := fun r => 0 ≤ r ∧ r < 2 ^ (8 * x.2.2.toNat)) ?_ fun v2 h2 => AA.some ⟨fun _ => ⟨by omega, by omega, fun h4 => ?_, fun h1 => ?_⟩, fun hz => absurd rfl hz⟩
 ·refine AA.loop (fun (s : Int × Int) => 0 ≤ s.2 ∧ s.2 ≤ x.2.2 ∧ 0 ≤ s.1 ∧ s.1 < 2 ^ (8 * s.2.toNat)) (fun (s : Int × Int) => (x.2.2 - s.2).toNat) ⟨Int.le_refl _, by dsimp only; omega, Int.le_refl _, by dsimp only; decide⟩ (fun s hI => ?_)
  obtain ⟨i1, i2, i3, i4⟩ := hI
  unfold Wb
  refine AA.dec (fun hc => ?_) (fun hc => AA.some ⟨i3, ?_⟩)
  ·have e1 := AI (x := x.2.1 + s.2) (by omega)
   rw [e1]
   refine AA.bind (AA.six (by omega) (by omega)) fun v1 h1 => ?_
   refine AA.dec (fun hc2 => ?_) (fun _ => AA.some ?_)
   ·exfalso
    rw [AI (by omega)] at hc2
    omega
   ·obtain ⟨g1, g2⟩ := d7 (a := s.1) (v := v1) (i := s.2) i1 (by omega) i3 i4 h1.1 h1.2
    have e := AI (x := s.2 + 1) (by omega)
    exact ⟨⟨by dsimp only; omega, by dsimp only; omega, g1, g2⟩, by dsimp only; omega⟩
  ·have : s.2 = x.2.2 := by omega
   rw [← this]
   exact i4
 ·have := eu h4
  dsimp only
  rw [AI (by omega)]
  omega
 ·have := im h1
  dsimp only
  rw [AI (by omega)]
  omega
theorem ZB (a : BitVec 32) : 0 ≤ IntKind.wrap .u32 (((BitVec.toNat (a &&& BitVec.ofInt 32 15) : Nat)) : Int) ∧ IntKind.wrap .u32 (((BitVec.toNat (a &&& BitVec.ofInt 32 15) : Nat)) : Int) < 16 := by
 rw [wr32u, BitVec.toNat_and]
 have h : a.toNat &&& (BitVec.ofInt 32 15).toNat ≤ (BitVec.ofInt 32 15).toNat := Nat.and_le_right
 have e : (BitVec.ofInt 32 15).toNat = 15 := by decide
 rw [e] at h ⊢
 omega
theorem Wd {x : Unit} : AA (KP x) fun r => True := by
 unfold KP
 refine AA.bind (P := fun _ => True) ?_ fun v _ => AA.some trivial
 refine AA.loop (fun (s : Int × (Fin (15 + 1) → (Ty.int IntKind.u32).D)) => 0 ≤ s.1 ∧ s.1 ≤ 16) (fun (s : Int × (Fin (15 + 1) → (Ty.int IntKind.u32).D)) => (16 - s.1).toNat) ⟨Int.le_refl _, by decide⟩ (fun s hI => ?_)
 obtain ⟨i1, i2⟩ := hI
 unfold N7
 refine AA.dec (fun hc => ?_) (fun _ => AA.some trivial)
 refine AA.bind (P := fun _ => True) ?_ fun v3 _ => ?_
 ·refine AA.loop (fun (s : Int × Int) => 0 ≤ s.2 ∧ s.2 ≤ 4) (fun (s : Int × Int) => (4 - s.2).toNat) ⟨Int.le_refl _, by dsimp only; omega⟩ (fun s hI => ?_)
  obtain ⟨j1, j2⟩ := hI
  unfold N8
  have e := AI (x := s.2 + 1) (by omega)
  rw [e]
  refine AA.dec (fun hc => ?_) (fun _ => AA.some trivial)
  refine AA.bind (P := fun _ => True) (AA.cond (fun _ => AA.some trivial) (fun _ => AA.some trivial)) fun v _ => AA.some ⟨⟨by dsimp only; omega, by dsimp only; omega⟩, by dsimp only; omega⟩
 have e := AI (x := s.1 + 1) (by omega)
 rw [e]
 refine AA.bind (AA.aget i1 hc) fun v4 _ => ?_
 exact AA.bind (AA.aget i1 hc) fun v5 _ => AA.some ⟨⟨by dsimp only; omega, by dsimp only; omega⟩, by dsimp only; omega⟩
theorem am {x : BF} (h : x.length ≤ 2199023255552) : AA (Rj x) fun r => True := by
 unfold Rj
 refine AA.bind Wd fun v0 _ => ?_
 refine AA.bind (P := fun _ => True) ?_ fun v _ => AA.some trivial
 refine AA.loop (fun (s : Int × Int) => 0 ≤ s.2 ∧ s.2 ≤ x.length) (fun (s : Int × Int) => ((x.length : Int) - s.2).toNat) ⟨Int.le_refl _, by dsimp only; omega⟩ (fun s hI => ?_)
 obtain ⟨i1, i2⟩ := hI
 unfold Wc
 have e := AI (x := s.2 + 1) (by omega)
 rw [e]
 refine AA.dec (fun hc => ?_) (fun _ => AA.some trivial)
 simp only [len] at hc
 refine AA.bind (AA.six i1 hc) fun v2 _ => ?_
 refine AA.bind (AA.aget (ZB _).1 (ZB _).2) fun v3 _ => ?_
 refine AA.bind (AA.aget (ZB _).1 (ZB _).2) fun v4 _ => ?_
 refine AA.bind (AA.aget (ZB _).1 (ZB _).2) fun v5 _ => ?_
 refine AA.bind (AA.aget (ZB _).1 (ZB _).2) fun v6 _ => AA.some ⟨⟨by dsimp only; omega, by dsimp only; omega⟩, by dsimp only; omega⟩
theorem Rk {x : BF × Int} (h : x.1.length ≤ 2199023255552) : AA (Kp x) fun r => r.2.2 = 0 → r.1.length ≤ 8392 ∧ x.2 + 8 + r.1.length = r.2.1 ∧ 0 ≤ x.2 ∧ r.2.1 ≤ x.1.length := by
 unfold Kp
 refine AA.dec (fun _ => AA.some fun hz => absurd hz (by decide)) (fun c1 => ?_)
 refine AA.dec (fun _ => AA.some fun hz => absurd hz (by decide)) (fun c2 => ?_)
 simp only [len] at c2
 refine AA.bind (FH h) fun v0 h0 => ?_
 refine AA.bne (fun hne => AA.some fun hz => absurd hz hne) (fun hz0 => ?_)
 obtain ⟨a1, a2, a3, _⟩ := h0.1 hz0
 have a5 := a3 (by dsimp only; omega)
 dsimp only at a2
 refine AA.dec (fun _ => AA.some fun hz => absurd hz (by decide)) (fun c3 => ?_)
 have e1 := AI (x := x.2 + 4) (by omega)
 have e2 := AI (x := x.2 + 4 + v0.1) (by omega)
 have e3 := AI (x := x.2 + 4 + v0.1 + 4) (by omega)
 rw [e1, e2, e3]
 refine AA.bind (FH h) fun v1 h1 => ?_
 refine AA.bne (fun hne => AA.some fun hz => absurd hz hne) (fun hz1 => ?_)
 obtain ⟨b1, b2, _⟩ := h1.1 hz1
 dsimp only at b1 b2
 refine AA.bind (AA.ssl (by omega) (by omega) (by omega)) fun v2 h2 => ?_
 refine AA.bind (am (by have := h2.2; omega)) fun v3 _ => ?_
 refine AA.bne (fun _ => AA.some fun hz => absurd hz (by decide)) (fun _ => ?_)
 refine AA.bind (AA.ssl (by omega) (by omega) (by omega)) fun v4 h4 => AA.some fun _ => ?_
 have l4 := h4.2
 exact ⟨by dsimp only; omega, by dsimp only; omega, by omega, by dsimp only; omega⟩
theorem V9 {x : BF × BF} : AA (Jd x) fun r => True := by
 unfold Jd EL
 refine AA.bind (P := fun _ => True) ?_ fun v _ => AA.some trivial
 refine AA.dec (fun hc => ?_) (fun _ => AA.some trivial)
 simp only [len] at hc
 exact AA.bind (AA.ssl (Int.le_refl _) (by simp only [len]; omega) (by simp only [len]; omega)) fun v _ => AA.some trivial
def RB (b : Cw) : Prop := b.1.length ≤ 2199023255552 ∧ 0 ≤ b.2.1 ∧ b.2.1 ≤ b.1.length
theorem Be {b : Cw} {x : Int} (h : RB b) (hx : 1 ≤ x ∧ x ≤ 8) : AA (BS b x) fun r => RB r.2 ∧ (x ≤ 4 → 0 ≤ r.1 ∧ r.1 < 4294967296) := by
 obtain ⟨a1, a2, a3⟩ := id h
 unfold BS
 refine AA.bne (fun _ => AA.some ⟨h, fun _ => by dsimp only; omega⟩) (fun _ => ?_)
 refine AA.bind (FH (by exact a1)) fun v0 h0 => ?_
 dsimp only at h0
 refine AA.bind (P := fun r => RB r) ?_ fun v1 h1 => AA.some ⟨h1, fun hx4 => ?_⟩
 ·refine AA.beq (fun hz => AA.some ?_) (fun _ => AA.some ⟨a1, a2, a3⟩)
  obtain ⟨b1, b2, _⟩ := h0.1 hz
  rw [AI (by omega)]
  exact ⟨a1, by dsimp only; omega, by dsimp only; omega⟩
 ·by_cases hz : v0.2 = 0
  ·exact (h0.1 hz).2.2.1 hx4
  ·have := h0.2 hz
   dsimp only
   omega
theorem OA {b : Cw} {x : Int} (h : RB b) (hx : 0 ≤ x ∧ x < 4294967296) : AA (F3 b x) fun r => RB r.2 := by
 obtain ⟨a1, a2, a3⟩ := id h
 unfold F3
 refine AA.beq (fun hz => ?_) (fun hne => ?_)
 ·have e0 := AI (x := len b.1 - b.2.1) (by simp only [len]; omega)
  rw [e0]
  refine AA.bind (P := fun r => RB r ∧ (r.2.2 = 0 → r.2.1 + x ≤ r.1.length)) ?_ fun v0 h0 => ?_
  ·refine AA.dec (fun _ => AA.some ⟨⟨a1, a2, a3⟩, fun hz => absurd hz (by dsimp only; decide)⟩) (fun hc => AA.some ⟨h, fun _ => ?_⟩)
   simp only [len] at hc
   omega
  ·obtain ⟨⟨b1, b2, b3⟩, b4⟩ := h0
   refine AA.bne (fun _ => AA.some ⟨b1, b2, b3⟩) (fun hz0 => ?_)
   have b5 := b4 hz0
   have e1 := AI (x := v0.2.1 + x) (by omega)
   have e2 := AI (x := v0.2.1 + x - x) (by omega)
   rw [e1, e2]
   exact AA.bind (AA.ssl (by omega) (by omega) (by omega)) fun v1 _ => AA.some ⟨b1, by dsimp only; omega, by dsimp only; omega⟩
 ·exact AA.bne (fun _ => AA.some h) (fun hz => absurd hz hne)
theorem N9 {b : Cw} {x : Unit} (h : RB b) : AA (Fz b x) fun r => RB r.2 := by
 unfold Fz
 refine AA.bind (Be h (by decide)) fun v0 h0 => ?_
 refine AA.bne (fun _ => AA.some h0.1) (fun _ => ?_)
 refine AA.beq (fun _ => AA.some h0.1) (fun _ => ?_)
 have q := h0.2 (by decide)
 refine AA.dec (fun _ => AA.some h0.1) (fun _ => ?_)
 exact AA.bind (OA h0.1 q) fun v1 h1 => AA.some h1
theorem Yw {x : BF} (h : x.length ≤ 2199023255552) : AA (Na x) fun r => True := by
 unfold Na
 refine AA.bind (Be (b := (x, (0, 0))) ⟨h, Int.le_refl _, by dsimp only; omega⟩ (by decide)) fun v0 h0 => ?_
 refine AA.bind (Be h0.1 (by decide)) fun v1 h1 => ?_
 refine AA.bind (Be h1.1 (by decide)) fun v2 h2 => ?_
 refine AA.bind (Be h2.1 (by decide)) fun v3 h3 => ?_
 refine AA.bind (Be h3.1 (by decide)) fun v4 h4 => ?_
 refine AA.bind (Be h4.1 (by decide)) fun v5 h5 => ?_
 refine AA.bind (Be h5.1 (by decide)) fun v6 h6 => ?_
 refine AA.bind (Be h6.1 (by decide)) fun v7 h7 => ?_
 refine AA.bind (N9 h7.1) fun v8 h8 => ?_
 refine AA.bind (N9 h8) fun v9 h9 => ?_
 refine AA.bind (Be h9 (by decide)) fun v10 h10 => ?_
 refine AA.bind (OA h10.1 (h10.2 (by decide))) fun v11 h11 => ?_
 refine AA.bne (fun _ => AA.some trivial) (fun _ => ?_)
 refine AA.bne (fun _ => AA.some trivial) (fun _ => ?_)
 refine AA.bind O2 fun v12 _ => ?_
 exact AA.not (fun _ => AA.some trivial) (fun _ => AA.some trivial)
theorem Fy {x : Int × Int} : AA (Dk x) fun r => True := by
 unfold Dk Fw
 refine AA.bsome (AA.bsome ?_)
 refine AA.cond (fun _ => AA.cond (fun _ => AA.some trivial) (fun _ => AA.some trivial)) (fun _ => AA.cond (fun _ => AA.some trivial) (fun _ => ?_))
 exact AA.dec (fun _ => AA.some trivial) (fun _ => AA.dec (fun _ => AA.some trivial) (fun _ => AA.some trivial))
theorem Wa {x : List Int} (h : x.length ≤ 16777216) : AA (NZ x) fun r => True := by
 unfold NZ
 refine AA.bind (P := fun _ => True) ?_ fun v _ => AA.sum (fun _ _ => AA.some trivial) (fun _ _ => AA.some trivial)
 refine AA.loop (fun (s : Int) => 0 ≤ s ∧ s ≤ x.length) (fun (s : Int) => ((x.length : Int) - s).toNat) ⟨Int.le_refl _, by omega⟩ (fun s hI => ?_)
 obtain ⟨i1, i2⟩ := hI
 unfold Vf
 have e := AI (x := s + 1) (by omega)
 rw [e]
 refine AA.dec (fun hc => ?_) (fun _ => AA.some trivial)
 simp only [len] at hc
 refine AA.bind (AA.ix i1 hc) fun v1 _ => ?_
 exact AA.bne (fun _ => AA.some trivial) (fun _ => AA.some ⟨⟨by omega, by omega⟩, by omega⟩)
theorem YS {x : AK} : AA (MU x) fun r => r = true → 1 ≤ x.1 ∧ x.1 ≤ x.2.1 ∧ x.2.1 ≤ 1099511627776 ∧ 0 ≤ x.2.2.1 ∧ x.2.2.1 ≤ x.2.2.2.1 ∧ x.2.2.2.1 < 64 ∧ 0 ≤ x.2.2.2.2.1 ∧ x.2.2.2.2.1 ≤ 8 := by
 unfold MU
 repeat' with_reducible first | refine AA.dec (fun hc => ?_) (fun hc => ?_) | refine AA.cond (fun hc => ?_) (fun hc => ?_) | refine AA.some ?_
 all_goals grind
theorem YN {x : AE} : AA (MP x) fun r => True := by
 unfold MP
 exact AA.beq (fun _ => AA.some trivial) (fun _ => AA.some trivial)
theorem Zb {x : AK × AE} : AA (OZ x) fun r => True := by
 unfold OZ
 refine AA.bind YN fun v _ => ?_
 refine AA.cond (fun _ => ?_) (fun _ => AA.some trivial)
 refine AA.dec (fun _ => ?_) (fun _ => AA.some trivial)
 refine AA.dec (fun _ => ?_) (fun _ => AA.some trivial)
 exact AA.dec (fun _ => AA.some trivial) (fun _ => AA.some trivial)
theorem Yx {x : AE × AE} : AA (Nn x) fun r => True := by
 unfold Nn
 refine AA.bind Fy fun _ _ => ?_
 refine AA.bind Fy fun _ _ => ?_
 exact AA.bind (Wa (by simp)) fun _ _ => AA.some trivial
theorem aB {x : AK} : AA (Pj x) fun r => r = true → Zm x := by
 unfold Pj
 refine AA.bind YS fun v0 h0 => ?_
 refine AA.not (fun _ => AA.some fun hz => by cases hz) (fun hc => ?_)
 have hn := h0 hc
 refine AA.dec (fun _ => AA.some fun hz => by cases hz) (fun hl => ?_)
 simp only [len] at hl
 have q : Zm x := ⟨hn.1, hn.2.1, hn.2.2.1, hn.2.2.2.1, hn.2.2.2.2.1, hn.2.2.2.2.2.1, hn.2.2.2.2.2.2.1, hn.2.2.2.2.2.2.2, by omega⟩
 refine AA.bind (P := fun _ => True) ?_ fun v _ => AA.sum (fun _ _ => AA.some fun _ => q) (fun _ _ => AA.some fun _ => q)
 refine AA.loop (fun (s : Int) => 0 ≤ s ∧ s ≤ x.2.2.2.2.2.length) (fun (s : Int) => ((x.2.2.2.2.2.length : Int) - s).toNat) ⟨Int.le_refl _, by omega⟩ (fun s hI => ?_)
 obtain ⟨i1, i2⟩ := hI
 unfold Vh
 have e := AI (x := s + 1) (by omega)
 have e1 := AI (x := s - 1) (by omega)
 rw [e, e1]
 refine AA.dec (fun hc => ?_) (fun _ => AA.some trivial)
 simp only [len] at hc
 have nx : ((0 ≤ s + 1 ∧ s + 1 ≤ x.2.2.2.2.2.length) ∧ ((x.2.2.2.2.2.length : Int) - (s + 1)).toNat < ((x.2.2.2.2.2.length : Int) - s).toNat) := ⟨⟨by omega, by omega⟩, by omega⟩
 refine AA.bind (AA.ix i1 hc) fun v2 _ => ?_
 refine AA.bind O2 fun v3 _ => ?_
 refine AA.not (fun _ => AA.some trivial) (fun _ => ?_)
 refine AA.bind Zb fun v4 _ => ?_
 refine AA.not (fun _ => AA.some trivial) (fun _ => ?_)
 refine AA.beq (fun _ => AA.dec (fun _ => AA.some trivial) (fun _ => AA.some nx)) (fun hne => ?_)
 refine AA.bind (AA.ix (by omega) (by omega)) fun v5 _ => ?_
 refine AA.dec (fun _ => AA.dec (fun _ => AA.some trivial) (fun _ => AA.some nx)) (fun _ => ?_)
 refine AA.bind (AA.ix (by omega) (by omega)) fun v6 _ => ?_
 refine AA.bind Yx fun v7 _ => ?_
 refine AA.dec (fun _ => AA.some trivial) (fun _ => ?_)
 exact AA.bne (fun _ => AA.some trivial) (fun _ => AA.some nx)
theorem Za {x : BF} (h : x.length ≤ 2199023255552) : AA (OY x) fun r => r.2 = 0 → Zm r.1 := by
 unfold OY
 refine AA.bind (Rk (by exact h)) fun v0 h0 => ?_
 refine AA.bne (fun hne => AA.some fun hz => absurd hz hne) (fun hz0 => ?_)
 obtain ⟨a1, a2, a3, a4⟩ := h0 hz0
 dsimp only at a1 a2 a3 a4
 refine AA.bne (fun _ => AA.some fun hz => absurd hz (by decide)) (fun h33 => ?_)
 refine AA.bind V9 fun v1 _ => ?_
 refine AA.not (fun _ => AA.some fun hz => absurd hz (by decide)) (fun _ => ?_)
 have hb : v0.1.length ≤ 2199023255552 := by omega
 refine AA.bind (FH hb) fun v2 _ => ?_
 refine AA.bind (FH hb) fun v3 _ => ?_
 refine AA.bind (FH hb) fun v4 _ => ?_
 refine AA.bind (FH hb) fun v5 _ => ?_
 refine AA.bind (FH hb) fun v6 _ => ?_
 refine AA.bind (FH hb) fun v7 _ => ?_
 refine AA.not (fun _ => AA.some fun hz => absurd hz (by decide)) (fun h7 => ?_)
 have h7' : v7.1 ≤ 4096 := by simpa using h7
 refine AA.bind (P := fun r => ∀ u, r = .inl u → u.1 ≠ 0) ?_ fun r hr => AA.sum (fun u hu => AA.some fun hz => absurd hz (hr u hu)) (fun u hu => ?_)
 ·refine AA.loop (fun (s : Int × (Int × ((List AE) × (Int × (Int × (Int × (Int × (Int × AK)))))))) => 0 ≤ s.2.1 ∧ (s.2.1 ≤ v7.1 ∨ s.2.1 = 0) ∧ s.2.2.1.length ≤ s.2.1) (fun (s : Int × (Int × ((List AE) × (Int × (Int × (Int × (Int × (Int × AK)))))))) => (v7.1 - s.2.1).toNat) ⟨Int.le_refl _, .inr rfl, by simp⟩ (fun s hI => ?_)
  obtain ⟨i1, i2, i3⟩ := hI
  unfold T5
  refine AA.dec (fun hc => ?_) (fun _ => AA.some fun u hu => by cases hu)
  have e := AI (x := s.2.1 + 1) (by omega)
  rw [e]
  refine AA.bind (Rk (by exact h)) fun v9 h9 => ?_
  refine AA.bne (fun hne => AA.some fun u hu => by cases hu; exact hne) (fun hz9 => ?_)
  have b1 := (h9 hz9).1
  refine AA.bind (Yw (by omega)) fun v10 _ => ?_
  refine AA.bne (fun hne => AA.some fun u hu => by cases hu; exact hne) (fun hz10 => ?_)
  refine AA.bind (AA.app (by simp; omega)) fun v11 h11 => AA.some ?_
  have l11 := h11.2.1
  simp only [List.length_cons, List.length_nil] at l11
  exact ⟨⟨by dsimp only; omega, .inl (by dsimp only; omega), by dsimp only; omega⟩, by dsimp only; omega⟩
 ·refine AA.dec (fun _ => AA.some fun hz => absurd hz (by decide)) (fun _ => ?_)
  refine AA.bind aB fun v15 h15 => ?_
  exact AA.not (fun _ => AA.some fun hz => absurd hz (by decide)) (fun hc => AA.some fun _ => h15 hc)
end Go.Pm
namespace Go.Pm
open Go Go.Ab
set_option maxHeartbeats 1000000
theorem Ri {x : AF × Int} (h : x.1.1.length ≤ 16) (h1 : 0 ≤ x.2 ∧ x.2 < x.1.1.length) : AA (Ko x) fun r => True := by
 unfold Ko
 have e := AI (x := x.2 + 1) (by omega)
 rw [e]
 refine AA.dec (fun hc => ?_) (fun _ => ?_)
 ·simp only [len] at hc
  refine AA.bind (AA.ix h1.1 h1.2) fun v0 _ => ?_
  exact AA.bind (AA.ix (by omega) hc) fun v1 _ => AA.some trivial
 ·exact AA.bind (AA.ix h1.1 h1.2) fun v2 _ => AA.some trivial
theorem XO {x : AF × AK} (h : x.1.1.length ≤ 16) : AA (K3 x) fun r => True := by
 unfold K3
 refine AA.bind (P := fun _ => True) ?_ fun v _ => AA.sum (fun _ _ => AA.some trivial) (fun _ _ => AA.some trivial)
 refine AA.loop (fun (s : Int) => 0 ≤ s ∧ s ≤ x.1.1.length) (fun (s : Int) => ((x.1.1.length : Int) - s).toNat) ⟨Int.le_refl _, by omega⟩ (fun s hI => ?_)
 unfold Oh
 have e := AI (x := s + 1) (by omega)
 rw [e]
 refine AA.dec (fun hc => ?_) (fun _ => AA.some trivial)
 simp only [len] at hc
 have nx : ((0 ≤ s + 1 ∧ s + 1 ≤ x.1.1.length) ∧ ((x.1.1.length : Int) - (s + 1)).toNat < ((x.1.1.length : Int) - s).toNat) := ⟨⟨by omega, by omega⟩, by omega⟩
 refine AA.bind (Ri h ⟨hI.1, hc⟩) fun v1 _ => ?_
 refine AA.beq (fun _ => ?_) (fun _ => AA.some nx)
 exact AA.beq (fun _ => AA.some trivial) (fun _ => AA.some nx)
theorem XN {x : AF × BJ} (h : x.1.1.length ≤ 16) (h1 : x.2.2.2.length ≤ 2199023255552) : AA (K2 x) fun r => r.2 = true → Zm r.1 := by
 unfold K2
 refine AA.bne (fun _ => AA.some fun hz => absurd hz (by decide)) (fun _ => ?_)
 refine AA.bind (Za h1) fun v0 h0 => ?_
 refine AA.beq (fun hz => ?_) (fun _ => AA.some fun hz => by cases hz)
 exact AA.bind (XO h) fun v1 _ => AA.some fun _ => h0 hz
theorem aN {a b : Int} (h0 : 0 ≤ a) (h1 : 0 ≤ b) (h2 : a + b ≤ 1099511627776) : wi (Int.fdiv (IntKind.wrap .u64 (wi (a + b))) (2 ^ (min (Int.toNat 1) 64))) = (a + b) / 2 := by
 have e1 : wi (a + b) = a + b := AI (by omega)
 have e2 : IntKind.wrap .u64 (a + b) = a + b := by rw [ac]; omega
 have e3 : (2 : Int) ^ (min (Int.toNat 1) 64) = 2 := by decide
 rw [e1, e2, e3, Int.fdiv_eq_ediv_of_nonneg _ (by decide)]
 exact AI (by omega)
theorem Yv {x : Int × Int} : AA (NY x) fun r => r = true ↔ x.1 < x.2 := by
 unfold NY Fw
 refine AA.bsome ?_
 refine AA.cond (fun hc => ?_) (fun _ => AA.some (by simp))
 simp at hc
theorem Wl {x : Int} : AA (Gn x) fun r => r = false := by
 unfold Gn
 exact AA.some (by simp)
theorem Ny {x : List Int × Int} (h : x.1.length ≤ 16777216) : AA (Dm x) fun r => 0 ≤ r.1 ∧ r.1 ≤ x.1.length ∧ (r.2 = true → r.1 < x.1.length) ∧ (r.2 = false → r.1 < x.1.length → ∀ e, x.1[r.1.toNat]? = some e → x.2 < e) := by
 unfold Dm
 refine AA.bind (P := fun (r : Int) => 0 ≤ r ∧ r ≤ x.1.length ∧ ∀ e, x.1[r.toNat]? = some e → x.2 ≤ e) ?_ fun v4 h4 => ?_
 ·refine AA.loop (fun (s : Int × Int) => 0 ≤ s.1 ∧ s.1 ≤ s.2 ∧ s.2 ≤ x.1.length ∧ ∀ e, x.1[s.2.toNat]? = some e → x.2 ≤ e) (fun (s : Int × Int) => (s.2 - s.1).toNat) ⟨Int.le_refl _, by simp only [len]; omega, by simp only [len]; omega, fun e he => ?_⟩ (fun s hI => ?_)
  ·have : (len x.1).toNat = x.1.length := by simp only [len]; omega
   rw [this, List.getElem?_eq_none (Nat.le_refl _)] at he
   cases he
  ·obtain ⟨i1, i2, i3, i4⟩ := hI
   unfold IT
   rw [aN i1 (by omega) (by omega)]
   refine AA.dec (fun hc => ?_) (fun hc => AA.some ?_)
   ·refine AA.bind (AA.ix (by omega) (by omega)) fun v1 h1 => ?_
    refine AA.bind Yv fun v2 h2 => ?_
    have e1 := AI (x := (s.1 + s.2) / 2 + 1) (by omega)
    rw [e1]
    refine AA.bind (P := fun (r : Int × Int) => (0 ≤ r.1 ∧ r.1 ≤ r.2 ∧ r.2 ≤ (x.1.length : Int) ∧ ∀ e, x.1[r.2.toNat]? = some e → x.2 ≤ e) ∧ (r.2 - r.1).toNat < (s.2 - s.1).toNat) ?_ fun v3 h3 => AA.some h3
    refine AA.cond (fun _ => AA.some ⟨⟨by dsimp only; omega, by dsimp only; omega, i3, i4⟩, by dsimp only; omega⟩) (fun hf => AA.some ⟨⟨i1, by dsimp only; omega, by dsimp only; omega, fun e he => ?_⟩, by dsimp only; omega⟩)
    dsimp only at he
    rw [h1.1] at he
    injection he with he
    subst he
    rw [hf] at h2
    have h2' : ¬ v1 < x.2 := fun q => by have := h2.2 q; cases this
    omega
   ·have : s.1 = s.2 := by omega
    rw [this]
    exact ⟨by omega, i3, i4⟩
 ·obtain ⟨a1, a2, a3⟩ := h4
  refine AA.dec (fun hc => ?_) (fun hc => AA.some ⟨a1, a2, fun hz => (by cases hz), fun _ hlt => ?_⟩)
  ·simp only [len] at hc
   refine AA.bind (AA.ix a1 hc) fun v5 h5 => ?_
   refine AA.beq (fun _ => AA.some ⟨a1, a2, fun _ => hc, fun hz => (by cases hz)⟩) (fun hne => ?_)
   refine AA.bind (AA.ix a1 hc) fun v6 _ => ?_
   refine AA.bind Wl fun v7 h7 => ?_
   refine AA.cond (fun hz => ?_) (fun _ => AA.some ⟨a1, a2, fun hz => (by cases hz), fun _ _ e he => ?_⟩)
   ·rw [h7] at hz; cases hz
   ·have := a3 e he
    dsimp only at he
    rw [h5.1] at he
    injection he with he
    subst he
    omega
  ·simp only [len] at hc
   dsimp only at hlt
   omega
theorem Rh {x : AF × Int} (h : VB x.1) : AA (MO x) fun r => True := by
 obtain ⟨⟨b1, b2, b3, b4, b5, b6, b7⟩, _⟩ := id h
 unfold MO
 refine AA.bind (KO h) fun v0 _ => ?_
 refine AA.not (fun _ => AA.some trivial) (fun _ => ?_)
 refine AA.dec (fun _ => AA.some trivial) (fun c1 => ?_)
 refine AA.dec (fun _ => AA.some trivial) (fun c2 => ?_)
 refine AA.bind (Ny (by dsimp only; omega)) fun v1 h1 => ?_
 obtain ⟨a1, a2, a3, a4⟩ := h1
 dsimp only at a1 a2 a3 a4
 have e := AI (x := v1.1 - 1) (by omega)
 rw [e]
 refine AA.bind (P := fun (r : Int) => 0 ≤ r ∧ r < x.1.1.length) ?_ fun v2 h2 => ?_
 ·refine AA.not (fun hf => AA.some ?_) (fun ht => AA.some ⟨a1, a3 ht⟩)
  refine ⟨?_, by omega⟩
  rcases Int.lt_or_le 0 v1.1 with q | q
  ·omega
  ·exfalso
   have q0 : v1.1 = 0 := by omega
   have := a4 hf (by omega) 0 (by rw [q0]; exact b5)
   omega
 ·exact AA.bind (Ri b4 h2) fun v3 _ => AA.some trivial
theorem AA.lclr {α : Type} {l : List α} {i : Int} {z : α} (h0 : 0 ≤ i) (h1 : i ≤ l.length) : AA (lclr l i z) fun r => r.length = l.length := by
 refine ⟨_, if_pos ⟨h0, h1⟩, ?_⟩
 simp only [List.length_append, List.length_take, List.length_replicate]
 omega
theorem P7 {x : AK × Int} (h : x.1.2.2.2.2.2.length ≤ 4096) (hx : 0 ≤ x.2 ∧ x.2 ≤ 1099511627776) : AA (Jk x) fun r => r.1 = (if x.1.1 > x.2 then x.1.1 else x.2 + 1) ∧ r.2.1 = x.1.2.1 ∧ r.2.2.1 = x.1.2.2.1 := by
 unfold Jk
 refine AA.dec (fun hc => AA.some ⟨by rw [if_pos hc], rfl, rfl⟩) (fun hc => ?_)
 have e0 := AI (x := x.2 + 1) (by omega)
 rw [e0]
 rw [if_neg hc]
 refine AA.dec (fun hz => ?_) (fun hz => ?_)
 ·refine AA.bind (P := fun r => ∃ u, r = .inr u) ?_ fun r hr => ?_
  ·refine AA.loop (fun (s : Int) => s = 0) (fun (s : Int) => 0) rfl (fun s hI => ?_)
   subst hI
   unfold PL
   exact AA.dec (fun hc => absurd hc (by simp [len])) (fun _ => AA.some ⟨_, rfl⟩)
  ·obtain ⟨u, rfl⟩ := hr
   exact AA.inr (AA.some ⟨rfl, rfl, rfl⟩)
 ·refine AA.bind (AA.app (by simp; omega)) fun v5 h5 => ?_
  have l5 := h5.2.1
  simp only [List.length_nil] at l5
  refine AA.bind (P := fun r => ∀ u : Int, r = .inl u → 0 ≤ u ∧ u < v5.length) ?_ fun r hr => AA.sum (fun u hu => ?_) (fun u hu => AA.some ⟨rfl, rfl, rfl⟩)
  ·refine AA.loop (fun (s : Int) => 0 ≤ s ∧ s ≤ v5.length) (fun (s : Int) => ((v5.length : Int) - s).toNat) ⟨Int.le_refl _, by omega⟩ (fun s hI => ?_)
   obtain ⟨i1, i2⟩ := hI
   unfold PM
   have e := AI (x := s + 1) (by omega)
   rw [e]
   refine AA.dec (fun hc => ?_) (fun _ => AA.some fun u hu => by cases hu)
   simp only [len] at hc
   refine AA.bind (AA.ix i1 hc) fun v7 _ => ?_
   refine AA.bind (AA.ix i1 hc) fun v8 _ => ?_
   exact AA.dec (fun _ => AA.some fun u hu => by cases hu; omega) (fun _ => AA.some ⟨⟨by omega, by omega⟩, by omega⟩)
  ·obtain ⟨u1, u2⟩ := hr u hu
   refine AA.beq (fun hm => absurd hm (by omega)) (fun _ => ?_)
   have e1 := AI (x := u + 1) (by omega)
   rw [e1]
   refine AA.bind (P := fun r => 0 ≤ r.1 ∧ r.1 ≤ r.2.length) ?_ fun v16 h16 => ?_
   ·refine AA.loop (fun (s : Int × Int × List AE) => 0 ≤ s.2.1 ∧ s.2.1 < s.1 ∧ s.1 ≤ v5.length ∧ s.2.2.length = v5.length) (fun (s : Int × Int × List AE) => ((v5.length : Int) - s.1).toNat) ⟨u1, by dsimp only; omega, by dsimp only; omega, rfl⟩ (fun s hI => ?_)
    obtain ⟨i1, i2, i3, i4⟩ := hI
    unfold PN
    have e2 := AI (x := s.1 + 1) (by omega)
    have e3 := AI (x := s.2.1 + 1) (by omega)
    rw [e2, e3]
    refine AA.dec (fun hc => ?_) (fun _ => AA.some ⟨i1, by omega⟩)
    simp only [len] at hc
    refine AA.bind (AA.ix (by omega) hc) fun v12 _ => ?_
    refine AA.bind (AA.ix (by omega) hc) fun v13 _ => ?_
    refine AA.not (fun _ => ?_) (fun _ => AA.some ⟨⟨i1, by dsimp only; omega, by dsimp only; omega, i4⟩, by dsimp only; omega⟩)
    refine AA.bind (AA.ix i1 (by omega)) fun v14 _ => ?_
    refine AA.bind (AA.ix i1 (by omega)) fun v15 _ => AA.some ⟨⟨by dsimp only; omega, by dsimp only; omega, by dsimp only; omega, by simp [Ej, i4]⟩, by dsimp only; omega⟩
   ·refine AA.bind (AA.lclr h16.1 h16.2) fun v17 h17 => ?_
    exact AA.bind (AA.lsl (Int.le_refl _) h16.1 (by omega)) fun v18 _ => AA.some ⟨rfl, rfl, rfl⟩
end Go.Pm
namespace Go.Pm
open Go Go.Ab
set_option maxHeartbeats 1000000
def MT {α : Type} (b : Bool) (o : Option α) (Q : α → Prop) : Prop := (b = true → ∃ r, o = some r) ∧ ∀ r, o = some r → Q r
section
variable {α β : Type} {b : Bool}
theorem MT.some {r : α} {Q : α → Prop} (h : Q r) : MT b (.some r) Q := ⟨fun _ => ⟨r, rfl⟩, fun s e => by injection e with e; rw [← e]; exact h⟩
theorem AA.mt {o : Option α} {Q : α → Prop} (h : AA o Q) : MT b o Q := ⟨fun _ => by obtain ⟨r, e, _⟩ := h; exact ⟨r, e⟩, fun r e => h.get e⟩
theorem MT.bind {o : Option α} {k : α → Option β} {P : α → Prop} {Q : β → Prop} (h : MT b o P) (hk : ∀ r, P r → MT b (k r) Q) : MT b (Option.bind o k) Q := by
 refine ⟨fun hb => ?_, fun r e => ?_⟩
 ·obtain ⟨r, e⟩ := h.1 hb
  obtain ⟨s, e2⟩ := (hk r (h.2 r e)).1 hb
  exact ⟨s, by rw [e]; exact e2⟩
 ·obtain ⟨s, e1, e2⟩ := Option.bind_eq_some_iff.1 e
  exact (hk s (h.2 s e1)).2 r e2
theorem MT.cond {c : Bool} {x y : Option α} {Q : α → Prop} (ha : c = true → MT b x Q) (hb : c = false → MT b y Q) : MT b (bif c then x else y) Q := by
 cases c with
 | true => exact ha rfl
 | false => exact hb rfl
theorem MT.dec {p : Prop} {_ : Decidable p} {x y : Option α} {Q : α → Prop} (ha : p → MT b x Q) (hb : ¬ p → MT b y Q) : MT b (bif decide p then x else y) Q :=
 MT.cond (fun h => ha (of_decide_eq_true h)) (fun h => hb (of_decide_eq_false h))
theorem MT.beq {γ : Type} {_ : BEq γ} [LawfulBEq γ] {x y : γ} {u v : Option α} {Q : α → Prop} (ha : x = y → MT b u Q) (hb : x ≠ y → MT b v Q) : MT b (bif x == y then u else v) Q :=
 MT.cond (fun h => ha (eq_of_beq h)) (fun h => hb (ne_of_beq_false h))
end
def SP {α : Type} (l r : List α) : Prop := r.length = l.length ∧ ∀ e ∈ r, e ∈ l
theorem SP.refl {α : Type} (l : List α) : SP l l := ⟨rfl, fun _ h => h⟩
theorem SP.trans {α : Type} {a b c : List α} (h : SP a b) (g : SP b c) : SP a c := ⟨g.1.trans h.1, fun e he => h.2 e (g.2 e he)⟩
theorem LI {α : Type} {l : List α} {i : Int} {x : α} : (Ej l i x).length = l.length := by simp [Ej]
theorem SP.put {α : Type} {l m : List α} {i : Int} {x : α} (h : SP l m) (hx : x ∈ l) : SP l (Ej m i x) :=
 ⟨by rw [LI]; exact h.1, fun e he => by
  unfold Ej at he
  rcases List.mem_or_eq_of_mem_set he with q | q
  ·exact h.2 e q
  ·rw [q]; exact hx⟩
theorem au {α : Type} {a b : List α} {γ : Type} {x : Option γ} {Q : γ → Prop} (h : SP a b) (hk : AA x Q) : AA (bif Nat.beq (List.length b) (List.length a) then x else none) Q := by
 rw [h.1, Nat.beq_refl]
 exact hk
theorem gu {α : Type} {a b : List α} {γ : Type} {c : Bool} {x : Option γ} {Q : γ → Prop} (h : SP a b) (hk : MT c x Q) : MT c (bif Nat.beq (List.length b) (List.length a) then x else none) Q := by
 rw [h.1, Nat.beq_refl]
 exact hk
abbrev NL := List AP
theorem JT {x : AP × AP} : AA (EJ x) fun r => True := by
 unfold EJ
 refine AA.bind Fy fun _ _ => ?_
 refine AA.bind Fy fun _ _ => ?_
 refine AA.bind Fy fun _ _ => ?_
 exact AA.bind (Wa (by simp)) fun _ _ => AA.some trivial
theorem eL {l : NL} {x : Int × Int × Int} (h : l.length ≤ 16777216) (h1 : 0 ≤ x.1 ∧ 0 ≤ x.2.1 ∧ x.1 + x.2.2 ≤ l.length ∧ x.2.1 + x.2.2 ≤ l.length) : AA (BT l x) fun r => SP l r := by
 obtain ⟨a1, a2, a3, a4⟩ := h1
 unfold BT
 refine AA.bind (P := fun r => SP l r) ?_ fun v hv => AA.some hv
 refine AA.loop (fun (s : Int × NL) => 0 ≤ s.1 ∧ SP l s.2) (fun (s : Int × NL) => (x.2.2 - s.1).toNat) ⟨Int.le_refl _, SP.refl l⟩ (fun s hI => ?_)
 obtain ⟨i1, i2⟩ := hI
 have i3 := i2.1
 unfold EF
 refine AA.dec (fun hc => ?_) (fun _ => AA.some i2)
 have e1 := AI (x := x.2.1 + s.1) (by omega)
 have e2 := AI (x := x.1 + s.1) (by omega)
 have e3 := AI (x := s.1 + 1) (by omega)
 rw [e1, e2, e3]
 refine AA.bind (AA.ix (by omega) (by omega)) fun v1 _ => ?_
 refine AA.bind (AA.ix (by omega) (by omega)) fun v2 h2 => ?_
 refine AA.bind (AA.ix (by omega) (by omega)) fun v3 _ => ?_
 refine AA.bind (AA.ix (by omega) (by omega)) fun v4 h4 => ?_
 refine AA.bind (AA.ix (by omega) (by omega)) fun v5 _ => ?_
 refine AA.bind (AA.ix (by omega) (by omega)) fun v6 _ => ?_
 refine AA.bind (AA.ix (by omega) (by rw [LI]; omega)) fun v7 _ => ?_
 refine AA.bind (AA.ix (by omega) (by rw [LI]; omega)) fun v8 _ => AA.some ⟨⟨by dsimp only; omega, ?_⟩, by dsimp only; omega⟩
 exact (i2.put (i2.2 _ h2.2)).put (i2.2 _ h4.2)
theorem rot_t {l : NL} {x : Int × Int × Int} (h : l.length ≤ 16777216) (h1 : 0 ≤ x.1 ∧ x.1 < x.2.1 ∧ x.2.1 < x.2.2 ∧ x.2.2 ≤ l.length) : AA (CR l x) fun r => SP l r := by
 obtain ⟨a1, a2, a3, a4⟩ := h1
 unfold CR
 have e1 := AI (x := x.2.1 - x.1) (by omega)
 have e2 := AI (x := x.2.2 - x.2.1) (by omega)
 rw [e1, e2]
 refine AA.bind (P := fun r => 0 < r.1 ∧ r.1 ≤ x.2.1 - x.1 ∧ r.1 ≤ x.2.2 - x.2.1 ∧ SP l r.2) ?_ fun v3 h3 => ?_
 ·refine AA.loop (fun (s : Int × Int × NL) => 0 < s.1 ∧ 0 < s.2.1 ∧ s.1 ≤ x.2.1 - x.1 ∧ s.2.1 ≤ x.2.2 - x.2.1 ∧ SP l s.2.2) (fun (s : Int × Int × NL) => (s.1 + s.2.1).toNat) ⟨by dsimp only; omega, by dsimp only; omega, by dsimp only; omega, by dsimp only; omega, SP.refl l⟩ (fun s hI => ?_)
  obtain ⟨i1, i2, i3, i4, i5⟩ := hI
  have i6 := i5.1
  unfold E7
  refine AA.bne (fun hne => ?_) (fun heq => AA.some ⟨i1, i3, by dsimp only; omega, i5⟩)
  have f1 := AI (x := x.2.1 - s.1) (by omega)
  have f2 := AI (x := s.1 - s.2.1) (by omega)
  have f3 := AI (x := x.2.1 + s.2.1) (by omega)
  have f4 := AI (x := x.2.1 + s.2.1 - s.1) (by omega)
  have f5 := AI (x := s.2.1 - s.1) (by omega)
  rw [f1, f2, f3, f4, f5]
  refine AA.dec (fun hc => ?_) (fun hc => ?_)
  ·refine AA.bind (eL (by omega) ⟨by dsimp only; omega, by dsimp only; omega, by dsimp only; omega, by dsimp only; omega⟩) fun v1 hv1 => ?_
   exact au hv1 (AA.some ⟨⟨by dsimp only; omega, i2, by dsimp only; omega, i4, i5.trans hv1⟩, by dsimp only; omega⟩)
  ·refine AA.bind (eL (by omega) ⟨by dsimp only; omega, by dsimp only; omega, by dsimp only; omega, by dsimp only; omega⟩) fun v1 hv1 => ?_
   exact au hv1 (AA.some ⟨⟨i1, by dsimp only; omega, i3, by dsimp only; omega, i5.trans hv1⟩, by dsimp only; omega⟩)
 ·obtain ⟨b1, b2, b3, b4⟩ := h3
  have b5 := b4.1
  have f1 := AI (x := x.2.1 - v3.1) (by omega)
  rw [f1]
  refine AA.bind (eL (by omega) ⟨by dsimp only; omega, by dsimp only; omega, by dsimp only; omega, by dsimp only; omega⟩) fun v4 hv4 => ?_
  exact au hv4 (AA.some (b4.trans hv4))
theorem jG {l : NL} {x : Int × Int} (h : l.length ≤ 16777216) (h1 : 0 ≤ x.1 ∧ x.1 ≤ l.length ∧ x.2 ≤ l.length) : AA (BZ l x) fun r => SP l r := by
 obtain ⟨a1, a0, a2⟩ := h1
 unfold BZ
 have e0 := AI (x := x.1 + 1) (by omega)
 rw [e0]
 refine AA.bind (P := fun r => SP l r) ?_ fun v hv => AA.some hv
 refine AA.loop (fun (s : Int × NL) => x.1 < s.1 ∧ SP l s.2) (fun (s : Int × NL) => (x.2 - s.1).toNat) ⟨by dsimp only; omega, SP.refl l⟩ (fun s hI => ?_)
 obtain ⟨i1, i2⟩ := hI
 have i3 := i2.1
 unfold Dn
 refine AA.dec (fun hc => ?_) (fun _ => AA.some i2)
 have e3 := AI (x := s.1 + 1) (by omega)
 rw [e3]
 refine AA.bind (P := fun r => SP l r) ?_ fun v hv => AA.some ⟨⟨by dsimp only; omega, hv⟩, by dsimp only; omega⟩
 refine AA.loop (fun (t : Int × NL) => x.1 ≤ t.1 ∧ t.1 ≤ s.1 ∧ SP l t.2) (fun (t : Int × NL) => (t.1 - x.1).toNat) ⟨by omega, Int.le_refl _, i2⟩ (fun t hJ => ?_)
 obtain ⟨j1, j2, j3⟩ := hJ
 have j4 := j3.1
 unfold Do
 refine AA.dec (fun hc => ?_) (fun _ => AA.some j3)
 have f1 := AI (x := t.1 - 1) (by omega)
 rw [f1]
 refine AA.bind (AA.ix (by omega) (by omega)) fun v2 _ => ?_
 refine AA.bind (AA.ix (by omega) (by omega)) fun v3 _ => ?_
 refine AA.bind (AA.ix (by omega) (by omega)) fun v4 _ => ?_
 refine AA.bind (AA.ix (by omega) (by omega)) fun v5 _ => ?_
 refine AA.bind JT fun v6 _ => ?_
 refine AA.dec (fun _ => ?_) (fun _ => AA.some j3)
 refine AA.bind (AA.ix (by omega) (by omega)) fun v7 _ => ?_
 refine AA.bind (AA.ix (by omega) (by omega)) fun v8 h8 => ?_
 refine AA.bind (AA.ix (by omega) (by omega)) fun v9 _ => ?_
 refine AA.bind (AA.ix (by omega) (by omega)) fun v10 h10 => ?_
 refine AA.bind (AA.ix (by omega) (by omega)) fun v11 _ => ?_
 refine AA.bind (AA.ix (by omega) (by omega)) fun v12 _ => ?_
 refine AA.bind (AA.ix (by omega) (by rw [LI]; omega)) fun v13 _ => ?_
 refine AA.bind (AA.ix (by omega) (by rw [LI]; omega)) fun v14 _ => AA.some ⟨⟨by dsimp only; omega, by dsimp only; omega, ?_⟩, by dsimp only; omega⟩
 exact (j3.put (j3.2 _ h8.2)).put (j3.2 _ h10.2)
theorem sym_f {c : Bool} {g : NL × Int × Int × Int → Option NL} {l : NL} {x : Int × Int × Int} (h : l.length ≤ 16777216) (h1 : 0 ≤ x.1 ∧ x.1 < x.2.1 ∧ x.2.1 < x.2.2 ∧ x.2.2 ≤ l.length)
  (hg : ∀ (m : NL) (a k e : Int), SP l m → 0 ≤ a → a < k → k < e → e ≤ l.length → e - a < x.2.2 - x.1 → MT c (g (m, (a, (k, e)))) fun r => SP m r) : MT c (BP g l x) fun r => SP l r := by
 obtain ⟨a1, a2, a3, a4⟩ := h1
 unfold BP
 have w1 := AI (x := x.2.1 - x.1) (by omega)
 have w2 := AI (x := x.2.2 - x.2.1) (by omega)
 rw [w1, w2]
 refine MT.beq (fun he => ?_) (fun hne => ?_)
 ·refine MT.bind (P := fun (r : Int) => x.2.1 ≤ r ∧ r ≤ x.2.2) (AA.mt ?_) fun v6 h6 => AA.mt ?_
  ·refine AA.loop (fun (s : Int × Int) => x.2.1 ≤ s.1 ∧ s.1 ≤ s.2 ∧ s.2 ≤ x.2.2) (fun (s : Int × Int) => (s.2 - s.1).toNat) ⟨Int.le_refl _, by omega, Int.le_refl _⟩ (fun s hI => ?_)
   obtain ⟨i1, i2, i3⟩ := hI
   unfold EY
   rw [aN (by omega) (by omega) (by omega)]
   refine AA.dec (fun hc => ?_) (fun hc => AA.some ⟨i1, by omega⟩)
   have e1 := AI (x := (s.1 + s.2) / 2 + 1) (by omega)
   rw [e1]
   refine AA.bind (AA.ix (by omega) (by omega)) fun _ _ => ?_
   refine AA.bind (AA.ix (by omega) (by omega)) fun _ _ => ?_
   refine AA.bind (AA.ix (by omega) (by omega)) fun _ _ => ?_
   refine AA.bind (AA.ix (by omega) (by omega)) fun _ _ => ?_
   refine AA.bind JT fun _ _ => ?_
   exact AA.dec (fun _ => AA.some ⟨⟨by dsimp only; omega, by dsimp only; omega, i3⟩, by dsimp only; omega⟩) (fun _ => AA.some ⟨⟨i1, by dsimp only; omega, by dsimp only; omega⟩, by dsimp only; omega⟩)
  ·refine AA.bind (P := fun r => SP l r) ?_ fun v hv => AA.some hv
   refine AA.loop (fun (s : Int × NL) => x.1 ≤ s.1 ∧ SP l s.2) (fun (s : Int × NL) => (v6 - s.1).toNat) ⟨Int.le_refl _, SP.refl l⟩ (fun s hI => ?_)
   obtain ⟨i1, i2⟩ := hI
   have i3 := i2.1
   unfold EZ
   have e0 := AI (x := v6 - 1) (by omega)
   rw [e0]
   refine AA.dec (fun hc => ?_) (fun _ => AA.some i2)
   have e1 := AI (x := s.1 + 1) (by omega)
   rw [e1]
   refine AA.bind (AA.ix (by omega) (by omega)) fun v8 _ => ?_
   refine AA.bind (AA.ix (by omega) (by omega)) fun v9 h9 => ?_
   refine AA.bind (AA.ix (by omega) (by omega)) fun v10 _ => ?_
   refine AA.bind (AA.ix (by omega) (by omega)) fun v11 h11 => ?_
   refine AA.bind (AA.ix (by omega) (by omega)) fun v12 _ => ?_
   refine AA.bind (AA.ix (by omega) (by omega)) fun v13 _ => ?_
   refine AA.bind (AA.ix (by omega) (by rw [LI]; omega)) fun v14 _ => ?_
   refine AA.bind (AA.ix (by omega) (by rw [LI]; omega)) fun v15 _ => AA.some ⟨⟨by dsimp only; omega, ?_⟩, by dsimp only; omega⟩
   exact (i2.put (i2.2 _ h9.2)).put (i2.2 _ h11.2)
 refine MT.beq (fun he => ?_) (fun hne2 => ?_)
 ·refine MT.bind (P := fun (r : Int) => x.1 ≤ r ∧ r ≤ x.2.1) (AA.mt ?_) fun v23 h23 => AA.mt ?_
  ·refine AA.loop (fun (s : Int × Int) => x.1 ≤ s.1 ∧ s.1 ≤ s.2 ∧ s.2 ≤ x.2.1) (fun (s : Int × Int) => (s.2 - s.1).toNat) ⟨Int.le_refl _, by dsimp only; omega, Int.le_refl _⟩ (fun s hI => ?_)
   obtain ⟨i1, i2, i3⟩ := hI
   unfold Ea
   rw [aN (by omega) (by omega) (by omega)]
   refine AA.dec (fun hc => ?_) (fun hc => AA.some ⟨i1, by omega⟩)
   have e1 := AI (x := (s.1 + s.2) / 2 + 1) (by omega)
   rw [e1]
   refine AA.bind (AA.ix (by omega) (by omega)) fun _ _ => ?_
   refine AA.bind (AA.ix (by omega) (by omega)) fun _ _ => ?_
   refine AA.bind (AA.ix (by omega) (by omega)) fun _ _ => ?_
   refine AA.bind (AA.ix (by omega) (by omega)) fun _ _ => ?_
   refine AA.bind JT fun _ _ => ?_
   exact AA.not (fun _ => AA.some ⟨⟨by dsimp only; omega, by dsimp only; omega, i3⟩, by dsimp only; omega⟩) (fun _ => AA.some ⟨⟨i1, by dsimp only; omega, by dsimp only; omega⟩, by dsimp only; omega⟩)
  ·refine AA.bind (P := fun r => SP l r) ?_ fun v hv => AA.some hv
   refine AA.loop (fun (s : Int × NL) => s.1 ≤ x.2.1 ∧ SP l s.2) (fun (s : Int × NL) => (s.1 - v23).toNat) ⟨Int.le_refl _, SP.refl l⟩ (fun s hI => ?_)
   obtain ⟨i1, i2⟩ := hI
   have i3 := i2.1
   unfold Eb
   refine AA.dec (fun hc => ?_) (fun _ => AA.some i2)
   have e1 := AI (x := s.1 - 1) (by omega)
   rw [e1]
   refine AA.bind (AA.ix (by omega) (by omega)) fun v8 _ => ?_
   refine AA.bind (AA.ix (by omega) (by omega)) fun v9 h9 => ?_
   refine AA.bind (AA.ix (by omega) (by omega)) fun v10 _ => ?_
   refine AA.bind (AA.ix (by omega) (by omega)) fun v11 h11 => ?_
   refine AA.bind (AA.ix (by omega) (by omega)) fun v12 _ => ?_
   refine AA.bind (AA.ix (by omega) (by omega)) fun v13 _ => ?_
   refine AA.bind (AA.ix (by omega) (by rw [LI]; omega)) fun v14 _ => ?_
   refine AA.bind (AA.ix (by omega) (by rw [LI]; omega)) fun v15 _ => AA.some ⟨⟨by dsimp only; omega, ?_⟩, by dsimp only; omega⟩
   exact (i2.put (i2.2 _ h9.2)).put (i2.2 _ h11.2)
 have hmid := aN (a := x.1) (b := x.2.2) (by omega) (by omega) (by omega)
 unfold Ec
 rw [hmid]
 generalize hM : (x.1 + x.2.2) / 2 = M
 have m1 : x.1 < M ∧ M < x.2.2 ∧ 2 * M ≤ x.1 + x.2.2 ∧ x.1 + x.2.2 ≤ 2 * M + 1 := by omega
 obtain ⟨m1, m2, m3, m4⟩ := m1
 have w3 := AI (x := M + x.2.1) (by omega)
 have w4 := AI (x := M + x.2.1 - x.2.2) (by omega)
 have w5 := AI (x := M + x.2.1 - 1) (by omega)
 rw [w3, w4, w5]
 refine MT.bind (P := fun (r : Int × Int) => x.1 ≤ r.1 ∧ r.1 ≤ r.2 ∧ r.2 ≤ x.2.1 ∧ r.2 ≤ M ∧ M + x.2.1 - r.1 ≤ x.2.2 ∧ ∀ k : Int, r.1 ≤ k → k < r.2 → 0 ≤ M + x.2.1 - 1 - k ∧ M + x.2.1 - 1 - k < l.length) ?_ fun v34 h34 => ?_
 ·refine MT.dec (fun hc => MT.some ⟨by dsimp only; omega, by dsimp only; omega, by dsimp only; omega, Int.le_refl _, by dsimp only; omega, fun k q1 q2 => by dsimp only at q1 q2; omega⟩) (fun hc => MT.some ⟨Int.le_refl _, by dsimp only; omega, Int.le_refl _, by dsimp only; omega, by dsimp only; omega, fun k q1 q2 => by dsimp only at q1 q2; omega⟩)
 obtain ⟨p1, p2, p3, p4, p6, p5⟩ := h34
 refine MT.bind (P := fun (r : Int) => v34.1 ≤ r ∧ r ≤ v34.2) (AA.mt ?_) fun v41 h41 => ?_
 ·refine AA.loop (fun (s : Int × Int) => v34.1 ≤ s.1 ∧ s.1 ≤ s.2 ∧ s.2 ≤ v34.2) (fun (s : Int × Int) => (s.2 - s.1).toNat) ⟨Int.le_refl _, p2, Int.le_refl _⟩ (fun s hI => ?_)
  obtain ⟨i1, i2, i3⟩ := hI
  rw [aN (by omega) (by omega) (by omega)]
  refine AA.dec (fun hc => ?_) (fun hc => AA.some ⟨i1, by omega⟩)
  have q := p5 ((s.1 + s.2) / 2) (by omega) (by omega)
  have e1 := AI (x := (s.1 + s.2) / 2 + 1) (by omega)
  have e2 := AI (x := M + x.2.1 - 1 - (s.1 + s.2) / 2) (by omega)
  rw [e1, e2]
  refine AA.bind (AA.ix q.1 q.2) fun _ _ => ?_
  refine AA.bind (AA.ix q.1 q.2) fun _ _ => ?_
  refine AA.bind (AA.ix (by omega) (by omega)) fun _ _ => ?_
  refine AA.bind (AA.ix (by omega) (by omega)) fun _ _ => ?_
  refine AA.bind JT fun _ _ => ?_
  exact AA.not (fun _ => AA.some ⟨⟨by dsimp only; omega, by dsimp only; omega, i3⟩, by dsimp only; omega⟩) (fun _ => AA.some ⟨⟨i1, by dsimp only; omega, by dsimp only; omega⟩, by dsimp only; omega⟩)
 obtain ⟨r1, r2⟩ := h41
 have w6 := AI (x := M + x.2.1 - v41) (by omega)
 rw [w6]
 have tail : ∀ m : NL, SP l m → MT c (bif (decide (M < M + x.2.1 - v41)) then
   Option.bind ((bif (decide (M + x.2.1 - v41 < x.2.2)) then
      Option.bind (g (m, (M, (M + x.2.1 - v41, x.2.2)))) fun v48 => bif (Nat.beq (List.length v48) (List.length m)) then some v48 else none
     else some m) : (Option NL)) fun v49 => some v49
  else some m) fun r => SP l r := fun m hm => by
  refine MT.dec (fun hc => ?_) (fun _ => MT.some hm)
  refine MT.bind (P := fun r => SP l r) ?_ fun v hv => MT.some hv
  refine MT.dec (fun hc2 => ?_) (fun _ => MT.some hm)
  exact MT.bind (hg m M _ _ hm (by omega) hc hc2 (by omega) (by omega)) fun v hv => gu hv (MT.some (hm.trans hv))
 have head : x.1 < v41 → ∀ m : NL, SP l m → MT c ((bif (decide (v41 < M)) then
      Option.bind (g (m, (x.1, (v41, M)))) fun v44 => bif (Nat.beq (List.length v44) (List.length m)) then some v44 else none
     else some m) : (Option NL)) fun r => SP l r := fun hx m hm => by
  refine MT.dec (fun hc => ?_) (fun _ => MT.some hm)
  exact MT.bind (hg m x.1 v41 M hm (by omega) hx hc (by omega) (by omega)) fun v hv => gu hv (MT.some (hm.trans hv))
 refine MT.dec (fun hlt => ?_) (fun _ => ?_)
 ·refine MT.bind (P := fun r => SP l r) ?_ fun v43 h43 => ?_
  ·refine MT.dec (fun hc => ?_) (fun _ => MT.some (SP.refl l))
   exact MT.bind (AA.mt (rot_t h ⟨by dsimp only; omega, by dsimp only; omega, by dsimp only; omega, by dsimp only; omega⟩)) fun v hv => gu hv (MT.some hv)
  ·refine MT.dec (fun hx => ?_) (fun _ => tail v43 h43)
   exact MT.bind (head hx v43 h43) fun v45 h45 => tail v45 h45
 ·refine MT.dec (fun hx => ?_) (fun _ => tail l (SP.refl l))
  exact MT.bind (head hx l (SP.refl l)) fun v51 h51 => tail v51 h51
theorem hY (c : Bool) : ∀ (n : Nat) {l : NL} {x : Int × Int × Int}, l.length ≤ 16777216 → 0 ≤ x.1 ∧ x.1 < x.2.1 ∧ x.2.1 < x.2.2 ∧ x.2.2 ≤ l.length → (c = true → x.2.2 - x.1 ≤ n) →
  MT c (ZZ (fun g (p : NL × Int × Int × Int) => BP g p.1 p.2) n (l, x)) fun r => SP l r
 | 0, l, x, h, h1, hn => ⟨fun hc => by have := hn hc; omega, fun r e => by cases e⟩
 | n + 1, l, x, h, h1, hn => by
  show MT c (BP _ l x) fun r => SP l r
  refine sym_f h h1 fun m a k e hm ha hk he hl hs => ?_
  have lm := hm.1
  exact hY c n (by omega) ⟨ha, hk, he, by dsimp only; omega⟩ fun hc => by have := hn hc; dsimp only; omega
theorem jK {l : NL} {x : Int × Int × Int} (h : l.length ≤ 16777216) (h1 : 0 ≤ x.1 ∧ x.1 < x.2.1 ∧ x.2.1 < x.2.2 ∧ x.2.2 ≤ l.length) : AA (Bk l x) fun r => SP l r := by
 unfold Bk
 obtain ⟨r, hr⟩ := (hY true (x.2.2 - x.1).toNat h h1 fun _ => by omega).1 rfl
 obtain ⟨s, hs⟩ := Z6 hr
 obtain ⟨n, hn⟩ := Ys hs
 exact ⟨s, hs, (hY false n h h1 fun hc => by cases hc).2 s hn⟩
theorem hK {l : NL} {x : Int} (h : l.length ≤ 1048576) (hx : x = l.length) : AA (CS l x) fun r => SP l r := by
 unfold CS
 refine AA.bind (P := fun r => 0 ≤ r.1 ∧ r.1 ≤ x ∧ SP l r.2) ?_ fun v2 h2 => ?_
 ·refine AA.loop (fun (s : Int × Int × NL) => 0 ≤ s.1 ∧ s.1 ≤ x ∧ s.2.1 = s.1 + 20 ∧ SP l s.2.2) (fun (s : Int × Int × NL) => (x - s.1).toNat) ⟨Int.le_refl _, by dsimp only; omega, rfl, SP.refl l⟩ (fun s hI => ?_)
  obtain ⟨i1, i2, i3, i4⟩ := hI
  have i5 := i4.1
  unfold E8
  refine AA.dec (fun hc => ?_) (fun _ => AA.some ⟨i1, i2, i4⟩)
  have e := AI (x := s.2.1 + 20) (by omega)
  rw [e]
  refine AA.bind (jG (by omega) ⟨i1, by dsimp only; omega, by dsimp only; omega⟩) fun v hv => ?_
  exact au hv (AA.some ⟨⟨by dsimp only; omega, by dsimp only; omega, rfl, i4.trans hv⟩, by dsimp only; omega⟩)
 ·obtain ⟨b1, b2, b3⟩ := h2
  have b4 := b3.1
  refine AA.bind (jG (by omega) ⟨b1, by dsimp only; omega, by dsimp only; omega⟩) fun v3 h3 => au h3 ?_
  refine AA.bind (P := fun r => SP l r) ?_ fun v hv => AA.some hv
  refine AA.loop (fun (s : Int × NL) => 20 ≤ s.1 ∧ s.1 ≤ 2097152 ∧ SP l s.2) (fun (s : Int × NL) => (x - s.1).toNat) ⟨Int.le_refl _, by dsimp only; omega, b3.trans h3⟩ (fun s hI => ?_)
  obtain ⟨i1, i2, i3⟩ := hI
  have i4 := i3.1
  unfold E9
  refine AA.dec (fun hc => ?_) (fun _ => AA.some i3)
  have e1 := AI (x := 2 * s.1) (by omega)
  have e2 := AI (x := s.1 * 2) (by omega)
  rw [e1, e2]
  refine AA.bind (P := fun r => 0 ≤ r.1 ∧ r.1 ≤ x ∧ SP l r.2) ?_ fun v7 h7 => ?_
  ·refine AA.loop (fun (t : Int × Int × NL) => 0 ≤ t.1 ∧ t.1 ≤ x ∧ t.2.1 = t.1 + 2 * s.1 ∧ SP l t.2.2) (fun (t : Int × Int × NL) => (x - t.1).toNat) ⟨Int.le_refl _, by dsimp only; omega, by dsimp only; omega, i3⟩ (fun t hJ => ?_)
   obtain ⟨j1, j2, j3, j4⟩ := hJ
   have j5 := j4.1
   unfold FA
   refine AA.dec (fun hc => ?_) (fun _ => AA.some ⟨j1, j2, j4⟩)
   have f1 := AI (x := t.1 + s.1) (by omega)
   have f2 := AI (x := t.2.1 + 2 * s.1) (by omega)
   rw [f1, e1, f2]
   refine AA.bind (jK (by omega) ⟨j1, by dsimp only; omega, by dsimp only; omega, by dsimp only; omega⟩) fun v hv => ?_
   exact au hv (AA.some ⟨⟨by dsimp only; omega, by dsimp only; omega, rfl, j4.trans hv⟩, by dsimp only; omega⟩)
  ·obtain ⟨k1, k2, k3⟩ := h7
   have k4 := k3.1
   have f1 := AI (x := v7.1 + s.1) (by omega)
   rw [f1]
   refine AA.dec (fun hc2 => ?_) (fun _ => AA.some ⟨⟨by dsimp only; omega, by dsimp only; omega, k3⟩, by dsimp only; omega⟩)
   refine AA.bind (jK (by omega) ⟨k1, by dsimp only; omega, by dsimp only; omega, by dsimp only; omega⟩) fun v hv => ?_
   exact au hv (AA.some ⟨⟨by dsimp only; omega, by dsimp only; omega, k3.trans hv⟩, by dsimp only; omega⟩)
theorem g9 {l : NL} {x : Unit} (h : l.length ≤ 1048576) : AA (BX l x) fun r => SP l r := by
 unfold BX
 exact AA.bind (hK h rfl) fun v hv => au hv (AA.some hv)
end Go.Pm
namespace Go.Pm
open Go Go.Ab
set_option maxHeartbeats 1000000
def DS (a : AF) : Prop := ∀ f ∈ a.2.2.1, f.2.2.length ≤ 2199023255552
theorem YM {x : AF} (h : VB x) (hd : DS x) : AA (Hp x) fun r => r.1.length = r.2.length ∧ r.1.length ≤ 256 ∧ ∀ q ∈ r.1, 1 ≤ q.1 := by
 obtain ⟨⟨b1, b2, b3, b4, b5, b6, b7⟩, a1, a2, a3, a4, a5, a6⟩ := id h
 unfold Hp
 refine AA.bind (KO h) fun v0 _ => ?_
 refine AA.not (fun _ => AA.some ⟨rfl, by simp, fun q hq => by simp at hq⟩) (fun _ => ?_)
 refine AA.bind (P := fun r => r.length ≤ 256 ∧ ∀ e ∈ r, Zm e.1) ?_ fun v5 h5 => ?_
 ·refine AA.loop (fun (s : Int × NL) => 0 ≤ s.1 ∧ s.1 ≤ x.2.2.1.length ∧ s.2.length ≤ s.1 ∧ ∀ e ∈ s.2, Zm e.1) (fun (s : Int × NL) => ((x.2.2.1.length : Int) - s.1).toNat) ⟨Int.le_refl _, by dsimp only; omega, by simp, fun e he => by simp at he⟩ (fun s hI => ?_)
  obtain ⟨i1, i2, i3, i4⟩ := hI
  unfold Ma
  refine AA.dec (fun hc => ?_) (fun _ => AA.some ⟨by omega, i4⟩)
  simp only [len] at hc
  have e := AI (x := s.1 + 1) (by omega)
  rw [e]
  refine AA.bind (AA.ix i1 hc) fun v2 h2 => ?_
  refine AA.bind (XN b4 (hd _ h2.2)) fun v3 h3 => ?_
  refine AA.cond (fun ht => ?_) (fun _ => AA.some ⟨⟨by dsimp only; omega, by dsimp only; omega, by dsimp only; omega, i4⟩, by dsimp only; omega⟩)
  refine AA.bind (AA.app (by simp; omega)) fun v4 h4 => AA.some ⟨⟨by dsimp only; omega, by dsimp only; omega, ?_, fun e he => ?_⟩, by dsimp only; omega⟩
  ·have := h4.2.1
   simp only [List.length_cons, List.length_nil] at this
   dsimp only
   omega
  ·dsimp only at he
   rw [h4.1] at he
   rcases List.mem_append.1 he with he | he
   ·exact i4 e he
   ·rw [List.mem_singleton.1 he]
    exact h3 ht
 ·obtain ⟨c1, c2⟩ := h5
  refine AA.bind (g9 (by omega)) fun v6 h6 => au h6 ?_
  have c3 := h6.1
  refine AA.bind (P := fun (r : List AK × List Int) => r.1.length = r.2.length ∧ r.1.length ≤ 256 ∧ ∀ q ∈ r.1, 1 ≤ q.1) ?_ fun v hv => AA.some hv
  refine AA.loop (fun (s : Int × Int × Int × List AK × List Int) => 0 ≤ s.1 ∧ s.1 ≤ v5.length ∧ 0 ≤ s.2.2.1 ∧ s.2.2.1 ≤ 1099511627776 ∧ s.2.2.2.1.length = s.2.2.2.2.length ∧ s.2.2.2.1.length ≤ s.1 ∧ ∀ q ∈ s.2.2.2.1, 1 ≤ q.1) (fun (s : Int × Int × Int × List AK × List Int) => ((v5.length : Int) - s.1).toNat) ⟨Int.le_refl _, by dsimp only; omega, Int.le_refl _, by dsimp only; omega, rfl, by simp, fun q hq => by simp at hq⟩ (fun s hI => ?_)
  obtain ⟨i1, i2, i3, i4, i5, i6, i7⟩ := hI
  unfold Mb
  refine AA.dec (fun hc => ?_) (fun _ => AA.some ⟨i5, by omega, i7⟩)
  simp only [len] at hc
  have e := AI (x := s.1 + 1) (by omega)
  rw [e]
  refine AA.bind (AA.ix i1 (by omega)) fun v8 _ => ?_
  refine AA.bind (AA.ix i1 (by omega)) fun v9 h9 => ?_
  have hr := c2 v9 (h6.2 v9 h9.2)
  obtain ⟨r1, r2, r3, r4, r5, r6, r7, r8, r9⟩ := id hr
  have fin : ∀ (n : Int) (v10 : AK), v10.1 = (if v9.1.1 > n then v9.1.1 else n + 1) → 0 ≤ n → ∀ lo : Int, AA (Option.bind (app s.2.2.2.1 ([v10] : List (Int × (Int × (Int × (Int × (Int × (List (Int × (Int × (Int × (Int × (Int × (Int × ((Int × (Int × ((Bool × BF) × (Bool × BF)))) × BF))))))))))))))) fun v11 =>
    Option.bind (app s.2.2.2.2 ([v9.2] : List Int)) fun v12 => some (Step.next (s.1 + 1, (lo, (v9.1.2.1, (v11, v12)))))) fun (st : Step (Int × Int × Int × List AK × List Int) (List AK × List Int)) => match st with
     | .next s' => (0 ≤ s'.1 ∧ s'.1 ≤ v5.length ∧ 0 ≤ s'.2.2.1 ∧ s'.2.2.1 ≤ 1099511627776 ∧ s'.2.2.2.1.length = s'.2.2.2.2.length ∧ s'.2.2.2.1.length ≤ s'.1 ∧ ∀ q ∈ s'.2.2.2.1, 1 ≤ q.1) ∧ ((v5.length : Int) - s'.1).toNat < ((v5.length : Int) - s.1).toNat
     | .done r => r.1.length = r.2.length ∧ r.1.length ≤ 256 ∧ ∀ q ∈ r.1, 1 ≤ q.1 := fun n v10 h10 hn lo => by
   refine AA.bind (AA.app (by simp; omega)) fun v11 h11 => ?_
   refine AA.bind (AA.app (by simp; omega)) fun v12 h12 => AA.some ⟨⟨by dsimp only; omega, by dsimp only; omega, by dsimp only; omega, by dsimp only; omega, ?_, ?_, fun q hq => ?_⟩, by dsimp only; omega⟩
   ·have q1 := h11.2.1
    have q2 := h12.2.1
    simp only [List.length_cons, List.length_nil] at q1 q2
    dsimp only
    omega
   ·have q1 := h11.2.1
    simp only [List.length_cons, List.length_nil] at q1
    dsimp only
    omega
   ·dsimp only at hq
    rw [h11.1] at hq
    rcases List.mem_append.1 hq with hq | hq
    ·exact i7 q hq
    ·rw [List.mem_singleton.1 hq, h10]
     split <;> omega
  refine AA.bne (fun _ => ?_) (fun _ => ?_)
  ·refine AA.dec (fun hz => absurd hz (by omega)) (fun _ => ?_)
   exact AA.bind (P7 (by exact r9) ⟨Int.le_refl _, by dsimp only; omega⟩) fun v10 h10 => by
    obtain ⟨r, e, q⟩ := fin 0 v10 h10.1 (Int.le_refl _) v9.1.2.2.1
    exact ⟨r, e, by cases r <;> exact q⟩
  ·refine AA.dec (fun _ => AA.some ⟨⟨by dsimp only; omega, by dsimp only; omega, i3, i4, i5, by dsimp only; omega, i7⟩, by dsimp only; omega⟩) (fun _ => ?_)
   exact AA.bind (P7 (by exact r9) ⟨i3, i4⟩) fun v10 h10 => by
    obtain ⟨r, e, q⟩ := fin s.2.2.1 v10 h10.1 i3 s.2.1
    exact ⟨r, e, by cases r <;> exact q⟩
def SpL (l : List By) : Prop := l.length ≤ 16777216 ∧ ∀ s ∈ l, 1 ≤ s.1
theorem YR {x : AF × AZ × Int} (h : VB x.1) (hd : DS x.1) (hl : Cl x.2.1) : AA (Fx x) fun r => SpL r := by
 have l1 := hl.1
 unfold Fx
 refine AA.bind (Ta hl) fun v0 h0 => ?_
 refine AA.bind (Rh (by exact h)) fun v1 h1 => ?_
 have one : SpL ([(x.2.1.1, v0)] : List (Int × Int)) := ⟨by simp, fun s hs => by rw [List.mem_singleton.1 hs]; exact l1⟩
 refine AA.not (fun _ => AA.some one) (fun _ => ?_)
 refine AA.bind (YM h hd) fun v2 h2 => ?_
 obtain ⟨a1, a2, a3⟩ := h2
 refine AA.bind (P := fun r => SpL r) ?_ fun v hv => AA.some hv
 refine AA.loop (fun (s : Int × List By) => 0 ≤ s.1 ∧ s.1 ≤ v2.1.length ∧ s.2.length ≤ s.1 + 1 ∧ ∀ q ∈ s.2, 1 ≤ q.1) (fun (s : Int × List By) => ((v2.1.length : Int) - s.1).toNat) ⟨Int.le_refl _, by dsimp only; omega, by simp, one.2⟩ (fun s hI => ?_)
 obtain ⟨i1, i2, i3, i4⟩ := hI
 unfold Me
 refine AA.dec (fun hc => ?_) (fun _ => AA.some ⟨by omega, i4⟩)
 simp only [len] at hc
 have e := AI (x := s.1 + 1) (by omega)
 rw [e]
 refine AA.bind (AA.ix i1 hc) fun v4 h4 => ?_
 refine AA.beq (fun _ => ?_) (fun _ => AA.some ⟨⟨by dsimp only; omega, by dsimp only; omega, by dsimp only; omega, i4⟩, by dsimp only; omega⟩)
 refine AA.bind (AA.ix i1 (by omega)) fun v5 _ => ?_
 refine AA.bind (AA.app (by simp; omega)) fun v6 h6 => AA.some ⟨⟨by dsimp only; omega, by dsimp only; omega, ?_, fun q hq => ?_⟩, by dsimp only; omega⟩
 ·have := h6.2.1
  simp only [List.length_cons, List.length_nil] at this
  dsimp only
  omega
 ·dsimp only at hq
  rw [h6.1] at hq
  rcases List.mem_append.1 hq with hq | hq
  ·exact i4 q hq
  ·rw [List.mem_singleton.1 hq]
   exact a3 v4 h4.2
theorem We {x : By × Int} : AA (FD x) fun r => r = true → x.1.1 ≤ x.2 := by
 unfold FD
 refine AA.dec (fun hc => AA.some fun _ => by omega) (fun _ => AA.some fun hz => by cases hz)
theorem XP {b : Int} {x : By} : AA (Ht b x) fun r => r.2 = b ∧ (r.1 = true → x.1 ≤ b) := by
 unfold Ht
 exact AA.bind We fun v h => AA.some ⟨rfl, h⟩
theorem YQ {x : List By × Int} (h : SpL x.1) (hx : 0 ≤ x.2) (hb : x.2 ≤ 1099511627776) : AA (Cy x) fun r => 0 ≤ r ∧ r ≤ x.2 := by
 obtain ⟨a1, a2⟩ := h
 unfold Cy
 refine AA.bind (P := fun (r : Int) => 0 ≤ r ∧ r ≤ x.2) ?_ fun v hv => AA.some hv
 refine AA.loop (fun (s : Int) => 0 ≤ s ∧ s ≤ x.2) (fun (s : Int) => s.toNat) ⟨hx, Int.le_refl _⟩ (fun s hI => ?_)
 obtain ⟨i1, i2⟩ := hI
 unfold Mc
 refine AA.bind (P := fun (r : (Int × Int) ⊕ Int) => (∀ u : Int × Int, r = .inl u → 0 ≤ u.1 ∧ u.1 < x.1.length ∧ u.2 = s ∧ ∀ e, x.1[u.1.toNat]? = some e → e.1 ≤ s) ∧ ∀ u : Int, r = .inr u → u = s) ?_ fun r hr => AA.sum (fun u hu => ?_) (fun u hu => AA.some (by rw [hr.2 u hu]; exact ⟨i1, i2⟩))
 ·refine AA.loop (fun (t : Int × Int) => 0 ≤ t.1 ∧ t.1 ≤ x.1.length ∧ t.2 = s) (fun (t : Int × Int) => ((x.1.length : Int) - t.1).toNat) ⟨Int.le_refl _, by dsimp only; omega, rfl⟩ (fun t hJ => ?_)
  obtain ⟨j1, j2, j3⟩ := hJ
  unfold Md
  refine AA.dec (fun hc => ?_) (fun _ => AA.some ⟨fun u hu => (by cases hu), fun u hu => by cases hu; exact j3⟩)
  simp only [len] at hc
  have e := AI (x := t.1 + 1) (by omega)
  rw [e]
  refine AA.bind (AA.ix j1 hc) fun v2 h2 => ?_
  refine AA.bind XP fun v3 h3 => ?_
  refine AA.cond (fun ht => AA.some ⟨fun u hu => ?_, fun u hu => (by cases hu)⟩) (fun _ => AA.some ⟨⟨by dsimp only; omega, by dsimp only; omega, h3.1.trans j3⟩, by dsimp only; omega⟩)
  cases hu
  refine ⟨j1, hc, h3.1.trans j3, fun e he => ?_⟩
  dsimp only at he
  rw [h2.1] at he
  injection he with he
  subst he
  have := h3.2 ht
  omega
 ·obtain ⟨u1, u2, u3, u4⟩ := hr.1 u hu
  refine AA.dec (fun _ => AA.some (by rw [u3]; exact ⟨i1, i2⟩)) (fun _ => ?_)
  refine AA.dec (fun _ => AA.some (by rw [u3]; exact ⟨i1, i2⟩)) (fun hc => ?_)
  refine AA.bind (AA.ix u1 u2) fun v6 h6 => ?_
  have q1 := u4 v6 h6.1
  have q2 := a2 v6 h6.2
  have e := AI (x := v6.1 - 1) (by omega)
  rw [e]
  exact AA.some ⟨⟨by omega, by omega⟩, by omega⟩
theorem gZ {a : AF} {l : AZ} {p j : Int} (h : VB a) (hd : DS a) (hl : Cl l) (hp : 0 ≤ p ∧ p < a.2.1) (hj : 0 ≤ j) (hJ : j ≤ 1099511627776) :
  AA (MS (a, (l, (p, j)))) fun r => r.2 = 0 ∧ 0 ≤ r.1 ∧ r.1 ≤ j ∧ CG (a, (l, (p, (r.1, j)))) = some true ∧ (0 < r.1 → CG (a, (l, (p, (r.1 - 1, j)))) = some false) := by
 obtain ⟨s, hs, hs2⟩ := YR (x := (a, (l, p))) h hd hl
 obtain ⟨f, hf, hf2⟩ := YQ (x := (s, j)) hs2 hj hJ
 have ck : ∀ k : Int, 0 ≤ k → Hq (a, (l, (p, k))) = some 0 := fun k hk => by
  obtain ⟨r, hr, hr2⟩ := Rl (x := (a, (l, (p, k)))) h hl ⟨hp.1, hp.2, hk⟩
  rw [hr, hr2]
 dsimp only at hf2
 unfold MS
 dsimp only
 rw [ck j hj, hs]
 refine ⟨(f, 0), ?_, rfl, hf2.1, hf2.2, ?_, fun h0 => ?_⟩
 ·show Option.bind (Cy (s, j)) (fun v2 => some (v2, (0 : Int))) = _
  rw [hf]
  rfl
 ·unfold CG
  dsimp only
  rw [ck f hf2.1, hs]
  show (bif (decide (f ≤ j)) then Option.bind (Cy (s, j)) (fun v2 => some (decide (v2 ≤ f))) else some false) = _
  rw [hf, decide_eq_true hf2.2]
  show some (decide (f ≤ f)) = _
  simp
 ·unfold CG
  dsimp only at h0 ⊢
  rw [ck (f - 1) (by omega), hs]
  show (bif (decide (f - 1 ≤ j)) then Option.bind (Cy (s, j)) (fun v2 => some (decide (v2 ≤ f - 1))) else some false) = _
  rw [hf, decide_eq_true (show f - 1 ≤ j by omega)]
  show some (decide (f ≤ f - 1)) = _
  rw [decide_eq_false (by omega)]
end Go.Pm
namespace Go.Pm
open Go Go.Ab
set_option maxHeartbeats 400000
theorem gA {x : Int × List Int} (h : BD x.1 x.2) : AA (Cc x) fun r => r.2 = 0 ∧ VB r.1 ∧ r.1.2.1 = x.1 ∧ r.1.2.2.2.1 = 1 := by
 unfold Cc
 refine AA.bind Xe fun v0 h0 => ?_
 refine AA.not (fun hc => (by rw [h0.2 h] at hc; cases hc)) (fun _ => ?_)
 have hl := h.2.2.2.1
 refine AA.bind (AA.app (by simp; omega)) fun v1 h1 => AA.some ⟨rfl, ⟨?_, by dsimp only; decide, by dsimp only; decide, by dsimp only; decide, by dsimp only; decide, by simp, ⟨fun i f hi hf => by simp at hf, fun i f g hi hf hg => by simp at hf⟩⟩, rfl, rfl⟩
 have e := h1.1
 rw [List.nil_append] at e
 dsimp only
 rw [e]
 exact h
theorem FR.push {l m : List BJ} {f : BJ} {c : Int} (h : FR l c l.length) (hc : 1 ≤ c) (hf : f.2.1 = c) (hm : m = l ++ [f]) : FR m (c + 1) m.length := by
 subst hm
 obtain ⟨h1, h2⟩ := h
 have el : (l ++ [f]).length = l.length + 1 := by simp
 have last : ∀ (i : Nat) (g : BJ), ¬ i < l.length → (l ++ [f])[i]? = some g → g = f := fun i g hi hg => by
  have hlt := XE hg
  rw [el] at hlt
  have ei : i = l.length := by omega
  subst ei
  rw [List.getElem?_append_right (Nat.le_refl _)] at hg
  simp at hg
  exact hg.symm
 refine ⟨fun i g hi hg => ?_, fun i g k hi hg hk => ?_⟩
 ·by_cases hl : i < l.length
  ·rw [List.getElem?_append_left hl] at hg
   have := h1 i g (by omega) hg
   exact ⟨this.1, by omega⟩
  ·rw [last i g hl hg, hf]
   exact ⟨by omega, by omega⟩
 ·rw [el] at hi
  have hl : i < l.length := by omega
  rw [List.getElem?_append_left hl] at hg
  by_cases hl2 : i + 1 < l.length
  ·rw [List.getElem?_append_left hl2] at hk
   exact h2 i g k (by omega) hg hk
  ·rw [last (i + 1) k hl2 hk, hf]
   exact (h1 i g (by omega) hg).2
end Go.Pm
namespace Go.Pm
open Go Go.Ab
set_option maxHeartbeats 400000
theorem iI {x : AF × AZ × Int} (h : SA x.1) (hb : VB x.1) : AA (EA x) fun r => r.2 = 0 → SA r.1 ∧ VB r.1 ∧ r.1.2.1 = x.1.2.1 ∧ (r.1.2.2.2.1 = x.1.2.2.2.1 ∨ r.1.2.2.2.1 ≤ x.2.1.2.2 + 1) := by
 unfold EA
 refine AA.bind Ft fun v0 h0 => ?_
 refine AA.not (fun _ => AA.some fun hz => absurd hz (by decide)) (fun hc => ?_)
 obtain ⟨a1, a2, a3, a4, a5, a6, a7, a8, a9⟩ := h0 hc
 refine AA.bind A4 fun v1 h1 => ?_
 refine AA.not (fun _ => AA.some fun hz => absurd hz (by decide)) (fun hc1 => ?_)
 obtain ⟨l1, l2, l3, l4, l5, l6⟩ := h1.1 hc1
 refine AA.dec (fun _ => AA.some fun hz => absurd hz (by decide)) (fun c1 => ?_)
 refine AA.dec (fun _ => AA.some fun hz => absurd hz (by decide)) (fun c2 => ?_)
 generalize hF : (if (x.2.1.1 > x.1.2.2.2.1) then x.2.1.1 else x.1.2.2.2.1) = F
 have f1 : x.2.1.1 ≤ F ∧ x.1.2.2.2.1 ≤ F ∧ F ≤ 1099511627777 := by rw [← hF]; split <;> omega
 have e1 := AI (x := F + x.2.2) (by omega)
 have e2 := AI (x := F + x.2.2 - 1) (by omega)
 rw [e1, e2]
 generalize hG : (if (x.2.1.2.2 < (F + x.2.2 - 1)) then x.2.1.2.2 else (F + x.2.2 - 1)) = G
 have g1 : G ≤ x.2.1.2.2 ∧ G ≤ F + x.2.2 - 1 := by rw [← hG]; split <;> omega
 refine AA.dec (fun _ => AA.some fun _ => ⟨h, hb, rfl, .inl rfl⟩) (fun c3 => ?_)
 have e3 := AI (x := F - x.2.1.1) (by omega)
 have e4 := AI (x := G - x.2.1.1) (by omega)
 have e5 := AI (x := G - x.2.1.1 + 1) (by omega)
 rw [e3, e4, e5]
 have e6 := AI (x := len x.1.2.2.1 + len x.1.1) (by simp only [len]; omega)
 have e7 := AI (x := x.1.2.2.2.2 + len x.1.1) (by simp only [len]; omega)
 have e8 := AI (x := G + 1) (by omega)
 rw [e6, e7, e8]
 have hG2 : G ≤ 1099511627776 := by
  have hne : x.2.1.2.1.length ≠ 0 := by omega
  obtain ⟨en, hen⟩ : ∃ en, x.2.1.2.1[x.2.1.2.1.length - 1]? = some en := ⟨_, List.getElem?_eq_getElem (by omega)⟩
  have := l6 _ en hen
  have h1 := this.1
  have h2 := this.2.2.1
  omega
 refine AA.dec (fun _ => AA.some fun hz => absurd hz (by decide)) (fun c8 => ?_)
 refine AA.dec (fun _ => AA.some fun hz => absurd hz (by decide)) (fun c9 => ?_)
 simp only [len] at c8 c9
 refine AA.bind (AA.lsl (by omega) (by omega) (by omega)) fun v2 h2 => ?_
 have hl2 := h2.2
 refine AA.bind (RV ⟨Int.le_refl _, by dsimp only; omega, by omega⟩) fun v8 h8 => ?_
 refine AA.sum (fun u hu => AA.some fun hz => absurd hz (h8 u hu)) (fun u hu => ?_)
 refine AA.bind (AA.app (by simp; omega)) fun v11 h11 => ?_
 have e11 := h11.1
 rw [List.nil_append] at e11
 refine AA.bind (P := fun r => (∀ u, r = .inl u → u.1 ≠ 0) ∧ ∀ u, r = .inr u → u.2.1 = x.1.1 ∧ u.1.length ≤ 256 ∧ (∀ f ∈ u.1, f.2.2.length ≤ 1099511627776) ∧ u.2.2.1 = x.1.2.1 ∧ u.2.2.2.2.1 = x.1.2.2.2.2 + x.1.1.length ∧ FR u.1 u.2.2.2.2.1 u.1.length) ?_ fun r hr => AA.sum (fun u hu => AA.some fun hz => absurd hz (hr.1 u hu)) (fun u hu => AA.some fun _ => ?_)
 ·refine AA.loop (fun (s : Int × (List BJ) × (List Int) × Int × Int × Int × AF) => 0 ≤ s.1 ∧ s.1 ≤ x.1.1.length ∧ s.2.2.1 = x.1.1 ∧ (s.2.1.length : Int) = x.1.2.2.1.length + s.1 ∧ (∀ f ∈ s.2.1, f.2.2.length ≤ 1099511627776) ∧ s.2.2.2.1 = x.1.2.1 ∧ s.2.2.2.2.2.1 = x.1.2.2.2.2 + s.1 ∧ FR s.2.1 s.2.2.2.2.2.1 s.2.1.length) (fun (s : Int × (List BJ) × (List Int) × Int × Int × Int × AF) => ((x.1.1.length : Int) - s.1).toNat) ⟨Int.le_refl _, by dsimp only; omega, rfl, by dsimp only; rw [e11]; omega, by dsimp only; rw [e11]; exact h.2.2, rfl, by dsimp only; omega, by dsimp only; rw [e11]; exact hb.2.2.2.2.2.2⟩ (fun s hI => ?_)
  obtain ⟨i1, i2, i3, i4, i5, i6, i7, i8⟩ := hI
  unfold NB
  have e := AI (x := s.1 + 1) (by omega)
  rw [e]
  refine AA.dec (fun hc => ?_) (fun hc => AA.some ⟨fun u hu => (by cases hu), fun u hu => (by cases hu; simp only [len] at hc; exact ⟨i3, by omega, i5, i6, by omega, i8⟩)⟩)
  simp only [len] at hc
  refine AA.bind (NA a4 ⟨i1, hc⟩) fun v13 _ => ?_
  refine AA.bind (VO (by dsimp only; omega)) fun v14 h14 => ?_
  refine AA.bne (fun hc => AA.some ⟨fun u hu => (by cases hu; exact hc), fun u hu => (by cases hu)⟩) (fun _ => ?_)
  refine AA.bind JG fun v15 h15 => ?_
  refine AA.bind (AA.app (by simp; omega)) fun v16 h16 => AA.some ?_
  have l16 := h16.2.1
  simp only [List.length_cons, List.length_nil] at l16
  have e9 := AI (x := s.2.2.2.2.2.1 + 1) (by omega)
  rw [e9]
  refine ⟨⟨by dsimp only; omega, by dsimp only; omega, i3, by dsimp only; omega, fun f hf => ?_, i6, by dsimp only; omega, i8.push (by omega) rfl h16.1⟩, by dsimp only; omega⟩
  dsimp only at hf
  rw [h16.1] at hf
  rcases List.mem_append.1 hf with w | w
  ·exact i5 f w
  ·simp at w
   rw [w]
   exact h15
 ·obtain ⟨q1, q2, q3, q4, q5, q6⟩ := hr.2 u hu
  refine ⟨⟨by dsimp only; rw [q1]; exact a4, by dsimp only; omega, q3⟩, ⟨?_, by dsimp only; omega, by dsimp only; omega, by dsimp only; omega, by dsimp only; omega, q2, q6⟩, q4, .inr (by dsimp only; omega)⟩
  dsimp only
  rw [q1, q4]
  exact hb.1
end Go.Pm
namespace Go.Pm
open Go Go.Ab
def FP (l : List BJ) (m : Int) : Prop := (∀ f ∈ l, 0 < f.2.1 ∧ f.2.1 < m) ∧ l.Pairwise fun f g => f.2.1 < g.2.1
theorem FP.fr {l : List BJ} {m : Int} (h : FP l m) : FR l m l.length := by
 refine ⟨fun i f hi hf => h.1 f (List.mem_of_getElem? hf), fun i f g hi hf hg => ?_⟩
 have h1 := XE hf
 have h2 := XE hg
 have := List.pairwise_iff_getElem.1 h.2 i (i + 1) h1 h2 (by omega)
 rw [List.getElem?_eq_getElem h1] at hf
 rw [List.getElem?_eq_getElem h2] at hg
 rw [← Option.some.inj hf, ← Option.some.inj hg]
 exact this
theorem FR.fp {l : List BJ} {m : Int} (h : FR l m l.length) : FP l m := by
 refine ⟨fun f hf => ?_, List.pairwise_iff_getElem.2 fun i j hi hj hij => ?_⟩
 ·obtain ⟨i, hi⟩ := List.mem_iff_getElem?.1 hf
  have := XE hi
  exact h.1 i f (by omega) hi
 ·obtain ⟨d, rfl⟩ : ∃ d, j = i + 1 + d := ⟨j - (i + 1), by omega⟩
  induction d with
  | zero => exact h.2 i _ _ (by omega) (List.getElem?_eq_getElem hi) (List.getElem?_eq_getElem hj)
  | succ d ih =>
   have hj' : i + 1 + d < l.length := by omega
   have h1 := ih hj' (by omega)
   have h2 := h.2 (i + 1 + d) l[i + 1 + d] l[i + 1 + (d + 1)] (by omega) (List.getElem?_eq_getElem hj') (List.getElem?_eq_getElem hj)
   omega
theorem FR.sub {l k : List BJ} {m : Int} (h : FR l m l.length) (hs : k.Sublist l) : FR k m k.length :=
 FP.fr ⟨fun f hf => h.fp.1 f (hs.subset hf), h.fp.2.sublist hs⟩
end Go.Pm
namespace Go.Pm
open Go Go.Ab
set_option maxHeartbeats 400000
theorem da {x : AF × Int} (hs : SA x.1) : AA (Co x) fun r => r.2.2 = 0 → r.2.1 = true → r.1.2.1 = x.1.2.1 ∧ r.1.2.2.2.1 = x.1.2.2.2.1 := by
 unfold Co
 refine AA.bind Ft fun v0 h0 => ?_
 refine AA.not (fun _ => AA.some fun hz => absurd hz (by decide)) (fun hc => ?_)
 have hv := h0 hc
 obtain ⟨a1, a2, a3, a4, a5, a6, a7, a8, a9⟩ := hv
 refine AA.dec (fun _ => AA.some fun hz => absurd hz (by decide)) (fun c1 => ?_)
 refine AA.dec (fun _ => AA.some fun hz => absurd hz (by decide)) (fun c2 => ?_)
 refine AA.bind (NC hs) fun v1 h1 => ?_
 obtain ⟨t1, t2, t3, t4⟩ := h1
 refine AA.bind (P := fun r => ∀ u, r = .inl u → u.2.1 = 0 → u.1 = true → u.2.2.2.1 = x.1.2.1 ∧ u.2.2.2.2.2.1 = x.1.2.2.2.1) ?_ fun r hr => AA.sum (fun u hu => AA.some (hr u hu)) (fun u hu => AA.some fun _ hz => by cases hz)
 refine AA.loop (fun (s : Int × AF) => 0 ≤ s.1 ∧ s.1 ≤ v1.1.length) (fun (s : Int × AF) => ((v1.1.length : Int) - s.1).toNat) ⟨Int.le_refl _, by dsimp only; omega⟩ (fun s hI => ?_)
 obtain ⟨i1, i2⟩ := hI
 unfold J4
 have e1 := AI (x := s.1 + 1) (by omega)
 have e2 := AI (x := s.1 + x.2) (by omega)
 rw [e1, e2]
 refine AA.dec (fun hc => ?_) (fun _ => AA.some fun u hu => by cases hu)
 simp only [len] at hc
 refine AA.bind (AA.lsl i1 (by omega) (by omega)) fun v3 h3 => ?_
 refine AA.bind (AA.lsl i1 (by omega) (by omega)) fun v4 h4 => ?_
 have l3 := h3.2
 have l4 := h4.2
 refine AA.bind (NE (fun r hr => t4 r (by dsimp only at hr; rw [h3.1] at hr; exact List.mem_of_mem_drop (List.mem_of_mem_take hr))) ⟨by dsimp only; omega, by dsimp only; omega⟩ (by dsimp only; omega)) fun v5 _ => ?_
 refine AA.not (fun _ => AA.some ⟨⟨by dsimp only; omega, by dsimp only; omega⟩, by dsimp only; omega⟩) (fun _ => ?_)
 refine AA.dec (fun _ => AA.some fun u hu hz => by cases hu; exact absurd hz (by decide)) (fun c3 => ?_)
 refine AA.bind (P := fun r => r.1.length ≤ 256 ∧ (∀ f ∈ r.1, f.2.2.length ≤ 1099511627776) ∧ r.2 = (x.1.1, x.1.2.1, x.1.2.2.2) ∧ True) ?_ fun v14 h14 => ?_
 ·refine AA.loop (fun (q : Int × List BJ × List Int × Int × Int × Int) => 0 ≤ q.1 ∧ q.1 ≤ x.1.2.2.1.length ∧ q.2.1.length ≤ q.1 ∧ (∀ f ∈ q.2.1, f.2.2.length ≤ 1099511627776) ∧ q.2.2 = (x.1.1, x.1.2.1, x.1.2.2.2) ∧ True) (fun (q : Int × List BJ × List Int × Int × Int × Int) => ((x.1.2.2.1.length : Int) - q.1).toNat) ⟨Int.le_refl _, by dsimp only; omega, by simp, fun f hf => by simp at hf, rfl, trivial⟩ (fun q hJ => ?_)
  obtain ⟨j1, j2, j3, j4, j5, j6⟩ := hJ
  unfold J5
  have e3 := AI (x := q.1 + 1) (by omega)
  rw [e3]
  refine AA.dec (fun hc => ?_) (fun _ => AA.some ⟨by omega, j4, j5, j6⟩)
  simp only [len] at hc
  refine AA.bind (Lj ⟨i1, by omega, by omega, by omega, by omega⟩ ⟨j1, hc⟩) fun v10 _ => ?_
  refine AA.bind (P := fun t => t.1.length ≤ q.2.1.length + 1 ∧ (∀ f ∈ t.1, f.2.2.length ≤ 1099511627776) ∧ t.2 = q.2.2) ?_ fun v13 h13 => AA.some ⟨⟨by dsimp only; omega, by dsimp only; omega, by have := h13.1; dsimp only; omega, h13.2.1, by dsimp only; rw [h13.2.2]; exact j5, trivial⟩, by dsimp only; omega⟩
  refine AA.not (fun _ => ?_) (fun _ => AA.some ⟨by omega, j4, rfl⟩)
  refine AA.bind (AA.ix j1 hc) fun v11 h11 => ?_
  refine AA.bind (AA.app (by simp; omega)) fun v12 h12 => AA.some ⟨?_, fun f hf => ?_, rfl⟩
  ·have := h12.2.1
   simp at this
   dsimp only
   omega
  ·dsimp only at hf
   rw [h12.1] at hf
   rcases List.mem_append.1 hf with w | w
   ·exact j4 f w
   ·simp at w
    rw [w]
    exact hs.2.2 _ h11.2
 obtain ⟨b1, b2, b3, b4⟩ := h14
 refine AA.bind JG fun v15 h15 => ?_
 refine AA.bind (AA.app (by simp; omega)) fun v16 h16 => AA.some fun u hu _ _ => ?_
 cases hu
 have l16 := h16.2.1
 simp only [List.length_cons, List.length_nil] at l16
 dsimp only
 rw [b3]
 exact ⟨rfl, rfl⟩
theorem iH {x : AF × Int} (hs : SA x.1) : AA (Co x) fun r => r.2.2 = 0 → VB x.1 := by
 obtain ⟨v, hv1, hv2⟩ := cO (x := x.1)
 cases v with
 | true => exact (Nm hs).mono fun r _ _ => hv2.1 rfl
 | false =>
  unfold Co
  rw [hv1]
  exact AA.some fun hz => absurd hz (by decide)
theorem iJ {x : AF × Int} (hs : SA x.1) : AA (FW x) fun r => r.2 = 0 → SA r.1 ∧ VB r.1 ∧ r.1.2.1 = x.1.2.1 ∧ r.1.2.2.2.1 = x.1.2.2.2.1 := by
 unfold FW
 refine AA.bind (P := fun r => r.1 = 0 → SA r.2 ∧ VB r.2 ∧ r.2.2.1 = x.1.2.1 ∧ r.2.2.2.2.1 = x.1.2.2.2.1) ?_ fun r hr => AA.some hr
 refine AA.loop (fun (s : AF × AF) => SA s.1 ∧ s.1.2.1 = x.1.2.1 ∧ s.1.2.2.2.1 = x.1.2.2.2.1) (fun (s : AF × AF) => (1073741830 - s.1.2.2.2.2).toNat) ⟨hs, rfl, rfl⟩ (fun s hI => ?_)
 obtain ⟨i1, i2, i3⟩ := hI
 unfold ND
 refine AA.bind (((Nm i1).and (iH i1)).and (da i1)) fun v1 h1 => ?_
 refine AA.bne (fun hc => AA.some fun hz => absurd hz hc) (fun hz => ?_)
 refine AA.not (fun _ => AA.some fun _ => ⟨i1, h1.1.2 hz, i2, i3⟩) (fun hc => AA.some ?_)
 obtain ⟨q1, q2, q3⟩ := h1.1.1 hz hc
 obtain ⟨k1, k2⟩ := h1.2 hz hc
 dsimp only at q2 q3 k1 k2
 exact ⟨⟨q1, k1.trans i2, k2.trans i3⟩, by dsimp only; omega⟩
end Go.Pm
namespace Go.Pm
open Go Go.Ab
set_option maxHeartbeats 400000
def AV (n d : Int) (a : AF) : Prop := SA a ∧ VB a ∧ a.2.1 = n ∧ a.2.2.2.1 ≤ d + 1
theorem AV.step {n : Int} {a : AF} {l : AZ} {c : Int} (h : AV n l.2.2 a) : AA (EA (a, (l, c))) fun r => r.2 = 0 → AV n l.2.2 r.1 := by
 refine (iI (x := (a, (l, c))) h.1 h.2.1).mono fun r hr hz => ?_
 obtain ⟨q1, q2, q3, q4⟩ := hr hz
 have h4 := h.2.2.2
 exact ⟨q1, q2, q3.trans h.2.2.1, by dsimp only at q4; omega⟩
theorem AV.tidy {n d : Int} {a : AF} {c : Int} (h : AV n d a) : AA (FW (a, c)) fun r => r.2 = 0 → AV n d r.1 := by
 refine (iJ (x := (a, c)) h.1).mono fun r hr hz => ?_
 obtain ⟨q1, q2, q3, q4⟩ := hr hz
 have h4 := h.2.2.2
 exact ⟨q1, q2, q3.trans h.2.2.1, by dsimp only at q4; omega⟩
theorem dW {b : AD} {x : Int × AZ} (h : CX b) (hx : 1 ≤ x.1 ∧ x.1 ≤ 64) (hl : Cl x.2) : AA (GA b x) fun r => CX r.2 ∧ AV x.1 x.2.2.2 r.1 := by
 unfold GA
 have d0 := hl.1
 have d1 := hl.2.2.2.1
 refine AA.bind (fE h hx) fun v0 h0 => ?_
 refine AA.bind ((V8 h0.2.2.2.2.1).and (gA h0.2)) fun v1 h1 => ?_
 obtain ⟨s1, _, s2, s3, s4⟩ := h1
 have hA : AV x.1 x.2.2.2 v1.1 := ⟨s1, s2, s3, by omega⟩
 refine AA.bind (AL h0.1 (by decide)) fun v2 h2 => ?_
 obtain ⟨c1, c2, c3⟩ := h2
 refine AA.bind (P := fun r => CX r.1 ∧ AV x.1 x.2.2.2 r.2) ?_ fun v12 h12 => ?_
 ·refine AA.loop (fun (s : Int × AD × AF) => 0 ≤ s.1 ∧ s.1 ≤ 8 ∧ CX s.2.1 ∧ AV x.1 x.2.2.2 s.2.2) (fun (s : Int × AD × AF) => s.1.toNat) ⟨c2, by dsimp only; omega, c1, hA⟩ (fun s hI => ?_)
  obtain ⟨i1, i2, i3, i4⟩ := hI
  unfold LY
  have e := AI (x := s.1 - 1) (by omega)
  rw [e]
  refine AA.dec (fun hc => ?_) (fun _ => AA.some ⟨i3, i4⟩)
  refine AA.bind (AL i3 (by decide)) fun v4 h4 => ?_
  refine AA.bind i4.step fun v5 h5 => ?_
  refine AA.bind (P := fun a => AV x.1 x.2.2.2 a) (AA.beq (fun hz => AA.some (h5 hz)) (fun _ => AA.some i4)) fun v6 h6 => ?_
  refine AA.bind (AL h4.1 (by decide)) fun v7 h7 => ?_
  refine AA.bind (P := fun r => CX r.1 ∧ AV x.1 x.2.2.2 r.2) ?_ fun v11 h11 => AA.some ⟨⟨by dsimp only; omega, by dsimp only; omega, h11.1, h11.2⟩, by dsimp only; omega⟩
  refine AA.cond (fun _ => ?_) (fun _ => AA.some ⟨h7.1, h6⟩)
  refine AA.bind (AL h7.1 (by decide)) fun v8 h8 => ?_
  refine AA.bind h6.tidy fun v9 h9 => ?_
  exact AA.bind (P := fun a => AV x.1 x.2.2.2 a) (AA.beq (fun hz => AA.some (h9 hz)) (fun _ => AA.some h6)) fun v10 h10 => AA.some ⟨h8.1, h10⟩
 ·refine AA.bind (AL h12.1 (by decide)) fun v13 h13 => ?_
  refine AA.bind (P := fun a => AV x.1 x.2.2.2 a) ?_ fun v16 h16 => AA.some ⟨h13.1, h16⟩
  refine AA.cond (fun _ => ?_) (fun _ => AA.some h12.2)
  refine AA.bind h12.2.step fun v14 h14 => ?_
  exact AA.bind (P := fun a => AV x.1 x.2.2.2 a) (AA.beq (fun hz => AA.some (h14 hz)) (fun _ => AA.some h12.2)) fun v15 h15 => AA.some h15
end Go.Pm
namespace Go.Pm
open Go Go.Ab
set_option maxHeartbeats 400000
theorem fG {b : AD} {x : List BJ} {m : Int} (hF : FR x m x.length) (h : CX b) (hx : x.length ≤ 1000000) (hf : ∀ f ∈ x, f.2.2.length ≤ 1099511627776) : AA (Gx b x) fun r => CX r.2 ∧ r.1.length ≤ x.length ∧ FR r.1 m r.1.length ∧ ∀ f ∈ r.1, f.2.2.length ≤ 1099511627777 := by
 unfold Gx
 refine AA.beq (fun _ => AA.some ⟨h, by simp, ⟨fun i f hi hf => by simp at hf, fun i f g hi hf hg => by simp at hf⟩, fun f hf => by simp at hf⟩) (fun hne => ?_)
 simp only [len] at hne
 refine AA.bind (AL h (by simp only [len]; omega)) fun v0 h0 => ?_
 obtain ⟨c1, c2, c3⟩ := h0
 simp only [len] at c3
 have e := AI (x := v0.1 + 1) (by omega)
 rw [e]
 refine AA.bind (AL c1 (by decide)) fun v1 h1 => ?_
 refine AA.beq (fun _ => ?_) (fun _ => ?_)
 ·refine AA.bind (AA.lsl (Int.le_refl _) c2 (by omega)) fun v2 h2 => ?_
  refine AA.bind (AA.lsl (by omega) (by simp only [len]; omega) (by simp only [len]; omega)) fun v3 h3 => ?_
  have l2 := h2.2
  have l3 := h3.2
  simp only [len] at l3
  refine AA.bind (AA.app (by simp; omega)) fun v4 h4 => ?_
  have l4 := h4.2.1
  simp only [List.length_nil] at l4
  refine AA.bind (AA.app (by omega)) fun v5 h5 => AA.some ⟨h1.1, ?_, ?_⟩
  ·have l5 := h5.2.1
   dsimp only
   omega
  ·have hs : v5.Sublist x := by
    rw [h5.1, h4.1, h2.1, h3.1, List.nil_append]
    have e0 : x = x.take v0.1.toNat ++ x.drop v0.1.toNat := (List.take_append_drop _ _).symm
    suffices key0 : ((x.drop (0 : Int).toNat).take (v0.1.toNat - (0 : Int).toNat) ++ (x.drop (v0.1 + 1).toNat).take ((len x).toNat - (v0.1 + 1).toNat)).Sublist (x.take v0.1.toNat ++ x.drop v0.1.toNat) by
     rw [← e0] at key0; exact key0
    refine List.Sublist.append ?_ ?_
    ·simp
    ·refine (List.take_sublist _ _).trans ?_
     have e1 : (v0.1 + 1).toNat = v0.1.toNat + 1 := by omega
     rw [e1, ← List.drop_drop]
     exact List.drop_sublist _ _
   exact ⟨hF.sub hs, fun f hf' => by have := hf f (hs.subset hf'); omega⟩
 ·refine AA.bind (AA.app (by simp; omega)) fun v6 h6 => ?_
  have e6 := h6.1
  rw [List.nil_append] at e6
  subst e6
  refine AA.bind (AA.ix c2 (by omega)) fun v7 _ => ?_
  refine AA.bind (AA.ix c2 (by omega)) fun v8 h8 => ?_
  refine AA.bind (Oj h1.1 (hf _ h8.2)) fun v9 h9 => ?_
  refine AA.bind (AA.ix c2 (by omega)) fun v10 _ => ?_
  refine AA.bind (AA.ix c2 (by omega)) fun v11 h11 => AA.some ⟨h9.1, by simp [Ej], ?_, fun f hf' => ?_⟩
  ·have q := hF.fp
   have e8 : v8 = v11 := by have := h8.1; rw [h11.1] at this; exact (Option.some.inj this).symm
   have key : ∀ (i : Nat) (g : BJ), (Ej v6 v0.1 (v11.1, (v11.2.1, v9.1)))[i]? = some g → ∃ k, v6[i]? = some k ∧ k.2.1 = g.2.1 := fun i g hg => by
    simp only [Ej] at hg
    rw [List.getElem?_set] at hg
    split at hg
    ·rename_i hi
     subst hi
     split at hg
     ·exact ⟨v11, h11.1, by rw [← Option.some.inj hg]⟩
     ·cases hg
    ·exact ⟨g, hg, rfl⟩
   have el : (Ej v6 v0.1 (v11.1, (v11.2.1, v9.1))).length = v6.length := by simp [Ej]
   refine ⟨fun i g hi hg => ?_, fun i g k hi hg hk => ?_⟩
   ·obtain ⟨p, p1, p2⟩ := key i g hg
    have := hF.1 i p (by dsimp only at hi; omega) p1
    omega
   ·obtain ⟨p, p1, p2⟩ := key i g hg
    obtain ⟨o, o1, o2⟩ := key (i + 1) k hk
    have := hF.2 i p o (by dsimp only at hi; omega) p1 o1
    omega
  ·simp only [Ej] at hf'
   rcases List.mem_or_eq_of_mem_set hf' with w | w
   ·have := hf f w; omega
   ·rw [w]
    have := h9.2
    have := hf v8 h8.2
    dsimp only
    omega
end Go.Pm
namespace Go.Pm
open Go Go.Ab
set_option maxHeartbeats 1000000
theorem gB {x : AF} (h : VB x) (hf : x.2.2.1 = []) : AA (Hp x) fun r => r.1 = [] := by
 unfold Hp
 refine AA.bind (KO h) fun v0 _ => ?_
 refine AA.not (fun _ => AA.some rfl) (fun _ => ?_)
 refine AA.bind (P := fun r => r = []) ?_ fun v5 h5 => ?_
 ·refine AA.loop (fun (s : Int × NL) => s = (0, [])) (fun _ => 0) rfl (fun s hI => ?_)
  subst hI
  unfold Ma
  rw [hf]
  exact AA.dec (fun hc => absurd hc (by simp [len])) (fun _ => AA.some rfl)
 subst h5
 refine AA.bind (g9 (by simp)) fun v6 h6 => au h6 ?_
 refine AA.bind (P := fun (r : List AK × List Int) => r.1 = []) ?_ fun v hv => AA.some hv
 refine AA.loop (fun (s : Int × Int × Int × List AK × List Int) => s.1 = 0 ∧ s.2.2.2.1 = []) (fun _ => 0) ⟨rfl, rfl⟩ (fun s hI => ?_)
 unfold Mb
 rw [hI.1]
 exact AA.dec (fun hc => absurd hc (by simp [len])) (fun _ => AA.some hI.2)
theorem fq {x : AF × AZ × Int} (h : VB x.1) (hf : x.1.2.2.1 = []) (hl : x.2.1 = (1, ([], 0))) : AA (Fx x) fun r => r = [(1, 0)] := by
 have vl : Cl x.2.1 := by rw [hl]; exact ⟨by decide, by decide, by decide, by decide, by decide, fun i e he => by simp at he⟩
 unfold Fx
 refine AA.bind (Ta vl) fun v0 h0 => ?_
 rw [hl] at h0 ⊢
 have e0 : v0 = 0 := h0
 subst e0
 refine AA.bind (Rh (by exact h)) fun v1 _ => ?_
 refine AA.not (fun _ => AA.some rfl) (fun _ => ?_)
 refine AA.bind (gB h hf) fun v2 h2 => ?_
 refine AA.bind (P := fun r => r = [(1, 0)]) ?_ fun v hv => AA.some hv
 refine AA.loop (fun (s : Int × List By) => s = (0, [(1, 0)])) (fun _ => 0) rfl (fun s hI => ?_)
 subst hI
 unfold Me
 rw [h2]
 exact AA.dec (fun hc => absurd hc (by simp [len])) (fun _ => AA.some rfl)
theorem fU {j : Int} : AA (Cy ([(1, 0)], j)) fun r => r = j := by
 unfold Cy
 refine AA.bind (P := fun (r : Int) => r = j) ?_ fun v hv => AA.some hv
 refine AA.loop (fun (s : Int) => s = j) (fun _ => 0) rfl (fun s hI => ?_)
 subst hI
 unfold Mc
 refine AA.bind (P := fun (r : (Int × Int) ⊕ Int) => r = .inr s) ?_ fun r hr => AA.sum (fun u hu => by rw [hr] at hu; cases hu) (fun u hu => AA.some (by rw [hr] at hu; cases hu; rfl))
 refine AA.loop (fun (t : Int × Int) => 0 ≤ t.1 ∧ t.1 ≤ 1 ∧ t.2 = s) (fun (t : Int × Int) => ((1 : Int) - t.1).toNat) ⟨Int.le_refl _, by dsimp only; omega, rfl⟩ (fun t hJ => ?_)
 obtain ⟨j1, j2, j3⟩ := hJ
 unfold Md
 refine AA.dec (fun hc => ?_) (fun _ => AA.some (by rw [j3]))
 simp only [len, List.length_cons, List.length_nil] at hc
 have e := AI (x := t.1 + 1) (by omega)
 rw [e]
 refine AA.bind (AA.ix j1 (by simp only [List.length_cons, List.length_nil]; omega)) fun v2 h2 => ?_
 have e2 := List.mem_singleton.1 h2.2
 subst e2
 have k : AA (FD ((1, 0), t.2)) fun r => r = false := by
  unfold FD
  exact AA.dec (fun hc => AA.some (decide_eq_false (by dsimp only at hc ⊢; omega))) (fun _ => AA.some rfl)
 refine AA.bind (P := fun r => r = (false, t.2)) ?_ fun v3 h3 => ?_
 ·unfold Ht
  exact AA.bind k fun v hv => AA.some (by rw [hv])
 subst h3
 refine AA.cond (fun hz => by cases hz) (fun _ => AA.some ⟨⟨by dsimp only; omega, by dsimp only; omega, j3⟩, by dsimp only; omega⟩)
theorem ZG {a : AF} {i j : Int} (h : VB a) (hf : a.2.2.1 = []) (hp : 1 < a.2.1) (hi : 0 ≤ i) (hij : i ≤ j) : CG (a, ((1, ([], 0)), (1, (i, j)))) = some (decide (j ≤ i)) := by
 have vl : Cl (1, ([], 0)) := ⟨by decide, by decide, by decide, by decide, by decide, fun i e he => by simp at he⟩
 obtain ⟨r, hr, hr2⟩ := Rl (x := (a, ((1, ([], 0)), (1, i)))) h vl ⟨Int.zero_le_ofNat 1, hp, hi⟩
 obtain ⟨s, hs, hs2⟩ := fq (x := (a, ((1, ([], 0)), 1))) h hf rfl
 obtain ⟨f, hf1, hf2⟩ := fU (j := j)
 subst hr2 hs2 hf2
 unfold CG
 dsimp only
 rw [hr, hs]
 show (bif (decide (i ≤ f)) then Option.bind (Cy ([(1, 0)], f)) (fun v2 => some (decide (v2 ≤ i))) else some false) = _
 rw [hf1, decide_eq_true hij]
 rfl
theorem iL {x : Unit} : AA (Gu x) fun r => r = true := by
 have bd : BD 2 [0] := ⟨by decide, by decide, by decide, by decide, rfl, fun i a b hi ha hb => by simp at ha hb, fun a ha => by simp at ha; omega⟩
 have nw : AA (Cc (2, ([0] : List Int))) fun r => r.1.2.2.1 = [] := by
  unfold Cc
  refine AA.bind Xe fun v0 h0 => ?_
  exact AA.not (fun hc => AA.some rfl) (fun _ => AA.bind (AA.app (by simp)) fun v1 _ => AA.some rfl)
 unfold Gu
 refine AA.bind ((gA (x := (2, [0])) bd).and nw) fun v0 h0 => ?_
 obtain ⟨⟨_, a1, a2, _⟩, a3⟩ := h0
 refine AA.bind K0 fun v1 h1 => ?_
 subst h1
 have hp : 1 < v0.1.2.1 := by rw [a2]; decide
 rw [ZG a1 a3 hp (by decide) (by decide)]
 refine AA.bsome ?_
 refine AA.cond (fun _ => ?_) (fun hz => by cases hz)
 refine AA.bind K0 fun v3 h3 => ?_
 subst h3
 rw [ZG a1 a3 hp (by decide) (by decide)]
 exact AA.some rfl
end Go.Pm
namespace Go.Pm
open Go Go.Ab
set_option maxHeartbeats 1000000
theorem Tb {b : AD} (h : CX b) : AA (Gv b ()) fun r => 1 ≤ r.1 ∧ r.1 ≤ 4 ∧ VB r.2.1 ∧ DS r.2.1 ∧ Cl r.2.2.1 ∧ r.2.1.2.1 = r.1 := by
 unfold Gv
 refine AA.bind ((Wf h (x := 25) (by omega)).and (dZ h (x := 25) (by omega))) fun v0 h0 => ?_
 obtain ⟨⟨c0, n1, n2, l0⟩, f1, f2⟩ := h0
 refine AA.bind (dW (x := (v0.1, v0.2.1)) c0 ⟨n1, by dsimp only; omega⟩ l0) fun v1 h1 => ?_
 obtain ⟨c1, s1, b1, p1, d1⟩ := h1
 dsimp only at p1 d1
 obtain ⟨x1, x2, x3, x4, x5, x6⟩ := id l0
 obtain ⟨y1, y2, y3, y4, y5, y6, y7⟩ := id b1
 refine AA.bind (AL c1 (x := 2) (by omega)) fun v2 h2 => ?_
 refine AA.bind (P := fun (r : AD × AZ) => CX r.1 ∧ Cl r.2) ?_ fun v5 h5 => ?_
 ·refine AA.beq (fun _ => ?_) (fun _ => AA.some ⟨h2.1, l0⟩)
  refine AA.bind (AL h2.1 (by omega)) fun v3 h3 => ?_
  obtain ⟨q1, q2, q3⟩ := h3
  have e := AI (x := 1 + v3.1) (by omega)
  rw [e]
  refine AA.bind (V0 (x := (v0.2.1, 1 + v3.1)) l0 f1 (by dsimp only; omega) (by dsimp only; omega) (by dsimp only; omega)) fun v4 h4 => AA.some ⟨q1, h4.2.1⟩
 ·refine AA.bind (AL h5.1 (x := 3) (by omega)) fun v6 h6 => ?_
  refine AA.bind (P := fun (r : AD × AF) => VB r.2 ∧ DS r.2 ∧ r.2.2.1 = v0.1) ?_ fun v8 h8 => AA.some ⟨n1, n2, h8.1, h8.2.1, h5.2, h8.2.2⟩
  refine AA.beq (fun _ => ?_) (fun _ => AA.some ⟨b1, fun f hf => by have := s1.2.2 f hf; omega, p1⟩)
  refine AA.bind (fG y7 h6.1 (by omega) s1.2.2) fun v7 h7 => AA.some ?_
  obtain ⟨z1, z2, z3, z4⟩ := h7
  exact ⟨⟨y1, y2, y3, y4, y5, by dsimp only; omega, z3⟩, fun f hf => by have := z4 f hf; omega, p1⟩
theorem Nw {x : List Int × Int} (h : ∀ c ∈ x.1, 0 ≤ c ∧ c < 256) (hx : 0 ≤ x.2 ∧ x.2 < 256) : AA (FM x) fun r => r = true := by
 unfold FM
 refine AA.bind iL fun v0 h0 => ?_
 refine AA.not (fun hc => by rw [h0] at hc; cases hc) (fun _ => ?_)
 refine AA.bind (P := fun (r : List Int) => r.length ≤ 400 ∧ ∀ c ∈ r, 0 ≤ c ∧ c < 256) ?_ fun v2 h2 => ?_
 ·refine AA.dec (fun hc => ?_) (fun hc => AA.some ⟨by simp only [len] at hc; omega, h⟩)
  simp only [len] at hc
  refine AA.bind (AA.lsl (by omega) (by omega) (by omega)) fun v1 h1 => AA.some ⟨by omega, fun c hm => ?_⟩
  rw [h1.1] at hm
  exact h c (List.mem_of_mem_drop (List.mem_of_mem_take hm))
 refine AA.bind (Tb (b := (v2, 0)) ⟨Int.le_refl _, by dsimp only; omega, h2.2⟩) fun v3 h3 => ?_
 obtain ⟨a0, a1, a2, a3, a4, a5⟩ := h3
 refine AA.bind (P := fun (r : Bool ⊕ Unit) => r = .inr ()) ?_ fun v8 h8 => AA.sum (fun u hu => by rw [h8] at hu; cases hu) (fun u hu => AA.some rfl)
 have e0 := AI (x := x.2) (by omega)
 obtain ⟨j, hj⟩ : ∃ j, j = Int.tmod (wi x.2) 60 := ⟨_, rfl⟩
 have j0 : 0 ≤ j := by rw [hj, e0]; exact Int.tmod_nonneg _ hx.1
 have j1 : j < 60 := by rw [hj, e0]; exact Int.tmod_lt_of_pos _ (by omega)
 refine AA.loop (fun (s : Int) => 0 ≤ s ∧ s ≤ v3.1) (fun (s : Int) => (v3.1 - s).toNat) ⟨Int.le_refl _, by omega⟩ (fun s hI => ?_)
 obtain ⟨i1, i2⟩ := hI
 unfold Hw
 rw [← hj]
 refine AA.dec (fun hc => ?_) (fun _ => AA.some rfl)
 have e := AI (x := s + 1) (by omega)
 rw [e]
 obtain ⟨f, hf, q1, q2, q3, q4, q5⟩ := gZ (a := v3.2.1) (l := v3.2.2.1) (p := s) (j := j) a2 a3 a4 ⟨i1, by omega⟩ j0 (by omega)
 rw [hf]
 refine AA.bsome ?_
 have e1 := AI (x := f.1 - 1) (by omega)
 rw [e1]
 refine AA.bne (fun hz => absurd q1 hz) (fun _ => ?_)
 refine AA.dec (fun hz => absurd hz (by omega)) (fun _ => ?_)
 refine AA.dec (fun hz => absurd hz (by omega)) (fun _ => ?_)
 rw [q4]
 refine AA.bsome ?_
 refine AA.not (fun hz => by cases hz) (fun _ => ?_)
 refine AA.dec (fun hz => ?_) (fun _ => AA.some ⟨⟨by omega, by omega⟩, by omega⟩)
 rw [q5 (by omega)]
 refine AA.bsome ?_
 exact AA.cond (fun hz => by cases hz) (fun _ => AA.some ⟨⟨by omega, by omega⟩, by omega⟩)
end Go.Pm
