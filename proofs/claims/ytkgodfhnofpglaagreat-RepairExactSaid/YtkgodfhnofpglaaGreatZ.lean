/- For every list of codes, every page and every number, RepairExact of chapter 32 returns true, and its arguments read behind the call as they read before; there is no condition. -/
import Derived.Test.YtkgodfhnofpglaaGreatRows
import Derived.Test.YtkgodfhnofpglaaGreatK14
import Derived.Test.YtkgodfhnofpglaaGreatK15
import Derived.KernelRfl
import Derived.ProofKit
import Derived.SizedLaws
import Derived.Maps.OwnSet
import Derived.WideKeyElems2
import Derived.Seven
namespace Go.Proofs.YtkgodfhnofpglaaGreat
open Go.ChangeShapes Go.WideShapes Go.ChangeAt Go.RowKit Go.WideElems Go.Ab Go.Pm
theorem own : ownKnob Tryz.prog.godebug = none := by kernel_rfl
theorem laidOut : laidOutB Tryz.prog = true := q1
theorem cells5 : Tryz.prog.cellsOf 5 = 1 := by kernel_rfl
theorem walk {zs : List Int} (hb :∀ x ∈ zs, 0 ≤ x ∧ x < 256) {n : Int} (hn : -9223372036854775808 ≤ n ∧ n ≤ 9223372036854775807) {m : Int} (hm : -9223372036854775808 ≤ m ∧ m ≤ 9223372036854775807) {w : World}{c : Value} (hv : B3 (cx0 w) (.vs 1 (zs.map fun n => .int .u8 n)) c) :
    Calls Tryz.prog 3 #[c, .int .i64 n, .int .i64 m] w fun e w' => e =.returned (.bool true) ∧ Below w.heap.size w w' := by
  obtain ⟨r, hr, rfl⟩ := vZ (x := (zs, (n, m))) hb hn hm
  have h1 : E8 Tryz.prog 3 [.vs 1 (zs.map fun n => .int .u8 n), .int .i64 n, .int .i64 m] [] (DN (.bool true) []) := XC (zs, (n, m)) true hr []
  refine (aL h1 (w := w) (cargs := #[c, .int .i64 n, .int .i64 m]) rfl ?_).mono ?_
  · intro j v d hj hd
    match j, hj, hd with
    | 0, hj, hd =>
      simp at hj hd
      subst hj hd
      exact hv
    | 1, hj, hd =>
      simp at hj hd
      subst hj hd
      exact .int _ _
    | 2, hj, hd =>
      simp at hj hd
      subst hj hd
      exact .int _ _
    | j + 3, hj, _ => simp at hj
  · rintro e w' ⟨d, v, x, H', rfl, ⟨rfl, _⟩, r, b⟩
    cases r
    exact ⟨rfl, b⟩
theorem wf_u8 {n : Int} (h : (Lit.int .u8 n).wf = true) : 0 ≤ n ∧ n < 256 := by
  have e1 : IntKind.u8.min = 0 := rfl
  have e2 : IntKind.u8.max = 255 := rfl
  simp only [Lit.wf, e1, e2, Bool.and_eq_true, decide_eq_true_eq] at h
  omega
theorem wf_int {n : Int} (h : (Lit.int .i64 n).wf = true) : -9223372036854775808 ≤ n ∧ n ≤ 9223372036854775807 := by
  have e1 : IntKind.i64.min = -9223372036854775808 := rfl
  have e2 : IntKind.i64.max = 9223372036854775807 := rfl
  simp only [Lit.wf, e1, e2, Bool.and_eq_true, decide_eq_true_eq] at h
  omega
set_option maxRecDepth 100000 in
theorem lifted (os : Os) (started : os.Started) (H : Type) (enc : TypeId × Value → H) :
    ReturnsInHanded {} Tryz.checked os 3 .any (Rows.repairExactSpec.pre6 enc Tryz.prog Tryz.f3 Rows.repairExactRow.domain false) (Rows.repairExactSpec.post enc Tryz.prog Tryz.f3 false true false false) := by
  refine returnsInHanded_of_change (C := Tryz.checked) own started (by kernel_rfl) Tryz.func3
    (ChangeSpec.witness6 (enc := enc) (C := Tryz.checked) false ⟨#[], #[.slice none 0 0, .int .i64 0, .int .i64 0], []⟩ 8 (by kernel_rfl) (by kernel_rfl) (by kernel_rfl) (by kernel_rfl)) ?_
  intro W base args ds gs before hval0 hW _ _
  have hval : ∀ (j : Nat) t v, Tryz.f3.params[j]? = some t → args[j]? = some v → Value.okWide Tryz.prog W .any base t v := hval0
  have hW' := hW
  obtain ⟨p, q, hA0, hV, rfl, _, _⟩ := hW
  have hA : DataW.TrodAll enc Tryz.prog W 0 (fun _ => true) true Tryz.f3.params.toList args.toList ds p := hA0
  rw [Tryz.params3] at hA hval
  obtain ⟨v0, v1, v2, d0, d1, d2, p0, p1, p2, rfl, rfl, rfl, h0, h1, h2⟩ := trodAll_three hA
  obtain ⟨rfl, rfl⟩ := trodVars_none hV
  obtain ⟨n, rfl, rfl, rfl, wn⟩ := open_int Tryz.underlying3 (hval 1 3 v1 rfl rfl) h1
  obtain ⟨m, rfl, rfl, rfl, wm⟩ := open_int Tryz.underlying3 (hval 2 3 v2 rfl rfl) h2
  have h0k := h0
  obtain ⟨fuel, hf⟩ := h0
  clear hA0 hval0
  simp only [List.append_nil] at hW'
  have hlt : ∀ x ∈ p0, x.block < W.heap.size := fun x hx => by simpa using hW'.lt x (by simpa using hx)
  have main : Calls Tryz.prog 3 #[v0, .int .i64 n, .int .i64 m] W (fun e w' => e = .returned (.bool true) ∧ Below W.heap.size W w') := by
    obtain ⟨a0, len, cap, rfl⟩ := okWide_slice Tryz.underlying22 (hval 0 22 v0 rfl rfl)
    rcases open_ints Tryz.underlying22 Tryz.underlying5 cells5 hf with ⟨hcs, hx⟩ | ⟨a, len', cap', zs, hcs, _, hl, hm, hz, hx, hcell, hwz⟩
    · simp [Value.cells] at hcs
      obtain ⟨rfl, rfl, rfl⟩ := hcs
      exact walk (zs := []) (fun x hx => by cases hx) (wf_int wn) (wf_int wm) AF8
    · simp [Value.cells] at hcs
      obtain ⟨rfl, rfl, rfl⟩ := hcs
      simp only [if_true] at hz
      simp only [Prod.mk.injEq] at hx
      refine walk (zs := zs.take len) (fun x hx => wf_u8 (hwz x (List.mem_of_mem_take hx))) (wf_int wn) (wf_int wm) (ADq hl hz hcell ?_)
      rcases Nat.eq_zero_or_pos len with h | h
      · exact .inr h
      · left
        have h1 := hcell 0 (by omega)
        simp only [Addr.add, if_true] at h1
        unfold World.cell? at h1
        rcases Nat.lt_or_ge a.block W.heap.size with h2 | h2
        · exact h2
        · rw [Array.getElem?_eq_none h2] at h1
          cases h1
  refine main.mono fun e W' ⟨he, hb⟩ => ?_
  subst he
  have hargs : DataW.Trod enc Tryz.prog W' 0 (fun b => decide (b < W.heap.size)) true 22 v0 d0 p0 :=
    Below.trod laidOut (by kernel_rfl) (of_decide_eq_true (by kernel_rfl)) h0k hb hlt
  exact ⟨_, rfl, ⟨_, _, _, [], _, [], hW', trodAll_mk1 (shut_bool Tryz.underlying4 _), trodAll_mk3 hargs (shut_int Tryz.underlying3 wn) (shut_int Tryz.underlying3 wm), rfl, hb.frame _, fun h => by cases h⟩⟩
theorem repairExact_holds : Rows.RepairExactSaid :=
  OpenClaim.holds_of_wide 3 Tryz.f3 rfl rfl rfl rfl rfl rfl rfl ⟨rfl, rfl, rfl, rfl, rfl⟩ rfl rfl rfl rfl rfl (by kernel_rfl) Tryz.func3 closed
    (of_decide_eq_true (by kernel_rfl)) (by unfold Func.isWrapper; rw [if_neg (by decide +kernel)]; exact ⟨rfl, rfl⟩)
    (fun os started H enc _ => lifted os started H enc)
end Go.Proofs.YtkgodfhnofpglaaGreat
