/- For every list of codes and every number, ProvenanceRebuilds of chapter 40 returns true, and its arguments read behind the call as they read before; there is no condition. -/
import Derived.Test.YtdbincbpjobdpaaGreatK14
import Derived.Test.YtdbincbpjobdpaaGreatRows
import Derived.ProofKit
import Derived.SizedLaws
import Derived.Maps.OwnSet
import Derived.WideKeyElems2
import Derived.Seven
namespace Go.Proofs.YtdbincbpjobdpaaGreat
open Go.ChangeShapes Go.WideShapes Go.ChangeAt Go.RowKit Go.WideElems Go.Ab Go.Pm
theorem own : ownKnob Tryz.prog.godebug = none := by kernel_rfl
theorem laidOut : laidOutB Tryz.prog = true := q1
theorem cells5 : Tryz.prog.cellsOf 5 = 1 := by kernel_rfl
theorem walk {zs : List Int} (hb :∀ x ∈ zs, 0 ≤ x ∧ x < 256) {n : Int} (hn : 0 ≤ n ∧ n < 256) {w : World}{c : Value} (hv : Bz (cx0 w) (.vs 1 (zs.map fun n => .int .u8 n)) c) :
    Calls Tryz.prog 5 #[c, .int .u8 n] w fun e w' => e =.returned (.bool true) ∧ Below w.heap.size w w' := by
  obtain ⟨r, hr, rfl⟩ := kI (x := (zs, n)) hb hn
  have h1 : Ej Tryz.prog 5 [.vs 1 (zs.map fun n => .int .u8 n), .int .u8 n] [] (DW (.bool true) []) := Sf (zs, n) true hr []
  refine (aW h1 (w := w) (cargs := #[c, .int .u8 n]) rfl ?_).mono ?_
  · intro j v d hj hd
    match j, hj, hd with
    | 0, hj, hd =>
      simp at hj hd
      subst hj hd
      exact hv
    | 1, hj, hd =>
      simp at hj hd
      subst hj hd
      exact .int _ _
    | j + 2, hj, _ => simp at hj
  · rintro e w' ⟨d, v, x, H', rfl, ⟨rfl, _⟩, r, b⟩
    cases r
    exact ⟨rfl, b⟩
theorem wf_u8 {n : Int} (h : (Lit.int .u8 n).wf = true) : 0 ≤ n ∧ n < 256 := by
  have e1 : IntKind.u8.min = 0 := rfl
  have e2 : IntKind.u8.max = 255 := rfl
  simp only [Lit.wf, e1, e2, Bool.and_eq_true, decide_eq_true_eq] at h
  omega
set_option maxRecDepth 100000 in
theorem lifted (os : Os) (started : os.Started) (H : Type) (enc : TypeId × Value → H) :
    ReturnsInHanded {} Tryz.checked os 5 .any (Rows.provenanceRebuildsSpec.pre6 enc Tryz.prog Tryz.f5 Rows.provenanceRebuildsRow.domain false) (Rows.provenanceRebuildsSpec.post enc Tryz.prog Tryz.f5 false true false false) := by
  refine returnsInHanded_of_change (C := Tryz.checked) own started h! Tryz.func5
    (ChangeSpec.witness6 (enc := enc) (C := Tryz.checked) false ⟨#[], #[.slice none 0 0, .int .u8 0], []⟩ 8 h! h! h! h!) ?_
  intro W base args ds gs before hval0 hW _ _
  have hval :∀ (j : Nat) t v, Tryz.f5.params[j]?= some t → args[j]?= some v → Value.okWide Tryz.prog W .any base t v := hval0
  have hW' := hW
  obtain ⟨p, q, hA0, hV, rfl, _, _⟩ := hW
  have hA : DataW.TrodAll enc Tryz.prog W 0 (fun _ => true) true Tryz.f5.params.toList args.toList ds p := hA0
  rw [Tryz.params5] at hA hval
  obtain ⟨v0, v1, d0, d1, p0, p1, rfl, rfl, rfl, h0, h1⟩ := trodAll_two hA
  obtain ⟨rfl, rfl⟩ := trodVars_none hV
  obtain ⟨n, rfl, rfl, rfl, wn⟩ := open_int Tryz.underlying5 (hval 1 5 v1 rfl rfl) h1
  have h0k := h0
  obtain ⟨fuel, hf⟩ := h0
  clear hA0 hval0
  simp only [List.append_nil] at hW'
  have hlt :∀ x ∈ p0, x.block < W.heap.size := fun x hx => by simpa using hW'.lt x (by simpa using hx)
  have main : Calls Tryz.prog 5 #[v0, .int .u8 n] W (fun e w' => e =.returned (.bool true) ∧ Below W.heap.size W w') := by
    obtain ⟨a0, len, cap, rfl⟩ := okWide_slice Tryz.underlying22 (hval 0 22 v0 rfl rfl)
    rcases open_ints Tryz.underlying22 Tryz.underlying5 cells5 hf with ⟨hcs, hx⟩ | ⟨a, len', cap', zs, hcs, _, hl, hm, hz, hx, hcell, hwz⟩
    · simp [Value.cells] at hcs
      obtain ⟨rfl, rfl, rfl⟩ := hcs
      exact walk (zs := []) (fun x hx => by cases hx) (wf_u8 wn) AGA
    · simp [Value.cells] at hcs
      obtain ⟨rfl, rfl, rfl⟩ := hcs
      simp only [if_true] at hz
      simp only [Prod.mk.injEq] at hx
      refine walk (zs := zs.take len) (fun x hx => wf_u8 (hwz x (List.mem_of_mem_take hx))) (wf_u8 wn) (ADx hl hz hcell ?_)
      rcases Nat.eq_zero_or_pos len with h | h
      · exact .inr h
      · left
        have h1 := hcell 0 o!
        simp only [Addr.add, if_true] at h1
        unfold World.cell? at h1
        rcases Nat.lt_or_ge a.block W.heap.size with h2 | h2
        · exact h2
        · rw [Array.getElem?_eq_none h2] at h1
          cases h1
  refine main.mono fun e W' ⟨he, hb⟩ => ?_
  subst he
  have hargs : DataW.Trod enc Tryz.prog W' 0 (fun b => decide (b < W.heap.size)) true 22 v0 d0 p0 :=
    Below.trod laidOut h! (of_decide_eq_true h!) h0k hb hlt
  exact ⟨_, rfl, ⟨_, _, _, [], _, [], hW', trodAll_mk1 (shut_bool Tryz.underlying4 _), trodAll_mk2 hargs (shut_int Tryz.underlying5 wn), rfl, hb.frame _, fun h => by cases h⟩⟩
theorem provenanceRebuilds_holds : Rows.ProvenanceRebuildsSaid :=
  OpenClaim.holds_of_wide 5 Tryz.f5 rfl rfl rfl rfl rfl rfl rfl ⟨rfl, rfl, rfl, rfl, rfl⟩ rfl rfl rfl rfl rfl h! Tryz.func5 closed
    (of_decide_eq_true h!) (by unfold Func.isWrapper; rw [if_neg (by decide +kernel)]; exact ⟨rfl, rfl⟩)
    (fun os started H enc _ => lifted os started H enc)
end Go.Proofs.YtdbincbpjobdpaaGreat
