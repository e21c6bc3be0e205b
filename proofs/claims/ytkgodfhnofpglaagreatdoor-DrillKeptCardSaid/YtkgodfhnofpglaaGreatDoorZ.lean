/- The statement DrillKept of chapter 45. -/
import Derived.Test.YtkgodfhnofpglaaGreatDoorRows
import Derived.Test.YtkgodfhnofpglaaGreatDoorCards
import Derived.Test.YtkgodfhnofpglaaGreatDoorTie
import Derived.Test.YtkgodfhnofpglaaGreatDoorK14
import Derived.Test.YtkgodfhnofpglaaGreatDoorK15
import Derived.KernelRfl
import Derived.ProofKit
import Derived.SizedLaws
import Derived.Maps.OwnSet
import Derived.WideKeyElems2
import Derived.Seven
import Derived.SevenTiedAt
import Derived.LaidMore
import Derived.OpenShut
namespace Go.Proofs.YtkgodfhnofpglaaGreatDoor
open Go.ChangeShapes Go.WideShapes Go.ChangeAt Go.RowKit Go.WideElems Go.Ab Go.Pm
theorem own : ownKnob Tryz.prog.godebug = none := by kernel_rfl
theorem laidOut : laidOutB Tryz.prog = true := q1
theorem cells5 : Tryz.prog.cellsOf 5 = 1 := by kernel_rfl
theorem walk {zs : List Int} (hb :∀ x ∈ zs, 0 ≤ x ∧ x < 256) {w : World}{c : Value} (hv : Bv (cx0 w) (.vs 1 (zs.map fun n => .int .u8 n)) c) :
    Calls Tryz.prog 3 #[c] w fun e w' => e =.returned (.bool true) ∧ Below w.heap.size w w' := by
  obtain ⟨r, hr, rfl⟩ := zQ (x := zs) hb
  have h1 : Ei Tryz.prog 3 [.vs 1 (zs.map fun n => .int .u8 n)] [] (C9 (.bool true) []) := YU zs true hr []
  refine (ay h1 (w := w) (cargs := #[c]) rfl ?_).mono ?_
  · intro j v d hj hd
    match j, hj, hd with
    | 0, hj, hd =>
      simp at hj hd
      subst hj hd
      exact hv
    | j + 1, hj, _ => simp at hj
  · rintro e w' ⟨d, v, x, H', rfl, ⟨rfl, _⟩, r, b⟩
    cases r
    exact ⟨rfl, b⟩
theorem wf_u8 {n : Int} (h : (Lit.int .u8 n).wf = true) : 0 ≤ n ∧ n < 256 := by
  have e1 : IntKind.u8.min = 0 := rfl
  have e2 : IntKind.u8.max = 255 := rfl
  simp only [Lit.wf, e1, e2, Bool.and_eq_true, decide_eq_true_eq] at h
  omega
theorem door_met (os : Os) (args : Array Value) : laidMetH Tryz.prog Rows.drillKeptRow.laid ((World.doorLaid Tryz.prog 400 os).forCall (fun _ _ => 0) ⟨#[], args, []⟩).memory :=
  laidMetH_of_parts (laidMet_of_run' 8 (by kernel_rfl) (by kernel_rfl)) (by kernel_rfl)
set_option maxRecDepth 100000 in
theorem lifted (os : Os) (started : os.Started) (H : Type) (enc : TypeId × Value → H) :
    ReturnsInHanded {} Tryz.checked os 3 .any (fun w args => (Rows.drillKeptSpec.pre enc Tryz.prog Tryz.f3 Rows.drillKeptRow.domain false w args ∧ laidMetH Tryz.prog Rows.drillKeptRow.laid w) ∧ sizedMet enc Tryz.prog Tryz.f3 (OpenSpec.ofChange Rows.drillKeptSpec) false w args) (Rows.drillKeptSpec.post enc Tryz.prog Tryz.f3 false true false false) := by
  refine returnsInHanded_of_change_and (C := Tryz.checked) (X := fun w _ => laidMetH Tryz.prog Rows.drillKeptRow.laid w) (fun _ _ _ hh h => h.of_heap hh) own started (by kernel_rfl) Tryz.func3
    (ChangeSpec.witness_shaped (enc := enc) (C := Tryz.checked) (os := os) (X := fun w _ => laidMetH Tryz.prog Rows.drillKeptRow.laid w) false (World.doorLaid Tryz.prog 400 os) #[.slice none 0 0] 8 rfl (World.shaped_of_RefB (by kernel_rfl) (by kernel_rfl)) (by kernel_rfl) (by kernel_rfl) (by kernel_rfl) (door_met os _)) ?_
  intro W base args ds gs before hval0 hW _ _ _ _
  have hval : ∀ (j : Nat) t v, Tryz.f3.params[j]? = some t → args[j]? = some v → Value.okWide Tryz.prog W .any base t v := hval0
  have hW' := hW
  obtain ⟨p, q, hA0, hV, rfl, _, _⟩ := hW
  have hA : DataW.TrodAll enc Tryz.prog W 0 (fun _ => true) true Tryz.f3.params.toList args.toList ds p := hA0
  rw [Tryz.params3] at hA hval
  obtain ⟨v0, d0, rfl, rfl, h0⟩ := trodAll_one hA
  obtain ⟨rfl, rfl⟩ := trodVars_none hV
  have h0k := h0
  obtain ⟨fuel, hf⟩ := h0
  clear hA0 hval0
  simp only [List.append_nil] at hW'
  have hlt : ∀ x ∈ p, x.block < W.heap.size := fun x hx => by simpa using hW'.lt x hx
  have main : Calls Tryz.prog 3 #[v0] W (fun e w' => e = .returned (.bool true) ∧ Below W.heap.size W w') := by
    obtain ⟨a0, len, cap, rfl⟩ := okWide_slice Tryz.underlying22 (hval 0 22 v0 rfl rfl)
    rcases open_ints Tryz.underlying22 Tryz.underlying5 cells5 hf with ⟨hcs, hx⟩ | ⟨a, len', cap', zs, hcs, _, hl, hm, hz, hx, hcell, hwz⟩
    · simp [Value.cells] at hcs
      obtain ⟨rfl, rfl, rfl⟩ := hcs
      exact walk (zs := []) (fun x hx => by cases hx) AGd
    · simp [Value.cells] at hcs
      obtain ⟨rfl, rfl, rfl⟩ := hcs
      simp only [if_true] at hz
      simp only [Prod.mk.injEq] at hx
      refine walk (zs := zs.take len) (fun x hx => wf_u8 (hwz x (List.mem_of_mem_take hx))) (AEQ hl hz hcell ?_)
      rcases Nat.eq_zero_or_pos len with h | h
      · exact .inr h
      · left
        have h1 := hcell 0 (by omega)
        simp only [Addr.add, if_true] at h1
        unfold World.cell? at h1
        rcases Nat.lt_or_ge a.block W.heap.size with h2 | h2
        · exact h2
        · rw [Array.getElem?_eq_none h2] at h1
          cases h1
  refine main.mono fun e W' ⟨he, hb⟩ => ?_
  subst he
  have hargs : DataW.Trod enc Tryz.prog W' 0 (fun b => decide (b < W.heap.size)) true 22 v0 d0 p :=
    Below.trod laidOut (by kernel_rfl) (of_decide_eq_true (by kernel_rfl)) h0k hb hlt
  exact ⟨_, rfl, ⟨_, _, _, [], _, [], hW', trodAll_mk1 (shut_bool Tryz.underlying4 _), trodAll_mk1 hargs, rfl, hb.frame _, fun h => by cases h⟩⟩
theorem row_holds : Rows.DrillKeptSaid :=
  OpenClaim.holds_of_wide 3 Tryz.f3 rfl rfl rfl rfl rfl rfl rfl ⟨rfl, rfl, rfl, rfl, rfl⟩ rfl rfl rfl rfl rfl (by kernel_rfl) Tryz.func3 closed
    (of_decide_eq_true (by kernel_rfl)) (by unfold Func.isWrapper; rw [if_neg (by decide +kernel)]; exact ⟨rfl, rfl⟩)
    (fun os started H enc _ => lifted os started H enc)
theorem noGo : Tryz.prog.funcs.any Func.goes = false := by kernel_rfl
theorem goes0 (f : FuncId) : Tryz.prog.goes f = false := by
  unfold Program.goes
  rw [noGo, Bool.and_false, Bool.or_false, List.any_eq_false]
  intro g _
  cases h : Tryz.prog.funcs[g]? with
  | none => simp
  | some fn =>
    have := Array.any_eq_false.1 noGo g (Array.getElem?_eq_some_iff.1 h).1
    rw [(Array.getElem?_eq_some_iff.1 h).2] at this
    simpa using this
theorem goesNot : false = Rows.drillKeptRow.goesBy Tryz.prog := by
  have h : Tryz.prog.goesFrom Rows.drillKeptRow.func = false := by
    unfold Program.goesFrom
    cases Tryz.prog.funcNamed Rows.drillKeptRow.func with
    | none => rfl
    | some f => rw [Option.any_some, goes0]
  unfold OpenClaim.goesBy Program.goesAt
  rw [h]
  rfl
theorem drillKeptCard_holds : Rows.DrillKeptCardSaid :=
  Claim7.holds_tied_plain_at .later [] [.data, .data] true (true, "ff24a67571fe8b2df65ce1151137e82bca0f35cb4c810fb64ba60b8f3c06ff81") false
    row_holds (fun _ h => by cases h) (by kernel_rfl) (fun _ h => by cases h) drillKept_row_tie rfl ⟨rfl, rfl⟩ (by kernel_rfl) rfl
    (fun f fn hf hfn => by
      obtain rfl : f = 3 := Option.some.inj ((show Tryz.prog.funcNamed Rows.drillKeptRow.func = some 3 by kernel_rfl).symm.trans hf) |>.symm
      obtain rfl : fn = Tryz.f3 := (Option.some.inj (Tryz.func3.symm.trans hfn)).symm
      exact ⟨by kernel_rfl, fun j t ht => by
        have hall : (Tryz.f3.params.toList.all fun t => !Tryz.prog.wantsStandIn t) = true := by kernel_rfl
        have hm : t ∈ Tryz.f3.params.toList := Array.mem_toList_iff.2 (Array.mem_of_getElem? ht)
        show Tryz.prog.wantsStandIn t = false
        simpa using List.all_eq_true.1 hall t hm⟩)
    goesNot
end Go.Proofs.YtkgodfhnofpglaaGreatDoor
