/- Closed facts of a row, one by one. -/
import Derived.Test.YtkgodfhnofpglaaGreatDoorRows
import Derived.JoinedOf
import Derived.KernelRfl
import Derived.Seven
import Derived.ProofKit
namespace Go.Proofs.YtkgodfhnofpglaaGreatDoor
open Go.ChangeShapes Go.WideShapes Go.ChangeAt Go.RowKit Go.WideElems
theorem andB {a b : Bool} (h : a = true) (g : b = true) : (a && b) = true := by rw [h, g]; rfl
theorem q0 : (Rows.drillImagesRow.wf (OpenSpec.ofChange Rows.drillImagesSpec)) = true := by kernel_rfl
theorem q1 : (laidOutB Tryz.prog) = true := by kernel_rfl
theorem q2 : (mapsRowed Tryz.prog) = true := by kernel_rfl
theorem q3 : (Tryz.f4.params.all (Tryz.prog.readableRec ·)) = true := by kernel_rfl
theorem q4 : (namedTie Tryz.prog Rows.drillImagesRow.named Rows.drillImagesSpec.vars) = true := by kernel_rfl
theorem q5 : ((Rows.drillImagesRow.stops == [])) = true := by kernel_rfl
theorem q6 : ((Tryz.prog.stops == [])) = true := by kernel_rfl
theorem q7 : ((Rows.drillImagesRow.knobs == [])) = true := by kernel_rfl
theorem q8 : ((Tryz.prog.stopKnobs == [])) = true := by kernel_rfl
theorem q9 : ((Rows.drillImagesRow.inPlace == Tryz.prog.inPlace 4)) = true := by kernel_rfl
theorem q10 : ((Rows.drillImagesRow.unfollowed == Tryz.prog.unfollowed 4)) = true := by kernel_rfl
theorem q11 : ((Rows.drillImagesRow.recurses == Tryz.prog.recurses 4)) = true := by kernel_rfl
theorem q12 : ((Rows.drillImagesRow.named == Tryz.prog.varsNamed 4)) = true := by kernel_rfl
theorem q13 : ((Rows.drillImagesRow.maps == (Tryz.f4.params.toList ++ Rows.drillImagesSpec.plain.varTypes Tryz.prog).any (Tryz.prog.mapsRec ·))) = true := by kernel_rfl
theorem q14 : ((Rows.drillImagesRow.ifaces == (Tryz.f4.params.toList ++ Rows.drillImagesSpec.plain.varTypes Tryz.prog).any (Tryz.prog.ifacesRec ·))) = true := by kernel_rfl
theorem q15 : ((Rows.drillImagesRow.mapsOut == Tryz.prog.mapsAmong Tryz.f4.resultTypes.toList)) = true := by kernel_rfl
theorem q16 : ((Rows.drillImagesRow.loops == (Tryz.f4.params.toList ++ Rows.drillImagesSpec.plain.varTypes Tryz.prog).any (Tryz.prog.loopsFrom ·))) = true := by kernel_rfl
theorem q17 : ((Rows.drillImagesRow.wideKeys == (Tryz.f4.params.toList ++ Rows.drillImagesSpec.plain.varTypes Tryz.prog ++ Tryz.f4.resultTypes.toList).any (Tryz.prog.wideKeysFrom ·))) = true := by kernel_rfl
theorem q18 : (Rows.drillImagesSpec.vars.all (Tryz.prog.varReadable ·)) = true := by kernel_rfl
theorem q19 : (Tryz.f4.resultTypes.all (fun t => Tryz.prog.readableRec t && decide (t < Tryz.prog.types.size))) = true := by kernel_rfl
theorem q20 : ((Rows.drillImagesRow.ifacesOut == Tryz.f4.resultTypes.toList.any (Tryz.prog.ifacesRec ·))) = true := by kernel_rfl
theorem q21 : ((Rows.drillImagesRow.loopsOut == Tryz.f4.resultTypes.toList.any (Tryz.prog.loopsFrom ·))) = true := by kernel_rfl
theorem q22 : ((Rows.drillImagesRow.plainKeys == Tryz.prog.plainKeys)) = true := by kernel_rfl
theorem q23 : (Rows.drillImagesRow.shortTexts.isNone) = true := by kernel_rfl
theorem q24 : (Tryz.prog.stopsHeard) = true := by kernel_rfl
theorem q25 : (Tryz.prog.mayEnter) = true := by kernel_rfl
theorem q26 : ((Rows.drillImagesRow.lifted == Tryz.prog.liftsFinal)) = true := by kernel_rfl
theorem q27 : ((Tryz.prog.make == some Rows.drillImagesRow.make)) = true := by kernel_rfl
theorem q28 : ((Rows.drillImagesRow.kinds == (if Rows.drillImagesRow.domain.isEmpty then [] else Tryz.f4.params.toList.map fun t => match Tryz.prog.underlying t with | some (.int k) => some k | _ => none))) = true := by kernel_rfl
theorem q29 : ((Rows.drillImagesRow.pinned == Rows.drillImagesRow.pinnedBy)) = true := by kernel_rfl
theorem q30 : ((Rows.drillImagesRow.veiled == (Tryz.f4.params.toList ++ Rows.drillImagesSpec.plain.varTypes Tryz.prog ++ Tryz.f4.resultTypes.toList).any (Tryz.prog.veiledRec ·))) = true := by kernel_rfl
theorem q31 : (Rows.drillImagesRow.veiledFits Tryz.prog Tryz.f4.params.toList (Tryz.f4.params.toList ++ Rows.drillImagesSpec.plain.varTypes Tryz.prog ++ Tryz.f4.resultTypes.toList)) = true := by kernel_rfl
set_option maxRecDepth 100000 in
theorem closed : joinedFacts Tryz.prog 4 Tryz.f4 Rows.drillImagesSpec Rows.drillImagesRow = true := by
  unfold joinedFacts
  exact (andB (andB (andB (andB (andB (andB (andB (andB (andB (andB (andB (andB (andB (andB (andB (andB (andB (andB (andB (andB (andB (andB (andB (andB (andB (andB (andB (andB (andB (andB (andB q0 q1) q2) q3) q4) q5) q6) q7) q8) q9) q10) q11) q12) q13) q14) q15) q16) q17) q18) q19) q20) q21) q22) q23) q24) q25) q26) q27) q28) q29) q30) q31)
end Go.Proofs.YtkgodfhnofpglaaGreatDoor
