/- Closed facts of a row, one by one. -/
import Derived.Test.YtkgodfhnofpglaaGreatRows
import Derived.JoinedOf
import Derived.KernelRfl
import Derived.Seven
import Derived.ProofKit
namespace Go.Proofs.YtkgodfhnofpglaaGreat
open Go.ChangeShapes Go.WideShapes Go.ChangeAt Go.RowKit Go.WideElems
theorem andB {a b : Bool} (h : a = true) (g : b = true) : (a && b) = true := by rw [h, g]; rfl
theorem q0 : (Rows.repairExactRow.wf (OpenSpec.ofChange Rows.repairExactSpec)) = true := by kernel_rfl
theorem q1 : (laidOutB Tryz.prog) = true := by kernel_rfl
theorem q2 : (mapsRowed Tryz.prog) = true := by kernel_rfl
theorem q3 : (Tryz.f3.params.all (Tryz.prog.readableRec ·)) = true := by kernel_rfl
theorem q4 : (namedTie Tryz.prog Rows.repairExactRow.named Rows.repairExactSpec.vars) = true := by kernel_rfl
theorem q5 : ((Rows.repairExactRow.stops == [])) = true := by kernel_rfl
theorem q6 : ((Tryz.prog.stops == [])) = true := by kernel_rfl
theorem q7 : ((Rows.repairExactRow.knobs == [])) = true := by kernel_rfl
theorem q8 : ((Tryz.prog.stopKnobs == [])) = true := by kernel_rfl
theorem q9 : ((Rows.repairExactRow.inPlace == Tryz.prog.inPlace 3)) = true := by kernel_rfl
theorem q10 : ((Rows.repairExactRow.unfollowed == Tryz.prog.unfollowed 3)) = true := by kernel_rfl
theorem q11 : ((Rows.repairExactRow.recurses == Tryz.prog.recurses 3)) = true := by kernel_rfl
theorem q12 : ((Rows.repairExactRow.named == Tryz.prog.varsNamed 3)) = true := by kernel_rfl
theorem q13 : ((Rows.repairExactRow.maps == (Tryz.f3.params.toList ++ Rows.repairExactSpec.plain.varTypes Tryz.prog).any (Tryz.prog.mapsRec ·))) = true := by kernel_rfl
theorem q14 : ((Rows.repairExactRow.ifaces == (Tryz.f3.params.toList ++ Rows.repairExactSpec.plain.varTypes Tryz.prog).any (Tryz.prog.ifacesRec ·))) = true := by kernel_rfl
theorem q15 : ((Rows.repairExactRow.mapsOut == Tryz.prog.mapsAmong Tryz.f3.resultTypes.toList)) = true := by kernel_rfl
theorem q16 : ((Rows.repairExactRow.loops == (Tryz.f3.params.toList ++ Rows.repairExactSpec.plain.varTypes Tryz.prog).any (Tryz.prog.loopsFrom ·))) = true := by kernel_rfl
theorem q17 : ((Rows.repairExactRow.wideKeys == (Tryz.f3.params.toList ++ Rows.repairExactSpec.plain.varTypes Tryz.prog ++ Tryz.f3.resultTypes.toList).any (Tryz.prog.wideKeysFrom ·))) = true := by kernel_rfl
theorem q18 : (Rows.repairExactSpec.vars.all (Tryz.prog.varReadable ·)) = true := by kernel_rfl
theorem q19 : (Tryz.f3.resultTypes.all (fun t => Tryz.prog.readableRec t && decide (t < Tryz.prog.types.size))) = true := by kernel_rfl
theorem q20 : ((Rows.repairExactRow.ifacesOut == Tryz.f3.resultTypes.toList.any (Tryz.prog.ifacesRec ·))) = true := by kernel_rfl
theorem q21 : ((Rows.repairExactRow.loopsOut == Tryz.f3.resultTypes.toList.any (Tryz.prog.loopsFrom ·))) = true := by kernel_rfl
theorem q22 : ((Rows.repairExactRow.plainKeys == Tryz.prog.plainKeys)) = true := by kernel_rfl
theorem q23 : (Rows.repairExactRow.shortTexts.isNone) = true := by kernel_rfl
theorem q24 : (Tryz.prog.stopsHeard) = true := by kernel_rfl
theorem q25 : (Tryz.prog.mayEnter) = true := by kernel_rfl
theorem q26 : ((Rows.repairExactRow.lifted == Tryz.prog.liftsFinal)) = true := by kernel_rfl
theorem q27 : ((Tryz.prog.make == some Rows.repairExactRow.make)) = true := by kernel_rfl
theorem q28 : ((Rows.repairExactRow.kinds == (if Rows.repairExactRow.domain.isEmpty then [] else Tryz.f3.params.toList.map fun t => match Tryz.prog.underlying t with | some (.int k) => some k | _ => none))) = true := by kernel_rfl
theorem q29 : ((Rows.repairExactRow.pinned == Rows.repairExactRow.pinnedBy)) = true := by kernel_rfl
theorem q30 : ((Rows.repairExactRow.veiled == (Tryz.f3.params.toList ++ Rows.repairExactSpec.plain.varTypes Tryz.prog ++ Tryz.f3.resultTypes.toList).any (Tryz.prog.veiledRec ·))) = true := by kernel_rfl
theorem q31 : (Rows.repairExactRow.veiledFits Tryz.prog Tryz.f3.params.toList (Tryz.f3.params.toList ++ Rows.repairExactSpec.plain.varTypes Tryz.prog ++ Tryz.f3.resultTypes.toList)) = true := by kernel_rfl
set_option maxRecDepth 100000 in
theorem closed : joinedFacts Tryz.prog 3 Tryz.f3 Rows.repairExactSpec Rows.repairExactRow = true := by
  unfold joinedFacts
  exact (andB (andB (andB (andB (andB (andB (andB (andB (andB (andB (andB (andB (andB (andB (andB (andB (andB (andB (andB (andB (andB (andB (andB (andB (andB (andB (andB (andB (andB (andB (andB q0 q1) q2) q3) q4) q5) q6) q7) q8) q9) q10) q11) q12) q13) q14) q15) q16) q17) q18) q19) q20) q21) q22) q23) q24) q25) q26) q27) q28) q29) q30) q31)
end Go.Proofs.YtkgodfhnofpglaaGreat
