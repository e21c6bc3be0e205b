/- What these functions answer, part 7. Texts of the folder wip, laid in few files with shorter names by a program (wip/tools/pack.py); nothing is assumed. -/
import Derived.Test.YtacnadmajkjfbaaGreatK6
import Derived.Test.YtacnadmajkjfbaaGreatRows
import Derived.JoinedOf
import Derived.KernelRfl
import Derived.Seven
import Derived.ProofKit
noncomputable section
set_option linter.unusedVariables false
set_option linter.unusedSimpArgs false
set_option linter.unusedSectionVars false
set_option linter.defProp false
set_option linter.unnecessarySimpa false
set_option linter.deprecated false
namespace Go.Proofs.YtacnadmajkjfbaaGreat
open Go.ChangeShapes Go.WideShapes Go.ChangeAt Go.RowKit Go.WideElems
def RN{a b:Bool}(h:a=true)(g:b=true):(a&&b)=true:=by rw[h,g];rfl
def q0:(Rows.historyUsesRow.wf (OpenSpec.ofChange Rows.historyUsesSpec))=true:=by kernel_rfl
def q1:(laidOutB Tryz.prog)=true:=by kernel_rfl
def q2:(mapsRowed Tryz.prog)=true:=by kernel_rfl
def q3:(Tryz.f6.params.all (Tryz.prog.readableRec ·))=true:=by kernel_rfl
def q4:(namedTie Tryz.prog Rows.historyUsesRow.named Rows.historyUsesSpec.vars)=true:=by kernel_rfl
def q5:((Rows.historyUsesRow.stops==[]))=true:=by kernel_rfl
def q6:((Tryz.prog.stops==[]))=true:=by kernel_rfl
def q7:((Rows.historyUsesRow.knobs==[]))=true:=by kernel_rfl
def q8:((Tryz.prog.stopKnobs==[]))=true:=by kernel_rfl
def q9:((Rows.historyUsesRow.inPlace==Tryz.prog.inPlace 6))=true:=by kernel_rfl
def q10:((Rows.historyUsesRow.unfollowed==Tryz.prog.unfollowed 6))=true:=by kernel_rfl
def q11:((Rows.historyUsesRow.recurses==Tryz.prog.recurses 6))=true:=by kernel_rfl
def q12:((Rows.historyUsesRow.named==Tryz.prog.varsNamed 6))=true:=by kernel_rfl
def q13:((Rows.historyUsesRow.maps==(Tryz.f6.params.toList++Rows.historyUsesSpec.plain.varTypes Tryz.prog).any (Tryz.prog.mapsRec ·)))=true:=by kernel_rfl
def q14:((Rows.historyUsesRow.ifaces==(Tryz.f6.params.toList++Rows.historyUsesSpec.plain.varTypes Tryz.prog).any (Tryz.prog.ifacesRec ·)))=true:=by kernel_rfl
def q15:((Rows.historyUsesRow.mapsOut==Tryz.prog.mapsAmong Tryz.f6.resultTypes.toList))=true:=by kernel_rfl
def q16:((Rows.historyUsesRow.loops==(Tryz.f6.params.toList++Rows.historyUsesSpec.plain.varTypes Tryz.prog).any (Tryz.prog.loopsFrom ·)))=true:=by kernel_rfl
def q17:((Rows.historyUsesRow.wideKeys==(Tryz.f6.params.toList++Rows.historyUsesSpec.plain.varTypes Tryz.prog++Tryz.f6.resultTypes.toList).any (Tryz.prog.wideKeysFrom ·)))=true:=by kernel_rfl
def q18:(Rows.historyUsesSpec.vars.all (Tryz.prog.varReadable ·))=true:=by kernel_rfl
def q19:(Tryz.f6.resultTypes.all (λt=>Tryz.prog.readableRec t&&decide (t<Tryz.prog.types.size)))=true:=by kernel_rfl
def q20:((Rows.historyUsesRow.ifacesOut==Tryz.f6.resultTypes.toList.any (Tryz.prog.ifacesRec ·)))=true:=by kernel_rfl
def q21:((Rows.historyUsesRow.loopsOut==Tryz.f6.resultTypes.toList.any (Tryz.prog.loopsFrom ·)))=true:=by kernel_rfl
def q22:((Rows.historyUsesRow.plainKeys==Tryz.prog.plainKeys))=true:=by kernel_rfl
def q23:(Rows.historyUsesRow.shortTexts.isNone)=true:=by kernel_rfl
def q24:(Tryz.prog.stopsHeard)=true:=by kernel_rfl
def q25:(Tryz.prog.mayEnter)=true:=by kernel_rfl
def q26:((Rows.historyUsesRow.lifted==Tryz.prog.liftsFinal))=true:=by kernel_rfl
def q27:((Tryz.prog.make==some Rows.historyUsesRow.make))=true:=by kernel_rfl
def q28:((Rows.historyUsesRow.kinds==(if Rows.historyUsesRow.domain.isEmpty then []else Tryz.f6.params.toList.map λt=>match Tryz.prog.underlying t with|some (.int k)=>some k|_=>none)))=true:=by kernel_rfl
def q29:((Rows.historyUsesRow.pinned==Rows.historyUsesRow.pinnedBy))=true:=by kernel_rfl
def q30:((Rows.historyUsesRow.veiled==(Tryz.f6.params.toList++Rows.historyUsesSpec.plain.varTypes Tryz.prog++Tryz.f6.resultTypes.toList).any (Tryz.prog.veiledRec ·)))=true:=by kernel_rfl
def q31:(Rows.historyUsesRow.veiledFits Tryz.prog Tryz.f6.params.toList (Tryz.f6.params.toList++Rows.historyUsesSpec.plain.varTypes Tryz.prog++Tryz.f6.resultTypes.toList))=true:=by kernel_rfl
set_option maxRecDepth 100000 in
def closed:joinedFacts Tryz.prog 6 Tryz.f6 Rows.historyUsesSpec Rows.historyUsesRow=true:=by unfold joinedFacts;exact(RN (RN (RN (RN (RN (RN (RN (RN (RN (RN (RN (RN (RN (RN (RN (RN (RN (RN (RN (RN (RN (RN (RN (RN (RN (RN (RN (RN (RN (RN (RN q0 q1) q2) q3) q4) q5) q6) q7) q8) q9) q10) q11) q12) q13) q14) q15) q16) q17) q18) q19) q20) q21) q22) q23) q24) q25) q26) q27) q28) q29) q30) q31)
end Go.Proofs.YtacnadmajkjfbaaGreat
