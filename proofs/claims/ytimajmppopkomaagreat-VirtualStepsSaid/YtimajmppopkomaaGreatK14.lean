/- What these functions answer, part 14. Texts of the folder wip, laid in few files with shorter names by a program (wip/tools/pack.py); nothing is assumed. -/
import Derived.Test.YtimajmppopkomaaGreatK13
import Derived.Test.YtimajmppopkomaaGreatRows
import Derived.JoinedOf
import Derived.KernelRfl
import Derived.Seven
import Derived.ProofKit
noncomputable section
set_option linter.unusedVariables false
set_option linter.unusedSimpArgs false
set_option linter.unusedSectionVars false
set_option linter.defProp false
set_option linter.unnecessarySimpa false
set_option linter.deprecated false
namespace Go.Proofs.YtimajmppopkomaaGreat
open Go.ChangeShapes Go.WideShapes Go.ChangeAt Go.RowKit Go.WideElems
def RS{a b:Bool}(h:a=true)(g:b=true):(a&&b)=true:=by rw[h,g];rfl
def q0:(Rows.virtualStepsRow.wf (OpenSpec.ofChange Rows.virtualStepsSpec))=true:=by kernel_rfl
def q1:(laidOutB Tryz.prog)=true:=by kernel_rfl
def q2:(mapsRowed Tryz.prog)=true:=by kernel_rfl
def q3:(Tryz.f4.params.all (Tryz.prog.readableRec ·))=true:=by kernel_rfl
def q4:(namedTie Tryz.prog Rows.virtualStepsRow.named Rows.virtualStepsSpec.vars)=true:=by kernel_rfl
def q5:((Rows.virtualStepsRow.stops==[]))=true:=by kernel_rfl
def q6:((Tryz.prog.stops==[]))=true:=by kernel_rfl
def q7:((Rows.virtualStepsRow.knobs==[]))=true:=by kernel_rfl
def q8:((Tryz.prog.stopKnobs==[]))=true:=by kernel_rfl
def q9:((Rows.virtualStepsRow.inPlace==Tryz.prog.inPlace 4))=true:=by kernel_rfl
def q10:((Rows.virtualStepsRow.unfollowed==Tryz.prog.unfollowed 4))=true:=by kernel_rfl
def q11:((Rows.virtualStepsRow.recurses==Tryz.prog.recurses 4))=true:=by kernel_rfl
def q12:((Rows.virtualStepsRow.named==Tryz.prog.varsNamed 4))=true:=by kernel_rfl
def q13:((Rows.virtualStepsRow.maps==(Tryz.f4.params.toList++Rows.virtualStepsSpec.plain.varTypes Tryz.prog).any (Tryz.prog.mapsRec ·)))=true:=by kernel_rfl
def q14:((Rows.virtualStepsRow.ifaces==(Tryz.f4.params.toList++Rows.virtualStepsSpec.plain.varTypes Tryz.prog).any (Tryz.prog.ifacesRec ·)))=true:=by kernel_rfl
def q15:((Rows.virtualStepsRow.mapsOut==Tryz.prog.mapsAmong Tryz.f4.resultTypes.toList))=true:=by kernel_rfl
def q16:((Rows.virtualStepsRow.loops==(Tryz.f4.params.toList++Rows.virtualStepsSpec.plain.varTypes Tryz.prog).any (Tryz.prog.loopsFrom ·)))=true:=by kernel_rfl
def q17:((Rows.virtualStepsRow.wideKeys==(Tryz.f4.params.toList++Rows.virtualStepsSpec.plain.varTypes Tryz.prog++Tryz.f4.resultTypes.toList).any (Tryz.prog.wideKeysFrom ·)))=true:=by kernel_rfl
def q18:(Rows.virtualStepsSpec.vars.all (Tryz.prog.varReadable ·))=true:=by kernel_rfl
def q19:(Tryz.f4.resultTypes.all (λt=>Tryz.prog.readableRec t&&decide (t<Tryz.prog.types.size)))=true:=by kernel_rfl
def q20:((Rows.virtualStepsRow.ifacesOut==Tryz.f4.resultTypes.toList.any (Tryz.prog.ifacesRec ·)))=true:=by kernel_rfl
def q21:((Rows.virtualStepsRow.loopsOut==Tryz.f4.resultTypes.toList.any (Tryz.prog.loopsFrom ·)))=true:=by kernel_rfl
def q22:((Rows.virtualStepsRow.plainKeys==Tryz.prog.plainKeys))=true:=by kernel_rfl
def q23:(Rows.virtualStepsRow.shortTexts.isNone)=true:=by kernel_rfl
def q24:(Tryz.prog.stopsHeard)=true:=by kernel_rfl
def q25:(Tryz.prog.mayEnter)=true:=by kernel_rfl
def q26:((Rows.virtualStepsRow.lifted==Tryz.prog.liftsFinal))=true:=by kernel_rfl
def q27:((Tryz.prog.make==some Rows.virtualStepsRow.make))=true:=by kernel_rfl
def q28:((Rows.virtualStepsRow.kinds==(if Rows.virtualStepsRow.domain.isEmpty then []else Tryz.f4.params.toList.map λt=>match Tryz.prog.underlying t with|some (.int k)=>some k|_=>none)))=true:=by kernel_rfl
def q29:((Rows.virtualStepsRow.pinned==Rows.virtualStepsRow.pinnedBy))=true:=by kernel_rfl
def q30:((Rows.virtualStepsRow.veiled==(Tryz.f4.params.toList++Rows.virtualStepsSpec.plain.varTypes Tryz.prog++Tryz.f4.resultTypes.toList).any (Tryz.prog.veiledRec ·)))=true:=by kernel_rfl
def q31:(Rows.virtualStepsRow.veiledFits Tryz.prog Tryz.f4.params.toList (Tryz.f4.params.toList++Rows.virtualStepsSpec.plain.varTypes Tryz.prog++Tryz.f4.resultTypes.toList))=true:=by kernel_rfl
set_option maxRecDepth 100000 in
def closed:joinedFacts Tryz.prog 4 Tryz.f4 Rows.virtualStepsSpec Rows.virtualStepsRow=true:=by unfold joinedFacts;exact(RS (RS (RS (RS (RS (RS (RS (RS (RS (RS (RS (RS (RS (RS (RS (RS (RS (RS (RS (RS (RS (RS (RS (RS (RS (RS (RS (RS (RS (RS (RS q0 q1) q2) q3) q4) q5) q6) q7) q8) q9) q10) q11) q12) q13) q14) q15) q16) q17) q18) q19) q20) q21) q22) q23) q24) q25) q26) q27) q28) q29) q30) q31)
end Go.Proofs.YtimajmppopkomaaGreat
