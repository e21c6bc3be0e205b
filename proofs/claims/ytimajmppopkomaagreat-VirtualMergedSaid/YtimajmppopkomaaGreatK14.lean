/- What these functions answer, part 14. Texts of the folder wip, laid in few files with shorter names by a program (wip/tools/pack.py); nothing is assumed. -/
import Derived.Test.YtimajmppopkomaaGreatK13
import Derived.Test.YtimajmppopkomaaGreatRows
import Derived.JoinedOf
import Derived.KernelRfl
import Derived.Seven
import Derived.ProofKit
noncomputable section
set_option linter.unusedVariables false
set_option linter.unusedSimpArgs false
set_option linter.unusedSectionVars false
set_option linter.defProp false
set_option linter.unnecessarySimpa false
set_option linter.deprecated false
namespace Go.Proofs.YtimajmppopkomaaGreat
open Go.ChangeShapes Go.WideShapes Go.ChangeAt Go.RowKit Go.WideElems
def RT{a b:Bool}(h:a=true)(g:b=true):(a&&b)=true:=by rw[h,g];rfl
def q0:(Rows.virtualMergedRow.wf (OpenSpec.ofChange Rows.virtualMergedSpec))=true:=by kernel_rfl
def q1:(laidOutB Tryz.prog)=true:=by kernel_rfl
def q2:(mapsRowed Tryz.prog)=true:=by kernel_rfl
def q3:(Tryz.f7.params.all (Tryz.prog.readableRec ·))=true:=by kernel_rfl
def q4:(namedTie Tryz.prog Rows.virtualMergedRow.named Rows.virtualMergedSpec.vars)=true:=by kernel_rfl
def q5:((Rows.virtualMergedRow.stops==[]))=true:=by kernel_rfl
def q6:((Tryz.prog.stops==[]))=true:=by kernel_rfl
def q7:((Rows.virtualMergedRow.knobs==[]))=true:=by kernel_rfl
def q8:((Tryz.prog.stopKnobs==[]))=true:=by kernel_rfl
def q9:((Rows.virtualMergedRow.inPlace==Tryz.prog.inPlace 7))=true:=by kernel_rfl
def q10:((Rows.virtualMergedRow.unfollowed==Tryz.prog.unfollowed 7))=true:=by kernel_rfl
def q11:((Rows.virtualMergedRow.recurses==Tryz.prog.recurses 7))=true:=by kernel_rfl
def q12:((Rows.virtualMergedRow.named==Tryz.prog.varsNamed 7))=true:=by kernel_rfl
def q13:((Rows.virtualMergedRow.maps==(Tryz.f7.params.toList++Rows.virtualMergedSpec.plain.varTypes Tryz.prog).any (Tryz.prog.mapsRec ·)))=true:=by kernel_rfl
def q14:((Rows.virtualMergedRow.ifaces==(Tryz.f7.params.toList++Rows.virtualMergedSpec.plain.varTypes Tryz.prog).any (Tryz.prog.ifacesRec ·)))=true:=by kernel_rfl
def q15:((Rows.virtualMergedRow.mapsOut==Tryz.prog.mapsAmong Tryz.f7.resultTypes.toList))=true:=by kernel_rfl
def q16:((Rows.virtualMergedRow.loops==(Tryz.f7.params.toList++Rows.virtualMergedSpec.plain.varTypes Tryz.prog).any (Tryz.prog.loopsFrom ·)))=true:=by kernel_rfl
def q17:((Rows.virtualMergedRow.wideKeys==(Tryz.f7.params.toList++Rows.virtualMergedSpec.plain.varTypes Tryz.prog++Tryz.f7.resultTypes.toList).any (Tryz.prog.wideKeysFrom ·)))=true:=by kernel_rfl
def q18:(Rows.virtualMergedSpec.vars.all (Tryz.prog.varReadable ·))=true:=by kernel_rfl
def q19:(Tryz.f7.resultTypes.all (λt=>Tryz.prog.readableRec t&&decide (t<Tryz.prog.types.size)))=true:=by kernel_rfl
def q20:((Rows.virtualMergedRow.ifacesOut==Tryz.f7.resultTypes.toList.any (Tryz.prog.ifacesRec ·)))=true:=by kernel_rfl
def q21:((Rows.virtualMergedRow.loopsOut==Tryz.f7.resultTypes.toList.any (Tryz.prog.loopsFrom ·)))=true:=by kernel_rfl
def q22:((Rows.virtualMergedRow.plainKeys==Tryz.prog.plainKeys))=true:=by kernel_rfl
def q23:(Rows.virtualMergedRow.shortTexts.isNone)=true:=by kernel_rfl
def q24:(Tryz.prog.stopsHeard)=true:=by kernel_rfl
def q25:(Tryz.prog.mayEnter)=true:=by kernel_rfl
def q26:((Rows.virtualMergedRow.lifted==Tryz.prog.liftsFinal))=true:=by kernel_rfl
def q27:((Tryz.prog.make==some Rows.virtualMergedRow.make))=true:=by kernel_rfl
def q28:((Rows.virtualMergedRow.kinds==(if Rows.virtualMergedRow.domain.isEmpty then []else Tryz.f7.params.toList.map λt=>match Tryz.prog.underlying t with|some (.int k)=>some k|_=>none)))=true:=by kernel_rfl
def q29:((Rows.virtualMergedRow.pinned==Rows.virtualMergedRow.pinnedBy))=true:=by kernel_rfl
def q30:((Rows.virtualMergedRow.veiled==(Tryz.f7.params.toList++Rows.virtualMergedSpec.plain.varTypes Tryz.prog++Tryz.f7.resultTypes.toList).any (Tryz.prog.veiledRec ·)))=true:=by kernel_rfl
def q31:(Rows.virtualMergedRow.veiledFits Tryz.prog Tryz.f7.params.toList (Tryz.f7.params.toList++Rows.virtualMergedSpec.plain.varTypes Tryz.prog++Tryz.f7.resultTypes.toList))=true:=by kernel_rfl
set_option maxRecDepth 100000 in
def closed:joinedFacts Tryz.prog 7 Tryz.f7 Rows.virtualMergedSpec Rows.virtualMergedRow=true:=by unfold joinedFacts;exact(RT (RT (RT (RT (RT (RT (RT (RT (RT (RT (RT (RT (RT (RT (RT (RT (RT (RT (RT (RT (RT (RT (RT (RT (RT (RT (RT (RT (RT (RT (RT q0 q1) q2) q3) q4) q5) q6) q7) q8) q9) q10) q11) q12) q13) q14) q15) q16) q17) q18) q19) q20) q21) q22) q23) q24) q25) q26) q27) q28) q29) q30) q31)
end Go.Proofs.YtimajmppopkomaaGreat
