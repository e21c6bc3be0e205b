/- What these functions answer, part 14. Texts of the folder wip, laid in few files with shorter names by a program (wip/tools/pack.py); nothing is assumed. -/
import Derived.Test.YtimajmppopkomaaGreatK13
import Derived.Test.YtimajmppopkomaaGreatRows
import Derived.JoinedOf
import Derived.KernelRfl
import Derived.Seven
import Derived.ProofKit
noncomputable section
set_option linter.unusedVariables false
set_option linter.unusedSimpArgs false
set_option linter.unusedSectionVars false
set_option linter.defProp false
set_option linter.unnecessarySimpa false
set_option linter.deprecated false
namespace Go.Proofs.YtimajmppopkomaaGreat
open Go.ChangeShapes Go.WideShapes Go.ChangeAt Go.RowKit Go.WideElems
def RS{a b:Bool}(h:a=true)(g:b=true):(a&&b)=true:=by rw[h,g];rfl
def q0:(Rows.virtualIsRedoRow.wf (OpenSpec.ofChange Rows.virtualIsRedoSpec))=true:=by kernel_rfl
def q1:(laidOutB Tryz.prog)=true:=by kernel_rfl
def q2:(mapsRowed Tryz.prog)=true:=by kernel_rfl
def q3:(Tryz.f6.params.all (Tryz.prog.readableRec ·))=true:=by kernel_rfl
def q4:(namedTie Tryz.prog Rows.virtualIsRedoRow.named Rows.virtualIsRedoSpec.vars)=true:=by kernel_rfl
def q5:((Rows.virtualIsRedoRow.stops==[]))=true:=by kernel_rfl
def q6:((Tryz.prog.stops==[]))=true:=by kernel_rfl
def q7:((Rows.virtualIsRedoRow.knobs==[]))=true:=by kernel_rfl
def q8:((Tryz.prog.stopKnobs==[]))=true:=by kernel_rfl
def q9:((Rows.virtualIsRedoRow.inPlace==Tryz.prog.inPlace 6))=true:=by kernel_rfl
def q10:((Rows.virtualIsRedoRow.unfollowed==Tryz.prog.unfollowed 6))=true:=by kernel_rfl
def q11:((Rows.virtualIsRedoRow.recurses==Tryz.prog.recurses 6))=true:=by kernel_rfl
def q12:((Rows.virtualIsRedoRow.named==Tryz.prog.varsNamed 6))=true:=by kernel_rfl
def q13:((Rows.virtualIsRedoRow.maps==(Tryz.f6.params.toList++Rows.virtualIsRedoSpec.plain.varTypes Tryz.prog).any (Tryz.prog.mapsRec ·)))=true:=by kernel_rfl
def q14:((Rows.virtualIsRedoRow.ifaces==(Tryz.f6.params.toList++Rows.virtualIsRedoSpec.plain.varTypes Tryz.prog).any (Tryz.prog.ifacesRec ·)))=true:=by kernel_rfl
def q15:((Rows.virtualIsRedoRow.mapsOut==Tryz.prog.mapsAmong Tryz.f6.resultTypes.toList))=true:=by kernel_rfl
def q16:((Rows.virtualIsRedoRow.loops==(Tryz.f6.params.toList++Rows.virtualIsRedoSpec.plain.varTypes Tryz.prog).any (Tryz.prog.loopsFrom ·)))=true:=by kernel_rfl
def q17:((Rows.virtualIsRedoRow.wideKeys==(Tryz.f6.params.toList++Rows.virtualIsRedoSpec.plain.varTypes Tryz.prog++Tryz.f6.resultTypes.toList).any (Tryz.prog.wideKeysFrom ·)))=true:=by kernel_rfl
def q18:(Rows.virtualIsRedoSpec.vars.all (Tryz.prog.varReadable ·))=true:=by kernel_rfl
def q19:(Tryz.f6.resultTypes.all (λt=>Tryz.prog.readableRec t&&decide (t<Tryz.prog.types.size)))=true:=by kernel_rfl
def q20:((Rows.virtualIsRedoRow.ifacesOut==Tryz.f6.resultTypes.toList.any (Tryz.prog.ifacesRec ·)))=true:=by kernel_rfl
def q21:((Rows.virtualIsRedoRow.loopsOut==Tryz.f6.resultTypes.toList.any (Tryz.prog.loopsFrom ·)))=true:=by kernel_rfl
def q22:((Rows.virtualIsRedoRow.plainKeys==Tryz.prog.plainKeys))=true:=by kernel_rfl
def q23:(Rows.virtualIsRedoRow.shortTexts.isNone)=true:=by kernel_rfl
def q24:(Tryz.prog.stopsHeard)=true:=by kernel_rfl
def q25:(Tryz.prog.mayEnter)=true:=by kernel_rfl
def q26:((Rows.virtualIsRedoRow.lifted==Tryz.prog.liftsFinal))=true:=by kernel_rfl
def q27:((Tryz.prog.make==some Rows.virtualIsRedoRow.make))=true:=by kernel_rfl
def q28:((Rows.virtualIsRedoRow.kinds==(if Rows.virtualIsRedoRow.domain.isEmpty then []else Tryz.f6.params.toList.map λt=>match Tryz.prog.underlying t with|some (.int k)=>some k|_=>none)))=true:=by kernel_rfl
def q29:((Rows.virtualIsRedoRow.pinned==Rows.virtualIsRedoRow.pinnedBy))=true:=by kernel_rfl
def q30:((Rows.virtualIsRedoRow.veiled==(Tryz.f6.params.toList++Rows.virtualIsRedoSpec.plain.varTypes Tryz.prog++Tryz.f6.resultTypes.toList).any (Tryz.prog.veiledRec ·)))=true:=by kernel_rfl
def q31:(Rows.virtualIsRedoRow.veiledFits Tryz.prog Tryz.f6.params.toList (Tryz.f6.params.toList++Rows.virtualIsRedoSpec.plain.varTypes Tryz.prog++Tryz.f6.resultTypes.toList))=true:=by kernel_rfl
set_option maxRecDepth 100000 in
def closed:joinedFacts Tryz.prog 6 Tryz.f6 Rows.virtualIsRedoSpec Rows.virtualIsRedoRow=true:=by unfold joinedFacts;exact(RS (RS (RS (RS (RS (RS (RS (RS (RS (RS (RS (RS (RS (RS (RS (RS (RS (RS (RS (RS (RS (RS (RS (RS (RS (RS (RS (RS (RS (RS (RS q0 q1) q2) q3) q4) q5) q6) q7) q8) q9) q10) q11) q12) q13) q14) q15) q16) q17) q18) q19) q20) q21) q22) q23) q24) q25) q26) q27) q28) q29) q30) q31)
end Go.Proofs.YtimajmppopkomaaGreat
