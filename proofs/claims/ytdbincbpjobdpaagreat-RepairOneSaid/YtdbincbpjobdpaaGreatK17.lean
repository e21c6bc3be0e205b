/- Texts of wip, joined and shortened by wip/tools/pack.py; nothing is assumed. -/
import Derived.Test.YtdbincbpjobdpaaGreatK16
import Derived.Test.YtdbincbpjobdpaaGreatRows
import Derived.JoinedOf
import Derived.KernelRfl
import Derived.Seven
import Derived.ProofKit
noncomputable section
set_option linter.all false
namespace Go.Proofs.YtdbincbpjobdpaaGreat
open Go.ChangeShapes Go.WideShapes Go.ChangeAt Go.RowKit Go.WideElems
def Sx{a b:Bool}(h:a=true)(g:b=true):(a&&b)=true:=by rw[h,g];rfl
def q0:(Rows.repairOneRow.wf (OpenSpec.ofChange Rows.repairOneSpec))=true:=by kernel_rfl
def q1:(laidOutB Tryz.prog)=true:=by kernel_rfl
def q2:(mapsRowed Tryz.prog)=true:=by kernel_rfl
def q3:(Tryz.f3.params.all (Tryz.prog.readableRec ·))=true:=by kernel_rfl
def q4:(namedTie Tryz.prog Rows.repairOneRow.named Rows.repairOneSpec.vars)=true:=by kernel_rfl
def q5:((Rows.repairOneRow.stops==[]))=true:=by kernel_rfl
def q6:((Tryz.prog.stops==[]))=true:=by kernel_rfl
def q7:((Rows.repairOneRow.knobs==[]))=true:=by kernel_rfl
def q8:((Tryz.prog.stopKnobs==[]))=true:=by kernel_rfl
def q9:((Rows.repairOneRow.inPlace==Tryz.prog.inPlace 3))=true:=by kernel_rfl
def q10:((Rows.repairOneRow.unfollowed==Tryz.prog.unfollowed 3))=true:=by kernel_rfl
def q11:((Rows.repairOneRow.recurses==Tryz.prog.recurses 3))=true:=by kernel_rfl
def q12:((Rows.repairOneRow.named==Tryz.prog.varsNamed 3))=true:=by kernel_rfl
def q13:((Rows.repairOneRow.maps==(Tryz.f3.params.toList++Rows.repairOneSpec.plain.varTypes Tryz.prog).any (Tryz.prog.mapsRec ·)))=true:=by kernel_rfl
def q14:((Rows.repairOneRow.ifaces==(Tryz.f3.params.toList++Rows.repairOneSpec.plain.varTypes Tryz.prog).any (Tryz.prog.ifacesRec ·)))=true:=by kernel_rfl
def q15:((Rows.repairOneRow.mapsOut==Tryz.prog.mapsAmong Tryz.f3.resultTypes.toList))=true:=by kernel_rfl
def q16:((Rows.repairOneRow.loops==(Tryz.f3.params.toList++Rows.repairOneSpec.plain.varTypes Tryz.prog).any (Tryz.prog.loopsFrom ·)))=true:=by kernel_rfl
def q17:((Rows.repairOneRow.wideKeys==(Tryz.f3.params.toList++Rows.repairOneSpec.plain.varTypes Tryz.prog++Tryz.f3.resultTypes.toList).any (Tryz.prog.wideKeysFrom ·)))=true:=by kernel_rfl
def q18:(Rows.repairOneSpec.vars.all (Tryz.prog.varReadable ·))=true:=by kernel_rfl
def q19:(Tryz.f3.resultTypes.all (λt=>Tryz.prog.readableRec t&&decide (t<Tryz.prog.types.size)))=true:=by kernel_rfl
def q20:((Rows.repairOneRow.ifacesOut==Tryz.f3.resultTypes.toList.any (Tryz.prog.ifacesRec ·)))=true:=by kernel_rfl
def q21:((Rows.repairOneRow.loopsOut==Tryz.f3.resultTypes.toList.any (Tryz.prog.loopsFrom ·)))=true:=by kernel_rfl
def q22:((Rows.repairOneRow.plainKeys==Tryz.prog.plainKeys))=true:=by kernel_rfl
def q23:(Rows.repairOneRow.shortTexts.isNone)=true:=by kernel_rfl
def q24:(Tryz.prog.stopsHeard)=true:=by kernel_rfl
def q25:(Tryz.prog.mayEnter)=true:=by kernel_rfl
def q26:((Rows.repairOneRow.lifted==Tryz.prog.liftsFinal))=true:=by kernel_rfl
def q27:((Tryz.prog.make==some Rows.repairOneRow.make))=true:=by kernel_rfl
def q28:((Rows.repairOneRow.kinds==(if Rows.repairOneRow.domain.isEmpty then []else Tryz.f3.params.toList.map λt=>match Tryz.prog.underlying t with|some (.int k)=>some k|_=>none)))=true:=by kernel_rfl
def q29:((Rows.repairOneRow.pinned==Rows.repairOneRow.pinnedBy))=true:=by kernel_rfl
def q30:((Rows.repairOneRow.veiled==(Tryz.f3.params.toList++Rows.repairOneSpec.plain.varTypes Tryz.prog++Tryz.f3.resultTypes.toList).any (Tryz.prog.veiledRec ·)))=true:=by kernel_rfl
def q31:(Rows.repairOneRow.veiledFits Tryz.prog Tryz.f3.params.toList (Tryz.f3.params.toList++Rows.repairOneSpec.plain.varTypes Tryz.prog++Tryz.f3.resultTypes.toList))=true:=by kernel_rfl
set_option maxRecDepth 100000 in
def closed:joinedFacts Tryz.prog 3 Tryz.f3 Rows.repairOneSpec Rows.repairOneRow=true:=by unfold joinedFacts;exact(Sx (Sx (Sx (Sx (Sx (Sx (Sx (Sx (Sx (Sx (Sx (Sx (Sx (Sx (Sx (Sx (Sx (Sx (Sx (Sx (Sx (Sx (Sx (Sx (Sx (Sx (Sx (Sx (Sx (Sx (Sx q0 q1) q2) q3) q4) q5) q6) q7) q8) q9) q10) q11) q12) q13) q14) q15) q16) q17) q18) q19) q20) q21) q22) q23) q24) q25) q26) q27) q28) q29) q30) q31)
end Go.Proofs.YtdbincbpjobdpaaGreat
