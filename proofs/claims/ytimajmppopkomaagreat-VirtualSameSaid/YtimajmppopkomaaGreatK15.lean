/- Texts of wip, joined and shortened by wip/tools/pack.py; nothing is assumed. -/
import Derived.Test.YtimajmppopkomaaGreatK14
import Derived.Test.YtimajmppopkomaaGreatRows
import Derived.JoinedOf
import Derived.KernelRfl
import Derived.Seven
import Derived.ProofKit
noncomputable section
set_option linter.all false
namespace Go.Proofs.YtimajmppopkomaaGreat
open Go.ChangeShapes Go.WideShapes Go.ChangeAt Go.RowKit Go.WideElems
def SV{a b:Bool}(h:a=true)(g:b=true):(a&&b)=true:=by rw[h,g];rfl
def q0:(Rows.virtualSameRow.wf (OpenSpec.ofChange Rows.virtualSameSpec))=true:=by kernel_rfl
def q1:(laidOutB Tryz.prog)=true:=by kernel_rfl
def q2:(mapsRowed Tryz.prog)=true:=by kernel_rfl
def q3:(Tryz.f5.params.all (Tryz.prog.readableRec ·))=true:=by kernel_rfl
def q4:(namedTie Tryz.prog Rows.virtualSameRow.named Rows.virtualSameSpec.vars)=true:=by kernel_rfl
def q5:((Rows.virtualSameRow.stops==[]))=true:=by kernel_rfl
def q6:((Tryz.prog.stops==[]))=true:=by kernel_rfl
def q7:((Rows.virtualSameRow.knobs==[]))=true:=by kernel_rfl
def q8:((Tryz.prog.stopKnobs==[]))=true:=by kernel_rfl
def q9:((Rows.virtualSameRow.inPlace==Tryz.prog.inPlace 5))=true:=by kernel_rfl
def q10:((Rows.virtualSameRow.unfollowed==Tryz.prog.unfollowed 5))=true:=by kernel_rfl
def q11:((Rows.virtualSameRow.recurses==Tryz.prog.recurses 5))=true:=by kernel_rfl
def q12:((Rows.virtualSameRow.named==Tryz.prog.varsNamed 5))=true:=by kernel_rfl
def q13:((Rows.virtualSameRow.maps==(Tryz.f5.params.toList++Rows.virtualSameSpec.plain.varTypes Tryz.prog).any (Tryz.prog.mapsRec ·)))=true:=by kernel_rfl
def q14:((Rows.virtualSameRow.ifaces==(Tryz.f5.params.toList++Rows.virtualSameSpec.plain.varTypes Tryz.prog).any (Tryz.prog.ifacesRec ·)))=true:=by kernel_rfl
def q15:((Rows.virtualSameRow.mapsOut==Tryz.prog.mapsAmong Tryz.f5.resultTypes.toList))=true:=by kernel_rfl
def q16:((Rows.virtualSameRow.loops==(Tryz.f5.params.toList++Rows.virtualSameSpec.plain.varTypes Tryz.prog).any (Tryz.prog.loopsFrom ·)))=true:=by kernel_rfl
def q17:((Rows.virtualSameRow.wideKeys==(Tryz.f5.params.toList++Rows.virtualSameSpec.plain.varTypes Tryz.prog++Tryz.f5.resultTypes.toList).any (Tryz.prog.wideKeysFrom ·)))=true:=by kernel_rfl
def q18:(Rows.virtualSameSpec.vars.all (Tryz.prog.varReadable ·))=true:=by kernel_rfl
def q19:(Tryz.f5.resultTypes.all (λt=>Tryz.prog.readableRec t&&decide (t<Tryz.prog.types.size)))=true:=by kernel_rfl
def q20:((Rows.virtualSameRow.ifacesOut==Tryz.f5.resultTypes.toList.any (Tryz.prog.ifacesRec ·)))=true:=by kernel_rfl
def q21:((Rows.virtualSameRow.loopsOut==Tryz.f5.resultTypes.toList.any (Tryz.prog.loopsFrom ·)))=true:=by kernel_rfl
def q22:((Rows.virtualSameRow.plainKeys==Tryz.prog.plainKeys))=true:=by kernel_rfl
def q23:(Rows.virtualSameRow.shortTexts.isNone)=true:=by kernel_rfl
def q24:(Tryz.prog.stopsHeard)=true:=by kernel_rfl
def q25:(Tryz.prog.mayEnter)=true:=by kernel_rfl
def q26:((Rows.virtualSameRow.lifted==Tryz.prog.liftsFinal))=true:=by kernel_rfl
def q27:((Tryz.prog.make==some Rows.virtualSameRow.make))=true:=by kernel_rfl
def q28:((Rows.virtualSameRow.kinds==(if Rows.virtualSameRow.domain.isEmpty then []else Tryz.f5.params.toList.map λt=>match Tryz.prog.underlying t with|some (.int k)=>some k|_=>none)))=true:=by kernel_rfl
def q29:((Rows.virtualSameRow.pinned==Rows.virtualSameRow.pinnedBy))=true:=by kernel_rfl
def q30:((Rows.virtualSameRow.veiled==(Tryz.f5.params.toList++Rows.virtualSameSpec.plain.varTypes Tryz.prog++Tryz.f5.resultTypes.toList).any (Tryz.prog.veiledRec ·)))=true:=by kernel_rfl
def q31:(Rows.virtualSameRow.veiledFits Tryz.prog Tryz.f5.params.toList (Tryz.f5.params.toList++Rows.virtualSameSpec.plain.varTypes Tryz.prog++Tryz.f5.resultTypes.toList))=true:=by kernel_rfl
set_option maxRecDepth 100000 in
def closed:joinedFacts Tryz.prog 5 Tryz.f5 Rows.virtualSameSpec Rows.virtualSameRow=true:=by unfold joinedFacts;exact(SV (SV (SV (SV (SV (SV (SV (SV (SV (SV (SV (SV (SV (SV (SV (SV (SV (SV (SV (SV (SV (SV (SV (SV (SV (SV (SV (SV (SV (SV (SV q0 q1) q2) q3) q4) q5) q6) q7) q8) q9) q10) q11) q12) q13) q14) q15) q16) q17) q18) q19) q20) q21) q22) q23) q24) q25) q26) q27) q28) q29) q30) q31)
end Go.Proofs.YtimajmppopkomaaGreat
