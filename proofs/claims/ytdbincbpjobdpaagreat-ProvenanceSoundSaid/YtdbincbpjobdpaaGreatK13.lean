/- Parts of the proof; nothing is assumed. -/
import Derived.Test.YtdbincbpjobdpaaGreatK12
import Derived.Test.YtdbincbpjobdpaaGreatRows
import Derived.JoinedOf
import Derived.KernelRfl
import Derived.Seven
import Derived.ProofKit
noncomputable section
set_option linter.all false
open Option renaming some->Z
open Bool renaming true->E
open Option renaming none->D
open Option renaming some->δ,none->ε
open Bool renaming true->ζ
open Decidable renaming decide->τ
namespace Go.Proofs.YtdbincbpjobdpaaGreat
open Go.ChangeShapes Go.WideShapes Go.ChangeAt Go.RowKit Go.WideElems
def Tv{a b:Bool}(h:a=E)(g:b=E):(a&&b)=E:=by rw[h,g];rfl
def q0:(Rows.provenanceSoundRow.wf (OpenSpec.ofChange Rows.provenanceSoundSpec))=E:=by kernel_rfl
def q1:(laidOutB Tryz.prog)=E:=by kernel_rfl
def q2:(mapsRowed Tryz.prog)=E:=by kernel_rfl
def q3:(Tryz.f4.params.all (Tryz.prog.readableRec ·))=E:=by kernel_rfl
def q4:(namedTie Tryz.prog Rows.provenanceSoundRow.named Rows.provenanceSoundSpec.vars)=E:=by kernel_rfl
def q5:((Rows.provenanceSoundRow.stops==[]))=E:=by kernel_rfl
def q6:((Tryz.prog.stops==[]))=E:=by kernel_rfl
def q7:((Rows.provenanceSoundRow.knobs==[]))=E:=by kernel_rfl
def q8:((Tryz.prog.stopKnobs==[]))=E:=by kernel_rfl
def q9:((Rows.provenanceSoundRow.inPlace==Tryz.prog.inPlace 4))=E:=by kernel_rfl
def q10:((Rows.provenanceSoundRow.unfollowed==Tryz.prog.unfollowed 4))=E:=by kernel_rfl
def q11:((Rows.provenanceSoundRow.recurses==Tryz.prog.recurses 4))=E:=by kernel_rfl
def q12:((Rows.provenanceSoundRow.named==Tryz.prog.varsNamed 4))=E:=by kernel_rfl
def q13:((Rows.provenanceSoundRow.maps==(Tryz.f4.params.toList++Rows.provenanceSoundSpec.plain.varTypes Tryz.prog).any (Tryz.prog.mapsRec ·)))=E:=by kernel_rfl
def q14:((Rows.provenanceSoundRow.ifaces==(Tryz.f4.params.toList++Rows.provenanceSoundSpec.plain.varTypes Tryz.prog).any (Tryz.prog.ifacesRec ·)))=E:=by kernel_rfl
def q15:((Rows.provenanceSoundRow.mapsOut==Tryz.prog.mapsAmong Tryz.f4.resultTypes.toList))=E:=by kernel_rfl
def q16:((Rows.provenanceSoundRow.loops==(Tryz.f4.params.toList++Rows.provenanceSoundSpec.plain.varTypes Tryz.prog).any (Tryz.prog.loopsFrom ·)))=E:=by kernel_rfl
def q17:((Rows.provenanceSoundRow.wideKeys==(Tryz.f4.params.toList++Rows.provenanceSoundSpec.plain.varTypes Tryz.prog++Tryz.f4.resultTypes.toList).any (Tryz.prog.wideKeysFrom ·)))=E:=by kernel_rfl
def q18:(Rows.provenanceSoundSpec.vars.all (Tryz.prog.varReadable ·))=E:=by kernel_rfl
def q19:(Tryz.f4.resultTypes.all (λt=>Tryz.prog.readableRec t&&τ (t<Tryz.prog.types.size)))=E:=by kernel_rfl
def q20:((Rows.provenanceSoundRow.ifacesOut==Tryz.f4.resultTypes.toList.any (Tryz.prog.ifacesRec ·)))=E:=by kernel_rfl
def q21:((Rows.provenanceSoundRow.loopsOut==Tryz.f4.resultTypes.toList.any (Tryz.prog.loopsFrom ·)))=E:=by kernel_rfl
def q22:((Rows.provenanceSoundRow.plainKeys==Tryz.prog.plainKeys))=E:=by kernel_rfl
def q23:(Rows.provenanceSoundRow.shortTexts.isNone)=E:=by kernel_rfl
def q24:(Tryz.prog.stopsHeard)=E:=by kernel_rfl
def q25:(Tryz.prog.mayEnter)=E:=by kernel_rfl
def q26:((Rows.provenanceSoundRow.lifted==Tryz.prog.liftsFinal))=E:=by kernel_rfl
def q27:((Tryz.prog.make==Z Rows.provenanceSoundRow.make))=E:=by kernel_rfl
def q28:((Rows.provenanceSoundRow.kinds==(if Rows.provenanceSoundRow.domain.isEmpty then []else Tryz.f4.params.toList.map λt=>match Tryz.prog.underlying t with|some (.int k)=>Z k|_=>D)))=E:=by kernel_rfl
def q29:((Rows.provenanceSoundRow.pinned==Rows.provenanceSoundRow.pinnedBy))=E:=by kernel_rfl
def q30:((Rows.provenanceSoundRow.veiled==(Tryz.f4.params.toList++Rows.provenanceSoundSpec.plain.varTypes Tryz.prog++Tryz.f4.resultTypes.toList).any (Tryz.prog.veiledRec ·)))=E:=by kernel_rfl
def q31:(Rows.provenanceSoundRow.veiledFits Tryz.prog Tryz.f4.params.toList (Tryz.f4.params.toList++Rows.provenanceSoundSpec.plain.varTypes Tryz.prog++Tryz.f4.resultTypes.toList))=E:=by kernel_rfl
set_option maxRecDepth 100000 in
def closed:joinedFacts Tryz.prog 4 Tryz.f4 Rows.provenanceSoundSpec Rows.provenanceSoundRow=E:=by unfold joinedFacts;exact(Tv (Tv (Tv (Tv (Tv (Tv (Tv (Tv (Tv (Tv (Tv (Tv (Tv (Tv (Tv (Tv (Tv (Tv (Tv (Tv (Tv (Tv (Tv (Tv (Tv (Tv (Tv (Tv (Tv (Tv (Tv q0 q1) q2) q3) q4) q5) q6) q7) q8) q9) q10) q11) q12) q13) q14) q15) q16) q17) q18) q19) q20) q21) q22) q23) q24) q25) q26) q27) q28) q29) q30) q31)
end Go.Proofs.YtdbincbpjobdpaaGreat
