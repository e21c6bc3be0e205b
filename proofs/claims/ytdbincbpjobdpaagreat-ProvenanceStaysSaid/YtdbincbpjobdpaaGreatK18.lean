/- Texts of wip, joined and shortened by wip/tools/pack.py; nothing is assumed. -/
import Derived.Test.YtdbincbpjobdpaaGreatK17
import Derived.Test.YtdbincbpjobdpaaGreatRows
import Derived.JoinedOf
import Derived.KernelRfl
import Derived.Seven
import Derived.ProofKit
noncomputable section
set_option linter.all false
open Option renaming some->Z
open Bool renaming true->V
open Option renaming none->W
open Option renaming some->δ,none->ε
open Bool renaming true->ζ
open Decidable renaming decide->τ
namespace Go.Proofs.YtdbincbpjobdpaaGreat
open Go.ChangeShapes Go.WideShapes Go.ChangeAt Go.RowKit Go.WideElems
def TX{a b:Bool}(h:a=true)(g:b=true):(a&&b)=true:=by rw[h,g];rfl
def q0:(Rows.provenanceStaysRow.wf (OpenSpec.ofChange Rows.provenanceStaysSpec))=true:=by kernel_rfl
def q1:(laidOutB Tryz.prog)=true:=by kernel_rfl
def q2:(mapsRowed Tryz.prog)=true:=by kernel_rfl
def q3:(Tryz.f6.params.all (Tryz.prog.readableRec ·))=true:=by kernel_rfl
def q4:(namedTie Tryz.prog Rows.provenanceStaysRow.named Rows.provenanceStaysSpec.vars)=true:=by kernel_rfl
def q5:((Rows.provenanceStaysRow.stops==[]))=true:=by kernel_rfl
def q6:((Tryz.prog.stops==[]))=true:=by kernel_rfl
def q7:((Rows.provenanceStaysRow.knobs==[]))=true:=by kernel_rfl
def q8:((Tryz.prog.stopKnobs==[]))=true:=by kernel_rfl
def q9:((Rows.provenanceStaysRow.inPlace==Tryz.prog.inPlace 6))=true:=by kernel_rfl
def q10:((Rows.provenanceStaysRow.unfollowed==Tryz.prog.unfollowed 6))=true:=by kernel_rfl
def q11:((Rows.provenanceStaysRow.recurses==Tryz.prog.recurses 6))=true:=by kernel_rfl
def q12:((Rows.provenanceStaysRow.named==Tryz.prog.varsNamed 6))=true:=by kernel_rfl
def q13:((Rows.provenanceStaysRow.maps==(Tryz.f6.params.toList++Rows.provenanceStaysSpec.plain.varTypes Tryz.prog).any (Tryz.prog.mapsRec ·)))=true:=by kernel_rfl
def q14:((Rows.provenanceStaysRow.ifaces==(Tryz.f6.params.toList++Rows.provenanceStaysSpec.plain.varTypes Tryz.prog).any (Tryz.prog.ifacesRec ·)))=true:=by kernel_rfl
def q15:((Rows.provenanceStaysRow.mapsOut==Tryz.prog.mapsAmong Tryz.f6.resultTypes.toList))=true:=by kernel_rfl
def q16:((Rows.provenanceStaysRow.loops==(Tryz.f6.params.toList++Rows.provenanceStaysSpec.plain.varTypes Tryz.prog).any (Tryz.prog.loopsFrom ·)))=true:=by kernel_rfl
def q17:((Rows.provenanceStaysRow.wideKeys==(Tryz.f6.params.toList++Rows.provenanceStaysSpec.plain.varTypes Tryz.prog++Tryz.f6.resultTypes.toList).any (Tryz.prog.wideKeysFrom ·)))=true:=by kernel_rfl
def q18:(Rows.provenanceStaysSpec.vars.all (Tryz.prog.varReadable ·))=true:=by kernel_rfl
def q19:(Tryz.f6.resultTypes.all (λt=>Tryz.prog.readableRec t&&decide (t<Tryz.prog.types.size)))=true:=by kernel_rfl
def q20:((Rows.provenanceStaysRow.ifacesOut==Tryz.f6.resultTypes.toList.any (Tryz.prog.ifacesRec ·)))=true:=by kernel_rfl
def q21:((Rows.provenanceStaysRow.loopsOut==Tryz.f6.resultTypes.toList.any (Tryz.prog.loopsFrom ·)))=true:=by kernel_rfl
def q22:((Rows.provenanceStaysRow.plainKeys==Tryz.prog.plainKeys))=true:=by kernel_rfl
def q23:(Rows.provenanceStaysRow.shortTexts.isNone)=true:=by kernel_rfl
def q24:(Tryz.prog.stopsHeard)=true:=by kernel_rfl
def q25:(Tryz.prog.mayEnter)=true:=by kernel_rfl
def q26:((Rows.provenanceStaysRow.lifted==Tryz.prog.liftsFinal))=true:=by kernel_rfl
def q27:((Tryz.prog.make==some Rows.provenanceStaysRow.make))=true:=by kernel_rfl
def q28:((Rows.provenanceStaysRow.kinds==(if Rows.provenanceStaysRow.domain.isEmpty then []else Tryz.f6.params.toList.map λt=>match Tryz.prog.underlying t with|some (.int k)=>some k|_=>none)))=true:=by kernel_rfl
def q29:((Rows.provenanceStaysRow.pinned==Rows.provenanceStaysRow.pinnedBy))=true:=by kernel_rfl
def q30:((Rows.provenanceStaysRow.veiled==(Tryz.f6.params.toList++Rows.provenanceStaysSpec.plain.varTypes Tryz.prog++Tryz.f6.resultTypes.toList).any (Tryz.prog.veiledRec ·)))=true:=by kernel_rfl
def q31:(Rows.provenanceStaysRow.veiledFits Tryz.prog Tryz.f6.params.toList (Tryz.f6.params.toList++Rows.provenanceStaysSpec.plain.varTypes Tryz.prog++Tryz.f6.resultTypes.toList))=true:=by kernel_rfl
set_option maxRecDepth 100000 in
def closed:joinedFacts Tryz.prog 6 Tryz.f6 Rows.provenanceStaysSpec Rows.provenanceStaysRow=true:=by unfold joinedFacts;exact(TX (TX (TX (TX (TX (TX (TX (TX (TX (TX (TX (TX (TX (TX (TX (TX (TX (TX (TX (TX (TX (TX (TX (TX (TX (TX (TX (TX (TX (TX (TX q0 q1) q2) q3) q4) q5) q6) q7) q8) q9) q10) q11) q12) q13) q14) q15) q16) q17) q18) q19) q20) q21) q22) q23) q24) q25) q26) q27) q28) q29) q30) q31)
end Go.Proofs.YtdbincbpjobdpaaGreat
