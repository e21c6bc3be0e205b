import Derived.Test.YtdbincbpjobdpaaGreatK13
import Derived.Test.YtdbincbpjobdpaaGreatRows
import Derived.JoinedOf
import Derived.KernelRfl
import Derived.Seven
import Derived.ProofKit
noncomputable section
set_option linter.all false
open Option renaming some->Y
open Bool renaming true->E
open Option renaming none->D
open Option renaming some->δ,none->ε
open Bool renaming true->ζ
open Decidable renaming decide->τ
namespace Go.Proofs.YtdbincbpjobdpaaGreat
open Go.ChangeShapes Go.WideShapes Go.ChangeAt Go.RowKit Go.WideElems
def Ts{a b:Bool}(h:a=true)(g:b=true):(a&&b)=true:=by rw[h,g];rfl
def q0:(Rows.provenanceRebuildsRow.wf (OpenSpec.ofChange Rows.provenanceRebuildsSpec))=true:=by kernel_rfl
def q1:(laidOutB Tryz.prog)=true:=by kernel_rfl
def q2:(mapsRowed Tryz.prog)=true:=by kernel_rfl
def q3:(Tryz.f5.params.all (Tryz.prog.readableRec ·))=true:=by kernel_rfl
def q4:(namedTie Tryz.prog Rows.provenanceRebuildsRow.named Rows.provenanceRebuildsSpec.vars)=true:=by kernel_rfl
def q5:((Rows.provenanceRebuildsRow.stops==[]))=true:=by kernel_rfl
def q6:((Tryz.prog.stops==[]))=true:=by kernel_rfl
def q7:((Rows.provenanceRebuildsRow.knobs==[]))=true:=by kernel_rfl
def q8:((Tryz.prog.stopKnobs==[]))=true:=by kernel_rfl
def q9:((Rows.provenanceRebuildsRow.inPlace==Tryz.prog.inPlace 5))=true:=by kernel_rfl
def q10:((Rows.provenanceRebuildsRow.unfollowed==Tryz.prog.unfollowed 5))=true:=by kernel_rfl
def q11:((Rows.provenanceRebuildsRow.recurses==Tryz.prog.recurses 5))=true:=by kernel_rfl
def q12:((Rows.provenanceRebuildsRow.named==Tryz.prog.varsNamed 5))=true:=by kernel_rfl
def q13:((Rows.provenanceRebuildsRow.maps==(Tryz.f5.params.toList++Rows.provenanceRebuildsSpec.plain.varTypes Tryz.prog).any (Tryz.prog.mapsRec ·)))=true:=by kernel_rfl
def q14:((Rows.provenanceRebuildsRow.ifaces==(Tryz.f5.params.toList++Rows.provenanceRebuildsSpec.plain.varTypes Tryz.prog).any (Tryz.prog.ifacesRec ·)))=true:=by kernel_rfl
def q15:((Rows.provenanceRebuildsRow.mapsOut==Tryz.prog.mapsAmong Tryz.f5.resultTypes.toList))=true:=by kernel_rfl
def q16:((Rows.provenanceRebuildsRow.loops==(Tryz.f5.params.toList++Rows.provenanceRebuildsSpec.plain.varTypes Tryz.prog).any (Tryz.prog.loopsFrom ·)))=true:=by kernel_rfl
def q17:((Rows.provenanceRebuildsRow.wideKeys==(Tryz.f5.params.toList++Rows.provenanceRebuildsSpec.plain.varTypes Tryz.prog++Tryz.f5.resultTypes.toList).any (Tryz.prog.wideKeysFrom ·)))=true:=by kernel_rfl
def q18:(Rows.provenanceRebuildsSpec.vars.all (Tryz.prog.varReadable ·))=true:=by kernel_rfl
def q19:(Tryz.f5.resultTypes.all (λt=>Tryz.prog.readableRec t&&decide (t<Tryz.prog.types.size)))=true:=by kernel_rfl
def q20:((Rows.provenanceRebuildsRow.ifacesOut==Tryz.f5.resultTypes.toList.any (Tryz.prog.ifacesRec ·)))=true:=by kernel_rfl
def q21:((Rows.provenanceRebuildsRow.loopsOut==Tryz.f5.resultTypes.toList.any (Tryz.prog.loopsFrom ·)))=true:=by kernel_rfl
def q22:((Rows.provenanceRebuildsRow.plainKeys==Tryz.prog.plainKeys))=true:=by kernel_rfl
def q23:(Rows.provenanceRebuildsRow.shortTexts.isNone)=true:=by kernel_rfl
def q24:(Tryz.prog.stopsHeard)=true:=by kernel_rfl
def q25:(Tryz.prog.mayEnter)=true:=by kernel_rfl
def q26:((Rows.provenanceRebuildsRow.lifted==Tryz.prog.liftsFinal))=true:=by kernel_rfl
def q27:((Tryz.prog.make==some Rows.provenanceRebuildsRow.make))=true:=by kernel_rfl
def q28:((Rows.provenanceRebuildsRow.kinds==(if Rows.provenanceRebuildsRow.domain.isEmpty then []else Tryz.f5.params.toList.map λt=>match Tryz.prog.underlying t with|some (.int k)=>some k|_=>none)))=true:=by kernel_rfl
def q29:((Rows.provenanceRebuildsRow.pinned==Rows.provenanceRebuildsRow.pinnedBy))=true:=by kernel_rfl
def q30:((Rows.provenanceRebuildsRow.veiled==(Tryz.f5.params.toList++Rows.provenanceRebuildsSpec.plain.varTypes Tryz.prog++Tryz.f5.resultTypes.toList).any (Tryz.prog.veiledRec ·)))=true:=by kernel_rfl
def q31:(Rows.provenanceRebuildsRow.veiledFits Tryz.prog Tryz.f5.params.toList (Tryz.f5.params.toList++Rows.provenanceRebuildsSpec.plain.varTypes Tryz.prog++Tryz.f5.resultTypes.toList))=true:=by kernel_rfl
set_option maxRecDepth 100000 in
def closed:joinedFacts Tryz.prog 5 Tryz.f5 Rows.provenanceRebuildsSpec Rows.provenanceRebuildsRow=true:=by unfold joinedFacts;exact(Ts (Ts (Ts (Ts (Ts (Ts (Ts (Ts (Ts (Ts (Ts (Ts (Ts (Ts (Ts (Ts (Ts (Ts (Ts (Ts (Ts (Ts (Ts (Ts (Ts (Ts (Ts (Ts (Ts (Ts (Ts q0 q1) q2) q3) q4) q5) q6) q7) q8) q9) q10) q11) q12) q13) q14) q15) q16) q17) q18) q19) q20) q21) q22) q23) q24) q25) q26) q27) q28) q29) q30) q31)
end Go.Proofs.YtdbincbpjobdpaaGreat
