/- Texts of wip, joined and shortened by wip/tools/pack.py; nothing is assumed. -/
import Derived.Test.YtdbincbpjobdpaaGreatK16
import Derived.Test.YtdbincbpjobdpaaGreatRows
import Derived.JoinedOf
import Derived.KernelRfl
import Derived.Seven
import Derived.ProofKit
noncomputable section
set_option linter.all false
open Option renaming some->δ,none->ε,bind->σ
open Bool renaming true->ζ,false->η
open List renaming length->θ,replicate->ς
open Go.IntKind renaming wrap->ι
open BitVec renaming ofInt->κ,toNat->π
open Sum renaming elim->ν
open Nat renaming beq->ξ
open Int renaming toNat->ο
open Decidable renaming decide->τ
namespace Go.Proofs.YtdbincbpjobdpaaGreat
open Go.ChangeShapes Go.WideShapes Go.ChangeAt Go.RowKit Go.WideElems
def TA{a b:Bool}(h:a=ζ)(g:b=ζ):(a&&b)=ζ:=by rw[h,g];rfl
def q0:(Rows.provenanceLeastRow.wf (OpenSpec.ofChange Rows.provenanceLeastSpec))=ζ:=by kernel_rfl
def q1:(laidOutB Tryz.prog)=ζ:=by kernel_rfl
def q2:(mapsRowed Tryz.prog)=ζ:=by kernel_rfl
def q3:(Tryz.f7.params.all (Tryz.prog.readableRec ·))=ζ:=by kernel_rfl
def q4:(namedTie Tryz.prog Rows.provenanceLeastRow.named Rows.provenanceLeastSpec.vars)=ζ:=by kernel_rfl
def q5:((Rows.provenanceLeastRow.stops==[]))=ζ:=by kernel_rfl
def q6:((Tryz.prog.stops==[]))=ζ:=by kernel_rfl
def q7:((Rows.provenanceLeastRow.knobs==[]))=ζ:=by kernel_rfl
def q8:((Tryz.prog.stopKnobs==[]))=ζ:=by kernel_rfl
def q9:((Rows.provenanceLeastRow.inPlace==Tryz.prog.inPlace 7))=ζ:=by kernel_rfl
def q10:((Rows.provenanceLeastRow.unfollowed==Tryz.prog.unfollowed 7))=ζ:=by kernel_rfl
def q11:((Rows.provenanceLeastRow.recurses==Tryz.prog.recurses 7))=ζ:=by kernel_rfl
def q12:((Rows.provenanceLeastRow.named==Tryz.prog.varsNamed 7))=ζ:=by kernel_rfl
def q13:((Rows.provenanceLeastRow.maps==(Tryz.f7.params.toList++Rows.provenanceLeastSpec.plain.varTypes Tryz.prog).any (Tryz.prog.mapsRec ·)))=ζ:=by kernel_rfl
def q14:((Rows.provenanceLeastRow.ifaces==(Tryz.f7.params.toList++Rows.provenanceLeastSpec.plain.varTypes Tryz.prog).any (Tryz.prog.ifacesRec ·)))=ζ:=by kernel_rfl
def q15:((Rows.provenanceLeastRow.mapsOut==Tryz.prog.mapsAmong Tryz.f7.resultTypes.toList))=ζ:=by kernel_rfl
def q16:((Rows.provenanceLeastRow.loops==(Tryz.f7.params.toList++Rows.provenanceLeastSpec.plain.varTypes Tryz.prog).any (Tryz.prog.loopsFrom ·)))=ζ:=by kernel_rfl
def q17:((Rows.provenanceLeastRow.wideKeys==(Tryz.f7.params.toList++Rows.provenanceLeastSpec.plain.varTypes Tryz.prog++Tryz.f7.resultTypes.toList).any (Tryz.prog.wideKeysFrom ·)))=ζ:=by kernel_rfl
def q18:(Rows.provenanceLeastSpec.vars.all (Tryz.prog.varReadable ·))=ζ:=by kernel_rfl
def q19:(Tryz.f7.resultTypes.all (λt=>Tryz.prog.readableRec t&&τ (t<Tryz.prog.types.size)))=ζ:=by kernel_rfl
def q20:((Rows.provenanceLeastRow.ifacesOut==Tryz.f7.resultTypes.toList.any (Tryz.prog.ifacesRec ·)))=ζ:=by kernel_rfl
def q21:((Rows.provenanceLeastRow.loopsOut==Tryz.f7.resultTypes.toList.any (Tryz.prog.loopsFrom ·)))=ζ:=by kernel_rfl
def q22:((Rows.provenanceLeastRow.plainKeys==Tryz.prog.plainKeys))=ζ:=by kernel_rfl
def q23:(Rows.provenanceLeastRow.shortTexts.isNone)=ζ:=by kernel_rfl
def q24:(Tryz.prog.stopsHeard)=ζ:=by kernel_rfl
def q25:(Tryz.prog.mayEnter)=ζ:=by kernel_rfl
def q26:((Rows.provenanceLeastRow.lifted==Tryz.prog.liftsFinal))=ζ:=by kernel_rfl
def q27:((Tryz.prog.make==δ Rows.provenanceLeastRow.make))=ζ:=by kernel_rfl
def q28:((Rows.provenanceLeastRow.kinds==(if Rows.provenanceLeastRow.domain.isEmpty then []else Tryz.f7.params.toList.map λt=>match Tryz.prog.underlying t with|some (.int k)=>δ k|_=>ε)))=ζ:=by kernel_rfl
def q29:((Rows.provenanceLeastRow.pinned==Rows.provenanceLeastRow.pinnedBy))=ζ:=by kernel_rfl
def q30:((Rows.provenanceLeastRow.veiled==(Tryz.f7.params.toList++Rows.provenanceLeastSpec.plain.varTypes Tryz.prog++Tryz.f7.resultTypes.toList).any (Tryz.prog.veiledRec ·)))=ζ:=by kernel_rfl
def q31:(Rows.provenanceLeastRow.veiledFits Tryz.prog Tryz.f7.params.toList (Tryz.f7.params.toList++Rows.provenanceLeastSpec.plain.varTypes Tryz.prog++Tryz.f7.resultTypes.toList))=ζ:=by kernel_rfl
set_option maxRecDepth 100000 in
def closed:joinedFacts Tryz.prog 7 Tryz.f7 Rows.provenanceLeastSpec Rows.provenanceLeastRow=ζ:=by unfold joinedFacts;exact(TA (TA (TA (TA (TA (TA (TA (TA (TA (TA (TA (TA (TA (TA (TA (TA (TA (TA (TA (TA (TA (TA (TA (TA (TA (TA (TA (TA (TA (TA (TA q0 q1) q2) q3) q4) q5) q6) q7) q8) q9) q10) q11) q12) q13) q14) q15) q16) q17) q18) q19) q20) q21) q22) q23) q24) q25) q26) q27) q28) q29) q30) q31)
end Go.Proofs.YtdbincbpjobdpaaGreat
