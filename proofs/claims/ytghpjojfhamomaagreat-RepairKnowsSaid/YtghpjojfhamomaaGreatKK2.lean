/- Texts of wip, joined and shortened by wip/tools/pack.py; nothing is assumed. -/
import Derived.Test.YtghpjojfhamomaaGreatKK1
import Derived.Test.YtghpjojfhamomaaGreatProg
import Derived.KernelRfl
import Derived.Test.YtghpjojfhamomaaGreatRows
import Derived.JoinedOf
import Derived.Seven
import Derived.ProofKit
noncomputable section
set_option linter.all false
namespace Go.Proofs.YtghpjojfhamomaaGreat
open Go Go.Ab Go.Pm
set_option maxRecDepth 100000
theorem Vv:A5 (.c0 5 [(.list (.int .u8))] [.bool] J4):=k0 [(5,[hn 2 11 [] [(.ret,[.t 2 .bool]),(.normal,[])],hn 0 15 [.t 15 i64] [(.ret,[.t 2 .bool]),(.exit 0,[])]]),(9,[hn 2 2 [] [(.normal,[.t 0 (.list (.int .u8))])]])] (A8 Na (A8 TA (A8 By (A8 bj (A8 Fc (A8 Kk CK))))))
open Go.ChangeShapes Go.WideShapes Go.ChangeAt Go.RowKit Go.WideElems
theorem EL{a b:Bool}(h:a=true)(g:b=true):(a&&b)=true:=by rw[h,g];rfl
theorem q0:(Rows.repairKnowsRow.wf (OpenSpec.ofChange Rows.repairKnowsSpec))=true:=by kernel_rfl
theorem q1:(laidOutB Tryz.prog)=true:=by kernel_rfl
theorem q2:(mapsRowed Tryz.prog)=true:=by kernel_rfl
theorem q3:(Tryz.f5.params.all (Tryz.prog.readableRec ·))=true:=by kernel_rfl
theorem q4:(namedTie Tryz.prog Rows.repairKnowsRow.named Rows.repairKnowsSpec.vars)=true:=by kernel_rfl
theorem q5:((Rows.repairKnowsRow.stops==[]))=true:=by kernel_rfl
theorem q6:((Tryz.prog.stops==[]))=true:=by kernel_rfl
theorem q7:((Rows.repairKnowsRow.knobs==[]))=true:=by kernel_rfl
theorem q8:((Tryz.prog.stopKnobs==[]))=true:=by kernel_rfl
theorem q9:((Rows.repairKnowsRow.inPlace==Tryz.prog.inPlace 5))=true:=by kernel_rfl
theorem q10:((Rows.repairKnowsRow.unfollowed==Tryz.prog.unfollowed 5))=true:=by kernel_rfl
theorem q11:((Rows.repairKnowsRow.recurses==Tryz.prog.recurses 5))=true:=by kernel_rfl
theorem q12:((Rows.repairKnowsRow.named==Tryz.prog.varsNamed 5))=true:=by kernel_rfl
theorem q13:((Rows.repairKnowsRow.maps==(Tryz.f5.params.toList++Rows.repairKnowsSpec.plain.varTypes Tryz.prog).any (Tryz.prog.mapsRec ·)))=true:=by kernel_rfl
theorem q14:((Rows.repairKnowsRow.ifaces==(Tryz.f5.params.toList++Rows.repairKnowsSpec.plain.varTypes Tryz.prog).any (Tryz.prog.ifacesRec ·)))=true:=by kernel_rfl
theorem q15:((Rows.repairKnowsRow.mapsOut==Tryz.prog.mapsAmong Tryz.f5.resultTypes.toList))=true:=by kernel_rfl
theorem q16:((Rows.repairKnowsRow.loops==(Tryz.f5.params.toList++Rows.repairKnowsSpec.plain.varTypes Tryz.prog).any (Tryz.prog.loopsFrom ·)))=true:=by kernel_rfl
theorem q17:((Rows.repairKnowsRow.wideKeys==(Tryz.f5.params.toList++Rows.repairKnowsSpec.plain.varTypes Tryz.prog++Tryz.f5.resultTypes.toList).any (Tryz.prog.wideKeysFrom ·)))=true:=by kernel_rfl
theorem q18:(Rows.repairKnowsSpec.vars.all (Tryz.prog.varReadable ·))=true:=by kernel_rfl
theorem q19:(Tryz.f5.resultTypes.all (λt=>Tryz.prog.readableRec t&&decide (t<Tryz.prog.types.size)))=true:=by kernel_rfl
theorem q20:((Rows.repairKnowsRow.ifacesOut==Tryz.f5.resultTypes.toList.any (Tryz.prog.ifacesRec ·)))=true:=by kernel_rfl
theorem q21:((Rows.repairKnowsRow.loopsOut==Tryz.f5.resultTypes.toList.any (Tryz.prog.loopsFrom ·)))=true:=by kernel_rfl
theorem q22:((Rows.repairKnowsRow.plainKeys==Tryz.prog.plainKeys))=true:=by kernel_rfl
theorem q23:(Rows.repairKnowsRow.shortTexts.isNone)=true:=by kernel_rfl
theorem q24:(Tryz.prog.stopsHeard)=true:=by kernel_rfl
theorem q25:(Tryz.prog.mayEnter)=true:=by kernel_rfl
theorem q26:((Rows.repairKnowsRow.lifted==Tryz.prog.liftsFinal))=true:=by kernel_rfl
theorem q27:((Tryz.prog.make==some Rows.repairKnowsRow.make))=true:=by kernel_rfl
theorem q28:((Rows.repairKnowsRow.kinds==(if Rows.repairKnowsRow.domain.isEmpty then []else Tryz.f5.params.toList.map λt=>match Tryz.prog.underlying t with|some (.int k)=>some k|_=>none)))=true:=by kernel_rfl
theorem q29:((Rows.repairKnowsRow.pinned==Rows.repairKnowsRow.pinnedBy))=true:=by kernel_rfl
theorem q30:((Rows.repairKnowsRow.veiled==(Tryz.f5.params.toList++Rows.repairKnowsSpec.plain.varTypes Tryz.prog++Tryz.f5.resultTypes.toList).any (Tryz.prog.veiledRec ·)))=true:=by kernel_rfl
theorem q31:(Rows.repairKnowsRow.veiledFits Tryz.prog Tryz.f5.params.toList (Tryz.f5.params.toList++Rows.repairKnowsSpec.plain.varTypes Tryz.prog++Tryz.f5.resultTypes.toList))=true:=by kernel_rfl
set_option maxRecDepth 100000 in
theorem closed:joinedFacts Tryz.prog 5 Tryz.f5 Rows.repairKnowsSpec Rows.repairKnowsRow=true:=by unfold joinedFacts;exact(EL (EL (EL (EL (EL (EL (EL (EL (EL (EL (EL (EL (EL (EL (EL (EL (EL (EL (EL (EL (EL (EL (EL (EL (EL (EL (EL (EL (EL (EL (EL q0 q1) q2) q3) q4) q5) q6) q7) q8) q9) q10) q11) q12) q13) q14) q15) q16) q17) q18) q19) q20) q21) q22) q23) q24) q25) q26) q27) q28) q29) q30) q31)
end Go.Proofs.YtghpjojfhamomaaGreat
