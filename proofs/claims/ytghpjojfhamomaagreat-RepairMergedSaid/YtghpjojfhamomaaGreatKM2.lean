/- Texts of wip, joined and shortened by wip/tools/pack.py; nothing is assumed. -/
import Derived.Test.YtghpjojfhamomaaGreatKM1
import Derived.Test.YtghpjojfhamomaaGreatProg
import Derived.KernelRfl
import Derived.Test.YtghpjojfhamomaaGreatRows
import Derived.JoinedOf
import Derived.Seven
import Derived.ProofKit
noncomputable section
set_option linter.all false
namespace Go.Proofs.YtghpjojfhamomaaGreat
open Go Go.Ab Go.Pm
set_option maxRecDepth 100000
theorem VZ:A5 (.c0 6 [(.list (.int .u8)),(.int .u8)] [.bool] Jr):=k0 [(6,[hn 0 10 [.t 14 i64,.p 0 [.d A6]] [(.ret,[.t 4 .bool,.x 0]),(.exit 0,[.p 0 [.d A6]])]]),(9,[hn 2 2 [] [(.normal,[.t 0 (.list (.int .u8))])]])] (A8 Na (A8 Vw (A8 Rm (A8 TB (A8 By (A8 UD (A8 Uv (A8 Fc (A8 Kk CK)))))))))
open Go.ChangeShapes Go.WideShapes Go.ChangeAt Go.RowKit Go.WideElems
theorem EL{a b:Bool}(h:a=true)(g:b=true):(a&&b)=true:=by rw[h,g];rfl
theorem q0:(Rows.repairMergedRow.wf (OpenSpec.ofChange Rows.repairMergedSpec))=true:=by kernel_rfl
theorem q1:(laidOutB Tryz.prog)=true:=by kernel_rfl
theorem q2:(mapsRowed Tryz.prog)=true:=by kernel_rfl
theorem q3:(Tryz.f6.params.all (Tryz.prog.readableRec ·))=true:=by kernel_rfl
theorem q4:(namedTie Tryz.prog Rows.repairMergedRow.named Rows.repairMergedSpec.vars)=true:=by kernel_rfl
theorem q5:((Rows.repairMergedRow.stops==[]))=true:=by kernel_rfl
theorem q6:((Tryz.prog.stops==[]))=true:=by kernel_rfl
theorem q7:((Rows.repairMergedRow.knobs==[]))=true:=by kernel_rfl
theorem q8:((Tryz.prog.stopKnobs==[]))=true:=by kernel_rfl
theorem q9:((Rows.repairMergedRow.inPlace==Tryz.prog.inPlace 6))=true:=by kernel_rfl
theorem q10:((Rows.repairMergedRow.unfollowed==Tryz.prog.unfollowed 6))=true:=by kernel_rfl
theorem q11:((Rows.repairMergedRow.recurses==Tryz.prog.recurses 6))=true:=by kernel_rfl
theorem q12:((Rows.repairMergedRow.named==Tryz.prog.varsNamed 6))=true:=by kernel_rfl
theorem q13:((Rows.repairMergedRow.maps==(Tryz.f6.params.toList++Rows.repairMergedSpec.plain.varTypes Tryz.prog).any (Tryz.prog.mapsRec ·)))=true:=by kernel_rfl
theorem q14:((Rows.repairMergedRow.ifaces==(Tryz.f6.params.toList++Rows.repairMergedSpec.plain.varTypes Tryz.prog).any (Tryz.prog.ifacesRec ·)))=true:=by kernel_rfl
theorem q15:((Rows.repairMergedRow.mapsOut==Tryz.prog.mapsAmong Tryz.f6.resultTypes.toList))=true:=by kernel_rfl
theorem q16:((Rows.repairMergedRow.loops==(Tryz.f6.params.toList++Rows.repairMergedSpec.plain.varTypes Tryz.prog).any (Tryz.prog.loopsFrom ·)))=true:=by kernel_rfl
theorem q17:((Rows.repairMergedRow.wideKeys==(Tryz.f6.params.toList++Rows.repairMergedSpec.plain.varTypes Tryz.prog++Tryz.f6.resultTypes.toList).any (Tryz.prog.wideKeysFrom ·)))=true:=by kernel_rfl
theorem q18:(Rows.repairMergedSpec.vars.all (Tryz.prog.varReadable ·))=true:=by kernel_rfl
theorem q19:(Tryz.f6.resultTypes.all (λt=>Tryz.prog.readableRec t&&decide (t<Tryz.prog.types.size)))=true:=by kernel_rfl
theorem q20:((Rows.repairMergedRow.ifacesOut==Tryz.f6.resultTypes.toList.any (Tryz.prog.ifacesRec ·)))=true:=by kernel_rfl
theorem q21:((Rows.repairMergedRow.loopsOut==Tryz.f6.resultTypes.toList.any (Tryz.prog.loopsFrom ·)))=true:=by kernel_rfl
theorem q22:((Rows.repairMergedRow.plainKeys==Tryz.prog.plainKeys))=true:=by kernel_rfl
theorem q23:(Rows.repairMergedRow.shortTexts.isNone)=true:=by kernel_rfl
theorem q24:(Tryz.prog.stopsHeard)=true:=by kernel_rfl
theorem q25:(Tryz.prog.mayEnter)=true:=by kernel_rfl
theorem q26:((Rows.repairMergedRow.lifted==Tryz.prog.liftsFinal))=true:=by kernel_rfl
theorem q27:((Tryz.prog.make==some Rows.repairMergedRow.make))=true:=by kernel_rfl
theorem q28:((Rows.repairMergedRow.kinds==(if Rows.repairMergedRow.domain.isEmpty then []else Tryz.f6.params.toList.map λt=>match Tryz.prog.underlying t with|some (.int k)=>some k|_=>none)))=true:=by kernel_rfl
theorem q29:((Rows.repairMergedRow.pinned==Rows.repairMergedRow.pinnedBy))=true:=by kernel_rfl
theorem q30:((Rows.repairMergedRow.veiled==(Tryz.f6.params.toList++Rows.repairMergedSpec.plain.varTypes Tryz.prog++Tryz.f6.resultTypes.toList).any (Tryz.prog.veiledRec ·)))=true:=by kernel_rfl
theorem q31:(Rows.repairMergedRow.veiledFits Tryz.prog Tryz.f6.params.toList (Tryz.f6.params.toList++Rows.repairMergedSpec.plain.varTypes Tryz.prog++Tryz.f6.resultTypes.toList))=true:=by kernel_rfl
set_option maxRecDepth 100000 in
theorem closed:joinedFacts Tryz.prog 6 Tryz.f6 Rows.repairMergedSpec Rows.repairMergedRow=true:=by unfold joinedFacts;exact(EL (EL (EL (EL (EL (EL (EL (EL (EL (EL (EL (EL (EL (EL (EL (EL (EL (EL (EL (EL (EL (EL (EL (EL (EL (EL (EL (EL (EL (EL (EL q0 q1) q2) q3) q4) q5) q6) q7) q8) q9) q10) q11) q12) q13) q14) q15) q16) q17) q18) q19) q20) q21) q22) q23) q24) q25) q26) q27) q28) q29) q30) q31)
end Go.Proofs.YtghpjojfhamomaaGreat
