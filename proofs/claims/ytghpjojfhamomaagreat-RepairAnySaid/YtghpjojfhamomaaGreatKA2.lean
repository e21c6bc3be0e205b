/- Texts of wip, joined and shortened by wip/tools/pack.py; nothing is assumed. -/
import Derived.Test.YtghpjojfhamomaaGreatKA1
import Derived.Test.YtghpjojfhamomaaGreatProg
import Derived.KernelRfl
import Derived.Test.YtghpjojfhamomaaGreatRows
import Derived.JoinedOf
import Derived.Seven
import Derived.ProofKit
noncomputable section
set_option linter.all false
namespace Go.Proofs.YtghpjojfhamomaaGreat
open Go Go.Ab Go.Pm
set_option maxRecDepth 100000
theorem Wr:A5 (.c0 3 [(.list (.int .u8)),(.int .u8)] [.bool] Lf):=k0 [(3,[hn 0 15 [.t 18 i64] [(.ret,[.t 4 .bool]),(.exit 2,[])],hn 0 7 [.t 12 i64] [(.ret,[.t 4 .bool]),(.exit 0,[])]]),(9,[hn 2 2 [] [(.normal,[.t 0 (.list (.int .u8))])]])] (A8 Na (A8 TA (A8 Fc (A8 Kk (A8 Pc (A8 UB CK))))))
open Go.ChangeShapes Go.WideShapes Go.ChangeAt Go.RowKit Go.WideElems
theorem EL{a b:Bool}(h:a=true)(g:b=true):(a&&b)=true:=by rw[h,g];rfl
theorem q0:(Rows.repairAnyRow.wf (OpenSpec.ofChange Rows.repairAnySpec))=true:=by kernel_rfl
theorem q1:(laidOutB Tryz.prog)=true:=by kernel_rfl
theorem q2:(mapsRowed Tryz.prog)=true:=by kernel_rfl
theorem q3:(Tryz.f3.params.all (Tryz.prog.readableRec ·))=true:=by kernel_rfl
theorem q4:(namedTie Tryz.prog Rows.repairAnyRow.named Rows.repairAnySpec.vars)=true:=by kernel_rfl
theorem q5:((Rows.repairAnyRow.stops==[]))=true:=by kernel_rfl
theorem q6:((Tryz.prog.stops==[]))=true:=by kernel_rfl
theorem q7:((Rows.repairAnyRow.knobs==[]))=true:=by kernel_rfl
theorem q8:((Tryz.prog.stopKnobs==[]))=true:=by kernel_rfl
theorem q9:((Rows.repairAnyRow.inPlace==Tryz.prog.inPlace 3))=true:=by kernel_rfl
theorem q10:((Rows.repairAnyRow.unfollowed==Tryz.prog.unfollowed 3))=true:=by kernel_rfl
theorem q11:((Rows.repairAnyRow.recurses==Tryz.prog.recurses 3))=true:=by kernel_rfl
theorem q12:((Rows.repairAnyRow.named==Tryz.prog.varsNamed 3))=true:=by kernel_rfl
theorem q13:((Rows.repairAnyRow.maps==(Tryz.f3.params.toList++Rows.repairAnySpec.plain.varTypes Tryz.prog).any (Tryz.prog.mapsRec ·)))=true:=by kernel_rfl
theorem q14:((Rows.repairAnyRow.ifaces==(Tryz.f3.params.toList++Rows.repairAnySpec.plain.varTypes Tryz.prog).any (Tryz.prog.ifacesRec ·)))=true:=by kernel_rfl
theorem q15:((Rows.repairAnyRow.mapsOut==Tryz.prog.mapsAmong Tryz.f3.resultTypes.toList))=true:=by kernel_rfl
theorem q16:((Rows.repairAnyRow.loops==(Tryz.f3.params.toList++Rows.repairAnySpec.plain.varTypes Tryz.prog).any (Tryz.prog.loopsFrom ·)))=true:=by kernel_rfl
theorem q17:((Rows.repairAnyRow.wideKeys==(Tryz.f3.params.toList++Rows.repairAnySpec.plain.varTypes Tryz.prog++Tryz.f3.resultTypes.toList).any (Tryz.prog.wideKeysFrom ·)))=true:=by kernel_rfl
theorem q18:(Rows.repairAnySpec.vars.all (Tryz.prog.varReadable ·))=true:=by kernel_rfl
theorem q19:(Tryz.f3.resultTypes.all (λt=>Tryz.prog.readableRec t&&decide (t<Tryz.prog.types.size)))=true:=by kernel_rfl
theorem q20:((Rows.repairAnyRow.ifacesOut==Tryz.f3.resultTypes.toList.any (Tryz.prog.ifacesRec ·)))=true:=by kernel_rfl
theorem q21:((Rows.repairAnyRow.loopsOut==Tryz.f3.resultTypes.toList.any (Tryz.prog.loopsFrom ·)))=true:=by kernel_rfl
theorem q22:((Rows.repairAnyRow.plainKeys==Tryz.prog.plainKeys))=true:=by kernel_rfl
theorem q23:(Rows.repairAnyRow.shortTexts.isNone)=true:=by kernel_rfl
theorem q24:(Tryz.prog.stopsHeard)=true:=by kernel_rfl
theorem q25:(Tryz.prog.mayEnter)=true:=by kernel_rfl
theorem q26:((Rows.repairAnyRow.lifted==Tryz.prog.liftsFinal))=true:=by kernel_rfl
theorem q27:((Tryz.prog.make==some Rows.repairAnyRow.make))=true:=by kernel_rfl
theorem q28:((Rows.repairAnyRow.kinds==(if Rows.repairAnyRow.domain.isEmpty then []else Tryz.f3.params.toList.map λt=>match Tryz.prog.underlying t with|some (.int k)=>some k|_=>none)))=true:=by kernel_rfl
theorem q29:((Rows.repairAnyRow.pinned==Rows.repairAnyRow.pinnedBy))=true:=by kernel_rfl
theorem q30:((Rows.repairAnyRow.veiled==(Tryz.f3.params.toList++Rows.repairAnySpec.plain.varTypes Tryz.prog++Tryz.f3.resultTypes.toList).any (Tryz.prog.veiledRec ·)))=true:=by kernel_rfl
theorem q31:(Rows.repairAnyRow.veiledFits Tryz.prog Tryz.f3.params.toList (Tryz.f3.params.toList++Rows.repairAnySpec.plain.varTypes Tryz.prog++Tryz.f3.resultTypes.toList))=true:=by kernel_rfl
set_option maxRecDepth 100000 in
theorem closed:joinedFacts Tryz.prog 3 Tryz.f3 Rows.repairAnySpec Rows.repairAnyRow=true:=by unfold joinedFacts;exact(EL (EL (EL (EL (EL (EL (EL (EL (EL (EL (EL (EL (EL (EL (EL (EL (EL (EL (EL (EL (EL (EL (EL (EL (EL (EL (EL (EL (EL (EL (EL q0 q1) q2) q3) q4) q5) q6) q7) q8) q9) q10) q11) q12) q13) q14) q15) q16) q17) q18) q19) q20) q21) q22) q23) q24) q25) q26) q27) q28) q29) q30) q31)
end Go.Proofs.YtghpjojfhamomaaGreat
