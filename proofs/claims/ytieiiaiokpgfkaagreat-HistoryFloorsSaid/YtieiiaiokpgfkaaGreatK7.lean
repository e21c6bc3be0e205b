/- That the code computes these functions, part 7. Texts of the folder wip, laid in few files with shorter names by a program (wip/tools/pack.py); nothing is assumed. -/
import Derived.Test.YtieiiaiokpgfkaaGreatK6
import Derived.Test.YtieiiaiokpgfkaaGreatProg
import Derived.KernelRfl
set_option linter.unusedVariables false
set_option linter.unusedSimpArgs false
set_option linter.unusedSectionVars false
namespace Go.Proofs.YtieiiaiokpgfkaaGreat
open Go Go.Ab Go.Pm
set_option maxRecDepth 100000
theorem Lx : (A6.c0 19 [i64, (.list i64)] [.bool] Cu).Ok Tryz.prog := k0 [(19, [⟨0, 4, [], [], [], [], [.t 5 i64], [(.ret, [.t 4 .bool]), (.exit 0, [])]⟩])] BM fun x => by kernel_rfl
theorem N5 : (A6.c0 9 [i64, (.list i64)] [Ai, i64] Cc).Ok Tryz.prog := k0 [] (Ag Lx BM) fun x => by kernel_rfl
theorem N1 : (A6.c0 10 [] [BL] Ef).Ok Tryz.prog := k0 [] BM fun x => by kernel_rfl
theorem OL : (A6.c1 13 0 Ae [i64] [i64] Dx).Ok Tryz.prog := k1 [] BM fun b x => by kernel_rfl
theorem BE : (A6.c1 13 0 Ae [i64] [i64] AM).Ok Tryz.prog := k1 [] (Ag OL BM) fun b x => by kernel_rfl
theorem N2 : (A6.c0 97 [i64] [CD, i64] F4).Ok Tryz.prog := k0 [] BM fun x => by kernel_rfl
theorem N3 : (A6.c0 98 [i64] [B8, i64] F5).Ok Tryz.prog := k0 [] BM fun x => by kernel_rfl
theorem Vt : (A6.c0 72 [i64, i64] [AX, i64] Ja).Ok Tryz.prog := k0 [] (Ag N2 (Ag N3 (Ag N1 BM))) fun x => by kernel_rfl
theorem Rw : (A6.c0 99 [i64] [(.list .str)] GD).Ok Tryz.prog := k0 [(99, [⟨0, 3, [(3, .str)], [], [], [], [.t 4 i64, .u 0 .str, .g 3 0], [(.exit 0, [.u 0 .str, .g 3 0])]⟩])] BM fun x => by kernel_rfl
theorem Vm : (A6.c0 73 [i64] [Cr, i64] Ee).Ok Tryz.prog := k0 [] (Ag Rw BM) fun x => by kernel_rfl
theorem Vu : (A6.c0 48 [i64, i64] [AW, i64] Jb).Ok Tryz.prog := k0 [] (Ag Vt (Ag Vm BM)) fun x => by kernel_rfl
theorem PP : (A6.c1 134 0 Ae [] [.str] Eo).Ok Tryz.prog := k1 [(134, [⟨2, 3, [], [], [], [], [.x 0], [(.normal, [.t 3 i64, .p 0 [.d Ae]])]⟩, ⟨0, 6, [], [], [], [], [.t 5 i64, .u 1 (.int .u8), .g 4 1, .p 0 [.d Ae]], [(.exit 0, [.u 1 (.int .u8), .g 4 1, .p 0 [.d Ae]])]⟩])] (Ag BE BM) fun b x => by kernel_rfl
theorem P2 : (A6.c1 135 0 Ae [] [i64] Dv).Ok Tryz.prog := k1 [] (Ag BE BM) fun b x => by kernel_rfl
theorem Oc : (A6.c1 109 0 Ae [i64] [Ca] EB).Ok Tryz.prog := k1 [(109, [⟨2, 5, [], [], [], [], [], [(.normal, [.t 15 .bool])]⟩, ⟨2, 4, [], [], [], [], [], [(.normal, [.t 15 .bool])]⟩, ⟨2, 8, [], [], [], [], [.x 0, .x 3], [(.normal, [.p 0 [.d Ae], .p 3 [.d Ca]])]⟩, ⟨2, 11, [], [], [], [], [.x 0, .x 3], [(.normal, [.p 0 [.d Ae], .p 3 [.d Ca]])]⟩, ⟨2, 6, [], [], [], [], [.x 0, .x 3], [(.normal, [.p 0 [.d Ae], .p 3 [.d Ca]])]⟩, ⟨2, 13, [], [], [], [], [.x 0, .x 3], [(.normal, [.p 0 [.d Ae], .p 3 [.d Ca]])]⟩])] (Ag BE (Ag PP (Ag P2 BM))) fun b x => by kernel_rfl
theorem PQ : (A6.c1 75 0 Ae [i64, i64, .bool] [MX] Ep).Ok Tryz.prog := k1 [(75, [⟨2, 3, [], [], [], [], [], [(.normal, [.t 11 .bool])]⟩, ⟨2, 12, [], [], [], [], [.x 0, .x 1], [(.ret, [.p 0 [.d Ae], .p 1 [.d MX]]), (.normal, [.p 0 [.d Ae], .p 1 [.d MX]])]⟩])] (Ag BE (Ag Oc BM)) fun b x => by kernel_rfl
theorem Ns : (A6.c1 50 0 Ae [i64, i64, .bool] [(.list MX)] Dl).Ok Tryz.prog := k1 [(50, [⟨0, 3, [], [], [], [], [.t 10 i64, .u 1 MX, .g 9 1, .p 0 [.d Ae]], [(.exit 0, [.u 1 MX, .g 9 1, .p 0 [.d Ae]])]⟩])] (Ag BE (Ag PQ BM)) fun b x => by kernel_rfl
theorem DT : (A6.c0 27 [BL] [i64] B0).Ok Tryz.prog := k0 [] BM fun x => by kernel_rfl
theorem K1 : (A6.c0 112 [IZ] [.bool] Cp).Ok Tryz.prog := k0 [] BM fun x => by kernel_rfl
theorem Mq : (A6.c0 82 [F7] [.bool] Ey).Ok Tryz.prog := k0 [] (Ag K1 BM) fun x => by kernel_rfl
theorem S4 : (A6.c0 60 [Ad] [Ad, .bool] G3).Ok Tryz.prog := k0 [(60, [⟨2, 4, [], [], [], [], [], [(.normal, [.t 13 .bool])]⟩, ⟨2, 8, [], [], [], [], [.x 2], [(.normal, [.t 5 .bool, .p 2 [.d Ad]])]⟩, ⟨2, 13, [], [], [], [], [], [(.normal, [.t 67 .bool])]⟩, ⟨2, 12, [], [], [], [], [], [(.normal, [.t 67 .bool])]⟩, ⟨2, 17, [], [], [], [], [], [(.normal, [.t 91 .bool])]⟩])] (Ag Mq BM) fun x => by kernel_rfl
theorem Rx : (A6.c0 61 [i64, i64] [.bool] DY).Ok Tryz.prog := k0 [] BM fun x => by kernel_rfl
theorem Br : (A6.c0 42 [Ad] [.bool] Ba).Ok Tryz.prog := k0 [] (Ag S4 (Ag Rx BM)) fun x => by kernel_rfl
theorem BO : (A6.c0 26 [BL] [.bool] BB).Ok Tryz.prog := k0 [(26, [⟨0, 4, [], [], [], [], [.t 3 i64], [(.ret, [.t 2 .bool]), (.exit 0, [])]⟩])] (Ag DT (Ag Br BM)) fun x => by kernel_rfl
theorem LR : (A6.c0 246 [BK] [.bool] D2).Ok Tryz.prog := k0 [] BM fun x => by kernel_rfl
theorem Mn : (A6.c0 247 [BK] [.bool] Ew).Ok Tryz.prog := k0 [(247, [⟨0, 2, [], [], [], [], [.t 3 i64], [(.ret, [.t 2 .bool]), (.exit 0, [])]⟩])] (Ag K1 BM) fun x => by kernel_rfl
theorem S0 : (A6.c0 196 [BK] [.bool] Gz).Ok Tryz.prog := k0 [] (Ag LR (Ag Mn BM)) fun x => by kernel_rfl
theorem B9 : (A6.c0 156 [CD] [.bool] Bh).Ok Tryz.prog := k0 [(156, [⟨0, 11, [], [], [], [], [.t 6 i64], [(.ret, [.t 2 .bool]), (.exit 2, [])]⟩, ⟨0, 5, [], [], [], [], [.t 4 i64], [(.ret, [.t 2 .bool]), (.exit 0, [])]⟩])] (Ag S0 BM) fun x => by kernel_rfl
end Go.Proofs.YtieiiaiokpgfkaaGreat
namespace Go.Proofs.YtieiiaiokpgfkaaGreat
open Go Go.Ab Go.Pm
set_option maxRecDepth 100000
theorem Mr : (A6.c0 259 [Ap] [.bool] Ds).Ok Tryz.prog := k0 [] BM fun x => by kernel_rfl
theorem NP : (A6.c0 260 [Ap, Ap] [.bool] FQ).Ok Tryz.prog := k0 [] BM fun x => by kernel_rfl
theorem Gc : (A6.c0 244 [Ap, Ap] [.bool] Bo).Ok Tryz.prog := k0 [] BM fun x => by kernel_rfl
theorem KJ : (A6.c0 261 [Bd, i64, FC] [i64] B3).Ok Tryz.prog := k0 [(261, [⟨0, 2, [], [], [], [], [.t 7 i64], [(.ret, [.t 6 i64]), (.exit 0, [])]⟩])] BM fun x => by kernel_rfl
theorem Ce : (A6.c0 218 [Bd] [.bool] Bu).Ok Tryz.prog := k0 [(218, [⟨0, 9, [], [], [], [], [.t 4 i64], [(.ret, [.t 2 .bool]), (.exit 2, [])]⟩, ⟨0, 4, [], [], [], [], [.t 3 i64], [(.ret, [.t 2 .bool]), (.exit 0, [])]⟩, ⟨0, 20, [], [], [], [], [.t 7 i64], [(.ret, [.t 2 .bool]), (.exit 6, [])]⟩, ⟨0, 14, [], [], [], [], [.t 5 i64], [(.ret, [.t 2 .bool]), (.exit 4, [])]⟩])] (Ag Mr (Ag NP (Ag Gc (Ag KJ BM)))) fun x => by kernel_rfl
theorem TD : (A6.c0 233 [Aw] [.bool] HC).Ok Tryz.prog := k0 [(233, [⟨0, 6, [], [], [], [], [.t 3 i64], [(.ret, [.t 2 .bool]), (.exit 0, [])]⟩, ⟨0, 11, [], [], [], [], [.t 4 i64], [(.ret, [.t 2 .bool]), (.exit 2, [])]⟩])] BM fun x => by kernel_rfl
end Go.Proofs.YtieiiaiokpgfkaaGreat
namespace Go.Proofs.YtieiiaiokpgfkaaGreat
open Go Go.Ab Go.Pm
set_option maxRecDepth 100000
theorem Cf : (A6.c0 188 [(.list Aw)] [.bool] Bv).Ok Tryz.prog := k0 [(188, [⟨0, 4, [], [], [], [], [.t 3 i64], [(.ret, [.t 2 .bool]), (.exit 0, [])]⟩])] (Ag TD BM) fun x => by kernel_rfl
theorem Vq : (A6.c0 262 [i64] [.bool] Eh).Ok Tryz.prog := k0 [] BM fun x => by kernel_rfl
theorem DB : (A6.c0 219 [B8] [.bool] B7).Ok Tryz.prog := k0 [(219, [⟨0, 4, [], [], [], [], [.t 3 i64], [(.ret, [.t 2 .bool]), (.exit 0, [])]⟩])] (Ag Vq BM) fun x => by kernel_rfl
theorem Kl : (A6.c0 220 [(.list Ay), i64] [.bool] DK).Ok Tryz.prog := k0 [(220, [⟨0, 2, [], [], [], [], [.t 5 i64], [(.ret, [.t 4 .bool]), (.exit 0, [])]⟩])] BM fun x => by kernel_rfl
theorem TI : (A6.c0 167 [AX] [.bool] HH).Ok Tryz.prog := k0 [] (Ag BO (Ag B9 (Ag Ce (Ag Cf (Ag DB (Ag Kl BM)))))) fun x => by kernel_rfl
theorem Fa : (A6.c0 168 [AX, i64] [Ay, .bool] CW).Ok Tryz.prog := k0 [(168, [⟨0, 2, [], [], [], [], [.t 6 i64, .p 1 [.d Ay]], [(.ret, [.t 5 .bool, .p 1 [.d Ay]]), (.exit 0, [.p 1 [.d Ay]])]⟩])] BM fun x => by kernel_rfl
theorem A3 : (A6.c0 130 [AX] [.bool] Ax).Ok Tryz.prog := k0 [(130, [⟨0, 4, [], [], [], [], [.t 3 i64], [(.ret, [.t 2 .bool]), (.exit 0, [])]⟩, ⟨0, 9, [], [], [], [], [.t 4 i64], [(.ret, [.t 2 .bool]), (.exit 2, [])]⟩, ⟨0, 18, [], [], [], [], [.t 8 i64], [(.ret, [.t 2 .bool]), (.exit 4, [])]⟩, ⟨0, 23, [], [], [], [], [.t 9 i64], [(.ret, [.t 2 .bool]), (.exit 6, [])]⟩])] (Ag TI (Ag Fa BM)) fun x => by kernel_rfl
theorem F9 : (A6.c0 189 [(.list Aw), i64] [i64] CN).Ok Tryz.prog := k0 [(189, [⟨0, 2, [], [], [], [], [.t 5 i64], [(.ret, [.t 4 i64]), (.exit 0, [])]⟩])] BM fun x => by kernel_rfl
theorem Ms : (A6.c0 150 [(.list Aw), i64] [(.list Aw), i64] E2).Ok Tryz.prog := k0 [(150, [⟨0, 11, [(6, Aw)], [], [], [], [.t 7 i64, .u 0 Aw, .g 6 0], [(.exit 1, [.u 0 Aw, .g 6 0])]⟩])] (Ag Cf (Ag F9 BM)) fun x => by kernel_rfl
theorem TE : (A6.c0 122 [AX] [AX, i64, i64] HE).Ok Tryz.prog := k0 [] (Ag A3 (Ag Ms BM)) fun x => by kernel_rfl
theorem TQ : (A6.c0 100 [AW] [AW, i64, i64] HO).Ok Tryz.prog := k0 [] (Ag TE BM) fun x => by kernel_rfl
theorem BU : (A6.c0 108 [i64] [Bb] Aa).Ok Tryz.prog := k0 [] BM fun x => by kernel_rfl
theorem SF : (A6.c0 105 [i64] [Bb] Bp).Ok Tryz.prog := k0 [] (Ag BU BM) fun x => by kernel_rfl
theorem DU : (A6.c0 157 [CD, i64] [i64] CL).Ok Tryz.prog := k0 [(157, [⟨0, 2, [], [], [], [], [.t 5 i64], [(.ret, [.t 4 i64]), (.exit 0, [])]⟩])] BM fun x => by kernel_rfl
theorem Cs : (A6.c0 125 [CD, i64] [i64] B4).Ok Tryz.prog := k0 [] (Ag B9 (Ag DU BM)) fun x => by kernel_rfl
theorem Ev : (A6.c0 154 [CD, i64] [BK, .bool] C0).Ok Tryz.prog := k0 [] (Ag Cs BM) fun x => by kernel_rfl
theorem F8 : (A6.c0 22 [BL] [i64] Cm).Ok Tryz.prog := k0 [] (Ag BO (Ag DT BM)) fun x => by kernel_rfl
theorem FY : (A6.c0 21 [BL, i64] [BL, i64] Bg).Ok Tryz.prog := k0 [] (Ag BO (Ag DT BM)) fun x => by kernel_rfl
theorem FZ : (A6.c0 155 [AX, i64] [AX] C5).Ok Tryz.prog := k0 [(155, [⟨2, 3, [], [], [], [], [.x 0], [(.normal, [.p 0 [.d AX]])]⟩])] (Ag F8 (Ag FY BM)) fun x => by kernel_rfl
theorem TF : (A6.c0 124 [AX, i64] [AX, BK, i64] HF).Ok Tryz.prog := k0 [] (Ag A3 (Ag Ev (Ag FZ BM))) fun x => by kernel_rfl
theorem D0 : (A6.c0 197 [BK] [i64] CV).Ok Tryz.prog := k0 [] (Ag LR (Ag Mn BM)) fun x => by kernel_rfl
theorem Bt : (A6.c0 77 [.str, i64, i64] [.str] AR).Ok Tryz.prog := k0 [(77, [⟨0, 4, [], [], [], [], [.t 0 .str, .t 7 i64], [(.exit 0, [.t 0 .str])]⟩])] BM fun x => by kernel_rfl
theorem Mo : (A6.c0 198 [i64] [.str] Dr).Ok Tryz.prog := k0 [] BM fun x => by kernel_rfl
theorem Gs : (A6.c0 78 [.str] [(.int .u32)] Dh).Ok Tryz.prog := k0 [(78, [⟨2, 10, [], [], [], [], [], [(.normal, [.t 3 (.int .u32)])]⟩, ⟨0, 7, [], [], [], [], [.t 3 (.int .u32), .t 5 i64], [(.exit 2, [.t 3 (.int .u32)])]⟩, ⟨0, 3, [], [], [], [], [.t 3 (.int .u32), .t 4 i64], [(.exit 0, [.t 3 (.int .u32)])]⟩])] BM fun x => by kernel_rfl
theorem Ia : (A6.c0 158 [BK] [.str, i64] DW).Ok Tryz.prog := k0 [(158, [⟨2, 11, [], [], [], [], [], [(.normal, [.t 7 i64])]⟩, ⟨0, 7, [], [], [], [], [.t 5 .str, .t 6 i64], [(.exit 0, [.t 5 .str])]⟩])] (Ag D0 (Ag Bt (Ag Mo (Ag Gs BM)))) fun x => by kernel_rfl
theorem S3 : (A6.c0 282 [Cr, Bi] [.bool] G2).Ok Tryz.prog := k0 [(282, [⟨2, 7, [], [], [], [], [], [(.normal, [.t 59 .bool])]⟩, ⟨2, 13, [], [], [], [], [.x 2], [(.ret, [.t 4 .bool, .x 2]), (.normal, [.p 2 [.d Bi]])]⟩, ⟨2, 11, [], [], [], [], [.x 2], [(.normal, [.p 2 [.d Bi]]), (.ret, [.t 4 .bool, .x 2])]⟩, ⟨2, 9, [], [], [], [], [.x 2], [(.normal, [.p 2 [.d Bi]]), (.ret, [.t 4 .bool, .x 2])]⟩, ⟨2, 8, [], [], [], [], [.x 2], [(.normal, [.p 2 [.d Bi]]), (.ret, [.t 4 .bool, .x 2])]⟩])] BM fun x => by kernel_rfl
end Go.Proofs.YtieiiaiokpgfkaaGreat
namespace Go.Proofs.YtieiiaiokpgfkaaGreat
open Go Go.Ab Go.Pm
set_option maxRecDepth 100000
theorem S1 : (A6.c0 248 [Cr] [.bool] G0).Ok Tryz.prog := k0 [(248, [⟨0, 5, [], [], [], [], [.t 4 i64], [(.ret, [.t 2 .bool]), (.exit 0, [])]⟩, ⟨0, 10, [], [], [], [], [.t 5 i64], [(.ret, [.t 2 .bool]), (.exit 2, [])]⟩, ⟨0, 15, [], [], [], [], [.t 6 i64], [(.ret, [.t 2 .bool]), (.exit 4, [])]⟩])] (Ag S3 BM) fun x => by kernel_rfl
theorem Ib : (A6.c0 199 [Cr, i64] [i64] DX).Ok Tryz.prog := k0 [] (Ag S1 BM) fun x => by kernel_rfl
theorem LT : (A6.c0 249 [(.list i64), i64] [(.list i64)] Cg).Ok Tryz.prog := k0 [(249, [⟨2, 6, [], [], [], [], [.x 0], [(.normal, [.u 0 i64, .g 5 0])]⟩, ⟨0, 3, [(5, i64)], [], [], [], [.t 6 i64, .u 0 i64, .g 5 0], [(.exit 0, [.u 0 i64, .g 5 0])]⟩])] BM fun x => by kernel_rfl
theorem UM : (A6.c0 202 [(.list i64), i64] [(.list i64)] Ol).Ok Tryz.prog := k0 [(202, [⟨2, 7, [], [], [], [], [.x 0], [(.normal, [.t 6 .bool, .u 0 i64, .g 5 0])]⟩, ⟨2, 10, [], [], [], [], [.x 0], [(.normal, [.u 0 i64, .g 5 0])]⟩, ⟨0, 4, [(5, i64)], [], [], [], [.t 6 .bool, .t 7 i64, .u 0 i64, .g 5 0], [(.exit 0, [.t 6 .bool, .u 0 i64, .g 5 0])]⟩, ⟨2, 12, [], [], [], [], [.x 0], [(.normal, [.u 0 i64, .g 5 0])]⟩])] BM fun x => by kernel_rfl
theorem S2 : (A6.c0 159 [Cr, i64, .str] [Cr, i64] G1).Ok Tryz.prog := k0 [(159, [⟨2, 16, [], [], [], [], [.x 7, .x 8, .x 9], [(.normal, [.u 8 Bi, .u 9 Bi, .g 10 8, .p 7 [.o 4, .d i64, .o 5, .d .bool, .o 9]])]⟩, ⟨0, 13, [(10, Bi)], [(7, 4, Bi)], [], [], [.t 11 i64, .u 8 Bi, .u 4 .str, .u 5 i64, .u 9 Bi, .g 10 8, .p 7 [.o 4, .d i64, .o 5, .d .bool, .o 9], .p 2 [.o 4, .d i64, .o 5, .d .bool, .o 6], .p 3 [.o 4, .d i64, .o 5, .d .bool, .o 6]], [(.exit 0, [.u 8 Bi, .u 4 .str, .u 5 i64, .u 9 Bi, .g 10 8, .p 7 [.o 4, .d i64, .o 5, .d .bool, .o 9], .p 2 [.o 4, .d i64, .o 5, .d .bool, .o 6], .p 3 [.o 4, .d i64, .o 5, .d .bool, .o 6]])]⟩, ⟨2, 29, [], [], [], [], [.x 2, .x 3, .x 4, .x 7], [(.normal, [.t 12 .bool, .u 4 .str, .p 7 [.o 4, .d i64, .d (.list i64), .d .bool, .o 9], .p 2 [.o 4, .d i64, .d (.list i64), .d .bool, .o 6], .p 3 [.o 4, .d i64, .d (.list i64), .d .bool, .o 6]])]⟩, ⟨2, 26, [], [], [], [], [.x 2, .x 3, .x 4, .x 7], [(.normal, [.t 12 .bool, .u 4 .str, .p 2 [.o 4, .d i64, .d (.list i64), .d .bool, .o 6], .p 3 [.o 4, .d i64, .d (.list i64), .d .bool, .o 6], .p 7 [.o 4, .d i64, .d (.list i64), .d .bool, .o 9]])]⟩, ⟨2, 24, [], [], [], [], [.x 2, .x 3, .x 4, .x 7], [(.normal, [.t 12 .bool, .u 4 .str, .p 2 [.o 4, .d i64, .d (.list i64), .d .bool, .o 6], .p 3 [.o 4, .d i64, .d (.list i64), .d .bool, .o 6], .p 7 [.o 4, .d i64, .d (.list i64), .d .bool, .o 9]])]⟩, ⟨0, 20, [], [], [5], [], [.t 12 .bool, .t 13 i64, .u 4 .str, .u 6 Bi, .u 4 .str, .u 6 Bi, .u 4 .str, .u 9 Bi, .p 2 [.o 4, .d i64, .d (.list i64), .d .bool, .o 6], .p 3 [.o 4, .d i64, .d (.list i64), .d .bool, .o 6], .p 7 [.o 4, .d i64, .d (.list i64), .d .bool, .o 9]], [(.exit 2, [.t 12 .bool, .u 4 .str, .u 6 Bi, .u 9 Bi, .p 2 [.o 4, .d i64, .d (.list i64), .d .bool, .o 6], .p 3 [.o 4, .d i64, .d (.list i64), .d .bool, .o 6], .p 7 [.o 4, .d i64, .d (.list i64), .d .bool, .o 9]])]⟩, ⟨2, 32, [], [], [], [], [.x 2, .x 3, .x 4, .x 7], [(.normal, [.u 4 .str, .p 7 [.o 4, .d i64, .d (.list i64), .d .bool, .o 9], .p 2 [.o 4, .d i64, .d (.list i64), .d .bool, .o 6], .p 3 [.o 4, .d i64, .d (.list i64), .d .bool, .o 6]])]⟩, ⟨2, 45, [], [], [], [], [.x 7], [(.normal, [.p 7 [.o 4, .d i64, .d (.list i64), .d .bool, .o 9]])]⟩, ⟨2, 43, [], [], [], [], [.x 7], [(.normal, [.p 7 [.o 4, .d i64, .d (.list i64), .d .bool, .o 9]])]⟩, ⟨2, 39, [], [], [], [], [.x 2, .x 3, .x 4, .x 7], [(.normal, [.u 4 .str, .p 7 [.o 4, .d i64, .d (.list i64), .d .bool, .o 9], .p 2 [.o 4, .d i64, .d (.list i64), .d .bool, .o 6], .p 3 [.o 4, .d i64, .d (.list i64), .d .bool, .o 6]])]⟩, ⟨0, 34, [], [], [], [], [.t 14 i64, .u 4 .str, .u 6 Bi, .u 4 .str, .u 6 Bi, .u 4 .str, .u 9 Bi, .p 2 [.o 4, .d i64, .d (.list i64), .d .bool, .o 6], .p 3 [.o 4, .d i64, .d (.list i64), .d .bool, .o 6], .p 7 [.o 4, .d i64, .d (.list i64), .d .bool, .o 9]], [(.exit 5, [.u 4 .str, .u 6 Bi, .u 9 Bi, .p 2 [.o 4, .d i64, .d (.list i64), .d .bool, .o 6], .p 3 [.o 4, .d i64, .d (.list i64), .d .bool, .o 6], .p 7 [.o 4, .d i64, .d (.list i64), .d .bool, .o 9]])]⟩])] (Ag Ib (Ag LT (Ag UM BM))) fun x => by kernel_rfl
theorem Gt : (A6.c0 250 [CD, i64, Mk] [CD] Di).Ok Tryz.prog := k0 [] BM fun x => by kernel_rfl
theorem TA : (A6.c0 203 [CD, i64, i64] [CD, i64] G7).Ok Tryz.prog := k0 [(203, [⟨2, 14, [], [], [], [], [.x 2], [(.normal, [.p 2 [.d Mk]])]⟩, ⟨2, 12, [], [], [], [], [.x 2], [(.normal, [.p 2 [.d Mk]])]⟩])] (Ag B9 (Ag DU (Ag Gt BM))) fun x => by kernel_rfl
theorem Bn : (A6.c0 208 [(.list Aw), i64] [i64] A9).Ok Tryz.prog := k0 [] (Ag F9 BM) fun x => by kernel_rfl
theorem CE : (A6.c0 52 [Ad] [.bool] Am).Ok Tryz.prog := k0 [] BM fun x => by kernel_rfl
end Go.Proofs.YtieiiaiokpgfkaaGreat
namespace Go.Proofs.YtieiiaiokpgfkaaGreat
open Go Go.Ab Go.Pm
set_option maxRecDepth 100000
theorem KK : (A6.c0 171 [AX, i64] [i64] DJ).Ok Tryz.prog := k0 [] (Ag A3 (Ag Ev (Ag Fa BM))) fun x => by kernel_rfl
theorem Ry : (A6.c0 209 [BL, Ad] [BL, i64, i64] GE).Ok Tryz.prog := k0 [] (Ag BO (Ag DT (Ag Br BM))) fun x => by kernel_rfl
theorem Dp : (A6.c0 210 [BL, i64] [Ad, i64] Cb).Ok Tryz.prog := k0 [] (Ag BO (Ag DT BM)) fun x => by kernel_rfl
theorem Ic : (A6.c0 252 [(.list Aw), i64] [(.list Aw)] Db).Ok Tryz.prog := k0 [(252, [⟨2, 6, [], [], [], [], [.x 0], [(.normal, [.u 0 Aw, .g 5 0])]⟩, ⟨0, 3, [(5, Aw)], [], [], [], [.t 6 i64, .u 0 Aw, .g 5 0], [(.exit 0, [.u 0 Aw, .g 5 0])]⟩])] BM fun x => by kernel_rfl
theorem Ls : (A6.c0 254 [Aw] [Aw] ES).Ok Tryz.prog := k0 [(254, [⟨2, 2, [], [], [], [], [.x 0], [(.normal, [.p 0 [.d Aw]])]⟩])] BM fun x => by kernel_rfl
theorem Kz : (A6.c0 253 [(.list Aw), i64, Aw] [(.list Aw)] Ei).Ok Tryz.prog := k0 [] BM fun x => by kernel_rfl
theorem NS : (A6.c0 211 [(.list Aw), Ad] [(.list Aw), i64] Cn).Ok Tryz.prog := k0 [(211, [⟨2, 24, [], [], [], [], [.x 2], [(.normal, [.u 2 i64, .g 8 2])]⟩, ⟨0, 21, [(8, i64)], [], [], [], [.t 9 i64, .u 2 i64, .g 8 2], [(.exit 2, [.u 2 i64, .g 8 2])]⟩, ⟨2, 19, [], [], [], [], [.x 1], [(.ret, [.t 4 (.list Aw), .t 5 i64, .x 1]), (.normal, [.p 1 [.d Aw]])]⟩, ⟨2, 17, [], [], [], [], [.x 1], [(.normal, [.p 1 [.d Aw]]), (.ret, [.t 4 (.list Aw), .t 5 i64, .x 1])]⟩])] (Ag Cf (Ag Br (Ag F9 (Ag Ic (Ag Ls (Ag Kz BM)))))) fun x => by kernel_rfl
theorem Vr : (A6.c0 255 [B8, i64, Sr] [B8] JY).Ok Tryz.prog := k0 [] BM fun x => by kernel_rfl
theorem NR : (A6.c0 212 [B8, Ad] [B8, i64] D5).Ok Tryz.prog := k0 [] (Ag DB (Ag Br (Ag Vr BM))) fun x => by kernel_rfl
theorem C1 : (A6.c0 163 [AX, Ad] [AX, i64, i64] Bl).Ok Tryz.prog := k0 [(163, [⟨2, 5, [], [], [], [], [.x 1, .x 2], [(.ret, [.t 5 i64, .t 6 i64, .p 2 [.d AX], .x 1]), (.normal, [.p 1 [.d Ad], .p 2 [.d AX]])]⟩, ⟨2, 10, [], [], [], [], [.x 1], [(.normal, [.p 1 [.d Ad]])]⟩])] (Ag A3 (Ag Bn (Ag CE (Ag KK (Ag Ry (Ag Dp (Ag NS (Ag NR BM)))))))) fun x => by kernel_rfl
theorem Qy : (A6.c0 160 [AX, i64, i64] [AX, i64] Fm).Ok Tryz.prog := k0 [(160, [⟨2, 7, [], [], [], [], [.x 1, .x 2], [(.ret, [.t 7 i64, .p 1 [.d AX], .x 2]), (.normal, [.p 2 [.d CD], .p 1 [.d AX]])]⟩])] (Ag A3 (Ag F8 (Ag Cs (Ag TA (Ag C1 BM))))) fun x => by kernel_rfl
theorem Mu : (A6.c0 126 [AW, AX, BK] [AW, i64] E5).Ok Tryz.prog := k0 [] (Ag Ia (Ag S2 (Ag Qy BM))) fun x => by kernel_rfl
theorem TS : (A6.c0 103 [AW, i64] [AW, i64] HQ).Ok Tryz.prog := k0 [] (Ag TF (Ag Cs (Ag Mu BM))) fun x => by kernel_rfl
theorem TB : (A6.c0 204 [CD] [(.list Ay)] G8).Ok Tryz.prog := k0 [(204, [⟨2, 9, [], [], [], [], [.x 1], [(.normal, [.u 1 Ay, .g 3 1])]⟩, ⟨0, 5, [(3, Ay)], [], [], [], [.t 4 i64, .u 1 Ay, .g 3 1], [(.exit 0, [.u 1 Ay, .g 3 1])]⟩])] (Ag B9 (Ag DU BM)) fun x => by kernel_rfl
theorem WM : (A6.c0 161 [AX] [Dz, i64] Kb).Ok Tryz.prog := k0 [(161, [⟨2, 9, [], [], [], [], [.x 2, .x 3], [(.normal, [.u 3 Ay, .p 2 [.d i64, .d i64, .d (.list Aw), .o 3, .d B8]])]⟩, ⟨2, 14, [], [], [], [], [.x 2, .x 3], [(.normal, [.u 3 Ay, .p 2 [.d i64, .d i64, .d (.list Aw), .o 3, .d B8]])]⟩, ⟨0, 11, [], [], [], [], [.t 46 i64, .u 3 Ay, .p 2 [.d i64, .d i64, .d (.list Aw), .o 3, .d B8]], [(.exit 2, [.u 3 Ay, .p 2 [.d i64, .d i64, .d (.list Aw), .o 3, .d B8]])]⟩, ⟨0, 5, [], [(2, 3, Ay)], [], [], [.t 5 i64, .u 3 Ay, .p 2 [.d i64, .d i64, .d (.list Aw), .o 3, .d B8]], [(.exit 0, [.u 3 Ay, .p 2 [.d i64, .d i64, .d (.list Aw), .o 3, .d B8]])]⟩])] (Ag A3 (Ag Fa (Ag TB BM))) fun x => by kernel_rfl
end Go.Proofs.YtieiiaiokpgfkaaGreat
namespace Go.Proofs.YtieiiaiokpgfkaaGreat
open Go Go.Ab Go.Pm
set_option maxRecDepth 100000
theorem Mt : (A6.c0 205 [Dz] [.bool] E4).Ok Tryz.prog := k0 [(205, [⟨0, 4, [], [], [], [], [.t 3 i64], [(.ret, [.t 2 .bool]), (.exit 0, [])]⟩])] (Ag Cf (Ag Kl (Ag DB BM))) fun x => by kernel_rfl
theorem Qx : (A6.c0 251 [.str, (.list i64)] [.str] D6).Ok Tryz.prog := k0 [(251, [⟨0, 2, [], [], [], [], [.t 0 .str, .t 5 i64], [(.exit 0, [.t 0 .str])]⟩])] (Ag Bt BM) fun x => by kernel_rfl
theorem R6 : (A6.c0 206 [(.list Aw)] [.str, i64] GM).Ok Tryz.prog := k0 [(206, [⟨0, 5, [], [], [], [], [.t 4 .str, .t 5 i64], [(.exit 0, [.t 4 .str])]⟩])] (Ag Cf (Ag Bt (Ag Qx BM))) fun x => by kernel_rfl
theorem R4 : (A6.c0 207 [B8] [.str, i64] GK).Ok Tryz.prog := k0 [(207, [⟨0, 5, [], [], [], [], [.t 4 .str, .t 5 i64], [(.exit 0, [.t 4 .str])]⟩])] (Ag DB (Ag Bt BM)) fun x => by kernel_rfl
theorem SD : (A6.c0 162 [Dz] [.str, i64] GS).Ok Tryz.prog := k0 [(162, [⟨0, 9, [], [], [], [], [.t 6 .str, .t 7 i64], [(.exit 0, [.t 6 .str])]⟩])] (Ag Mt (Ag R6 (Ag Bt (Ag R4 BM)))) fun x => by kernel_rfl
theorem UZ : (A6.c0 127 [AX] [AX, i64, i64] ID).Ok Tryz.prog := k0 [] (Ag WM (Ag SD (Ag C1 (Ag FY BM)))) fun x => by kernel_rfl
theorem O1 : (A6.c0 104 [AW] [AW, i64, i64] EW).Ok Tryz.prog := k0 [] (Ag UZ BM) fun x => by kernel_rfl
theorem UL : (A6.c0 164 [Cr, i64, .str, i64] [Cr, i64] Hz).Ok Tryz.prog := k0 [] (Ag Ib (Ag LT BM)) fun x => by kernel_rfl
theorem Jh : (A6.c0 55 [.str] [.str] CU).Ok Tryz.prog := k0 [] (Ag Bt (Ag Gs BM)) fun x => by kernel_rfl
theorem UP : (A6.c0 213 [i64] [.str] D3).Ok Tryz.prog := k0 [] (Ag Bt (Ag Jh BM)) fun x => by kernel_rfl
theorem UN : (A6.c0 79 [.str, IZ] [.str] FN).Ok Tryz.prog := k0 [] (Ag Bt BM) fun x => by kernel_rfl
theorem Lq : (A6.c0 57 [Ad] [.str, i64] EO).Ok Tryz.prog := k0 [] (Ag Br (Ag Bt (Ag UN BM))) fun x => by kernel_rfl
theorem S6 : (A6.c0 214 [Ad] [.str] Ez).Ok Tryz.prog := k0 [] (Ag Lq (Ag Jh BM)) fun x => by kernel_rfl
theorem S5 : (A6.c0 165 [BL, i64] [.str] C2).Ok Tryz.prog := k0 [(165, [⟨2, 8, [], [], [], [], [], [(.normal, [.t 5 .str, .t 6 .str])]⟩, ⟨0, 5, [], [], [], [], [.t 5 .str, .t 6 .str, .t 7 i64], [(.exit 0, [.t 5 .str, .t 6 .str])]⟩])] (Ag BO (Ag UP (Ag S6 BM))) fun x => by kernel_rfl
theorem TR : (A6.c0 128 [AW, i64, i64, i64] [Cr, .str] HP).Ok Tryz.prog := k0 [(128, [⟨2, 8, [], [], [], [], [.x 3], [(.normal, [.p 3 [.d Cr]])]⟩, ⟨2, 4, [], [], [], [], [.x 2, .x 3], [(.normal, [.p 2 [.d AX], .p 3 [.d Cr]])]⟩])] (Ag Cs (Ag Ia (Ag FZ (Ag UL (Ag S5 BM))))) fun x => by kernel_rfl
theorem CT : (A6.c0 180 [.str, i64, i64] [i64, i64] An).Ok Tryz.prog := k0 [(180, [⟨0, 7, [], [], [], [], [.t 8 (.int .u64), .t 9 i64], [(.exit 0, [.t 8 (.int .u64)])]⟩])] BM fun x => by kernel_rfl
theorem LQ : (A6.c0 136 [.str, i64] [.str, i64, i64] Bs).Ok Tryz.prog := k0 [] (Ag CT (Ag Gs BM)) fun x => by kernel_rfl
theorem JN : (A6.c1 181 0 KG [i64] [i64] At).Ok Tryz.prog := k1 [] (Ag CT BM) fun b x => by kernel_rfl
theorem Ji : (A6.c1 183 0 KG [i64] [.str] Cz).Ok Tryz.prog := k1 [] BM fun b x => by kernel_rfl
theorem Of : (A6.c1 182 0 KG [] [IZ] C9).Ok Tryz.prog := k1 [] (Ag JN (Ag Ji BM)) fun b x => by kernel_rfl
theorem Lp : (A6.c0 138 [.str] [Ad, i64] EN).Ok Tryz.prog := k0 [] (Ag JN (Ag Of (Ag Ji (Ag Br BM)))) fun x => by kernel_rfl
theorem UO : (A6.c0 215 [.str] [BL, i64] H4).Ok Tryz.prog := k0 [(215, [⟨0, 8, [], [(1, 1, Ad)], [], [], [.t 5 i64, .u 2 Ad, .p 1 [.d i64, .o 2, .d i64], .p 0 [.d BL]], [(.ret, [.t 3 i64, .p 0 [.d BL], .x 1, .x 2]), (.exit 0, [.u 2 Ad, .p 1 [.d i64, .o 2, .d i64], .p 0 [.d BL]])]⟩])] (Ag LQ (Ag CT (Ag Lp BM))) fun x => by kernel_rfl
end Go.Proofs.YtieiiaiokpgfkaaGreat
namespace Go.Proofs.YtieiiaiokpgfkaaGreat
open Go Go.Ab Go.Pm
set_option maxRecDepth 100000
theorem JO : (A6.c1 293 0 DR [i64] [i64] BG).Ok Tryz.prog := k1 [] (Ag CT BM) fun b x => by kernel_rfl
theorem Og : (A6.c1 294 0 DR [i64] [(.list i64)] DA).Ok Tryz.prog := k1 [(294, [⟨0, 3, [(5, i64)], [], [], [], [.t 6 i64, .u 1 i64, .g 5 1, .p 0 [.d DR]], [(.exit 0, [.u 1 i64, .g 5 1, .p 0 [.d DR]])]⟩])] (Ag JO BM) fun b x => by kernel_rfl
theorem R5 : (A6.c0 291 [.str] [(.list Aw), i64] GL).Ok Tryz.prog := k0 [(291, [⟨0, 4, [(5, Aw)], [], [], [], [.t 6 i64, .u 1 Aw, .g 5 1, .p 0 [.d DR]], [(.exit 0, [.u 1 Aw, .g 5 1, .p 0 [.d DR]])]⟩])] (Ag JO (Ag Og (Ag Cf BM))) fun x => by kernel_rfl
theorem R3 : (A6.c0 292 [.str] [B8, i64] GJ).Ok Tryz.prog := k0 [(292, [⟨0, 8, [], [(1, 0, Sr)], [], [], [.t 7 i64, .u 2 Sr, .p 1 [.o 2]], [(.exit 1, [.u 2 Sr, .p 1 [.o 2]])]⟩])] (Ag CT (Ag DB BM)) fun x => by kernel_rfl
theorem SC : (A6.c0 288 [.str] [Dz, i64] GR).Ok Tryz.prog := k0 [(288, [⟨0, 15, [], [(1, 3, Ay)], [], [], [.t 9 i64, .t 11 i64, .u 2 Ay, .p 1 [.d i64, .d i64, .d (.list Aw), .o 2, .d B8]], [(.exit 0, [.t 9 i64, .u 2 Ay, .p 1 [.d i64, .d i64, .d (.list Aw), .o 2, .d B8]])]⟩])] (Ag CT (Ag R5 (Ag R3 (Ag Mt BM)))) fun x => by kernel_rfl
theorem SE : (A6.c0 283 [BL] [Dz, i64, .bool] GT).Ok Tryz.prog := k0 [(283, [⟨0, 4, [], [], [], [], [.t 5 i64, .p 1 [.d Dz]], [(.ret, [.t 3 i64, .t 4 .bool, .p 1 [.d Dz]]), (.exit 0, [.p 1 [.d Dz]])]⟩])] (Ag BO (Ag SC BM)) fun x => by kernel_rfl
theorem TL : (A6.c0 256 [BL, i64] [Cd, i64] HJ).Ok Tryz.prog := k0 [] (Ag SE (Ag N3 BM)) fun x => by kernel_rfl
theorem TJ : (A6.c0 284 [(.list Ay), Ad] [(.list Ay)] C6).Ok Tryz.prog := k0 [(284, [⟨2, 10, [], [], [], [], [.x 1], [(.normal, [.t 6 .bool, .u 1 Ay, .g 5 1])]⟩, ⟨2, 18, [], [], [], [], [.x 2], [(.normal, [.p 2 [.d Ay]])]⟩, ⟨2, 15, [], [], [], [], [.x 2], [(.normal, [.p 2 [.d Ay]]), (.exit 1, [.p 2 [.d Ay]])]⟩, ⟨2, 13, [], [], [], [], [.x 2], [(.normal, [.t 6 .bool, .p 2 [.d Ay]]), (.exit 1, [.t 6 .bool, .p 2 [.d Ay]])]⟩, ⟨0, 6, [(5, Ay)], [], [], [], [.t 6 .bool, .t 7 i64, .u 1 Ay, .g 5 1], [(.exit 0, [.t 6 .bool, .u 1 Ay, .g 5 1])]⟩, ⟨2, 21, [], [], [], [], [.x 1], [(.normal, [.u 1 Ay, .g 5 1])]⟩])] (Ag CE BM) fun x => by kernel_rfl
end Go.Proofs.YtieiiaiokpgfkaaGreat
namespace Go.Proofs.YtieiiaiokpgfkaaGreat
open Go Go.Ab Go.Pm
set_option maxRecDepth 100000
theorem Ub : (A6.c0 257 [Cd, Ad] [Cd, i64] IF).Ok Tryz.prog := k0 [(257, [⟨2, 2, [], [], [], [], [.x 0, .x 2], [(.ret, [.t 5 i64, .p 2 [.d Cd], .x 0]), (.normal, [.p 0 [.d Cd], .p 2 [.d Cd]])]⟩])] (Ag Bn (Ag Ms (Ag NS (Ag NR (Ag CE (Ag TJ BM)))))) fun x => by kernel_rfl
theorem Ua : (A6.c0 289 [Ap, Ap] [.bool] IE).Ok Tryz.prog := k0 [] BM fun x => by kernel_rfl
theorem Uc : (A6.c0 285 [(.list Ap), Ap] [(.list Ap)] IG).Ok Tryz.prog := k0 [(285, [⟨0, 2, [], [], [], [], [.t 5 i64], [(.exit 0, [.t 5 i64])]⟩])] (Ag Ua BM) fun x => by kernel_rfl
theorem TK : (A6.c0 258 [BL, (.list Aw)] [(.list Ap), i64] HI).Ok Tryz.prog := k0 [(258, [⟨0, 6, [], [], [], [], [.t 6 (.list Ap), .t 8 i64], [(.ret, [.t 4 (.list Ap), .t 5 i64]), (.exit 2, [.t 6 (.list Ap)])]⟩, ⟨0, 3, [], [], [], [], [.t 6 (.list Ap), .t 7 i64], [(.ret, [.t 4 (.list Ap), .t 5 i64]), (.exit 0, [.t 6 (.list Ap)])]⟩])] (Ag Dp (Ag Uc BM)) fun x => by kernel_rfl
theorem Q2 : (A6.c0 216 [BL, i64] [Cd, i64] Fq).Ok Tryz.prog := k0 [(216, [⟨0, 9, [], [], [], [], [.t 8 i64, .p 2 [.d Cd], .p 1 [.d Cd]], [(.ret, [.t 5 i64, .p 1 [.d Cd], .x 2]), (.exit 0, [.p 2 [.d Cd], .p 1 [.d Cd]])]⟩, ⟨2, 20, [], [], [], [], [.x 3], [(.normal, [.u 3 Aw, .g 9 3])]⟩, ⟨0, 17, [(9, Aw)], [], [], [], [.t 10 i64, .u 3 Aw, .g 9 3], [(.exit 2, [.u 3 Aw, .g 9 3])]⟩])] (Ag BO (Ag TL (Ag Ub (Ag TK BM)))) fun x => by kernel_rfl
theorem TO : (A6.c0 217 [BL, Cd, i64] [AX, i64] HN).Ok Tryz.prog := k0 [(217, [⟨0, 8, [], [], [], [], [.t 11 i64, .p 4 [.d AX], .p 2 [.d AX]], [(.ret, [.t 7 i64, .p 2 [.d AX], .x 4]), (.exit 0, [.p 4 [.d AX], .p 2 [.d AX]])]⟩])] (Ag N2 (Ag A3 (Ag C1 BM))) fun x => by kernel_rfl
theorem Uh : (A6.c0 166 [Cr, .str, i64, i64] [AW, i64] IL).Ok Tryz.prog := k0 [] (Ag UO (Ag Q2 (Ag TO BM))) fun x => by kernel_rfl
theorem Ui : (A6.c0 129 [Cr, .str, i64, i64] [AW, i64] IM).Ok Tryz.prog := k0 [] (Ag Uh BM) fun x => by kernel_rfl
theorem R2 : (A6.c0 263 [CD] [CD, i64, i64] GI).Ok Tryz.prog := k0 [(263, [⟨0, 5, [], [], [], [], [.p 0 [.d CD]], [(.exit 0, [.p 0 [.d CD]])]⟩])] (Ag B9 (Ag Gt BM)) fun x => by kernel_rfl
end Go.Proofs.YtieiiaiokpgfkaaGreat
namespace Go.Proofs.YtieiiaiokpgfkaaGreat
open Go Go.Ab Go.Pm
set_option maxRecDepth 100000
theorem UT : (A6.c0 264 [CD, i64] [CD, i64] H8).Ok Tryz.prog := k0 [(264, [⟨2, 10, [], [], [], [], [.x 0], [(.normal, [.p 0 [.d i64, .o 2, .d i64]])]⟩, ⟨2, 12, [], [], [], [], [.x 0], [(.normal, [.p 0 [.d i64, .o 2, .d i64]])]⟩])] (Ag B9 (Ag DU BM)) fun x => by kernel_rfl
theorem UW : (A6.c0 221 [AX] [AX, BK, .bool, i64] IB).Ok Tryz.prog := k0 [] (Ag A3 (Ag R2 (Ag Cs (Ag UT (Ag FZ BM))))) fun x => by kernel_rfl
theorem Ug : (A6.c0 169 [AW] [AW, i64] IK).Ok Tryz.prog := k0 [(169, [⟨0, 1, [], [], [], [], [.p 0 [.d AW], .p 1 [.d AW]], [(.ret, [.t 3 i64, .p 1 [.d AW], .x 0])]⟩])] (Ag UW (Ag Mu BM)) fun x => by kernel_rfl
theorem Vn : (A6.c0 222 [(.list i64), i64] [.bool] JV).Ok Tryz.prog := k0 [(222, [⟨0, 2, [], [], [], [], [.t 5 i64], [(.ret, [.t 4 .bool]), (.exit 0, [])]⟩])] BM fun x => by kernel_rfl
theorem UK : (A6.c0 170 [Cr, i64] [.str, i64] Hy).Ok Tryz.prog := k0 [] (Ag Ib (Ag Vn BM)) fun x => by kernel_rfl
theorem Sz : (A6.c0 286 [] [.str] Gy).Ok Tryz.prog := k0 [] (Ag Mo BM) fun x => by kernel_rfl
theorem Rv : (A6.c0 265 [.str] [BK, i64] GC).Ok Tryz.prog := k0 [(265, [⟨0, 14, [], [], [], [], [.t 7 i64, .p 1 [.d BK], .p 0 [.d BK]], [(.ret, [.t 3 i64, .p 0 [.d BK], .x 1]), (.exit 1, [.p 1 [.d BK], .p 0 [.d BK]])]⟩])] (Ag Sz (Ag CT (Ag Gs (Ag Ia BM)))) fun x => by kernel_rfl
theorem Vl : (A6.c0 266 [i64] [BK] JU).Ok Tryz.prog := k0 [] BM fun x => by kernel_rfl
theorem P3 : (A6.c0 223 [.str, i64] [BK, i64] FI).Ok Tryz.prog := k0 [] (Ag Rv (Ag Vl BM)) fun x => by kernel_rfl
theorem TC : (A6.c0 172 [B8, i64, i64, .str] [BK, i64] HA).Ok Tryz.prog := k0 [] (Ag DB (Ag P3 BM)) fun x => by kernel_rfl
theorem S7 : (A6.c0 290 [Ad, (.list Ad)] [(.list Ad)] G4).Ok Tryz.prog := k0 [] BM fun x => by kernel_rfl
theorem UQ : (A6.c0 287 [BL, i64, i64, i64] [(.list Ad), i64] H5).Ok Tryz.prog := k0 [(287, [⟨0, 7, [], [], [], [], [.t 10 (.list Ad), .t 11 i64], [(.ret, [.t 8 (.list Ad), .t 9 i64]), (.exit 0, [.t 10 (.list Ad), .t 11 i64])]⟩])] (Ag BO (Ag Dp (Ag CE (Ag S7 BM)))) fun x => by kernel_rfl
theorem TN : (A6.c0 267 [BL, BK, i64] [(.list Ad), i64] HM).Ok Tryz.prog := k0 [] (Ag BO (Ag D0 (Ag UQ BM))) fun x => by kernel_rfl
theorem Mp : (A6.c0 229 [BK, F7] [BK, i64] Ex).Ok Tryz.prog := k0 [] (Ag Mq BM) fun x => by kernel_rfl
theorem TM : (A6.c0 268 [BK, Ad] [BK, i64] HK).Ok Tryz.prog := k0 [] (Ag Br (Ag CE (Ag D0 (Ag Mp BM)))) fun x => by kernel_rfl
theorem Ue : (A6.c0 224 [BL, BK, i64] [BK, i64, i64] II).Ok Tryz.prog := k0 [(224, [⟨0, 5, [], [], [], [], [.t 11 i64, .p 1 [.d BK], .p 2 [.d BK]], [(.ret, [.t 7 i64, .t 8 i64, .p 2 [.d BK], .x 1]), (.exit 0, [.p 1 [.d BK], .p 2 [.d BK]])]⟩])] (Ag TN (Ag TM BM)) fun x => by kernel_rfl
theorem Ud : (A6.c0 173 [BL, BK, i64] [BK, i64] IH).Ok Tryz.prog := k0 [] (Ag Ue BM) fun x => by kernel_rfl
theorem R8 : (A6.c0 174 [AX, BK] [AX, i64] GO).Ok Tryz.prog := k0 [(174, [⟨2, 21, [], [], [], [], [.x 9], [(.normal, [.u 9 Ay, .g 10 9])]⟩, ⟨0, 18, [(10, Ay)], [], [], [], [.t 11 i64, .u 9 Ay, .g 10 9], [(.exit 1, [.u 9 Ay, .g 10 9])]⟩, ⟨2, 14, [], [], [], [], [.x 0, .x 3, .x 5, .x 6, .x 7], [(.normal, [.u 6 Mk, .p 0 [.d AX], .p 3 [.d i64, .o 6, .d i64], .p 5 [.d i64, .o 6, .d i64], .p 7 [.d i64, .o 6, .d i64]])]⟩])] (Ag A3 (Ag KK (Ag B9 (Ag D0 (Ag Fa (Ag DU BM)))))) fun x => by kernel_rfl
end Go.Proofs.YtieiiaiokpgfkaaGreat
namespace Go.Proofs.YtieiiaiokpgfkaaGreat
open Go Go.Ab Go.Pm
set_option maxRecDepth 100000
theorem Fb : (A6.c0 131 [AW, i64] [AW, i64] CY).Ok Tryz.prog := k0 [] (Ag A3 (Ag Cs (Ag Ug (Ag UK (Ag KK (Ag TC (Ag Ud (Ag R8 BM)))))))) fun x => by kernel_rfl
theorem Lu : (A6.c0 175 [AX, i64] [Aw, .bool] EV).Ok Tryz.prog := k0 [(175, [⟨2, 2, [], [], [], [], [.x 1], [(.ret, [.t 5 .bool, .p 1 [.d Aw]]), (.normal, [.p 1 [.d Aw]])]⟩])] (Ag A3 (Ag Bn BM)) fun x => by kernel_rfl
theorem Uf : (A6.c0 132 [AX] [(.list i64)] IJ).Ok Tryz.prog := k0 [(132, [⟨2, 7, [], [], [], [], [.x 1], [(.normal, [.u 1 i64, .g 3 1])]⟩, ⟨0, 3, [(3, i64)], [], [], [], [.t 4 i64, .u 1 i64, .g 3 1], [(.exit 0, [.u 1 i64, .g 3 1])]⟩])] (Ag Lu BM) fun x => by kernel_rfl
theorem En : (A6.c0 176 [AX, i64] [Aw, i64] Ck).Ok Tryz.prog := k0 [] (Ag A3 (Ag Bn BM)) fun x => by kernel_rfl
theorem KI : (A6.c0 227 [(.list Ap), i64, .bool, FC] [(.list Ap)] DH).Ok Tryz.prog := k0 [(227, [⟨2, 6, [], [], [], [], [.x 1], [(.normal, [.u 1 Ap, .g 9 1])]⟩, ⟨0, 3, [(9, Ap)], [], [], [], [.t 10 i64, .u 1 Ap, .g 9 1], [(.exit 0, [.u 1 Ap, .g 9 1])]⟩])] BM fun x => by kernel_rfl
theorem UR : (A6.c0 269 [Bd, i64] [.bool] H6).Ok Tryz.prog := k0 [(269, [⟨0, 2, [], [], [], [], [.t 5 i64], [(.ret, [.t 4 .bool]), (.exit 0, [])]⟩, ⟨0, 7, [], [], [], [], [.t 6 i64], [(.ret, [.t 4 .bool]), (.exit 2, [])]⟩])] (Ag Gc BM) fun x => by kernel_rfl
theorem US : (A6.c0 270 [(.list Ap), Ap] [(.list Ap)] H7).Ok Tryz.prog := k0 [(270, [⟨2, 7, [], [], [], [], [.x 1], [(.normal, [.t 6 .bool, .u 1 Ap, .g 5 1])]⟩, ⟨2, 10, [], [], [], [], [.x 1], [(.normal, [.u 1 Ap, .g 5 1])]⟩, ⟨0, 4, [(5, Ap)], [], [], [], [.t 6 .bool, .t 7 i64, .u 1 Ap, .g 5 1], [(.exit 0, [.t 6 .bool, .u 1 Ap, .g 5 1])]⟩, ⟨2, 12, [], [], [], [], [.x 1], [(.normal, [.u 1 Ap, .g 5 1])]⟩])] (Ag NP BM) fun x => by kernel_rfl
theorem FG : (A6.c0 226 [Bd] [Bd] CK).Ok Tryz.prog := k0 [(226, [⟨2, 5, [], [], [], [], [.x 0], [(.normal, [.t 3 i64, .p 0 [.d Bd]])]⟩, ⟨0, 2, [], [], [], [], [.t 3 i64, .p 0 [.d Bd]], [(.exit 0, [.p 0 [.d Bd]])]⟩])] (Ag UR (Ag US BM)) fun x => by kernel_rfl
theorem HU : (A6.c0 177 [Bd, i64] [Bd] DD).Ok Tryz.prog := k0 [] (Ag Ce (Ag KI (Ag FG BM))) fun x => by kernel_rfl
theorem UY : (A6.c0 178 [AX, i64] [Ad, .bool] D7).Ok Tryz.prog := k0 [] (Ag En (Ag Dp BM)) fun x => by kernel_rfl
theorem Qu : (A6.c0 228 [F7] [F7] Fe).Ok Tryz.prog := k0 [] BM fun x => by kernel_rfl
theorem R1 : (A6.c0 271 [CD, BK] [CD, i64] GH).Ok Tryz.prog := k0 [(271, [⟨2, 13, [], [], [], [], [.x 3], [(.normal, [.p 3 [.d Mk]])]⟩])] (Ag B9 (Ag D0 (Ag DU (Ag Gt BM)))) fun x => by kernel_rfl
theorem N4 : (A6.c0 230 [AX, Ad] [AX, i64] F6).Ok Tryz.prog := k0 [] (Ag C1 (Ag Ev (Ag R1 BM))) fun x => by kernel_rfl
end Go.Proofs.YtieiiaiokpgfkaaGreat
namespace Go.Proofs.YtieiiaiokpgfkaaGreat
open Go Go.Ab Go.Pm
set_option maxRecDepth 100000
theorem WL : (A6.c0 272 [AX, Aw, FC, i64] [Ad, .bool] Ka).Ok Tryz.prog := k0 [(272, [⟨0, 2, [], [], [], [], [.t 10 i64, .p 3 [.d Ad]], [(.ret, [.t 9 .bool, .p 3 [.d Ad]]), (.exit 0, [.p 3 [.d Ad]])]⟩])] (Ag Dp BM) fun x => by kernel_rfl
theorem Lt : (A6.c0 231 [AX, i64, FC] [Ad, .bool] EU).Ok Tryz.prog := k0 [] (Ag En (Ag WL BM)) fun x => by kernel_rfl
theorem NO : (A6.c0 232 [Bd, i64, FC] [Bd] FO).Ok Tryz.prog := k0 [] (Ag Ce (Ag KI (Ag FG BM))) fun x => by kernel_rfl
theorem NV : (A6.c0 179 [AX, Aw, Ad] [AX, Bb] DM).Ok Tryz.prog := k0 [(179, [⟨2, 15, [], [], [], [], [.x 8], [(.normal, [.p 8 [.d AX]])]⟩, ⟨2, 12, [], [], [], [], [.x 8], [(.normal, [.p 8 [.d AX]])]⟩])] (Ag Ev (Ag Qu (Ag Mp (Ag BU (Ag N4 (Ag Lt (Ag NO BM))))))) fun x => by kernel_rfl
theorem NU : (A6.c0 133 [AX, i64] [AX, Bb] FV).Ok Tryz.prog := k0 [] (Ag En (Ag BU (Ag C1 (Ag HU (Ag UY (Ag NV BM)))))) fun x => by kernel_rfl
theorem Uj : (A6.c0 107 [AW] [AW, .bool, i64] IN).Ok Tryz.prog := k0 [(107, [⟨0, 9, [], [], [], [], [.p 0 [.d AW], .p 1 [.d AW]], [(.ret, [.t 3 .bool, .t 4 i64, .p 1 [.d AW], .x 0])]⟩])] (Ag A3 (Ag Fb (Ag Uf (Ag NU BM)))) fun x => by kernel_rfl
theorem R7 : (A6.c0 273 [AX, Ca] [i64] GN).Ok Tryz.prog := k0 [(273, [⟨2, 6, [], [], [], [], [], [(.normal, [.t 11 .bool])]⟩, ⟨2, 5, [], [], [], [], [], [(.normal, [.t 11 .bool])]⟩, ⟨2, 11, [], [], [], [], [.x 2], [(.normal, [.p 2 [.d Ca]])]⟩, ⟨2, 18, [], [], [], [], [], [(.normal, [.t 60 .bool])]⟩, ⟨2, 17, [], [], [], [], [], [(.normal, [.t 60 .bool])]⟩, ⟨2, 13, [], [], [], [], [.x 2], [(.ret, [.t 4 i64, .x 2]), (.normal, [.p 2 [.d Ca]])]⟩, ⟨2, 7, [], [], [], [], [.x 2], [(.ret, [.t 4 i64, .x 2]), (.normal, [.p 2 [.d Ca]])]⟩])] BM fun x => by kernel_rfl
theorem Em : (A6.c0 193 [Bd, i64] [Ap, .bool] Cj).Ok Tryz.prog := k0 [(193, [⟨0, 3, [], [], [], [], [.t 6 i64, .p 1 [.d Ap]], [(.ret, [.t 5 .bool, .p 1 [.d Ap]]), (.exit 0, [.p 1 [.d Ap]])]⟩, ⟨2, 2, [], [], [], [], [.x 1], [(.ret, [.t 5 .bool, .p 1 [.d Ap]]), (.normal, [.p 1 [.d Ap]])]⟩])] (Ag Ce BM) fun x => by kernel_rfl
theorem NT : (A6.c0 239 [i64, Ca] [Ap, .bool] FU).Ok Tryz.prog := k0 [(239, [⟨2, 7, [], [], [], [], [], [(.normal, [.t 20 .bool])]⟩])] BM fun x => by kernel_rfl
theorem Q1 : (A6.c0 234 [AX, i64, Ca] [i64] Fp).Ok Tryz.prog := k0 [] (Ag A3 (Ag Bn (Ag R7 (Ag Em (Ag NT BM))))) fun x => by kernel_rfl
theorem SB : (A6.c0 235 [AX, i64] [AX, Bb] GQ).Ok Tryz.prog := k0 [(235, [⟨2, 3, [], [], [], [], [.x 1, .x 2, .x 3], [(.normal, [.p 3 [.d AX], .p 1 [.d AX], .p 2 [.d Bb]]), (.ret, [.p 1 [.d AX], .p 2 [.d Bb], .x 3])]⟩])] (Ag Bn (Ag Ic (Ag C1 (Ag BU (Ag FZ (Ag HU BM)))))) fun x => by kernel_rfl
theorem Rz : (A6.c0 274 [Bd, i64] [Bd] GF).Ok Tryz.prog := k0 [] (Ag Ce (Ag KI (Ag FG BM))) fun x => by kernel_rfl
theorem Qz : (A6.c0 275 [AX, i64, FC] [.bool] Fo).Ok Tryz.prog := k0 [(275, [⟨0, 3, [], [], [], [], [.t 8 i64], [(.ret, [.t 6 .bool]), (.exit 0, [])]⟩])] (Ag Bn (Ag Dp BM)) fun x => by kernel_rfl
end Go.Proofs.YtieiiaiokpgfkaaGreat
namespace Go.Proofs.YtieiiaiokpgfkaaGreat
open Go Go.Ab Go.Pm
set_option maxRecDepth 100000
theorem TH : (A6.c0 236 [AX, i64, i64] [AX, Bb] E3).Ok Tryz.prog := k0 [(236, [⟨2, 15, [], [], [], [], [.x 3], [(.normal, [.p 3 [.d AX]])]⟩, ⟨0, 12, [], [], [], [], [.t 12 i64, .p 3 [.d AX]], [(.exit 0, [.p 3 [.d AX]])]⟩])] (Ag Rz (Ag Bn (Ag Ic (Ag HU (Ag C1 (Ag BU (Ag Qz (Ag NO BM)))))))) fun x => by kernel_rfl
theorem Lr : (A6.c0 276 [(.list Aw), i64] [i64, i64] EQ).Ok Tryz.prog := k0 [] (Ag Cf (Ag F9 BM)) fun x => by kernel_rfl
theorem UV : (A6.c0 237 [(.list Aw), i64] [(.list Aw), i64] IA).Ok Tryz.prog := k0 [] (Ag Lr (Ag Kz BM)) fun x => by kernel_rfl
theorem UU : (A6.c0 238 [(.list Aw), i64, i64] [(.list Aw), i64] H9).Ok Tryz.prog := k0 [] (Ag Lr (Ag Ls (Ag Kz BM))) fun x => by kernel_rfl
theorem S8 : (A6.c0 277 [Bd, Ap] [i64] E0).Ok Tryz.prog := k0 [(277, [⟨0, 4, [], [], [], [], [.t 5 i64], [(.ret, [.t 4 i64]), (.exit 0, [])]⟩])] (Ag KJ BM) fun x => by kernel_rfl
theorem Qv : (A6.c0 240 [Bd, Ap] [Bd, .bool, i64] Fh).Ok Tryz.prog := k0 [] (Ag Ce (Ag Mr (Ag Em (Ag KJ (Ag S8 (Ag FG BM)))))) fun x => by kernel_rfl
theorem Vp : (A6.c0 278 [CD, i64] [CD] JX).Ok Tryz.prog := k0 [] (Ag Cs (Ag Gt BM)) fun x => by kernel_rfl
theorem R9 : (A6.c0 241 [AX, i64, Ca] [AX, Bb] GP).Ok Tryz.prog := k0 [(241, [⟨2, 9, [], [], [], [], [.x 5], [(.normal, [.p 5 [.d F7]])]⟩])] (Ag Ev (Ag Vp (Ag N4 (Ag BU BM)))) fun x => by kernel_rfl
theorem NQ : (A6.c0 245 [(.list i64), i64] [(.list i64)] D4).Ok Tryz.prog := k0 [(245, [⟨2, 7, [], [], [], [], [.x 0], [(.normal, [.t 6 .bool, .u 0 i64, .g 5 0])]⟩, ⟨2, 10, [], [], [], [], [.x 0], [(.normal, [.u 0 i64, .g 5 0])]⟩, ⟨0, 4, [(5, i64)], [], [], [], [.t 6 .bool, .t 7 i64, .u 0 i64, .g 5 0], [(.exit 0, [.t 6 .bool, .u 0 i64, .g 5 0])]⟩, ⟨2, 12, [], [], [], [], [.x 0], [(.normal, [.u 0 i64, .g 5 0])]⟩])] BM fun x => by kernel_rfl
theorem Qw : (A6.c0 279 [Bd] [(.list i64)] Fi).Ok Tryz.prog := k0 [(279, [⟨0, 4, [], [], [], [], [.t 3 (.list i64), .t 4 i64], [(.exit 0, [.t 3 (.list i64)])]⟩, ⟨2, 3, [], [], [], [], [], [(.normal, [.t 3 (.list i64)])]⟩])] (Ag Ce (Ag NQ BM)) fun x => by kernel_rfl
theorem Ky : (A6.c0 194 [Bd, i64] [(.list i64)] Eg).Ok Tryz.prog := k0 [(194, [⟨2, 9, [], [], [], [], [], [(.normal, [.t 7 (.list i64)])]⟩, ⟨0, 6, [], [], [], [], [.t 7 (.list i64), .t 8 i64], [(.exit 0, [.t 7 (.list i64)])]⟩, ⟨2, 14, [], [], [], [], [], [(.normal, [.t 7 (.list i64)])]⟩, ⟨0, 11, [], [], [], [], [.t 7 (.list i64), .t 9 i64], [(.exit 2, [.t 7 (.list i64)])]⟩])] (Ag Em (Ag Gc (Ag NQ BM))) fun x => by kernel_rfl
theorem R0 : (A6.c0 280 [Bd, (.list i64), i64] [(.list i64)] KW).Ok Tryz.prog := iS (P := Tryz.prog) (F := 280) (ds := [Bd, (.list i64), i64]) (rs := [(.list i64)]) (f := CO) (hs := ao [(280, [⟨0, 4, [], [], [], [], [.t 30 i64], [(.ret, [.t 6 (.list i64)]), (.exit 0, [])]⟩, ⟨0, 15, [], [], [], [], [.t 12 .bool, .t 49 i64], [(.exit 4, [.t 12 .bool])]⟩, ⟨0, 11, [], [], [], [], [.t 43 i64], [(.ret, [.t 6 (.list i64)]), (.exit 2, [])]⟩])]) (n := 13) (Ag Ky BM) (fun g x => by kernel_rfl)
end Go.Proofs.YtieiiaiokpgfkaaGreat
namespace Go.Proofs.YtieiiaiokpgfkaaGreat
open Go Go.Ab Go.Pm
set_option maxRecDepth 100000
theorem S9 : (A6.c0 242 [Bd, i64] [(.list i64)] G5).Ok Tryz.prog := k0 [(242, [⟨0, 2, [], [], [], [], [.t 5 i64], [(.ret, [.t 4 (.list i64)]), (.exit 0, [])]⟩])] (Ag Qw (Ag R0 BM)) fun x => by kernel_rfl
theorem TG : (A6.c0 281 [(.list i64)] [i64] HG).Ok Tryz.prog := k0 [] BM fun x => by kernel_rfl
theorem Vs : (A6.c0 243 [AX, i64] [i64] JZ).Ok Tryz.prog := k0 [] (Ag Ky (Ag TG BM)) fun x => by kernel_rfl
theorem WK : (A6.c0 190 [AX, i64, Ca] [AX, Bb] KZ).Ok Tryz.prog := k0 [(190, [⟨2, 10, [], [], [], [], [], [(.normal, [.t 46 .bool])]⟩, ⟨2, 13, [], [], [], [], [], [(.normal, [.t 9 (.list Aw), .t 10 i64])]⟩])] (Ag Q1 (Ag BU (Ag SB (Ag TH (Ag UV (Ag UU (Ag NT (Ag Qv (Ag R9 (Ag S9 (Ag Vs BM))))))))))) fun x => by kernel_rfl
theorem LU : (A6.c0 191 [AW, i64] [.bool] CC).Ok Tryz.prog := k0 [] (Ag Bn BM) fun x => by kernel_rfl
theorem P4 : (A6.c0 192 [AW, i64] [AW, i64] CP).Ok Tryz.prog := k0 [(192, [⟨2, 12, [], [], [], [], [.x 0, .x 1], [(.ret, [.t 5 i64, .p 1 [.d AW], .x 0]), (.normal, [.p 0 [.d AW], .p 1 [.d AW]])]⟩, ⟨0, 5, [], [], [], [], [.p 0 [.d AW], .p 1 [.d AW]], [(.ret, [.t 5 i64, .p 1 [.d AW], .x 0]), (.exit 0, [.p 0 [.d AW], .p 1 [.d AW]])]⟩])] (Ag A3 (Ag Bn (Ag LU (Ag NU (Ag Fb BM))))) fun x => by kernel_rfl
theorem WN : (A6.c0 151 [AW, i64, Ca] [AW, Bb] Kc).Ok Tryz.prog := k0 [(151, [⟨2, 10, [], [], [], [], [.x 0, .x 2, .x 3], [(.ret, [.p 2 [.d AW], .p 3 [.d Bb], .x 0]), (.normal, [.p 0 [.d AW], .p 2 [.d AW], .p 3 [.d Bb]])]⟩, ⟨0, 1, [], [], [], [], [.p 0 [.d AW], .p 2 [.d AW], .p 3 [.d Bb]], [(.ret, [.p 2 [.d AW], .p 3 [.d Bb], .x 0])]⟩])] (Ag WK (Ag Fb (Ag BU (Ag LU (Ag P4 BM))))) fun x => by kernel_rfl
theorem Q3 : (A6.c0 152 [AX, i64] [i64, FC, .bool] Fr).Ok Tryz.prog := k0 [(152, [⟨0, 5, [], [], [], [], [.t 28 i64, .p 1 [.d FC]], [(.ret, [.t 4 i64, .t 6 .bool, .p 1 [.d FC]]), (.exit 0, [.p 1 [.d FC]])]⟩])] (Ag Em (Ag Ky (Ag Lu BM))) fun x => by kernel_rfl
theorem UX : (A6.c0 195 [AX, i64, FC] [AX, Bb] IC).Ok Tryz.prog := k0 [] (Ag En (Ag BU (Ag Lt (Ag NV BM)))) fun x => by kernel_rfl
theorem Uk : (A6.c0 153 [AW, i64, FC] [AW, i64, i64] IP).Ok Tryz.prog := k0 [(153, [⟨2, 8, [], [], [], [], [.x 0, .x 2], [(.ret, [.t 7 i64, .t 8 i64, .p 2 [.d AW], .x 0]), (.normal, [.t 9 i64, .p 0 [.d AW], .p 2 [.d AW]])]⟩, ⟨0, 2, [], [], [], [], [.t 9 i64, .p 0 [.d AW], .p 2 [.d AW]], [(.ret, [.t 7 i64, .t 8 i64, .p 2 [.d AW], .x 0])]⟩])] (Ag UX (Ag Fb BM)) fun x => by kernel_rfl
end Go.Proofs.YtieiiaiokpgfkaaGreat
namespace Go.Proofs.YtieiiaiokpgfkaaGreat
open Go Go.Ab Go.Pm
set_option maxRecDepth 100000
theorem WO : (A6.c0 123 [AW, i64, Ca] [AW, Bb] Ke).Ok Tryz.prog := k0 [(123, [⟨0, 1, [], [], [], [], [.p 0 [.d AW], .p 2 [.d AW], .p 3 [.d Bb]], [(.ret, [.p 2 [.d AW], .p 3 [.d Bb], .x 0])]⟩])] (Ag WN (Ag Q3 (Ag Uk (Ag BU BM)))) fun x => by kernel_rfl
theorem Vv : (A6.c0 49 [AW, (.list MX)] [AW, (.list Bb), (.list Px)] Jc).Ok Tryz.prog := k0 [(49, [⟨0, 4, [(8, Bb)], [(2, 18, i64), (2, 19, Px)], [], [], [.t 9 i64, .u 3 Bb, .u 4 i64, .u 5 Px, .g 8 3, .p 2 [.d AW, .o 4, .o 5, .d .bool]], [(.exit 0, [.u 3 Bb, .u 4 i64, .u 5 Px, .g 8 3, .p 2 [.d AW, .o 4, .o 5, .d .bool]])]⟩]), (74, [⟨2, 5, [], [], [], [], [.x 2, .x 4], [(.normal, [.u 4 i64, .p 2 [.d AW, .o 4, .o 5, .d .bool]])]⟩, ⟨2, 19, [], [], [], [], [.x 2], [(.normal, [.p 2 [.d AW, .o 4, .o 5, .d .bool]])]⟩]), (101, [⟨2, 2, [], [], [], [], [.x 2], [(.normal, [.p 2 [.d AW, .o 4, .o 5, .d .bool]])]⟩]), (102, [⟨2, 9, [], [], [], [], [.x 2, .x 5], [(.normal, [.u 5 Px, .p 2 [.d AW, .o 4, .o 5, .d .bool]])]⟩]), (106, [⟨0, 4, [], [], [], [], [.t 9 i64, .u 4 i64, .p 2 [.d AW, .o 4, .o 5, .d .bool]], [(.exit 0, [.u 4 i64, .p 2 [.d AW, .o 4, .o 5, .d .bool]])]⟩])] (Ag TQ (Ag SF (Ag BU (Ag TS (Ag O1 (Ag F8 (Ag FY (Ag TR (Ag Ui (Ag Uj (Ag WO BM))))))))))) fun x => by kernel_rfl
theorem OM : (A6.c1 36 0 Ae [i64, .bool] [AW] Dy).Ok Tryz.prog := k1 [] (Ag BE (Ag Vu (Ag Ns (Ag Vv BM)))) fun b x => by kernel_rfl
theorem Od : (A6.c1 20 0 Ae [i64, .bool] [AX] EC).Ok Tryz.prog := k1 [] (Ag OM BM) fun b x => by kernel_rfl
theorem WJ : (A6.c1 11 0 Ae [i64] [i64, BL] FE).Ok Tryz.prog := k1 [] (Ag Od (Ag F8 (Ag FY BM))) fun b x => by kernel_rfl
theorem Sx : (A6.c1 23 0 Ae [i64] [(.list i64)] Gw).Ok Tryz.prog := k1 [(23, [⟨2, 6, [], [], [], [], [.x 1], [(.normal, [.u 1 i64, .g 5 1])]⟩, ⟨0, 3, [], [], [], [], [.t 6 i64, .u 1 i64, .g 5 1, .p 0 [.d Ae]], [(.exit 0, [.u 1 i64, .g 5 1, .p 0 [.d Ae]])]⟩])] (Ag BE BM) fun b x => by kernel_rfl
end Go.Proofs.YtieiiaiokpgfkaaGreat
namespace Go.Proofs.YtieiiaiokpgfkaaGreat
open Go Go.Ab Go.Pm
set_option maxRecDepth 100000
theorem Jj : (A6.c0 37 [Ai] [.bool] CZ).Ok Tryz.prog := k0 [(37, [⟨0, 5, [], [], [], [], [.t 3 i64, .t 4 i64], [(.ret, [.t 2 .bool]), (.exit 0, [])]⟩])] (Ag Lx BM) fun x => by kernel_rfl
theorem Mv : (A6.c0 38 [Ai, i64] [i64, i64] E6).Ok Tryz.prog := k0 [(38, [⟨2, 3, [], [], [], [], [], [(.normal, [.t 5 i64])]⟩])] BM fun x => by kernel_rfl
theorem LW : (A6.c0 51 [i64, i64, i64, i64, i64] [.bool] D9).Ok Tryz.prog := k0 [] BM fun x => by kernel_rfl
theorem LV : (A6.c0 76 [Ad, Ad] [i64] DF).Ok Tryz.prog := k0 [] BM fun x => by kernel_rfl
theorem Lw : (A6.c0 53 [(.list Ad), Ad] [(.list Ad), .bool] Dc).Ok Tryz.prog := k0 [(53, [⟨0, 2, [], [], [], [], [.t 6 i64], [(.exit 0, [.t 6 i64])]⟩])] (Ag LV BM) fun x => by kernel_rfl
theorem Fc : (A6.c0 54 [Az] [.bool] C7).Ok Tryz.prog := k0 [(54, [⟨2, 12, [], [], [], [], [], [(.ret, [.t 2 .bool]), (.normal, [])]⟩, ⟨0, 4, [], [], [], [], [.t 3 i64], [(.ret, [.t 2 .bool]), (.exit 0, [])]⟩])] (Ag LW (Ag Br (Ag CE (Ag LV BM)))) fun x => by kernel_rfl
theorem Um : (A6.c0 39 [(.list Ad), i64, i64, i64, i64, i64] [Az, i64] IR).Ok Tryz.prog := k0 [(39, [⟨0, 4, [], [], [], [], [.t 14 i64, .p 0 [.d Az]], [(.ret, [.t 13 i64, .p 0 [.d Az]]), (.exit 0, [.p 0 [.d Az]])]⟩, ⟨0, 16, [], [], [], [], [.t 16 .bool, .t 19 i64], [(.exit 4, [.t 16 .bool])]⟩, ⟨0, 11, [], [], [], [], [.t 16 .bool, .t 17 i64, .p 1 [.d Az]], [(.exit 2, [.t 16 .bool, .p 1 [.d Az]])]⟩])] (Ag LW (Ag Br (Ag CE (Ag Lw (Ag Fc BM))))) fun x => by kernel_rfl
end Go.Proofs.YtieiiaiokpgfkaaGreat
namespace Go.Proofs.YtieiiaiokpgfkaaGreat
open Go Go.Ab Go.Pm
set_option maxRecDepth 100000
theorem Ul : (A6.c0 56 [Az] [.str] IQ).Ok Tryz.prog := k0 [] (Ag Bt BM) fun x => by kernel_rfl
theorem Lv : (A6.c0 40 [Az] [.str, i64] EX).Ok Tryz.prog := k0 [(40, [⟨0, 5, [], [], [], [], [.t 4 .str, .t 5 i64], [(.exit 0, [.t 4 .str])]⟩])] (Ag Fc (Ag Ul (Ag Jh (Ag Lq BM)))) fun x => by kernel_rfl
theorem Un : (A6.c0 24 [Ai, BL, i64] [Ai, i64] EA).Ok Tryz.prog := k0 [(24, [⟨0, 15, [], [], [], [], [.t 11 i64, .p 2 [.d Ai]], [(.ret, [.t 7 i64, .p 2 [.d Ai]]), (.exit 0, [.p 2 [.d Ai]])]⟩, ⟨0, 22, [], [], [], [], [.t 13 i64, .u 4 Gb, .p 3 [.d (.list i64), .d i64, .o 4, .d i64, .d i64], .p 2 [.d Ai]], [(.ret, [.t 7 i64, .p 2 [.d Ai], .x 3, .x 4]), (.exit 2, [.u 4 Gb, .p 3 [.d (.list i64), .d i64, .o 4, .d i64, .d i64], .p 2 [.d Ai]])]⟩])] (Ag Jj (Ag BO (Ag Mv (Ag Um (Ag Lv BM))))) fun x => by kernel_rfl
theorem SH : (A6.c0 137 [.str, i64, i64] [i64] Bq).Ok Tryz.prog := k0 [] (Ag CT BM) fun x => by kernel_rfl
theorem SG : (A6.c0 110 [.str] [Az, i64] GU).Ok Tryz.prog := k0 [(110, [⟨0, 11, [], [(1, 5, Ad)], [], [], [.t 5 i64, .t 9 i64, .u 2 Ad, .p 1 [.d i64, .d i64, .d i64, .d i64, .d i64, .o 2], .p 0 [.d Az]], [(.ret, [.t 3 i64, .p 0 [.d Az], .x 1, .x 2]), (.exit 0, [.t 5 i64, .u 2 Ad, .p 1 [.d i64, .d i64, .d i64, .d i64, .d i64, .o 2], .p 0 [.d Az]])]⟩])] (Ag LQ (Ag SH (Ag Lp (Ag Fc BM)))) fun x => by kernel_rfl
theorem PR : (A6.c0 111 [Ai, Az] [i64] Eu).Ok Tryz.prog := k0 [(111, [⟨0, 2, [], [], [], [], [.t 5 i64], [(.ret, [.t 4 i64]), (.exit 0, [])]⟩])] (Ag Mv BM) fun x => by kernel_rfl
theorem SI : (A6.c0 80 [Ai, Gb] [Az, i64] GV).Ok Tryz.prog := k0 [] (Ag SG (Ag PR BM)) fun x => by kernel_rfl
theorem Q4 : (A6.c0 81 [Az, i64] [Az] Fu).Ok Tryz.prog := k0 [(81, [⟨2, 8, [], [], [], [], [.x 2, .x 3], [(.normal, [.u 3 Ad, .p 2 [.d i64, .d i64, .d i64, .d i64, .d i64, .o 3]])]⟩, ⟨0, 5, [], [(2, 5, Ad)], [], [], [.t 6 i64, .u 3 Ad, .p 2 [.d i64, .d i64, .d i64, .d i64, .d i64, .o 3]], [(.exit 0, [.u 3 Ad, .p 2 [.d i64, .d i64, .d i64, .d i64, .d i64, .o 3]])]⟩])] BM fun x => by kernel_rfl
theorem TT : (A6.c0 58 [Ai] [(.list Az), (.list i64), (.list .bool)] HS).Ok Tryz.prog := k0 [(58, [⟨0, 14, [], [], [], [], [.t 11 i64], [(.exit 4, [.t 11 i64])]⟩, ⟨0, 9, [], [], [], [], [.t 6 (.list Az), .t 7 (.list i64), .t 8 i64], [(.exit 2, [.t 6 (.list Az), .t 7 (.list i64)])]⟩, ⟨0, 20, [], [], [], [], [.t 12 i64, .t 13 i64, .u 1 Az, .u 2 i64, .u 3 .bool, .g 2 1, .g 3 2, .g 4 3], [(.exit 6, [.u 1 Az, .u 2 i64, .u 3 .bool, .g 2 1, .g 3 2, .g 4 3])]⟩, ⟨0, 4, [(2, Az), (3, i64), (4, .bool)], [], [], [], [.t 5 i64, .u 1 Az, .u 2 i64, .u 3 .bool, .g 2 1, .g 3 2, .g 4 3], [(.exit 0, [.u 1 Az, .u 2 i64, .u 3 .bool, .g 2 1, .g 3 2, .g 4 3])]⟩])] (Ag Jj (Ag SI (Ag Q4 BM))) fun x => by kernel_rfl
theorem TU : (A6.c0 59 [(.list Az), (.list .bool)] [Az, .bool] HT).Ok Tryz.prog := k0 [(59, [⟨0, 8, [], [], [], [], [.t 8 i64, .p 1 [.d Az]], [(.exit 2, [.p 1 [.d Az]])]⟩, ⟨0, 3, [], [], [], [], [.t 7 i64, .p 1 [.d Az], .p 0 [.d Az]], [(.ret, [.t 5 .bool, .p 0 [.d Az], .x 1]), (.exit 0, [.p 1 [.d Az], .p 0 [.d Az]])]⟩])] (Ag Lw (Ag Fc BM)) fun x => by kernel_rfl
end Go.Proofs.YtieiiaiokpgfkaaGreat
namespace Go.Proofs.YtieiiaiokpgfkaaGreat
open Go Go.Ab Go.Pm
set_option maxRecDepth 100000
theorem Uo : (A6.c0 41 [Ai, i64] [Ai, .bool, i64] Co).Ok Tryz.prog := k0 [(41, [⟨0, 20, [], [], [], [], [.t 15 .bool, .t 16 i64], [(.exit 4, [.t 15 .bool])]⟩, ⟨2, 24, [], [], [], [], [.x 3, .x 4], [(.normal, [.u 4 Gb, .p 3 [.d (.list i64), .d i64, .o 4, .d i64, .d i64]])]⟩, ⟨0, 16, [], [(3, 2, Gb)], [], [], [.t 14 i64, .u 4 Gb, .p 3 [.d (.list i64), .d i64, .o 4, .d i64, .d i64]], [(.exit 2, [.u 4 Gb, .p 3 [.d (.list i64), .d i64, .o 4, .d i64, .d i64]])]⟩, ⟨0, 7, [], [], [], [], [.t 10 i64, .p 1 [.d Ai]], [(.ret, [.t 5 .bool, .t 6 i64, .p 1 [.d Ai]]), (.exit 0, [.p 1 [.d Ai]])]⟩])] (Ag Jj (Ag TT (Ag TU (Ag Lv BM)))) fun x => by kernel_rfl
theorem Up : (A6.c0 25 [Ai, i64] [Ai, i64] FW).Ok Tryz.prog := k0 [(25, [⟨0, 1, [], [], [], [], [.p 0 [.d Ai], .p 1 [.d Ai]], [(.ret, [.t 5 i64, .p 1 [.d Ai], .x 0])]⟩])] (Ag Uo BM) fun x => by kernel_rfl
theorem Ru : (A6.c1 12 0 Ae [i64, BL] [Ai] GA).Ok Tryz.prog := k1 [(12, [⟨2, 7, [], [], [], [], [.x 3], [(.normal, [.p 3 [.d Ai]])]⟩, ⟨2, 11, [], [], [], [], [.x 3], [(.normal, [.p 3 [.d Ai]])]⟩, ⟨2, 9, [], [], [], [], [.x 0, .x 3], [(.normal, [.p 0 [.d Ae], .p 3 [.d Ai]])]⟩, ⟨0, 3, [], [], [], [], [.t 9 i64, .p 0 [.d Ae], .p 3 [.d Ai]], [(.exit 0, [.p 0 [.d Ae], .p 3 [.d Ai]])]⟩, ⟨2, 15, [], [], [], [], [.x 3], [(.normal, [.p 3 [.d Ai]])]⟩, ⟨2, 13, [], [], [], [], [.x 3], [(.normal, [.p 3 [.d Ai]])]⟩])] (Ag Sx (Ag N5 (Ag BE (Ag Un (Ag Up BM))))) fun b x => by kernel_rfl
theorem Vo : (A6.c0 14 [BL, i64] [BL, i64] JW).Ok Tryz.prog := k0 [] (Ag BO (Ag DT BM)) fun x => by kernel_rfl
theorem Oe : (A6.c1 28 0 Ae [.str] [.str] ED).Ok Tryz.prog := k1 [] (Ag BE BM) fun b x => by kernel_rfl
theorem Sy : (A6.c1 15 0 Ae [(.list Gb)] [(.list Gb)] Gx).Ok Tryz.prog := k1 [] (Ag BE (Ag Oe BM)) fun b x => by kernel_rfl
theorem MZ : (A6.c0 185 [.str, .str] [.bool] EL).Ok Tryz.prog := k0 [] BM fun x => by kernel_rfl
theorem Vw : (A6.c0 141 [.str, .str] [.bool] Jd).Ok Tryz.prog := k0 [] (Ag MZ BM) fun x => by kernel_rfl
end Go.Proofs.YtieiiaiokpgfkaaGreat
namespace Go.Proofs.YtieiiaiokpgfkaaGreat
open Go Go.Ab Go.Pm
set_option maxRecDepth 100000
theorem Rc : (A6.c0 93 [i64] [.bool] Fw).Ok Tryz.prog := k0 [] BM fun x => by kernel_rfl
theorem PG : (A6.c0 70 [i64, i64] [i64] Dk).Ok Tryz.prog := k0 [] (Ag Rc BM) fun x => by kernel_rfl
theorem WG : (A6.c0 69 [(.list i64)] [i64] NZ).Ok Tryz.prog := k0 [(69, [⟨0, 3, [], [], [], [], [.t 8 i64], [(.ret, [.t 2 i64]), (.exit 0, [])]⟩])] BM fun x => by kernel_rfl
theorem PF : (A6.c0 68 [Ak, Ak] [i64] EJ).Ok Tryz.prog := k0 [] (Ag PG (Ag WG BM)) fun x => by kernel_rfl
theorem KM : (A6.c2 187 Ak [i64, i64, i64] [] [.fn (.func 68) [] []] BT).Ok Tryz.prog := W8 (hs := ao [(187, [⟨0, 1, [], [], [], [], [.t 10 i64, .u 0 Ak, .g 0 0], [(.exit 0, [.u 0 Ak])]⟩])]) (n := 13) BM (fun l x => by kernel_rfl)
theorem K7 : (A6.c2 149 Ak [i64, i64, i64] [] [.fn (.func 68) [] []] CR).Ok Tryz.prog := W8 (hs := ao [(149, [⟨0, 2, [], [], [], [], [.t 10 i64, .t 11 i64, .u 0 Ak, .g 0 0], [(.exit 0, [.t 10 i64, .u 0 Ak, .g 0 0])]⟩])]) (n := 13) (Ag KM BM) (fun l x => by kernel_rfl)
theorem Id : (A6.c2 119 Ak [i64, i64] [] [.fn (.func 68) [] []] BZ).Ok Tryz.prog := W8 (hs := ao [(119, [⟨0, 1, [], [], [], [], [.t 8 i64, .u 0 Ak, .g 0 0], [(.exit 0, [.u 0 Ak])]⟩, ⟨0, 4, [], [], [], [], [.t 9 i64, .u 0 Ak, .g 0 0], [(.exit 2, [.u 0 Ak, .g 0 0])]⟩])]) (n := 13) (Ag PF BM) (fun l x => by kernel_rfl)
theorem Km : (A6.c2 120 Ak [i64, i64, i64] [] [.fn (.func 68) [] []] Bk).Ok Tryz.prog := gP (P := Tryz.prog) (F := 120) (te := Ak) (ds := [i64, i64, i64]) (rs := []) (post := [.fn (.func 68) [] []]) (f := fun g p => BP g p.1 p.2) (hs := ao [(120, [⟨0, 3, [], [], [], [], [.t 10 i64, .t 11 i64], [(.exit 0, [.t 10 i64])]⟩, ⟨0, 9, [], [], [], [], [.t 13 i64, .u 0 Ak, .g 0 0], [(.exit 2, [.u 0 Ak])]⟩, ⟨0, 15, [], [], [], [], [.t 14 i64, .t 15 i64], [(.exit 4, [.t 14 i64])]⟩, ⟨0, 21, [], [], [], [], [.t 17 i64, .u 0 Ak, .g 0 0], [(.exit 6, [.u 0 Ak])]⟩, ⟨0, 33, [], [], [], [], [.t 20 i64, .t 21 i64], [(.exit 8, [.t 20 i64])]⟩, ⟨2, 28, [], [], [], [], [], [(.normal, [.t 20 i64, .t 21 i64])]⟩, ⟨2, 40, [], [], [], [], [.x 0], [(.normal, [.u 0 Ak, .g 0 0])]⟩, ⟨2, 42, [], [], [], [], [.x 0], [(.normal, [.u 0 Ak, .g 0 0])]⟩, ⟨2, 44, [], [], [], [], [.x 0], [(.normal, [.u 0 Ak])]⟩])]) (n := 13) (Ag PF (Ag K7 BM)) (fun g l x => by kernel_rfl)
theorem K8 : (A6.c2 92 Ak [i64] [] [.fn (.func 68) [] []] CS).Ok Tryz.prog := W8 (hs := ao [(92, [⟨0, 2, [], [], [], [], [.t 7 i64, .t 8 i64, .u 0 Ak, .g 0 0], [(.exit 0, [.t 7 i64, .u 0 Ak, .g 0 0])]⟩, ⟨0, 7, [], [], [], [], [.t 6 i64, .u 0 Ak, .g 0 0], [(.exit 2, [.u 0 Ak])]⟩, ⟨0, 9, [], [], [], [], [.t 7 i64, .t 8 i64, .u 0 Ak, .g 0 0], [(.exit 4, [.t 7 i64, .u 0 Ak, .g 0 0])]⟩])]) (n := 13) (Ag Id (Ag Km BM)) (fun l x => by kernel_rfl)
theorem FX : (A6.c2 67 Ak [] [] [.fn (.func 68) [] []] BX).Ok Tryz.prog := W8 (hs := ao []) (n := 13) (Ag K8 BM) (fun l x => by kernel_rfl)
theorem Lk : (A6.cl 95 Ad).Ok Tryz.prog := gK (t := 30) (b := 4) (by kernel_rfl) (by kernel_rfl) (by kernel_rfl)
theorem MY : (A6.c0 29 [Ai] [.bool] GZ).Ok Tryz.prog := k0 [(29, [⟨0, 5, [], [], [], [], [.t 4 i64], [(.ret, [.t 2 .bool]), (.exit 0, [])]⟩, ⟨0, 13, [], [], [], [], [.t 5 i64, .t 89 i64], [(.ret, [.t 2 .bool]), (.exit 2, [])]⟩])] BM fun x => by kernel_rfl
theorem Ve : (A6.c0 43 [BL] [i64] Ly).Ok Tryz.prog := k0 [] BM fun x => by kernel_rfl
theorem Yi : (A6.c0 62 [i64, Ad] [.bool] Jl).Ok Tryz.prog := k0 [] BM fun x => by kernel_rfl
theorem Yf : (A6.c0 113 [i64] [.bool] NW).Ok Tryz.prog := k0 [] BM fun x => by kernel_rfl
theorem WF : (A6.c0 114 [IZ] [.bool] Ge).Ok Tryz.prog := k0 [] BM fun x => by kernel_rfl
theorem Ye : (A6.c0 85 [F7] [.bool] LD).Ok Tryz.prog := k0 [] (Ag Yf (Ag WF BM)) fun x => by kernel_rfl
theorem Zs : (A6.c0 84 [F7] [.bool] Hs).Ok Tryz.prog := k0 [] BM fun x => by kernel_rfl
theorem X8 : (A6.c0 83 [Ad] [.bool] DO).Ok Tryz.prog := k0 [] BM fun x => by kernel_rfl
theorem X9 : (A6.c0 86 [Ad] [.bool] MQ).Ok Tryz.prog := k0 [] BM fun x => by kernel_rfl
theorem YA : (A6.c0 87 [F7] [.bool] MR).Ok Tryz.prog := k0 [] BM fun x => by kernel_rfl
theorem O0 : (A6.c0 44 [Ad] [.bool] Kv).Ok Tryz.prog := k0 [(44, [⟨2, 5, [], [], [], [], [], [(.normal, [.t 47 .bool])]⟩, ⟨2, 8, [], [], [], [], [], [(.normal, [.t 67 .bool])]⟩])] (Ag Yi (Ag Ye (Ag Zs (Ag X8 (Ag X9 (Ag YA BM)))))) fun x => by kernel_rfl
end Go.Proofs.YtieiiaiokpgfkaaGreat
namespace Go.Proofs.YtieiiaiokpgfkaaGreat
open Go Go.Ab Go.Pm
set_option maxRecDepth 100000
theorem Rg : (A6.c0 30 [BL] [.bool] Kq).Ok Tryz.prog := k0 [(30, [⟨0, 4, [], [], [], [], [.t 37 i64], [(.ret, [.t 2 .bool]), (.exit 0, [])]⟩])] (Ag Ve (Ag O0 BM)) fun x => by kernel_rfl
theorem Rd : (A6.c0 16 [Ai, BL, i64, i64] [i64] Hq).Ok Tryz.prog := k0 [] (Ag MY (Ag Rg BM)) fun x => by kernel_rfl
theorem Yj : (A6.c0 34 [BL] [i64] Nb).Ok Tryz.prog := k0 [] (Ag Rg (Ag Ve BM)) fun x => by kernel_rfl
theorem Yg : (A6.c0 88 [i64, i64] [.bool] NY).Ok Tryz.prog := k0 [] (Ag Rc BM) fun x => by kernel_rfl
theorem WP : (A6.c0 89 [i64] [.bool] Gn).Ok Tryz.prog := k0 [] BM fun x => by kernel_rfl
theorem Nu : (A6.c0 64 [(.list i64), i64] [i64, .bool] Dm).Ok Tryz.prog := k0 [(64, [⟨2, 6, [], [], [], [], [], [(.normal, [.t 7 i64, .t 8 i64])]⟩, ⟨0, 3, [], [], [], [], [.t 7 i64, .t 8 i64], [(.exit 0, [.t 7 i64])]⟩])] (Ag Yg (Ag WP BM)) fun x => by kernel_rfl
theorem Rb : (A6.c0 65 [Ai, i64] [i64, i64] Ko).Ok Tryz.prog := k0 [] BM fun x => by kernel_rfl
theorem X4 : (A6.c0 46 [Ai, i64] [i64, i64, .bool] MO).Ok Tryz.prog := k0 [(46, [⟨2, 5, [], [], [], [], [], [(.normal, [.t 7 i64])]⟩])] (Ag MY (Ag Nu (Ag Rb BM))) fun x => by kernel_rfl
theorem Rt : (A6.c0 139 [.str, i64, i64] [i64, i64] Ek).Ok Tryz.prog := k0 [(139, [⟨0, 7, [], [], [], [], [.t 8 (.int .u64), .t 35 i64], [(.exit 1, [.t 8 (.int .u64)])]⟩])] BM fun x => by kernel_rfl
theorem WH : (A6.c0 184 [] [(.arr 15 (.int .u32))] KP).Ok Tryz.prog := k0 [(184, [⟨2, 9, [], [], [], [], [], [(.normal, [.t 3 (.int .u32)])]⟩, ⟨0, 7, [], [], [], [], [.t 3 (.int .u32), .t 9 i64], [(.exit 2, [.t 3 (.int .u32)])]⟩, ⟨0, 3, [], [], [], [], [.t 4 i64, .p 1 [.d (.arr 15 (.int .u32))]], [(.exit 0, [.p 1 [.d (.arr 15 (.int .u32))]])]⟩])] BM fun x => by kernel_rfl
theorem ai : (A6.c0 140 [.str] [(.int .u32)] Rj).Ok Tryz.prog := k0 [(140, [⟨0, 4, [], [], [], [], [.t 4 (.int .u32), .t 9 i64], [(.exit 0, [.t 4 (.int .u32)])]⟩])] (Ag WH BM) fun x => by kernel_rfl
theorem X6 : (A6.c0 115 [.str, i64] [.str, i64, i64] Kp).Ok Tryz.prog := k0 [] (Ag Rt (Ag ai BM)) fun x => by kernel_rfl
theorem Mm : (A6.c1 143 0 K9 [i64] [i64] BS).Ok Tryz.prog := k1 [(143, [⟨2, 6, [], [], [], [], [.x 0], [(.normal, [.p 0 [.d K9]])]⟩])] (Ag Rt BM) fun b x => by kernel_rfl
theorem N0 : (A6.c1 145 0 K9 [i64] [.str] F3).Ok Tryz.prog := k1 [(145, [⟨2, 2, [], [], [], [], [.x 0], [(.normal, [.p 0 [.d K9]])]⟩])] BM fun b x => by kernel_rfl
theorem Vk : (A6.c1 144 0 K9 [] [IZ] Fz).Ok Tryz.prog := k1 [] (Ag Mm (Ag N0 BM)) fun b x => by kernel_rfl
theorem Yh : (A6.c0 117 [.str] [Ad, i64] Na).Ok Tryz.prog := k0 [] (Ag Mm (Ag Vk (Ag N0 (Ag O0 BM)))) fun x => by kernel_rfl
theorem YC : (A6.c0 146 [Az] [.bool] MU).Ok Tryz.prog := k0 [] BM fun x => by kernel_rfl
theorem X7 : (A6.c0 186 [Ad] [.bool] MP).Ok Tryz.prog := k0 [] BM fun x => by kernel_rfl
theorem ZX : (A6.c0 147 [Az, Ad] [.bool] OZ).Ok Tryz.prog := k0 [] (Ag X7 BM) fun x => by kernel_rfl
theorem Yk : (A6.c0 148 [Ad, Ad] [i64] Nn).Ok Tryz.prog := k0 [] (Ag PG (Ag WG BM)) fun x => by kernel_rfl
theorem Zt : (A6.c0 118 [Az] [.bool] Pj).Ok Tryz.prog := k0 [(118, [⟨0, 4, [], [], [], [], [.t 18 i64], [(.ret, [.t 2 .bool]), (.exit 0, [])]⟩])] (Ag YC (Ag O0 (Ag ZX (Ag Yk BM)))) fun x => by kernel_rfl
theorem ZW : (A6.c0 90 [.str] [Az, i64] OY).Ok Tryz.prog := k0 [(90, [⟨0, 8, [], [(4, 5, Ad)], [], [], [.t 5 i64, .t 32 i64, .u 5 Ad, .p 4 [.d i64, .d i64, .d i64, .d i64, .d i64, .o 5], .p 0 [.d Az]], [(.ret, [.t 3 i64, .p 0 [.d Az], .x 4, .x 5]), (.exit 0, [.t 5 i64, .u 5 Ad, .p 4 [.d i64, .d i64, .d i64, .d i64, .d i64, .o 5], .p 0 [.d Az]])]⟩])] (Ag X6 (Ag Vw (Ag Rt (Ag Yh (Ag Zt BM))))) fun x => by kernel_rfl
theorem XK : (A6.c0 91 [Ai, Az] [i64] K3).Ok Tryz.prog := k0 [(91, [⟨0, 2, [], [], [], [], [.t 11 i64], [(.ret, [.t 4 i64]), (.exit 0, [])]⟩])] (Ag Rb BM) fun x => by kernel_rfl
theorem XJ : (A6.c0 66 [Ai, Gb] [Az, .bool] K2).Ok Tryz.prog := k0 [] (Ag ZW (Ag XK BM)) fun x => by kernel_rfl
theorem Xf : (A6.c0 71 [Az, i64] [Az] Jk).Ok Tryz.prog := k0 [(121, [⟨0, 2, [], [], [], [], [.t 8 i64], [(.ret, [.t 4 i64]), (.exit 0, [])]⟩]), (94, [⟨0, 5, [], [], [], [], [.t 6 i64, .t 5 i64, .u 3 Ad, .g 0 3], [(.exit 0, [.t 5 i64, .u 3 Ad, .g 0 3])]⟩])] (Ag Lk BM) fun x => by kernel_rfl
theorem X5 : (A6.c0 47 [Ai] [(.list Az), (.list i64)] Hp).Ok Tryz.prog := k0 [(47, [⟨0, 5, [(4, Ak)], [], [], [], [.t 19 i64, .u 1 Ak, .g 4 1], [(.exit 0, [.u 1 Ak, .g 4 1])]⟩, ⟨0, 14, [(2, Az), (3, i64)], [], [], [], [.t 42 i64, .t 9 i64, .t 10 i64, .u 2 Az, .g 2 2, .u 3 i64, .g 3 3], [(.exit 2, [.u 2 Az, .g 2 2, .u 3 i64, .g 3 3])]⟩])] (Ag MY (Ag XJ (Ag FX (Ag Xf BM)))) fun x => by kernel_rfl
theorem Rf : (A6.c0 18 [Ai, BL, i64] [(.list Jf)] Fx).Ok Tryz.prog := k0 [(18, [⟨3, 1, [], [], [], [], [], []⟩]), (45, [⟨0, 4, [], [], [], [], [.t 27 i64, .u 2 Jf, .p 3 [.o 2], .y 6 .ready], [(.exit 0, [.u 2 Jf, .p 3 [.o 2], .y 6 .ready])]⟩])] (Ag Yj (Ag X4 (Ag X5 BM))) fun x => by kernel_rfl
theorem WI : (A6.c0 33 [Jf, i64] [.bool] FD).Ok Tryz.prog := k0 [] BM fun x => by kernel_rfl
theorem XL : (A6.c1 32 1 i64 [Jf] [.bool] Ht).Ok Tryz.prog := k1 [] (Ag WI BM) fun b x => by kernel_rfl
theorem Re : (A6.c0 17 [(.list Jf), i64] [i64] Cy).Ok Tryz.prog := k0 [(17, [⟨0, 1, [], [], [], [], [.p 0 [.d i64]], [(.ret, [.t 4 i64, .x 0])]⟩]), (31, [⟨0, 2, [], [], [], [], [.t 8 i64, .p 0 [.d i64]], [(.ret, [.t 4 i64, .p 0 [.d i64]]), (.exit 0, [.p 0 [.d i64]])]⟩])] (Ag XL BM) fun x => by kernel_rfl
theorem YB : (A6.c0 7 [Ai, BL, i64, i64] [i64, i64] MS).Ok Tryz.prog := k0 [] (Ag Rd (Ag Rf (Ag Re BM))) fun x => by kernel_rfl
end Go.Proofs.YtieiiaiokpgfkaaGreat
namespace Go.Proofs.YtieiiaiokpgfkaaGreat
open Go Go.Ab Go.Pm
set_option maxRecDepth 100000
theorem PH : (A6.c0 8 [Ai, BL, i64, i64, i64] [.bool] CG).Ok Tryz.prog := k0 [] (Ag Rd (Ag Rf (Ag Re BM))) fun x => by kernel_rfl
end Go.Proofs.YtieiiaiokpgfkaaGreat
namespace Go.Proofs.YtieiiaiokpgfkaaGreat
open Go Go.Ab Go.Pm
set_option maxRecDepth 100000
theorem Sv : (A6.c0 4 [] [.bool] Gu).Ok Tryz.prog := k0 [] (Ag N5 (Ag N1 (Ag PH BM))) fun x => by kernel_rfl
theorem Sw : (A6.c1 6 0 Ae [] [i64, Ai, BL, BL] Gv).Ok Tryz.prog := k1 [(6, [⟨2, 5, [], [], [], [], [.x 0, .x 6], [(.normal, [.p 0 [.d Ae], .p 6 [.d BL]])]⟩, ⟨2, 7, [], [], [], [], [.x 0, .x 5], [(.normal, [.p 0 [.d Ae], .p 5 [.d Ai]])]⟩])] (Ag WJ (Ag Ru (Ag BE (Ag Vo (Ag Sy BM))))) fun b x => by kernel_rfl
theorem Nt : (A6.c0 3 [(.list (.int .u8)), (.int .u8)] [.bool] FM).Ok Tryz.prog := k0 [(3, [⟨0, 7, [], [], [], [], [.t 11 i64], [(.ret, [.t 4 .bool]), (.exit 0, [])]⟩]), (5, [⟨2, 2, [], [], [], [], [], [(.normal, [.t 0 (.list (.int .u8))])]⟩])] (Ag Sv (Ag Sw (Ag YB (Ag PH BM)))) fun x => by kernel_rfl
end Go.Proofs.YtieiiaiokpgfkaaGreat
