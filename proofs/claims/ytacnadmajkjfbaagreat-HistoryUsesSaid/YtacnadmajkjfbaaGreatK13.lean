/- That the code computes these functions, part 13. Texts of the folder wip, laid in few files with shorter names by a program (wip/tools/pack.py); nothing is assumed. -/
import Derived.Test.YtacnadmajkjfbaaGreatK12
import Derived.Test.YtacnadmajkjfbaaGreatProg
import Derived.KernelRfl
noncomputable section
set_option linter.unusedVariables false
set_option linter.unusedSimpArgs false
set_option linter.unusedSectionVars false
set_option linter.defProp false
set_option linter.unnecessarySimpa false
set_option linter.deprecated false
namespace Go.Proofs.YtacnadmajkjfbaaGreat
open Go Go.Ab Go.Pm
abbrev A5(c:Su):Prop:=c.Ok Tryz.prog
set_option maxRecDepth 100000
def W7:A5 (.c0 58 [i64] [.bool] EL):=k0 [] CT
def QQ:A5 (.c0 38 [i64,i64] [i64] EP):=k0 [] (A8 W7 CT)
def dN:A5 (.c0 76 [(.list i64)] [i64] Ji):=k0 [(76,[hn 0 3 [.t 8 i64] [(.ret,[.t 2 i64]),(.exit 0,[])]])] CT
def Uh:A5 (.c0 75 [BL,BL] [i64] Fu):=k0 [] (A8 QQ (A8 dN CT))
def N3:A5 (.c2 200 BL [i64,i64,i64] [] [.fn (.func 75) [] []] Bw):=KT (hs:=VC [(200,[hn 0 1 [.t 10 i64,.u 0 BL,.g 0 0] [(.exit 0,[.u 0 BL])]])]) (n:=13) CT (λl x=>by kernel_rfl)
def O7:A5 (.c2 179 BL [i64,i64,i64] [] [.fn (.func 75) [] []] Cz):=KT (hs:=VC [(179,[hn 0 2 [.t 10 i64,.t 11 i64,.u 0 BL,.g 0 0] [(.exit 0,[.t 10 i64,.u 0 BL,.g 0 0])]])]) (n:=13) (A8 N3 CT) (λl x=>by kernel_rfl)
def MC:A5 (.c2 146 BL [i64,i64] [] [.fn (.func 75) [] []] B0):=KT (hs:=VC [(146,[hn 0 1 [.t 8 i64,.u 0 BL,.g 0 0] [(.exit 0,[.u 0 BL])],hn 0 4 [.t 9 i64,.u 0 BL,.g 0 0] [(.exit 2,[.u 0 BL,.g 0 0])]])]) (n:=13) (A8 Uh CT) (λl x=>by kernel_rfl)
def OW:A5 (.c2 147 BL [i64,i64,i64] [] [.fn (.func 75) [] []] Ct):=lw (P:=Tryz.prog) (F:=147) (te:=BL) (ds:=[i64,i64,i64]) (rs:=[]) (post:=[.fn (.func 75) [] []]) (f:=λg p=>BH g p.1 p.2) (hs:=VC [(147,[hn 0 3 [.t 10 i64,.t 11 i64] [(.exit 0,[.t 10 i64])],hn 0 9 [.t 13 i64,.u 0 BL,.g 0 0] [(.exit 2,[.u 0 BL])],hn 0 15 [.t 14 i64,.t 15 i64] [(.exit 4,[.t 14 i64])],hn 0 21 [.t 17 i64,.u 0 BL,.g 0 0] [(.exit 6,[.u 0 BL])],hn 0 33 [.t 20 i64,.t 21 i64] [(.exit 8,[.t 20 i64])],hn 2 28 [] [(.normal,[.t 20 i64,.t 21 i64])],hn 2 40 [.x 0] [(.normal,[.u 0 BL,.g 0 0])],hn 2 42 [.x 0] [(.normal,[.u 0 BL,.g 0 0])],hn 2 44 [.x 0] [(.normal,[.u 0 BL])]])]) (n:=13) (A8 Uh (A8 O7 CT)) (λg l x=>by kernel_rfl)
def O8:A5 (.c2 114 BL [i64] [] [.fn (.func 75) [] []] C1):=KT (hs:=VC [(114,[hn 0 2 [.t 7 i64,.t 8 i64,.u 0 BL,.g 0 0] [(.exit 0,[.t 7 i64,.u 0 BL,.g 0 0])],hn 0 7 [.t 6 i64,.u 0 BL,.g 0 0] [(.exit 2,[.u 0 BL])],hn 0 9 [.t 7 i64,.t 8 i64,.u 0 BL,.g 0 0] [(.exit 4,[.t 7 i64,.u 0 BL,.g 0 0])]])]) (n:=13) (A8 MC (A8 OW CT)) (λl x=>by kernel_rfl)
def I1:A5 (.c2 74 BL [] [] [.fn (.func 75) [] []] Bs):=KT (hs:=VC []) (n:=13) (A8 O8 CT) (λl x=>by kernel_rfl)
def QR:A5 (.cl 116 AY):=wh (t:=30) (b:=4) (by kernel_rfl) (by kernel_rfl) (by kernel_rfl)
def Ia:A5 (.c0 37 [AY,AY] [i64] BV):=k0 [] (A8 QQ CT)
def OV:A5 (.c2 78 AY [i64,i64] [] [.fn (.func 37) [] []] DU):=KT (hs:=VC [(78,[hn 0 1 [.t 8 i64,.u 0 AY,.g 0 0] [(.exit 0,[.u 0 AY])],hn 0 4 [.t 9 i64,.u 0 AY,.g 0 0] [(.exit 2,[.u 0 AY,.g 0 0])],hn 4 4 [] [(.exit 2,[]),(.normal,[])]])]) (n:=13) (A8 Ia CT) (λl x=>by kernel_rfl)
def QU:A5 (.c2 118 AY [i64,i64,i64] [] [.fn (.func 37) [] []] DR):=KT (hs:=VC [(118,[hn 0 1 [.t 10 i64,.u 0 AY,.g 0 0] [(.exit 0,[.u 0 AY]),(.ret,[.u 0 AY])],hn 4 3 [] [(.normal,[.t 11 i64])]])]) (n:=13) (A8 Ia CT) (λl x=>by kernel_rfl)
def QS:A5 (.c2 79 AY [i64,i64] [] [.fn (.func 37) [] []] D6):=KT (hs:=VC [(79,[hn 0 4 [.t 11 i64,.u 0 AY,.g 0 0] [(.exit 0,[.u 0 AY,.g 0 0])],hn 0 8 [.t 12 i64,.u 0 AY,.g 0 0] [(.exit 2,[.u 0 AY])]])]) (n:=13) (A8 QU CT) (λl x=>by kernel_rfl)
def fD:A5 (.c0 87 [(.int .u64)] [i64] O1):=k0 [(87,[hn 2 2 [] [(.normal,[.t 0 (.int .u64),.t 2 i64])],hn 2 5 [] [(.normal,[.t 0 (.int .u64),.t 2 i64])],hn 2 8 [] [(.normal,[.t 0 (.int .u64),.t 2 i64])]])] CT
def SG:A5 (.c0 57 [(.int .u64)] [i64] JU):=k0 [] (A8 fD CT)
def We:A5 (.c0 119 [i64] [(.int .u64)] JO):=k0 [] (A8 SG CT)
def OU:A5 (.c2 80 AY [i64,i64] [] [.fn (.func 37) [] []] EH):=KT (hs:=VC [(80,[hn 0 5 [.t 11 i64,.u 0 AY,.p 1 [.d (.int .u64)],.g 0 0] [(.exit 0,[.u 0 AY,.p 1 [.d (.int .u64)]])],hn 2 9 [] [(.normal,[.t 12 i64])]])]) (n:=13) (A8 We CT) (λl x=>by kernel_rfl)
def O6:A5 (.c2 81 AY [i64,i64] [i64,i64] [.fn (.func 37) [] []] Cy):=KT (hs:=VC [(81,[]),(122,[hn 6 1 [.x 1] [(.normal,[.t 1 i64,.t 2 i64,.p 1 [.d i64]])],hn 6 2 [.x 1] [(.normal,[.t 2 i64,.t 3 i64,.p 1 [.d i64]])],hn 6 3 [.x 1] [(.normal,[.t 1 i64,.t 2 i64,.p 1 [.d i64]])]])]) (n:=13) (A8 Ia CT) (λl x=>by kernel_rfl)
def Ol:A5 (.c2 82 AY [i64,i64] [] [.fn (.func 37) [] []] Dd):=KT (hs:=VC [(82,[hn 0 2 [.t 8 i64,.t 9 i64,.u 0 AY,.g 0 0] [(.exit 0,[.u 0 AY])]])]) (n:=13) CT (λl x=>by kernel_rfl)
def K5:A5 (.c2 83 AY [i64,i64] [.bool] [.fn (.func 37) [] []] Cn):=KT (hs:=VC [(83,[hn 0 3 [.t 9 i64,.t 10 i64,.u 0 AY,.g 0 0] [(.exit 0,[.u 0 AY]),(.ret,[.t 8 .bool,.u 0 AY])],hn 0 5 [.t 9 i64] [(.exit 2,[.t 9 i64])],hn 4 5 [] [(.exit 2,[]),(.normal,[])],hn 2 13 [.x 0] [(.normal,[.u 0 AY,.g 0 0])],hn 0 14 [.t 11 i64,.u 0 AY,.g 0 0] [(.exit 4,[.u 0 AY,.g 0 0])],hn 2 19 [.x 0] [(.normal,[.u 0 AY,.g 0 0])],hn 0 20 [.t 12 i64,.u 0 AY,.g 0 0] [(.exit 6,[.u 0 AY,.g 0 0])]])]) (n:=13) (A8 Ia CT) (λl x=>by kernel_rfl)
def N2:A5 (.c2 84 AY [i64,i64,i64] [i64] [.fn (.func 37) [] []] DM):=KT (hs:=VC [(84,[hn 5 3 [.t 11 i64,.t 12 i64,.u 0 AY,.g 0 0] [(.exit 0,[.t 11 i64,.u 0 AY])],hn 0 3 [.t 11 i64] [(.exit 2,[.t 11 i64])],hn 4 3 [] [(.exit 2,[]),(.normal,[])],hn 0 5 [.t 12 i64] [(.exit 4,[.t 12 i64])],hn 4 5 [] [(.exit 4,[]),(.normal,[])]])]) (n:=13) (A8 Ia CT) (λl x=>by kernel_rfl)
def Ps:A5 (.c2 85 AY [i64,i64,i64] [i64,.bool] [.fn (.func 37) [] []] D0):=KT (hs:=VC [(85,[hn 0 3 [.t 12 i64] [(.exit 0,[.t 12 i64])],hn 4 3 [] [(.exit 0,[]),(.normal,[])],hn 0 5 [.t 13 i64] [(.exit 2,[.t 13 i64])],hn 4 5 [] [(.exit 2,[]),(.normal,[])],hn 5 13 [.t 12 i64,.t 13 i64,.u 0 AY,.g 0 0] [(.exit 4,[.t 13 i64,.u 0 AY,.g 0 0])],hn 0 13 [.t 12 i64] [(.exit 6,[.t 12 i64])],hn 4 13 [] [(.exit 6,[]),(.normal,[])],hn 0 15 [.t 13 i64] [(.exit 8,[.t 13 i64])],hn 4 15 [] [(.exit 8,[]),(.normal,[])]])]) (n:=13) (A8 Ia CT) (λl x=>by kernel_rfl)
def Qk:A5 (.c2 56 AY [i64,i64,i64] [] [.fn (.func 37) [] []] HY):=lw (P:=Tryz.prog) (F:=56) (te:=AY) (ds:=[i64,i64,i64]) (rs:=[]) (post:=[.fn (.func 37) [] []]) (f:=λg p=>D1 g p.1 p.2) (hs:=VC [(56,[hn 0 2 [.t 1 i64,.t 2 i64,.t 3 i64,.t 10 .bool,.t 11 .bool,.u 0 AY,.g 0 0] [(.ret,[.u 0 AY])],hn 2 8 [.x 0] [(.normal,[.t 3 i64,.u 0 AY,.g 0 0])],hn 2 12 [.x 0] [(.normal,[.t 13 i64,.t 14 i64,.u 0 AY,.g 0 0])],hn 4 15 [.x 0] [(.normal,[.u 0 AY,.g 0 0]),(.ret,[.u 0 AY])],hn 4 17 [.x 0] [(.exit 1,[.t 1 i64,.u 0 AY,.g 0 0]),(.normal,[.t 1 i64,.u 0 AY,.g 0 0])],hn 2 25 [.x 0] [(.normal,[.t 1 i64,.t 2 i64,.t 10 .bool,.u 0 AY,.g 0 0])]])]) (n:=13) (A8 Ia (A8 OV (A8 QS (A8 OU (A8 O6 (A8 Ol (A8 K5 (A8 N2 (A8 Ps CT))))))))) (λg l x=>by kernel_rfl)
def O5:A5 (.c2 36 AY [] [] [.fn (.func 37) [] []] Ce):=KT (hs:=VC []) (n:=13) (A8 Qk (A8 SG CT)) (λl x=>by kernel_rfl)
def RO:A5 (.c0 49 [BJ] [.bool] J0):=k0 [(49,[hn 0 5 [.t 4 i64] [(.ret,[.t 2 .bool]),(.exit 0,[])],hn 0 13 [.t 5 i64,.t 89 i64] [(.ret,[.t 2 .bool]),(.exit 2,[])]])] CT
def cL:A5 (.c0 63 [CU] [i64] CZ):=k0 [] CT
def jK:A5 (.c0 109 [i64,AY] [.bool] M8):=k0 [] CT
def jI:A5 (.c0 167 [i64] [.bool] SZ):=k0 [] CT
def dM:A5 (.c0 168 [L4] [.bool] DH):=k0 [] CT
def jH:A5 (.c0 139 [Je] [.bool] PQ):=k0 [] (A8 jI (A8 dM CT))
def lk:A5 (.c0 138 [Je] [.bool] LZ):=k0 [] CT
def gp:A5 (.c0 137 [AY] [.bool] GQ):=k0 [] CT
def gq:A5 (.c0 140 [AY] [.bool] Q8):=k0 [] CT
def gr:A5 (.c0 141 [Je] [.bool] Q9):=k0 [] CT
def UO:A5 (.c0 70 [AY] [.bool] G3):=k0 [(70,[hn 2 5 [] [(.normal,[.t 47 .bool])],hn 2 8 [] [(.normal,[.t 67 .bool])]])] (A8 jK (A8 jH (A8 lk (A8 gp (A8 gq (A8 gr CT))))))
def XC:A5 (.c0 50 [CU] [.bool] OZ):=k0 [(50,[hn 0 4 [.t 37 i64] [(.ret,[.t 2 .bool]),(.exit 0,[])]])] (A8 cL (A8 UO CT))
def W9:A5 (.c0 26 [BJ,CU,i64,i64] [i64] OY):=k0 [] (A8 RO (A8 XC CT))
def Yo:A5 (.c0 40 [CU] [i64] PS):=k0 [] (A8 XC (A8 cL CT))
def Ta:A5 (.c0 101 [i64,i64] [.bool] PR):=k0 [] (A8 W7 CT)
def dW:A5 (.c0 111 [i64] [.bool] EL):=k0 [] CT
def Sx:A5 (.c0 71 [(.list i64),i64] [i64,.bool] FE):=k0 [(71,[hn 2 6 [] [(.normal,[.t 7 i64,.t 8 i64])],hn 0 3 [.t 7 i64,.t 8 i64] [(.exit 0,[.t 7 i64])]])] (A8 Ta (A8 dW CT))
def W6:A5 (.c0 72 [BJ,i64] [i64,i64] JR):=k0 [] CT
def SD:A5 (.c0 54 [BJ,i64] [i64,i64,.bool] Es):=k0 [(54,[hn 2 5 [] [(.normal,[.t 7 i64])]])] (A8 RO (A8 Sx (A8 W6 CT)))
def XU:A5 (.c0 169 [.str,i64,i64] [i64,i64] CN):=k0 [(169,[hn 0 7 [.t 8 (.int .u64),.t 35 i64] [(.exit 1,[.t 8 (.int .u64)])]])] CT
def dO:A5 (.c0 198 [] [(.arr 15 (.int .u32))] KA):=k0 [(198,[hn 2 9 [] [(.normal,[.t 3 (.int .u32)])],hn 0 7 [.t 3 (.int .u32),.t 9 i64] [(.exit 2,[.t 3 (.int .u32)])],hn 0 3 [.t 4 i64,.p 1 [.d (.arr 15 (.int .u32))]] [(.exit 0,[.p 1 [.d (.arr 15 (.int .u32))]])]])] CT
def nJ:A5 (.c0 170 [.str] [(.int .u32)] Rn):=k0 [(170,[hn 0 4 [.t 4 (.int .u32),.t 9 i64] [(.exit 0,[.t 4 (.int .u32)])]])] (A8 dO CT)
def gl:A5 (.c0 142 [.str,i64] [.str,i64,i64] FV):=k0 [] (A8 XU (A8 nJ CT))
def RP:A5 (.c0 199 [.str,.str] [.bool] Fv):=k0 [] CT
def cp:A5 (.c0 171 [.str,.str] [.bool] Hz):=k0 [] (A8 RP CT)
def Rb:A5 (.c1 173 0 PC [i64] [i64] Bk):=k1 [(173,[hn 2 6 [.x 0] [(.normal,[.p 0 [.d PC]])]])] (A8 XU CT)
def S5:A5 (.c1 175 0 PC [i64] [.str] Em):=k1 [(175,[hn 2 2 [.x 0] [(.normal,[.p 0 [.d PC]])]])] CT
def cS:A5 (.c1 174 0 PC [] [L4] El):=k1 [] (A8 Rb (A8 S5 CT))
def jJ:A5 (.c0 144 [.str] [AY,i64] Iv):=k0 [] (A8 Rb (A8 cS (A8 S5 (A8 UO CT))))
def gu:A5 (.c0 176 [Bq] [.bool] LP):=k0 [] CT
def W8:A5 (.c0 30 [AY] [.bool] A7):=k0 [] CT
def kv:A5 (.c0 177 [Bq,AY] [.bool] Og):=k0 [] (A8 W8 CT)
def jM:A5 (.c0 178 [AY,AY] [i64] Nf):=k0 [] (A8 QQ (A8 dN CT))
def ln:A5 (.c0 145 [Bq] [.bool] Sm):=k0 [(145,[hn 0 4 [.t 18 i64] [(.ret,[.t 2 .bool]),(.exit 0,[])]])] (A8 gu (A8 UO (A8 kv (A8 jM CT))))
def ku:A5 (.c0 112 [.str] [Bq,i64] Jy):=k0 [(112,[⟨0,8,[],[(4,5,AY)],[],[],[.t 5 i64,.t 32 i64,.u 5 AY,.p 4 [.d i64,.d i64,.d i64,.d i64,.d i64,.o 5],.p 0 [.d Bq]],[(.ret,[.t 3 i64,.p 0 [.d Bq],.x 4,.x 5]),(.exit 0,[.t 5 i64,.u 5 AY,.p 4 [.d i64,.d i64,.d i64,.d i64,.d i64,.o 5],.p 0 [.d Bq]])]⟩])] (A8 gl (A8 cp (A8 XU (A8 jJ (A8 ln CT)))))
def fA:A5 (.c0 113 [BJ,Bq] [i64] LY):=k0 [(113,[hn 0 2 [.t 11 i64] [(.ret,[.t 4 i64]),(.exit 0,[])]])] (A8 W6 CT)
def eu:A5 (.c0 73 [BJ,GA] [Bq,.bool] Gn):=k0 [] (A8 ku (A8 fA CT))
def gB:A5 (.c0 77 [Bq,i64] [Bq] M7):=k0 [(148,[hn 0 2 [.t 8 i64] [(.ret,[.t 4 i64]),(.exit 0,[])]]),(115,[hn 0 5 [.t 6 i64,.t 5 i64,.u 3 AY,.g 0 3] [(.exit 0,[.t 5 i64,.u 3 AY,.g 0 3])]])] (A8 QR CT)
def SE:A5 (.c0 55 [BJ] [(.list Bq),(.list i64)] GP):=k0 [(55,[⟨0,5,[(4,BL)],[],[],[],[.t 19 i64,.u 1 BL,.g 4 1],[(.exit 0,[.u 1 BL,.g 4 1])]⟩,⟨0,14,[(2,Bq),(3,i64)],[],[],[],[.t 42 i64,.t 9 i64,.t 10 i64,.u 2 Bq,.g 2 2,.u 3 i64,.g 3 3],[(.exit 2,[.u 2 Bq,.g 2 2,.u 3 i64,.g 3 3])]⟩])] (A8 RO (A8 eu (A8 I1 (A8 gB CT))))
def XB:A5 (.c0 27 [BJ,CU,i64] [(.list Mv)] JT):=k0 [(27,[hn 3 1 [] []]),(53,[hn 0 4 [.t 27 i64,.u 2 Mv,.p 3 [.o 2],.y 6 .ready] [(.exit 0,[.u 2 Mv,.p 3 [.o 2],.y 6 .ready])]])] (A8 Yo (A8 SD (A8 SE CT)))
def Tw:A5 (.c0 34 [Mv,i64] [.bool] GD):=k0 [] CT
def fC:A5 (.c1 52 1 i64 [Mv] [.bool] O0):=k1 [] (A8 Tw CT)
def XA:A5 (.c0 28 [(.list Mv),i64] [i64] HA):=k0 [(28,[hn 0 1 [.p 0 [.d i64]] [(.ret,[.t 4 i64,.x 0])]]),(51,[hn 0 2 [.t 8 i64,.p 0 [.d i64]] [(.ret,[.t 4 i64,.p 0 [.d i64]]),(.exit 0,[.p 0 [.d i64]])]])] (A8 fC CT)
def fB:A5 (.c0 12 [BJ,CU,i64,i64,i64] [.bool] Gp):=k0 [] (A8 W9 (A8 XB (A8 XA CT)))
def dP:A5 (.c0 11 [BJ,CU,i64,i64,i64] [(.list AY),i64] Jj):=k0 [(11,[hn 0 14 [.t 57 i64,.t 17 i64,.m 9 .i64 AY] [(.exit 0,[.t 17 i64,.m 9 .i64 AY])],hn 0 24 [.t 85 i64,.m 9 .i64 AY,.p 11 [.d i64],.p 5 [.d (.list AY)],.p 6 [.d i64]] [(.exit 4,[.m 9 .i64 AY,.p 11 [.d i64],.p 5 [.d (.list AY)],.p 6 [.d i64]]),(.ret,[.m 9 .i64 AY,.p 11 [.d i64],.p 5 [.d (.list AY)],.p 6 [.d i64]])],hn 0 43 [.t 137 i64,.p 5 [.d (.list AY)],.p 6 [.d i64]] [(.exit 8,[.p 5 [.d (.list AY)],.p 6 [.d i64]]),(.ret,[.p 5 [.d (.list AY)],.p 6 [.d i64]])]]),(53,[hn 0 4 [.t 27 i64,.m 9 .i64 AY,.p 11 [.d i64],.p 5 [.d (.list AY)],.p 6 [.d i64],.y 14 .ready] [(.exit 0,[.m 9 .i64 AY,.p 11 [.d i64],.p 5 [.d (.list AY)],.p 6 [.d i64],.y 14 .ready]),(.ret,[.m 9 .i64 AY,.p 11 [.d i64],.p 5 [.d (.list AY)],.p 6 [.d i64],.y 14 .ret])]]),(32,[]),(51,[hn 0 2 [.t 8 i64] [(.ret,[.t 4 i64]),(.exit 0,[])]])] (A8 W9 (A8 XB (A8 XA (A8 W8 (A8 SD (A8 SE (A8 Tw (A8 O5 CT))))))))
def Qh:A5 (.c0 42 [i64,(.list i64)] [.bool] FQ):=k0 [(42,[hn 0 4 [.t 5 i64] [(.ret,[.t 4 .bool]),(.exit 0,[])]])] CT
def S9:A5 (.c0 19 [i64,(.list i64)] [BJ,i64] Ff):=k0 [] (A8 Qh CT)
def Oh:A5 (.c0 18 [] [CU] Fc):=k0 [] CT
def Yp:A5 (.c0 7 [] [.bool] KW):=k0 [] (A8 S9 (A8 Oh (A8 fB CT)))
def Tb:A5 (.c1 16 0 A4 [i64] [i64] HB):=k1 [] CT
def CM:A5 (.c1 16 0 A4 [i64] [i64] Ae):=k1 [] (A8 Tb CT)
def S6:A5 (.c0 154 [i64] [EI,i64] Ja):=k0 [] CT
def S7:A5 (.c0 155 [i64] [EA,i64] Mo):=k0 [] CT
def cj:A5 (.c0 132 [i64,i64] [Au,i64] Mr):=k0 [] (A8 S6 (A8 S7 (A8 Oh CT)))
def XX:A5 (.c0 156 [i64] [(.list .str)] Jn):=k0 [(156,[⟨0,3,[(3,.str)],[],[],[],[.t 4 i64,.u 0 .str,.g 3 0],[(.exit 0,[.u 0 .str,.g 3 0])]⟩])] CT
def cU:A5 (.c0 133 [i64] [FH,i64] Ht):=k0 [] (A8 XX CT)
def ck:A5 (.c0 104 [i64,i64] [At,i64] Ms):=k0 [] (A8 cj (A8 cU CT))
def Up:A5 (.c1 196 0 A4 [] [.str] H9):=k1 [(196,[hn 2 3 [.x 0] [(.normal,[.t 3 i64,.p 0 [.d A4]])],hn 0 6 [.t 5 i64,.u 1 (.int .u8),.g 4 1,.p 0 [.d A4]] [(.exit 0,[.u 1 (.int .u8),.g 4 1,.p 0 [.d A4]])]])] (A8 CM CT)
def Vj:A5 (.c1 197 0 A4 [] [i64] G4):=k1 [] (A8 CM CT)
def Tx:A5 (.c1 166 0 A4 [i64] [Ek] HU):=k1 [(166,[hn 2 5 [] [(.normal,[.t 15 .bool])],hn 2 4 [] [(.normal,[.t 15 .bool])],hn 2 8 [.x 0,.x 3] [(.normal,[.p 0 [.d A4],.p 3 [.d Ek]])],hn 2 11 [.x 0,.x 3] [(.normal,[.p 0 [.d A4],.p 3 [.d Ek]])],hn 2 6 [.x 0,.x 3] [(.normal,[.p 0 [.d A4],.p 3 [.d Ek]])],hn 2 13 [.x 0,.x 3] [(.normal,[.p 0 [.d A4],.p 3 [.d Ek]])]])] (A8 CM (A8 Up (A8 Vj CT)))
def Ur:A5 (.c1 135 0 A4 [i64,i64,.bool] [RH] IA):=k1 [(135,[hn 2 3 [] [(.normal,[.t 11 .bool])],hn 2 12 [.x 0,.x 1] [(.ret,[.p 0 [.d A4],.p 1 [.d RH]]),(.normal,[.p 0 [.d A4],.p 1 [.d RH]])]])] (A8 CM (A8 Tx CT))
def Sw:A5 (.c1 106 0 A4 [i64,i64,.bool] [(.list RH)] Gq):=k1 [(106,[hn 0 3 [.t 10 i64,.u 1 RH,.g 9 1,.p 0 [.d A4]] [(.exit 0,[.u 1 RH,.g 9 1,.p 0 [.d A4]])]])] (A8 CM (A8 Ur CT))
def GS:A5 (.c0 25 [CU] [i64] CZ):=k0 [] CT
def Oy:A5 (.c0 136 [L4] [.bool] DH):=k0 [] CT
def Rf:A5 (.c0 108 [Je] [.bool] IK):=k0 [] (A8 Oy CT)
def Yy:A5 (.c0 68 [AY] [AY,.bool] Kf):=k0 [(68,[hn 2 4 [] [(.normal,[.t 13 .bool])],hn 2 8 [.x 2] [(.normal,[.t 5 .bool,.p 2 [.d AY]])],hn 2 13 [] [(.normal,[.t 67 .bool])],hn 2 12 [] [(.normal,[.t 67 .bool])],hn 2 17 [] [(.normal,[.t 91 .bool])]])] (A8 Rf CT)
def XY:A5 (.c0 69 [i64,i64] [.bool] GZ):=k0 [] CT
def Df:A5 (.c0 48 [AY] [.bool] Ck):=k0 [] (A8 Yy (A8 XY CT))
def Ch:A5 (.c0 24 [CU] [.bool] CK):=k0 [(24,[hn 0 4 [.t 3 i64] [(.ret,[.t 2 .bool]),(.exit 0,[])]])] (A8 GS (A8 Df CT))
def P4:A5 (.c0 289 [CY] [.bool] HI):=k0 [] CT
def Rc:A5 (.c0 290 [CY] [.bool] II):=k0 [(290,[hn 0 2 [.t 3 i64] [(.ret,[.t 2 .bool]),(.exit 0,[])]])] (A8 Oy CT)
def Yu:A5 (.c0 239 [CY] [.bool] Kb):=k0 [] (A8 P4 (A8 Rc CT))
def EB:A5 (.c0 207 [EI] [.bool] DJ):=k0 [(207,[hn 0 11 [.t 6 i64] [(.ret,[.t 2 .bool]),(.exit 2,[])],hn 0 5 [.t 4 i64] [(.ret,[.t 2 .bool]),(.exit 0,[])]])] (A8 Yu CT)
def Rg:A5 (.c0 302 [BW] [.bool] Gy):=k0 [] CT
def SI:A5 (.c0 303 [BW,BW] [.bool] FB):=k0 [] CT
def J8:A5 (.c0 287 [BW,BW] [.bool] Dx):=k0 [] CT
def Nz:A5 (.c0 304 [DA,i64,IW] [i64] Dy):=k0 [(304,[hn 0 2 [.t 7 i64] [(.ret,[.t 6 i64]),(.exit 0,[])]])] CT
def Ev:A5 (.c0 261 [DA] [.bool] Dk):=k0 [(261,[hn 0 9 [.t 4 i64] [(.ret,[.t 2 .bool]),(.exit 2,[])],hn 0 4 [.t 3 i64] [(.ret,[.t 2 .bool]),(.exit 0,[])],hn 0 20 [.t 7 i64] [(.ret,[.t 2 .bool]),(.exit 6,[])],hn 0 14 [.t 5 i64] [(.ret,[.t 2 .bool]),(.exit 4,[])]])] (A8 Rg (A8 SI (A8 J8 (A8 Nz CT))))
def Y7:A5 (.c0 276 [Bj] [.bool] Kn):=k0 [(276,[hn 0 6 [.t 3 i64] [(.ret,[.t 2 .bool]),(.exit 0,[])],hn 0 11 [.t 4 i64] [(.ret,[.t 2 .bool]),(.exit 2,[])]])] CT
def Ew:A5 (.c0 231 [(.list Bj)] [.bool] Dm):=k0 [(231,[hn 0 4 [.t 3 i64] [(.ret,[.t 2 .bool]),(.exit 0,[])]])] (A8 Y7 CT)
def cY:A5 (.c0 305 [i64] [.bool] Gk):=k0 [] CT
def Fz:A5 (.c0 262 [EA] [.bool] Dl):=k0 [(262,[hn 0 4 [.t 3 i64] [(.ret,[.t 2 .bool]),(.exit 0,[])]])] (A8 cY CT)
def OT:A5 (.c0 263 [(.list Bn),i64] [.bool] E0):=k0 [(263,[hn 0 2 [.t 5 i64] [(.ret,[.t 4 .bool]),(.exit 0,[])]])] CT
def ZC:A5 (.c0 218 [Au] [.bool] Kr):=k0 [] (A8 Ch (A8 EB (A8 Ev (A8 Ew (A8 Fz (A8 OT CT))))))
def I9:A5 (.c0 219 [Au,i64] [Bn,.bool] Eg):=k0 [(219,[hn 0 2 [.t 6 i64,.p 1 [.d Bn]] [(.ret,[.t 5 .bool,.p 1 [.d Bn]]),(.exit 0,[.p 1 [.d Bn]])]])] CT
def Bx:A5 (.c0 192 [Au] [.bool] Be):=k0 [(192,[hn 0 4 [.t 3 i64] [(.ret,[.t 2 .bool]),(.exit 0,[])],hn 0 9 [.t 4 i64] [(.ret,[.t 2 .bool]),(.exit 2,[])],hn 0 18 [.t 8 i64] [(.ret,[.t 2 .bool]),(.exit 4,[])],hn 0 23 [.t 9 i64] [(.ret,[.t 2 .bool]),(.exit 6,[])]])] (A8 ZC (A8 I9 CT))
def Jh:A5 (.c0 232 [(.list Bj),i64] [i64] ES):=k0 [(232,[hn 0 2 [.t 5 i64] [(.ret,[.t 4 i64]),(.exit 0,[])]])] CT
def Rh:A5 (.c0 201 [(.list Bj),i64] [(.list Bj),i64] IP):=k0 [(201,[⟨0,11,[(6,Bj)],[],[],[],[.t 7 i64,.u 0 Bj,.g 6 0],[(.exit 1,[.u 0 Bj,.g 6 0])]⟩])] (A8 Ew (A8 Jh CT))
def Y8:A5 (.c0 184 [Au] [Au,i64,i64] Ko):=k0 [] (A8 Bx (A8 Rh CT))
def ZJ:A5 (.c0 157 [At] [At,i64,i64] Kw):=k0 [] (A8 Y8 CT)
def Cm:A5 (.c0 165 [i64] [C2] A1):=k0 [] CT
def Xp:A5 (.c0 162 [i64] [C2] Du):=k0 [] (A8 Cm CT)
def GU:A5 (.c0 208 [EI,i64] [i64] FC):=k0 [(208,[hn 0 2 [.t 5 i64] [(.ret,[.t 4 i64]),(.exit 0,[])]])] CT
def FI:A5 (.c0 187 [EI,i64] [i64] Dz):=k0 [] (A8 EB (A8 GU CT))
def IH:A5 (.c0 205 [EI,i64] [CY,.bool] Fe):=k0 [] (A8 FI CT)
def Jg:A5 (.c0 10 [CU] [i64] FA):=k0 [] (A8 Ch (A8 GS CT))
def I7:A5 (.c0 44 [CU,i64] [CU,i64] D9):=k0 [] (A8 Ch (A8 GS CT))
def I8:A5 (.c0 206 [Au,i64] [Au] Fl):=k0 [(206,[hn 2 3 [.x 0] [(.normal,[.p 0 [.d Au]])]])] (A8 Jg (A8 I7 CT))
def Y9:A5 (.c0 186 [Au,i64] [Au,CY,i64] Kp):=k0 [] (A8 Bx (A8 IH (A8 I8 CT)))
def HG:A5 (.c0 240 [CY] [i64] Ef):=k0 [] (A8 P4 (A8 Rc CT))
def Di:A5 (.c0 126 [.str,i64,i64] [.str] Al):=k0 [(126,[hn 0 4 [.t 0 .str,.t 7 i64] [(.exit 0,[.t 0 .str])]])] CT
def Rd:A5 (.c0 241 [i64] [.str] Gv):=k0 [] CT
def KQ:A5 (.c0 127 [.str] [(.int .u32)] En):=k0 [(127,[hn 2 10 [] [(.normal,[.t 3 (.int .u32)])],hn 0 7 [.t 3 (.int .u32),.t 5 i64] [(.exit 2,[.t 3 (.int .u32)])],hn 0 3 [.t 3 (.int .u32),.t 4 i64] [(.exit 0,[.t 3 (.int .u32)])]])] CT
def L9:A5 (.c0 209 [CY] [.str,i64] GX):=k0 [(209,[hn 2 11 [] [(.normal,[.t 7 i64])],hn 0 7 [.t 5 .str,.t 6 i64] [(.exit 0,[.t 5 .str])]])] (A8 HG (A8 Di (A8 Rd (A8 KQ CT))))
def Yx:A5 (.c0 325 [FH,DN] [.bool] Ke):=k0 [(325,[hn 2 7 [] [(.normal,[.t 59 .bool])],hn 2 13 [.x 2] [(.ret,[.t 4 .bool,.x 2]),(.normal,[.p 2 [.d DN]])],hn 2 11 [.x 2] [(.normal,[.p 2 [.d DN]]),(.ret,[.t 4 .bool,.x 2])],hn 2 9 [.x 2] [(.normal,[.p 2 [.d DN]]),(.ret,[.t 4 .bool,.x 2])],hn 2 8 [.x 2] [(.normal,[.p 2 [.d DN]]),(.ret,[.t 4 .bool,.x 2])]])] CT
def Yv:A5 (.c0 291 [FH] [.bool] Kc):=k0 [(291,[hn 0 5 [.t 4 i64] [(.ret,[.t 2 .bool]),(.exit 0,[])],hn 0 10 [.t 5 i64] [(.ret,[.t 2 .bool]),(.exit 2,[])],hn 0 15 [.t 6 i64] [(.ret,[.t 2 .bool]),(.exit 4,[])]])] (A8 Yx CT)
def MA:A5 (.c0 242 [FH,i64] [i64] GY):=k0 [] (A8 Yv CT)
def P7:A5 (.c0 292 [(.list i64),i64] [(.list i64)] Ex):=k0 [(292,[hn 2 6 [.x 0] [(.normal,[.u 0 i64,.g 5 0])],⟨0,3,[(5,i64)],[],[],[],[.t 6 i64,.u 0 i64,.g 5 0],[(.exit 0,[.u 0 i64,.g 5 0])]⟩])] CT
def aO:A5 (.c0 245 [(.list i64),i64] [(.list i64)] E9):=k0 [(245,[hn 2 7 [.x 0] [(.normal,[.t 6 .bool,.u 0 i64,.g 5 0])],hn 2 10 [.x 0] [(.normal,[.u 0 i64,.g 5 0])],⟨0,4,[(5,i64)],[],[],[],[.t 6 .bool,.t 7 i64,.u 0 i64,.g 5 0],[(.exit 0,[.t 6 .bool,.u 0 i64,.g 5 0])]⟩,hn 2 12 [.x 0] [(.normal,[.u 0 i64,.g 5 0])]])] CT
def Yw:A5 (.c0 210 [FH,i64,.str] [FH,i64] Om):=k0 [(210,[hn 2 16 [.x 7,.x 8,.x 9] [(.normal,[.u 8 DN,.u 9 DN,.g 10 8,.p 7 [.o 4,.d i64,.o 5,.d .bool,.o 9]])],⟨0,13,[(10,DN)],[(7,4,DN)],[],[],[.t 11 i64,.u 8 DN,.u 4 .str,.u 5 i64,.u 9 DN,.g 10 8,.p 7 [.o 4,.d i64,.o 5,.d .bool,.o 9],.p 2 [.o 4,.d i64,.o 5,.d .bool,.o 6],.p 3 [.o 4,.d i64,.o 5,.d .bool,.o 6]],[(.exit 0,[.u 8 DN,.u 4 .str,.u 5 i64,.u 9 DN,.g 10 8,.p 7 [.o 4,.d i64,.o 5,.d .bool,.o 9],.p 2 [.o 4,.d i64,.o 5,.d .bool,.o 6],.p 3 [.o 4,.d i64,.o 5,.d .bool,.o 6]])]⟩,hn 2 29 [.x 2,.x 3,.x 4,.x 7] [(.normal,[.t 12 .bool,.u 4 .str,.p 7 [.o 4,.d i64,.d (.list i64),.d .bool,.o 9],.p 2 [.o 4,.d i64,.d (.list i64),.d .bool,.o 6],.p 3 [.o 4,.d i64,.d (.list i64),.d .bool,.o 6]])],hn 2 26 [.x 2,.x 3,.x 4,.x 7] [(.normal,[.t 12 .bool,.u 4 .str,.p 2 [.o 4,.d i64,.d (.list i64),.d .bool,.o 6],.p 3 [.o 4,.d i64,.d (.list i64),.d .bool,.o 6],.p 7 [.o 4,.d i64,.d (.list i64),.d .bool,.o 9]])],hn 2 24 [.x 2,.x 3,.x 4,.x 7] [(.normal,[.t 12 .bool,.u 4 .str,.p 2 [.o 4,.d i64,.d (.list i64),.d .bool,.o 6],.p 3 [.o 4,.d i64,.d (.list i64),.d .bool,.o 6],.p 7 [.o 4,.d i64,.d (.list i64),.d .bool,.o 9]])],⟨0,20,[],[],[5],[],[.t 12 .bool,.t 13 i64,.u 4 .str,.u 6 DN,.u 4 .str,.u 6 DN,.u 4 .str,.u 9 DN,.p 2 [.o 4,.d i64,.d (.list i64),.d .bool,.o 6],.p 3 [.o 4,.d i64,.d (.list i64),.d .bool,.o 6],.p 7 [.o 4,.d i64,.d (.list i64),.d .bool,.o 9]],[(.exit 2,[.t 12 .bool,.u 4 .str,.u 6 DN,.u 9 DN,.p 2 [.o 4,.d i64,.d (.list i64),.d .bool,.o 6],.p 3 [.o 4,.d i64,.d (.list i64),.d .bool,.o 6],.p 7 [.o 4,.d i64,.d (.list i64),.d .bool,.o 9]])]⟩,hn 2 32 [.x 2,.x 3,.x 4,.x 7] [(.normal,[.u 4 .str,.p 7 [.o 4,.d i64,.d (.list i64),.d .bool,.o 9],.p 2 [.o 4,.d i64,.d (.list i64),.d .bool,.o 6],.p 3 [.o 4,.d i64,.d (.list i64),.d .bool,.o 6]])],hn 2 45 [.x 7] [(.normal,[.p 7 [.o 4,.d i64,.d (.list i64),.d .bool,.o 9]])],hn 2 43 [.x 7] [(.normal,[.p 7 [.o 4,.d i64,.d (.list i64),.d .bool,.o 9]])],hn 2 39 [.x 2,.x 3,.x 4,.x 7] [(.normal,[.u 4 .str,.p 7 [.o 4,.d i64,.d (.list i64),.d .bool,.o 9],.p 2 [.o 4,.d i64,.d (.list i64),.d .bool,.o 6],.p 3 [.o 4,.d i64,.d (.list i64),.d .bool,.o 6]])],hn 0 34 [.t 14 i64,.u 4 .str,.u 6 DN,.u 4 .str,.u 6 DN,.u 4 .str,.u 9 DN,.p 2 [.o 4,.d i64,.d (.list i64),.d .bool,.o 6],.p 3 [.o 4,.d i64,.d (.list i64),.d .bool,.o 6],.p 7 [.o 4,.d i64,.d (.list i64),.d .bool,.o 9]] [(.exit 5,[.u 4 .str,.u 6 DN,.u 9 DN,.p 2 [.o 4,.d i64,.d (.list i64),.d .bool,.o 6],.p 3 [.o 4,.d i64,.d (.list i64),.d .bool,.o 6],.p 7 [.o 4,.d i64,.d (.list i64),.d .bool,.o 9]])]])] (A8 MA (A8 P7 (A8 aO CT)))
def KR:A5 (.c0 293 [EI,i64,RY] [EI] Hw):=k0 [] CT
def Y4:A5 (.c0 246 [EI,i64,i64] [EI,i64] Oo):=k0 [(246,[hn 2 14 [.x 2] [(.normal,[.p 2 [.d RY]])],hn 2 12 [.x 2] [(.normal,[.p 2 [.d RY]])]])] (A8 EB (A8 GU (A8 KR CT)))
def DX:A5 (.c0 251 [(.list Bj),i64] [i64] CG):=k0 [] (A8 Jh CT)
def EJ:A5 (.c0 13 [AY] [.bool] A7):=k0 [] CT
def N0:A5 (.c0 222 [Au,i64] [i64] GJ):=k0 [] (A8 Bx (A8 IH (A8 I9 CT)))
def XZ:A5 (.c0 252 [CU,AY] [CU,i64,i64] Jo):=k0 [] (A8 Ch (A8 GS (A8 Df CT)))
def Gu:A5 (.c0 253 [CU,i64] [AY,i64] Eo):=k0 [] (A8 Ch (A8 GS CT))
def MB:A5 (.c0 295 [(.list Bj),i64] [(.list Bj)] Gc):=k0 [(295,[hn 2 6 [.x 0] [(.normal,[.u 0 Bj,.g 5 0])],⟨0,3,[(5,Bj)],[],[],[],[.t 6 i64,.u 0 Bj,.g 5 0],[(.exit 0,[.u 0 Bj,.g 5 0])]⟩])] CT
def Qb:A5 (.c0 297 [Bj] [Bj] Ho):=k0 [(297,[hn 2 2 [.x 0] [(.normal,[.p 0 [.d Bj]])]])] CT
def Oj:A5 (.c0 296 [(.list Bj),i64,Bj] [(.list Bj)] Hy):=k0 [] CT
def SM:A5 (.c0 254 [(.list Bj),AY] [(.list Bj),i64] GI):=k0 [(254,[hn 2 24 [.x 2] [(.normal,[.u 2 i64,.g 8 2])],⟨0,21,[(8,i64)],[],[],[],[.t 9 i64,.u 2 i64,.g 8 2],[(.exit 2,[.u 2 i64,.g 8 2])]⟩,hn 2 19 [.x 1] [(.ret,[.t 4 (.list Bj),.t 5 i64,.x 1]),(.normal,[.p 1 [.d Bj]])],hn 2 17 [.x 1] [(.normal,[.p 1 [.d Bj]]),(.ret,[.t 4 (.list Bj),.t 5 i64,.x 1])]])] (A8 Ew (A8 Df (A8 Jh (A8 MB (A8 Qb (A8 Oj CT))))))
def cZ:A5 (.c0 298 [EA,i64,YW] [EA] Mp):=k0 [] CT
def SL:A5 (.c0 255 [EA,AY] [EA,i64] HK):=k0 [] (A8 Fz (A8 Df (A8 cZ CT)))
def Fi:A5 (.c0 214 [Au,AY] [Au,i64,i64] EG):=k0 [(214,[hn 2 5 [.x 1,.x 2] [(.ret,[.t 5 i64,.t 6 i64,.p 2 [.d Au],.x 1]),(.normal,[.p 1 [.d AY],.p 2 [.d Au]])],hn 2 10 [.x 1] [(.normal,[.p 1 [.d AY]])]])] (A8 Bx (A8 DX (A8 EJ (A8 N0 (A8 XZ (A8 Gu (A8 SM (A8 SL CT))))))))
def WY:A5 (.c0 211 [Au,i64,i64] [Au,i64] JI):=k0 [(211,[hn 2 7 [.x 1,.x 2] [(.ret,[.t 7 i64,.p 1 [.d Au],.x 2]),(.normal,[.p 2 [.d EI],.p 1 [.d Au]])]])] (A8 Bx (A8 Jg (A8 FI (A8 Y4 (A8 Fi CT)))))
def Rj:A5 (.c0 188 [At,Au,CY] [At,i64] IR):=k0 [] (A8 L9 (A8 Yw (A8 WY CT)))
def ZL:A5 (.c0 160 [At,i64] [At,i64] Kx):=k0 [] (A8 Y9 (A8 FI (A8 Rj CT)))
def Y5:A5 (.c0 247 [EI] [(.list Bn)] Kj):=k0 [(247,[hn 2 9 [.x 1] [(.normal,[.u 1 Bn,.g 3 1])],⟨0,5,[(3,Bn)],[],[],[],[.t 4 i64,.u 1 Bn,.g 3 1],[(.exit 0,[.u 1 Bn,.g 3 1])]⟩])] (A8 EB (A8 GU CT))
def dT:A5 (.c0 212 [Au] [HE,i64] OK):=k0 [(212,[hn 2 9 [.x 2,.x 3] [(.normal,[.u 3 Bn,.p 2 [.d i64,.d i64,.d (.list Bj),.o 3,.d EA]])],hn 2 14 [.x 2,.x 3] [(.normal,[.u 3 Bn,.p 2 [.d i64,.d i64,.d (.list Bj),.o 3,.d EA]])],hn 0 11 [.t 46 i64,.u 3 Bn,.p 2 [.d i64,.d i64,.d (.list Bj),.o 3,.d EA]] [(.exit 2,[.u 3 Bn,.p 2 [.d i64,.d i64,.d (.list Bj),.o 3,.d EA]])],⟨0,5,[],[(2,3,Bn)],[],[],[.t 5 i64,.u 3 Bn,.p 2 [.d i64,.d i64,.d (.list Bj),.o 3,.d EA]],[(.exit 0,[.u 3 Bn,.p 2 [.d i64,.d i64,.d (.list Bj),.o 3,.d EA]])]⟩])] (A8 Bx (A8 I9 (A8 Y5 CT)))
def Ri:A5 (.c0 248 [HE] [.bool] Gz):=k0 [(248,[hn 0 4 [.t 3 i64] [(.ret,[.t 2 .bool]),(.exit 0,[])]])] (A8 Ew (A8 OT (A8 Fz CT)))
def WX:A5 (.c0 294 [.str,(.list i64)] [.str] HM):=k0 [(294,[hn 0 2 [.t 0 .str,.t 5 i64] [(.exit 0,[.t 0 .str])]])] (A8 Di CT)
def Xh:A5 (.c0 249 [(.list Bj)] [.str,i64] Js):=k0 [(249,[hn 0 5 [.t 4 .str,.t 5 i64] [(.exit 0,[.t 4 .str])]])] (A8 Ew (A8 Di (A8 WX CT)))
def Xf:A5 (.c0 250 [EA] [.str,i64] Hl):=k0 [(250,[hn 0 5 [.t 4 .str,.t 5 i64] [(.exit 0,[.t 4 .str])]])] (A8 Fz (A8 Di CT))
def Xn:A5 (.c0 213 [HE] [.str,i64] Gd):=k0 [(213,[hn 0 9 [.t 6 .str,.t 7 i64] [(.exit 0,[.t 6 .str])]])] (A8 Ri (A8 Xh (A8 Di (A8 Xf CT))))
def ab:A5 (.c0 189 [Au] [Au,i64,i64] PY):=k0 [] (A8 dT (A8 Xn (A8 Fi (A8 I7 CT))))
def UP:A5 (.c0 161 [At] [At,i64,i64] KJ):=k0 [] (A8 ab CT)
def aN:A5 (.c0 215 [FH,i64,.str,i64] [FH,i64] Lc):=k0 [] (A8 MA (A8 P7 CT))
def M0:A5 (.c0 92 [.str] [.str] D8):=k0 [] (A8 Di (A8 KQ CT))
def aR:A5 (.c0 256 [i64] [.str] Ld):=k0 [] (A8 Di (A8 M0 CT))
def aP:A5 (.c0 128 [.str,L4] [.str] GF):=k0 [] (A8 Di CT)
def QZ:A5 (.c0 94 [AY] [.str,i64] FJ):=k0 [] (A8 Df (A8 Di (A8 aP CT)))
def Y0:A5 (.c0 257 [AY] [.str] IL):=k0 [] (A8 QZ (A8 M0 CT))
def Yz:A5 (.c0 216 [CU,i64] [.str] Gw):=k0 [(216,[hn 2 8 [] [(.normal,[.t 5 .str,.t 6 .str])],hn 0 5 [.t 5 .str,.t 6 .str,.t 7 i64] [(.exit 0,[.t 5 .str,.t 6 .str])]])] (A8 Ch (A8 aR (A8 Y0 CT)))
def ZK:A5 (.c0 190 [At,i64,i64,i64] [FH,.str] Ot):=k0 [(190,[hn 2 8 [.x 3] [(.normal,[.p 3 [.d FH]])],hn 2 4 [.x 2,.x 3] [(.normal,[.p 2 [.d Au],.p 3 [.d FH]])]])] (A8 FI (A8 L9 (A8 I8 (A8 aN (A8 Yz CT)))))
def Ee:A5 (.c0 180 [.str,i64,i64] [i64,i64] Av):=k0 [(180,[hn 0 7 [.t 8 (.int .u64),.t 9 i64] [(.exit 0,[.t 8 (.int .u64)])]])] CT
def P0:A5 (.c0 150 [.str,i64] [.str,i64,i64] By):=k0 [] (A8 Ee (A8 KQ CT))
def Mf:A5 (.c1 181 0 Nr [i64] [i64] BC):=k1 [] (A8 Ee CT)
def M3:A5 (.c1 183 0 Nr [i64] [.str] Cq):=k1 [] CT
def T2:A5 (.c1 182 0 Nr [] [L4] Cg):=k1 [] (A8 Mf (A8 M3 CT))
def QY:A5 (.c0 152 [.str] [AY,i64] Dt):=k0 [] (A8 Mf (A8 T2 (A8 M3 (A8 Df CT))))
def aQ:A5 (.c0 258 [.str] [CU,i64] Iw):=k0 [(258,[⟨0,8,[],[(1,1,AY)],[],[],[.t 5 i64,.u 2 AY,.p 1 [.d i64,.o 2,.d i64],.p 0 [.d CU]],[(.ret,[.t 3 i64,.p 0 [.d CU],.x 1,.x 2]),(.exit 0,[.u 2 AY,.p 1 [.d i64,.o 2,.d i64],.p 0 [.d CU]])]⟩])] (A8 P0 (A8 Ee (A8 QY CT)))
def Mg:A5 (.c1 336 0 GR [i64] [i64] CO):=k1 [] (A8 Ee CT)
def T4:A5 (.c1 337 0 GR [i64] [(.list i64)] Fx):=k1 [(337,[⟨0,3,[(5,i64)],[],[],[],[.t 6 i64,.u 1 i64,.g 5 1,.p 0 [.d GR]],[(.exit 0,[.u 1 i64,.g 5 1,.p 0 [.d GR]])]⟩])] (A8 Mg CT)
def Xg:A5 (.c0 334 [.str] [(.list Bj),i64] Jr):=k0 [(334,[⟨0,4,[(5,Bj)],[],[],[],[.t 6 i64,.u 1 Bj,.g 5 1,.p 0 [.d GR]],[(.exit 0,[.u 1 Bj,.g 5 1,.p 0 [.d GR]])]⟩])] (A8 Mg (A8 T4 (A8 Ew CT)))
def Xe:A5 (.c0 335 [.str] [EA,i64] ER):=k0 [(335,[⟨0,8,[],[(1,0,YW)],[],[],[.t 7 i64,.u 2 YW,.p 1 [.o 2]],[(.exit 1,[.u 2 YW,.p 1 [.o 2]])]⟩])] (A8 Ee (A8 Fz CT))
def Xm:A5 (.c0 331 [.str] [HE,i64] C3):=k0 [(331,[⟨0,15,[],[(1,3,Bn)],[],[],[.t 9 i64,.t 11 i64,.u 2 Bn,.p 1 [.d i64,.d i64,.d (.list Bj),.o 2,.d EA]],[(.exit 0,[.t 9 i64,.u 2 Bn,.p 1 [.d i64,.d i64,.d (.list Bj),.o 2,.d EA]])]⟩])] (A8 Ee (A8 Xg (A8 Xe (A8 Ri CT))))
def Xo:A5 (.c0 326 [CU] [HE,i64,.bool] OJ):=k0 [(326,[hn 0 4 [.t 5 i64,.p 1 [.d HE]] [(.ret,[.t 3 i64,.t 4 .bool,.p 1 [.d HE]]),(.exit 0,[.p 1 [.d HE]])]])] (A8 Ch (A8 Xm CT))
def ZF:A5 (.c0 299 [CU,i64] [Eu,i64] Oq):=k0 [] (A8 Xo (A8 S7 CT))
def ZD:A5 (.c0 327 [(.list Bn),AY] [(.list Bn)] G0):=k0 [(327,[hn 2 10 [.x 1] [(.normal,[.t 6 .bool,.u 1 Bn,.g 5 1])],hn 2 18 [.x 2] [(.normal,[.p 2 [.d Bn]])],hn 2 15 [.x 2] [(.normal,[.p 2 [.d Bn]]),(.exit 1,[.p 2 [.d Bn]])],hn 2 13 [.x 2] [(.normal,[.t 6 .bool,.p 2 [.d Bn]]),(.exit 1,[.t 6 .bool,.p 2 [.d Bn]])],⟨0,6,[(5,Bn)],[],[],[],[.t 6 .bool,.t 7 i64,.u 1 Bn,.g 5 1],[(.exit 0,[.t 6 .bool,.u 1 Bn,.g 5 1])]⟩,hn 2 21 [.x 1] [(.normal,[.u 1 Bn,.g 5 1])]])] (A8 EJ CT)
def ae:A5 (.c0 300 [Eu,AY] [Eu,i64] Ln):=k0 [(300,[hn 2 2 [.x 0,.x 2] [(.ret,[.t 5 i64,.p 2 [.d Eu],.x 0]),(.normal,[.p 0 [.d Eu],.p 2 [.d Eu]])]])] (A8 DX (A8 Rh (A8 SM (A8 SL (A8 EJ (A8 ZD CT))))))
def ac:A5 (.c0 332 [BW,BW] [.bool] FB):=k0 [] CT
def af:A5 (.c0 328 [(.list BW),BW] [(.list BW)] Pc):=k0 [(328,[hn 0 2 [.t 5 i64] [(.exit 0,[.t 5 i64])]])] (A8 ac CT)
def ZE:A5 (.c0 301 [CU,(.list Bj)] [(.list BW),i64] Ks):=k0 [(301,[hn 0 6 [.t 6 (.list BW),.t 8 i64] [(.ret,[.t 4 (.list BW),.t 5 i64]),(.exit 2,[.t 6 (.list BW)])],hn 0 3 [.t 6 (.list BW),.t 7 i64] [(.ret,[.t 4 (.list BW),.t 5 i64]),(.exit 0,[.t 6 (.list BW)])]])] (A8 Gu (A8 af CT))
def Wb:A5 (.c0 259 [CU,i64] [Eu,i64] JL):=k0 [(259,[hn 0 9 [.t 8 i64,.p 2 [.d Eu],.p 1 [.d Eu]] [(.ret,[.t 5 i64,.p 1 [.d Eu],.x 2]),(.exit 0,[.p 2 [.d Eu],.p 1 [.d Eu]])],hn 2 20 [.x 3] [(.normal,[.u 3 Bj,.g 9 3])],⟨0,17,[(9,Bj)],[],[],[],[.t 10 i64,.u 3 Bj,.g 9 3],[(.exit 2,[.u 3 Bj,.g 9 3])]⟩])] (A8 Ch (A8 ZF (A8 ae (A8 ZE CT))))
def ZI:A5 (.c0 260 [CU,Eu,i64] [Au,i64] Kv):=k0 [(260,[hn 0 8 [.t 11 i64,.p 4 [.d Au],.p 2 [.d Au]] [(.ret,[.t 7 i64,.p 2 [.d Au],.x 4]),(.exit 0,[.p 4 [.d Au],.p 2 [.d Au]])]])] (A8 S6 (A8 Bx (A8 Fi CT)))
def ak:A5 (.c0 217 [FH,.str,i64,i64] [At,i64] Pd):=k0 [] (A8 aQ (A8 Wb (A8 ZI CT)))
def am:A5 (.c0 191 [FH,.str,i64,i64] [At,i64] Pe):=k0 [] (A8 ak CT)
def Xd:A5 (.c0 306 [EI] [EI,i64,i64] OG):=k0 [(306,[hn 0 5 [.p 0 [.d EI]] [(.exit 0,[.p 0 [.d EI]])]])] (A8 EB (A8 KR CT))
def aV:A5 (.c0 307 [EI,i64] [EI,i64] Li):=k0 [(307,[hn 2 10 [.x 0] [(.normal,[.p 0 [.d i64,.o 2,.d i64]])],hn 2 12 [.x 0] [(.normal,[.p 0 [.d i64,.o 2,.d i64]])]])] (A8 EB (A8 GU CT))
def aY:A5 (.c0 264 [Au] [Au,CY,.bool,i64] Ll):=k0 [] (A8 Bx (A8 Xd (A8 FI (A8 aV (A8 I8 CT)))))
def aj:A5 (.c0 220 [At] [At,i64] Ls):=k0 [(220,[hn 0 1 [.p 0 [.d At],.p 1 [.d At]] [(.ret,[.t 3 i64,.p 1 [.d At],.x 0])]])] (A8 aY (A8 Rj CT))
def cV:A5 (.c0 265 [(.list i64),i64] [.bool] Mm):=k0 [(265,[hn 0 2 [.t 5 i64] [(.ret,[.t 4 .bool]),(.exit 0,[])]])] CT
def aM:A5 (.c0 221 [FH,i64] [.str,i64] Lb):=k0 [] (A8 MA (A8 cV CT))
def Yt:A5 (.c0 329 [] [.str] Ka):=k0 [] (A8 Rd CT)
def XW:A5 (.c0 308 [.str] [CY,i64] Jl):=k0 [(308,[hn 0 14 [.t 7 i64,.p 1 [.d CY],.p 0 [.d CY]] [(.ret,[.t 3 i64,.p 0 [.d CY],.x 1]),(.exit 1,[.p 1 [.d CY],.p 0 [.d CY]])]])] (A8 Yt (A8 Ee (A8 KQ (A8 L9 CT))))
def cT:A5 (.c0 309 [i64] [CY] Ml):=k0 [] CT
def Vk:A5 (.c0 266 [.str,i64] [CY,i64] Ih):=k0 [] (A8 XW (A8 cT CT))
def Y6:A5 (.c0 223 [EA,i64,i64,.str] [CY,i64] Kl):=k0 [] (A8 Fz (A8 Vk CT))
def Y1:A5 (.c0 333 [AY,(.list AY)] [(.list AY)] Kg):=k0 [] CT
def aS:A5 (.c0 330 [CU,i64,i64,i64] [(.list AY),i64] Le):=k0 [(330,[hn 0 7 [.t 10 (.list AY),.t 11 i64] [(.ret,[.t 8 (.list AY),.t 9 i64]),(.exit 0,[.t 10 (.list AY),.t 11 i64])]])] (A8 Ch (A8 Gu (A8 EJ (A8 Y1 CT))))
def ZH:A5 (.c0 310 [CU,CY,i64] [(.list AY),i64] Ku):=k0 [] (A8 Ch (A8 HG (A8 aS CT)))
def Re:A5 (.c0 272 [CY,Je] [CY,i64] IJ):=k0 [] (A8 Rf CT)
def ZG:A5 (.c0 311 [CY,AY] [CY,i64] Kt):=k0 [] (A8 Df (A8 EJ (A8 HG (A8 Re CT))))
def ah:A5 (.c0 267 [CU,CY,i64] [CY,i64,i64] Lq):=k0 [(267,[hn 0 5 [.t 11 i64,.p 1 [.d CY],.p 2 [.d CY]] [(.ret,[.t 7 i64,.t 8 i64,.p 2 [.d CY],.x 1]),(.exit 0,[.p 1 [.d CY],.p 2 [.d CY]])]])] (A8 ZH (A8 ZG CT))
def ag:A5 (.c0 224 [CU,CY,i64] [CY,i64] Lo):=k0 [] (A8 ah CT)
def Xj:A5 (.c0 225 [Au,CY] [Au,i64] Jv):=k0 [(225,[hn 2 21 [.x 9] [(.normal,[.u 9 Bn,.g 10 9])],⟨0,18,[(10,Bn)],[],[],[],[.t 11 i64,.u 9 Bn,.g 10 9],[(.exit 1,[.u 9 Bn,.g 10 9])]⟩,hn 2 14 [.x 0,.x 3,.x 5,.x 6,.x 7] [(.normal,[.u 6 RY,.p 0 [.d Au],.p 3 [.d i64,.o 6,.d i64],.p 5 [.d i64,.o 6,.d i64],.p 7 [.d i64,.o 6,.d i64]])]])] (A8 Bx (A8 N0 (A8 EB (A8 HG (A8 I9 (A8 GU CT))))))
def JA:A5 (.c0 193 [At,i64] [At,i64] Eh):=k0 [] (A8 Bx (A8 FI (A8 aj (A8 aM (A8 N0 (A8 Y6 (A8 ag (A8 Xj CT))))))))
def Qe:A5 (.c0 226 [Au,i64] [Bj,.bool] Hq):=k0 [(226,[hn 2 2 [.x 1] [(.ret,[.t 5 .bool,.p 1 [.d Bj]]),(.normal,[.p 1 [.d Bj]])]])] (A8 Bx (A8 DX CT))
def ai:A5 (.c0 194 [Au] [(.list i64)] Lr):=k0 [(194,[hn 2 7 [.x 1] [(.normal,[.u 1 i64,.g 3 1])],⟨0,3,[(3,i64)],[],[],[],[.t 4 i64,.u 1 i64,.g 3 1],[(.exit 0,[.u 1 i64,.g 3 1])]⟩])] (A8 Qe CT)
def H8:A5 (.c0 227 [Au,i64] [Bj,i64] E2):=k0 [] (A8 Bx (A8 DX CT))
def Ny:A5 (.c0 270 [(.list BW),i64,.bool,IW] [(.list BW)] GH):=k0 [(270,[hn 2 6 [.x 1] [(.normal,[.u 1 BW,.g 9 1])],⟨0,3,[(9,BW)],[],[],[],[.t 10 i64,.u 1 BW,.g 9 1],[(.exit 0,[.u 1 BW,.g 9 1])]⟩])] CT
def aT:A5 (.c0 312 [DA,i64] [.bool] Lg):=k0 [(312,[hn 0 2 [.t 5 i64] [(.ret,[.t 4 .bool]),(.exit 0,[])],hn 0 7 [.t 6 i64] [(.ret,[.t 4 .bool]),(.exit 2,[])]])] (A8 J8 CT)
def aU:A5 (.c0 313 [(.list BW),BW] [(.list BW)] Lh):=k0 [(313,[hn 2 7 [.x 1] [(.normal,[.t 6 .bool,.u 1 BW,.g 5 1])],hn 2 10 [.x 1] [(.normal,[.u 1 BW,.g 5 1])],⟨0,4,[(5,BW)],[],[],[],[.t 6 .bool,.t 7 i64,.u 1 BW,.g 5 1],[(.exit 0,[.t 6 .bool,.u 1 BW,.g 5 1])]⟩,hn 2 12 [.x 1] [(.normal,[.u 1 BW,.g 5 1])]])] (A8 SI CT)
def If:A5 (.c0 269 [DA] [DA] FK):=k0 [(269,[hn 2 5 [.x 0] [(.normal,[.t 3 i64,.p 0 [.d DA]])],hn 0 2 [.t 3 i64,.p 0 [.d DA]] [(.exit 0,[.p 0 [.d DA]])]])] (A8 aT (A8 aU CT))
def K4:A5 (.c0 228 [DA,i64] [DA] HJ):=k0 [] (A8 Ev (A8 Ny (A8 If CT)))
def aa:A5 (.c0 229 [Au,i64] [AY,.bool] HN):=k0 [] (A8 H8 (A8 Gu CT))
def WU:A5 (.c0 271 [Je] [Je] JC):=k0 [] CT
def Xc:A5 (.c0 314 [EI,CY] [EI,i64] Jq):=k0 [(314,[hn 2 13 [.x 3] [(.normal,[.p 3 [.d RY]])]])] (A8 EB (A8 HG (A8 GU (A8 KR CT))))
def S8:A5 (.c0 273 [Au,AY] [Au,i64] Jb):=k0 [] (A8 Fi (A8 IH (A8 Xc CT)))
def dS:A5 (.c0 315 [Au,Bj,IW,i64] [AY,.bool] OI):=k0 [(315,[hn 0 2 [.t 10 i64,.p 3 [.d AY]] [(.ret,[.t 9 .bool,.p 3 [.d AY]]),(.exit 0,[.p 3 [.d AY]])]])] (A8 Gu CT)
def Qd:A5 (.c0 274 [Au,i64,IW] [AY,.bool] Hp):=k0 [] (A8 H8 (A8 dS CT))
def SH:A5 (.c0 275 [DA,i64,IW] [DA] Lf):=k0 [] (A8 Ev (A8 Ny (A8 If CT)))
def SS:A5 (.c0 230 [Au,Bj,AY] [Au,C2] GK):=k0 [(230,[hn 2 15 [.x 8] [(.normal,[.p 8 [.d Au]])],hn 2 12 [.x 8] [(.normal,[.p 8 [.d Au]])]])] (A8 IH (A8 WU (A8 Re (A8 Cm (A8 S8 (A8 Qd (A8 SH CT)))))))
def SO:A5 (.c0 195 [Au,i64] [Au,C2] Iy):=k0 [] (A8 H8 (A8 Cm (A8 Fi (A8 K4 (A8 aa (A8 SS CT))))))
def an:A5 (.c0 164 [At] [At,.bool,i64] Lt):=k0 [(164,[hn 0 9 [.p 0 [.d At],.p 1 [.d At]] [(.ret,[.t 3 .bool,.t 4 i64,.p 1 [.d At],.x 0])]])] (A8 Bx (A8 JA (A8 ai (A8 SO CT))))
def Xi:A5 (.c0 316 [Au,Ek] [i64] Jt):=k0 [(316,[hn 2 6 [] [(.normal,[.t 11 .bool])],hn 2 5 [] [(.normal,[.t 11 .bool])],hn 2 11 [.x 2] [(.normal,[.p 2 [.d Ek]])],hn 2 18 [] [(.normal,[.t 60 .bool])],hn 2 17 [] [(.normal,[.t 60 .bool])],hn 2 13 [.x 2] [(.ret,[.t 4 i64,.x 2]),(.normal,[.p 2 [.d Ek]])],hn 2 7 [.x 2] [(.ret,[.t 4 i64,.x 2]),(.normal,[.p 2 [.d Ek]])]])] CT
def H7:A5 (.c0 236 [DA,i64] [BW,.bool] Ez):=k0 [(236,[hn 0 3 [.t 6 i64,.p 1 [.d BW]] [(.ret,[.t 5 .bool,.p 1 [.d BW]]),(.exit 0,[.p 1 [.d BW]])],hn 2 2 [.x 1] [(.ret,[.t 5 .bool,.p 1 [.d BW]]),(.normal,[.p 1 [.d BW]])]])] (A8 Ev CT)
def SN:A5 (.c0 282 [i64,Ek] [BW,.bool] Ix):=k0 [(282,[hn 2 7 [] [(.normal,[.t 20 .bool])]])] CT
def Wa:A5 (.c0 277 [Au,i64,Ek] [i64] JK):=k0 [] (A8 Bx (A8 DX (A8 Xi (A8 H7 (A8 SN CT)))))
def Xl:A5 (.c0 278 [Au,i64] [Au,C2] Jx):=k0 [(278,[hn 2 3 [.x 1,.x 2,.x 3] [(.normal,[.p 3 [.d Au],.p 1 [.d Au],.p 2 [.d C2]]),(.ret,[.p 1 [.d Au],.p 2 [.d C2],.x 3])]])] (A8 DX (A8 MB (A8 Fi (A8 Cm (A8 I8 (A8 K4 CT))))))
def Xa:A5 (.c0 317 [DA,i64] [DA] OB):=k0 [] (A8 Ev (A8 Ny (A8 If CT)))
def WZ:A5 (.c0 318 [Au,i64,IW] [.bool] JJ):=k0 [(318,[hn 0 3 [.t 8 i64] [(.ret,[.t 6 .bool]),(.exit 0,[])]])] (A8 DX (A8 Gu CT))
def ZB:A5 (.c0 279 [Au,i64,i64] [Au,C2] IQ):=k0 [(279,[hn 2 15 [.x 3] [(.normal,[.p 3 [.d Au]])],hn 0 12 [.t 12 i64,.p 3 [.d Au]] [(.exit 0,[.p 3 [.d Au]])]])] (A8 Xa (A8 DX (A8 MB (A8 K4 (A8 Fi (A8 Cm (A8 WZ (A8 SH CT))))))))
def Qa:A5 (.c0 319 [(.list Bj),i64] [i64,i64] Hm):=k0 [] (A8 Ew (A8 Jh CT))
def aX:A5 (.c0 280 [(.list Bj),i64] [(.list Bj),i64] Lk):=k0 [] (A8 Qa (A8 Oj CT))
def aW:A5 (.c0 281 [(.list Bj),i64,i64] [(.list Bj),i64] Lj):=k0 [] (A8 Qa (A8 Qb (A8 Oj CT)))
def Y2:A5 (.c0 320 [DA,BW] [i64] IM):=k0 [(320,[hn 0 4 [.t 5 i64] [(.ret,[.t 4 i64]),(.exit 0,[])]])] (A8 Nz CT)
def WV:A5 (.c0 283 [DA,BW] [DA,.bool,i64] NH):=k0 [] (A8 Ev (A8 Rg (A8 H7 (A8 Nz (A8 Y2 (A8 If CT))))))
def cX:A5 (.c0 321 [EI,i64] [EI] Mn):=k0 [] (A8 FI (A8 KR CT))
def Xk:A5 (.c0 284 [Au,i64,Ek] [Au,C2] Jw):=k0 [(284,[hn 2 9 [.x 5] [(.normal,[.p 5 [.d Je]])]])] (A8 IH (A8 cX (A8 S8 (A8 Cm CT))))
def SJ:A5 (.c0 288 [(.list i64),i64] [(.list i64)] E9):=k0 [(288,[hn 2 7 [.x 0] [(.normal,[.t 6 .bool,.u 0 i64,.g 5 0])],hn 2 10 [.x 0] [(.normal,[.u 0 i64,.g 5 0])],⟨0,4,[(5,i64)],[],[],[],[.t 6 .bool,.t 7 i64,.u 0 i64,.g 5 0],[(.exit 0,[.t 6 .bool,.u 0 i64,.g 5 0])]⟩,hn 2 12 [.x 0] [(.normal,[.u 0 i64,.g 5 0])]])] CT
def WW:A5 (.c0 322 [DA] [(.list i64)] JE):=k0 [(322,[hn 0 4 [.t 3 (.list i64),.t 4 i64] [(.exit 0,[.t 3 (.list i64)])],hn 2 3 [] [(.normal,[.t 3 (.list i64)])]])] (A8 Ev (A8 SJ CT))
def Oi:A5 (.c0 237 [DA,i64] [(.list i64)] Hu):=k0 [(237,[hn 2 9 [] [(.normal,[.t 7 (.list i64)])],hn 0 6 [.t 7 (.list i64),.t 8 i64] [(.exit 0,[.t 7 (.list i64)])],hn 2 14 [] [(.normal,[.t 7 (.list i64)])],hn 0 11 [.t 7 (.list i64),.t 9 i64] [(.exit 2,[.t 7 (.list i64)])]])] (A8 H7 (A8 J8 (A8 SJ CT)))
def Xb:A5 (.c0 323 [DA,(.list i64),i64] [(.list i64)] OE):=zE (P:=Tryz.prog) (F:=323) (ds:=[DA,(.list i64),i64]) (rs:=[(.list i64)]) (f:=EW) (hs:=VC [(323,[hn 0 4 [.t 30 i64] [(.ret,[.t 6 (.list i64)]),(.exit 0,[])],hn 0 15 [.t 12 .bool,.t 49 i64] [(.exit 4,[.t 12 .bool])],hn 0 11 [.t 43 i64] [(.ret,[.t 6 (.list i64)]),(.exit 2,[])]])]) (n:=13) (A8 Oi CT) (λg x=>by kernel_rfl)
def Y3:A5 (.c0 285 [DA,i64] [(.list i64)] Kh):=k0 [(285,[hn 0 2 [.t 5 i64] [(.ret,[.t 4 (.list i64)]),(.exit 0,[])]])] (A8 WW (A8 Xb CT))
def ZA:A5 (.c0 324 [(.list i64)] [i64] Kq):=k0 [] CT
def cg:A5 (.c0 286 [Au,i64] [i64] Mq):=k0 [] (A8 Oi (A8 ZA CT))
def dR:A5 (.c0 233 [Au,i64,Ek] [Au,C2] OH):=k0 [(233,[hn 2 10 [] [(.normal,[.t 46 .bool])],hn 2 13 [] [(.normal,[.t 9 (.list Bj),.t 10 i64])]])] (A8 Wa (A8 Cm (A8 Xl (A8 ZB (A8 aX (A8 aW (A8 SN (A8 WV (A8 Xk (A8 Y3 (A8 cg CT)))))))))))
def P8:A5 (.c0 234 [At,i64] [.bool] ED):=k0 [] (A8 DX CT)
def Vl:A5 (.c0 235 [At,i64] [At,i64] EX):=k0 [(235,[hn 2 12 [.x 0,.x 1] [(.ret,[.t 5 i64,.p 1 [.d At],.x 0]),(.normal,[.p 0 [.d At],.p 1 [.d At]])],hn 0 5 [.p 0 [.d At],.p 1 [.d At]] [(.ret,[.t 5 i64,.p 1 [.d At],.x 0]),(.exit 0,[.p 0 [.d At],.p 1 [.d At]])]])] (A8 Bx (A8 DX (A8 P8 (A8 SO (A8 JA CT)))))
def dU:A5 (.c0 202 [At,i64,Ek] [At,C2] OL):=k0 [(202,[hn 2 10 [.x 0,.x 2,.x 3] [(.ret,[.p 2 [.d At],.p 3 [.d C2],.x 0]),(.normal,[.p 0 [.d At],.p 2 [.d At],.p 3 [.d C2]])],hn 0 1 [.p 0 [.d At],.p 2 [.d At],.p 3 [.d C2]] [(.ret,[.p 2 [.d At],.p 3 [.d C2],.x 0])]])] (A8 dR (A8 JA (A8 Cm (A8 P8 (A8 Vl CT)))))
def Wc:A5 (.c0 203 [Au,i64] [i64,IW,.bool] JM):=k0 [(203,[hn 0 5 [.t 28 i64,.p 1 [.d IW]] [(.ret,[.t 4 i64,.t 6 .bool,.p 1 [.d IW]]),(.exit 0,[.p 1 [.d IW]])]])] (A8 H7 (A8 Oi (A8 Qe CT)))
def aZ:A5 (.c0 238 [Au,i64,IW] [Au,C2] Lm):=k0 [] (A8 H8 (A8 Cm (A8 Qd (A8 SS CT))))
def ao:A5 (.c0 204 [At,i64,IW] [At,i64,i64] Lu):=k0 [(204,[hn 2 8 [.x 0,.x 2] [(.ret,[.t 7 i64,.t 8 i64,.p 2 [.d At],.x 0]),(.normal,[.t 9 i64,.p 0 [.d At],.p 2 [.d At]])],hn 0 2 [.t 9 i64,.p 0 [.d At],.p 2 [.d At]] [(.ret,[.t 7 i64,.t 8 i64,.p 2 [.d At],.x 0])]])] (A8 aZ (A8 JA CT))
def dV:A5 (.c0 185 [At,i64,Ek] [At,C2] OM):=k0 [(185,[hn 0 1 [.p 0 [.d At],.p 2 [.d At],.p 3 [.d C2]] [(.ret,[.p 2 [.d At],.p 3 [.d C2],.x 0])]])] (A8 dU (A8 Wc (A8 ao (A8 Cm CT))))
def cn:A5 (.c0 105 [At,(.list RH)] [At,(.list C2),(.list Va)] Mt):=k0 [(105,[⟨0,4,[(8,C2)],[(2,18,i64),(2,19,Va)],[],[],[.t 9 i64,.u 3 C2,.u 4 i64,.u 5 Va,.g 8 3,.p 2 [.d At,.o 4,.o 5,.d .bool]],[(.exit 0,[.u 3 C2,.u 4 i64,.u 5 Va,.g 8 3,.p 2 [.d At,.o 4,.o 5,.d .bool]])]⟩]),(134,[hn 2 5 [.x 2,.x 4] [(.normal,[.u 4 i64,.p 2 [.d At,.o 4,.o 5,.d .bool]])],hn 2 19 [.x 2] [(.normal,[.p 2 [.d At,.o 4,.o 5,.d .bool]])]]),(158,[hn 2 2 [.x 2] [(.normal,[.p 2 [.d At,.o 4,.o 5,.d .bool]])]]),(159,[hn 2 9 [.x 2,.x 5] [(.normal,[.u 5 Va,.p 2 [.d At,.o 4,.o 5,.d .bool]])]]),(163,[hn 0 4 [.t 9 i64,.u 4 i64,.p 2 [.d At,.o 4,.o 5,.d .bool]] [(.exit 0,[.u 4 i64,.p 2 [.d At,.o 4,.o 5,.d .bool]])]])] (A8 ZJ (A8 Xp (A8 Cm (A8 ZL (A8 UP (A8 Jg (A8 I7 (A8 ZK (A8 am (A8 an (A8 dV CT)))))))))))
def Tc:A5 (.c1 65 0 A4 [i64,.bool] [At] HC):=k1 [] (A8 CM (A8 ck (A8 Sw (A8 cn CT))))
def Tz:A5 (.c1 43 0 A4 [i64,.bool] [Au] HV):=k1 [] (A8 Tc CT)
def dQ:A5 (.c1 20 0 A4 [i64] [i64,CU] KB):=k1 [] (A8 Tz (A8 Jg (A8 I7 CT)))
def Yr:A5 (.c1 45 0 A4 [i64] [(.list i64)] KY):=k1 [(45,[hn 2 6 [.x 1] [(.normal,[.u 1 i64,.g 5 1])],hn 0 3 [.t 6 i64,.u 1 i64,.g 5 1,.p 0 [.d A4]] [(.exit 0,[.u 1 i64,.g 5 1,.p 0 [.d A4]])]])] (A8 CM CT)
def M4:A5 (.c0 59 [BJ] [.bool] Ej):=k0 [(59,[hn 0 5 [.t 3 i64,.t 4 i64] [(.ret,[.t 2 .bool]),(.exit 0,[])]])] (A8 Qh CT)
def Rk:A5 (.c0 66 [BJ,i64] [i64,i64] Fm):=k0 [(66,[hn 2 3 [] [(.normal,[.t 5 i64])]])] CT
def QA:A5 (.c0 107 [i64,i64,i64,i64,i64] [.bool] HQ):=k0 [] CT
def P9:A5 (.c0 125 [AY,AY] [i64] Dh):=k0 [] CT
def Qg:A5 (.c0 90 [(.list AY),AY] [(.list AY),.bool] FO):=k0 [(90,[hn 0 2 [.t 6 i64] [(.exit 0,[.t 6 i64])]])] (A8 P9 CT)
def JB:A5 (.c0 91 [Bq] [.bool] Ei):=k0 [(91,[hn 2 12 [] [(.ret,[.t 2 .bool]),(.normal,[])],hn 0 4 [.t 3 i64] [(.ret,[.t 2 .bool]),(.exit 0,[])]])] (A8 QA (A8 Df (A8 EJ (A8 P9 CT))))
def au:A5 (.c0 67 [(.list AY),i64,i64,i64,i64,i64] [Bq,i64] Iz):=k0 [(67,[hn 0 4 [.t 14 i64,.p 0 [.d Bq]] [(.ret,[.t 13 i64,.p 0 [.d Bq]]),(.exit 0,[.p 0 [.d Bq]])],hn 0 16 [.t 16 .bool,.t 19 i64] [(.exit 4,[.t 16 .bool])],hn 0 11 [.t 16 .bool,.t 17 i64,.p 1 [.d Bq]] [(.exit 2,[.t 16 .bool,.p 1 [.d Bq]])]])] (A8 QA (A8 Df (A8 EJ (A8 Qg (A8 JB CT)))))
def aq:A5 (.c0 93 [Bq] [.str] HP):=k0 [] (A8 Di CT)
def Qf:A5 (.c0 62 [Bq] [.str,i64] Ge):=k0 [(62,[hn 0 5 [.t 4 .str,.t 5 i64] [(.exit 0,[.t 4 .str])]])] (A8 JB (A8 aq (A8 M0 (A8 QZ CT))))
def av:A5 (.c0 46 [BJ,CU,i64] [BJ,i64] ET):=k0 [(46,[hn 0 15 [.t 11 i64,.p 2 [.d BJ]] [(.ret,[.t 7 i64,.p 2 [.d BJ]]),(.exit 0,[.p 2 [.d BJ]])],hn 0 22 [.t 13 i64,.u 4 GA,.p 3 [.d (.list i64),.d i64,.o 4,.d i64,.d i64],.p 2 [.d BJ]] [(.ret,[.t 7 i64,.p 2 [.d BJ],.x 3,.x 4]),(.exit 2,[.u 4 GA,.p 3 [.d (.list i64),.d i64,.o 4,.d i64,.d i64],.p 2 [.d BJ]])]])] (A8 M4 (A8 Ch (A8 Rk (A8 au (A8 Qf CT)))))
def Xr:A5 (.c0 151 [.str,i64,i64] [i64] C4):=k0 [] (A8 Ee CT)
def Xq:A5 (.c0 123 [.str] [Bq,i64] FN):=k0 [(123,[⟨0,11,[],[(1,5,AY)],[],[],[.t 5 i64,.t 9 i64,.u 2 AY,.p 1 [.d i64,.d i64,.d i64,.d i64,.d i64,.o 2],.p 0 [.d Bq]],[(.ret,[.t 3 i64,.p 0 [.d Bq],.x 1,.x 2]),(.exit 0,[.t 5 i64,.u 2 AY,.p 1 [.d i64,.d i64,.d i64,.d i64,.d i64,.o 2],.p 0 [.d Bq]])]⟩])] (A8 P0 (A8 Xr (A8 QY (A8 JB CT))))
def Us:A5 (.c0 124 [BJ,Bq] [i64] Gi):=k0 [(124,[hn 0 2 [.t 5 i64] [(.ret,[.t 4 i64]),(.exit 0,[])]])] (A8 Rk CT)
def Xt:A5 (.c0 88 [BJ,GA] [Bq,i64] Dv):=k0 [] (A8 Xq (A8 Us CT))
def Wd:A5 (.c0 89 [Bq,i64] [Bq] HS):=k0 [(89,[hn 2 8 [.x 2,.x 3] [(.normal,[.u 3 AY,.p 2 [.d i64,.d i64,.d i64,.d i64,.d i64,.o 3]])],⟨0,5,[],[(2,5,AY)],[],[],[.t 6 i64,.u 3 AY,.p 2 [.d i64,.d i64,.d i64,.d i64,.d i64,.o 3]],[(.exit 0,[.u 3 AY,.p 2 [.d i64,.d i64,.d i64,.d i64,.d i64,.o 3]])]⟩])] CT
def ZM:A5 (.c0 60 [BJ] [(.list Bq),(.list i64),(.list .bool)] Ky):=k0 [(60,[hn 0 14 [.t 11 i64] [(.exit 4,[.t 11 i64])],hn 0 9 [.t 6 (.list Bq),.t 7 (.list i64),.t 8 i64] [(.exit 2,[.t 6 (.list Bq),.t 7 (.list i64)])],hn 0 20 [.t 12 i64,.t 13 i64,.u 1 Bq,.u 2 i64,.u 3 .bool,.g 2 1,.g 3 2,.g 4 3] [(.exit 6,[.u 1 Bq,.u 2 i64,.u 3 .bool,.g 2 1,.g 3 2,.g 4 3])],⟨0,4,[(2,Bq),(3,i64),(4,.bool)],[],[],[],[.t 5 i64,.u 1 Bq,.u 2 i64,.u 3 .bool,.g 2 1,.g 3 2,.g 4 3],[(.exit 0,[.u 1 Bq,.u 2 i64,.u 3 .bool,.g 2 1,.g 3 2,.g 4 3])]⟩])] (A8 M4 (A8 Xt (A8 Wd CT)))
def ZN:A5 (.c0 61 [(.list Bq),(.list .bool)] [Bq,.bool] Kz):=k0 [(61,[hn 0 8 [.t 8 i64,.p 1 [.d Bq]] [(.exit 2,[.p 1 [.d Bq]])],hn 0 3 [.t 7 i64,.p 1 [.d Bq],.p 0 [.d Bq]] [(.ret,[.t 5 .bool,.p 0 [.d Bq],.x 1]),(.exit 0,[.p 1 [.d Bq],.p 0 [.d Bq]])]])] (A8 Qg (A8 JB CT))
def aw:A5 (.c0 39 [BJ,i64] [BJ,.bool,i64] Lv):=k0 [(39,[hn 0 20 [.t 15 .bool,.t 16 i64] [(.exit 4,[.t 15 .bool])],hn 2 24 [.x 3,.x 4] [(.normal,[.u 4 GA,.p 3 [.d (.list i64),.d i64,.o 4,.d i64,.d i64]])],⟨0,16,[],[(3,2,GA)],[],[],[.t 14 i64,.u 4 GA,.p 3 [.d (.list i64),.d i64,.o 4,.d i64,.d i64]],[(.exit 2,[.u 4 GA,.p 3 [.d (.list i64),.d i64,.o 4,.d i64,.d i64]])]⟩,hn 0 7 [.t 10 i64,.p 1 [.d BJ]] [(.ret,[.t 5 .bool,.t 6 i64,.p 1 [.d BJ]]),(.exit 0,[.p 1 [.d BJ]])]])] (A8 M4 (A8 ZM (A8 ZN (A8 Qf CT))))
def ay:A5 (.c0 15 [BJ,i64] [BJ,i64] I0):=k0 [(15,[hn 0 1 [.p 0 [.d BJ],.p 1 [.d BJ]] [(.ret,[.t 5 i64,.p 1 [.d BJ],.x 0])]])] (A8 aw CT)
def XV:A5 (.c1 21 0 A4 [i64,CU] [BJ] N9):=k1 [(21,[hn 2 7 [.x 3] [(.normal,[.p 3 [.d BJ]])],hn 2 11 [.x 3] [(.normal,[.p 3 [.d BJ]])],hn 2 9 [.x 0,.x 3] [(.normal,[.p 0 [.d A4],.p 3 [.d BJ]])],hn 0 3 [.t 9 i64,.p 0 [.d A4],.p 3 [.d BJ]] [(.exit 0,[.p 0 [.d A4],.p 3 [.d BJ]])],hn 2 15 [.x 3] [(.normal,[.p 3 [.d BJ]])],hn 2 13 [.x 3] [(.normal,[.p 3 [.d BJ]])]])] (A8 Yr (A8 S9 (A8 CM (A8 av (A8 ay CT)))))
def cW:A5 (.c0 22 [CU,i64] [CU,i64] JZ):=k0 [] (A8 Ch (A8 GS CT))
def T0:A5 (.c1 47 0 A4 [.str] [.str] Fw):=k1 [] (A8 CM CT)
def Ys:A5 (.c1 23 0 A4 [(.list GA)] [(.list GA)] Fj):=k1 [] (A8 CM (A8 T0 CT))
def Yq:A5 (.c1 9 0 A4 [] [i64,BJ,CU,CU] KX):=k1 [(9,[hn 2 5 [.x 0,.x 6] [(.normal,[.p 0 [.d A4],.p 6 [.d CU]])],hn 2 7 [.x 0,.x 5] [(.normal,[.p 0 [.d A4],.p 5 [.d BJ]])]])] (A8 dQ (A8 XV (A8 CM (A8 cW (A8 Ys CT)))))
def T5:A5 (.c0 14 [(.list AY),(.list AY)] [.bool] HW):=k0 [(14,[hn 0 4 [.t 5 i64] [(.ret,[.t 4 .bool]),(.exit 0,[])]])] CT
def Qj:A5 (.c2 95 i64 [i64,i64] [] [] FW):=KT (hs:=VC [(95,[hn 0 1 [.t 6 i64,.u 0 i64,.g 0 0] [(.exit 0,[.u 0 i64])],hn 0 4 [.t 7 i64,.u 0 i64,.g 0 0] [(.exit 2,[.u 0 i64,.g 0 0])],hn 4 4 [] [(.exit 2,[]),(.normal,[])]])]) (n:=13) (A8 Ta CT) (λl x=>by kernel_rfl)
def Td:A5 (.c0 96 [] [] (λ_=>none)):=λ_ _ h=>by cases h
def Qi:A5 (.c0 97 [] [] (λ_=>none)):=λ_ _ h=>by cases h
def R7:A5 (.c0 98 [] [] (λ_=>none)):=λ_ _ h=>by cases h
def RQ:A5 (.c0 99 [] [] (λ_=>none)):=λ_ _ h=>by cases h
def N1:A5 (.c0 100 [] [] (λ_=>none)):=λ_ _ h=>by cases h
def QT:A5 (.c0 102 [] [] (λ_=>none)):=λ_ _ h=>by cases h
def Sy:A5 (.c0 103 [] [] (λ_=>none)):=λ_ _ h=>by cases h
def T6:A5 (.c2 64 i64 [i64,i64,i64] [] [] HX):=lw (P:=Tryz.prog) (F:=64) (te:=i64) (ds:=[i64,i64,i64]) (rs:=[]) (post:=[]) (f:=λg p=>Dc g p.1 p.2) (hs:=VC [(64,[hn 0 2 [.t 1 i64,.t 2 i64,.t 3 i64,.t 8 .bool,.t 9 .bool,.u 0 i64,.g 0 0] [(.ret,[.u 0 i64])],hn 2 8 [.x 0] [(.normal,[.t 3 i64,.u 0 i64,.g 0 0])],hn 2 12 [.x 0] [(.normal,[.t 11 i64,.t 12 i64,.u 0 i64,.g 0 0])],hn 4 15 [.x 0] [(.normal,[.u 0 i64,.g 0 0]),(.ret,[.u 0 i64])],hn 4 17 [.x 0] [(.exit 1,[.t 1 i64,.u 0 i64,.g 0 0]),(.normal,[.t 1 i64,.u 0 i64,.g 0 0])],hn 2 25 [.x 0] [(.normal,[.t 1 i64,.t 2 i64,.t 8 .bool,.u 0 i64,.g 0 0])]])]) (n:=13) (A8 Qj (A8 Td (A8 Qi (A8 R7 (A8 RQ (A8 N1 (A8 QT (A8 Sy (A8 Ta CT))))))))) (λg l x=>by kernel_rfl)
def ZO:A5 (.c2 41 i64 [] [] [] K0):=KT (hs:=VC []) (n:=13) (A8 T6 (A8 SG CT)) (λl x=>by kernel_rfl)
def jL:A5 (.c0 17 [BJ,CU,i64,i64,i64] [(.list i64),i64,i64,i64] Sc):=k0 [(17,[]),(53,[⟨0,4,[],[(4,0,i64)],[],[],[.t 27 i64,.u 9 i64,.p 4 [.o 9],.y 8 .ready],[(.exit 0,[.u 9 i64,.p 4 [.o 9],.y 8 .ready])]⟩])] (A8 dP (A8 Yo (A8 SD (A8 SE (A8 ZO CT)))))
def T1:A5 (.c0 6 [(.list (.int .u8)),(.int .u8),(.int .u8)] [.bool] Jk):=k0 [(6,[hn 2 24 [.x 4,.x 5] [(.normal,[.u 5 GA,.p 4 [.d (.list i64),.d i64,.o 5,.d i64,.d i64]])],hn 0 21 [.t 23 i64,.u 5 GA,.p 4 [.d (.list i64),.d i64,.o 5,.d i64,.d i64]] [(.exit 4,[.u 5 GA,.p 4 [.d (.list i64),.d i64,.o 5,.d i64,.d i64]])],⟨0,18,[],[(4,2,GA)],[],[],[.t 22 i64,.u 5 GA,.p 4 [.d (.list i64),.d i64,.o 5,.d i64,.d i64]],[(.exit 2,[.u 5 GA,.p 4 [.d (.list i64),.d i64,.o 5,.d i64,.d i64]])]⟩,hn 2 27 [.x 6] [(.normal,[.p 6 [.d CU]])],hn 0 8 [.t 14 i64] [(.ret,[.t 6 .bool]),(.exit 0,[])]]),(8,[hn 2 2 [] [(.normal,[.t 0 (.list (.int .u8))])]])] (A8 Yp (A8 Yq (A8 jL (A8 dP (A8 Oh (A8 T5 CT))))))
end Go.Proofs.YtacnadmajkjfbaaGreat
