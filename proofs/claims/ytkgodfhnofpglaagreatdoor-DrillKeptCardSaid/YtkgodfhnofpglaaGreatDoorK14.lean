/- Texts of wip, joined and shortened by wip/tools/pack.py; nothing is assumed. -/
import Derived.Test.YtkgodfhnofpglaaGreatDoorK13
import Derived.Test.YtkgodfhnofpglaaGreatDoorProg
import Derived.KernelRfl
noncomputable section
set_option linter.all false
namespace Go.Proofs.YtkgodfhnofpglaaGreatDoor
open Go Go.Ab Go.Pm
set_option maxRecDepth 100000
def TM:Ax (.c2 318 i64 [i64,i64] [] [.fn (.func 165) [] []] Fj):=Pr (hs:=ac [(318,[e? 1 [8,.u 0 i64,.g 0 0] 0 [.u 0 i64],e? 4 [9,.u 0 i64,.g 0 0] 2 [.u 0 i64,.g 0 0],hn 4 4 [] [(2,[]),(.normal,[])]])]) (n:=13) (A1 de B4) (λl x=>by kernel_rfl)
def XZ:Ax (.c2 238 i64 [i64,i64,i64] [] [.fn (.func 165) [] []] RG):=pd (P:=Tryz.prog) (F:=238) (te:=i64) (ds:=[i64,i64,i64]) (rs:=[]) (post:=[.fn (.func 165) [] []]) (f:=λg p=>FX g p.1 p.2) (hs:=ac [(238,[hn 0 2 [1,2,3,.t 10 .bool,.t 11 .bool,.u 0 i64,.g 0 0] [(.ret,[.u 0 i64])],c? 8 [3,.u 0 i64,.g 0 0],c? 12 [13,14,.u 0 i64,.g 0 0],hn 4 15 [.x 0] [(.normal,[.u 0 i64,.g 0 0]),(.ret,[.u 0 i64])],hn 4 17 [.x 0] [(1,[1,.u 0 i64,.g 0 0]),(.normal,[1,.u 0 i64,.g 0 0])],c? 25 [1,2,.t 10 .bool,.u 0 i64,.g 0 0]])]) (n:=13) (A1 TM (A1 W7 (A1 TL (A1 VJ (A1 UH (A1 Pn (A1 S3 (A1 WI (A1 de B4))))))))) (λg l x=>by kernel_rfl)
def YW:Ax (.c2 164 i64 [] [] [.fn (.func 165) [] []] Iv):=Pr (hs:=ac []) (n:=13) (A1 XZ (A1 Q1 B4)) (λl x=>by kernel_rfl)
def kU:a? 159 [(.list i64),i64] [.bool] Ct:=k0 [(159,[f? 2 [5] [.t 4 .bool] 0 []])] B4
def Ul:a? 103 [PN] [.bool] Me:=k0 [(103,[c? 10 [3],f? 5 [3,4] [.t 2 .bool] 0 [3],f? 18 [7] [.t 2 .bool] 4 [],f? 12 [5] [.t 2 .bool] 2 []])] (A1 kU B4)
def kT:a? 48 [i64,i64] [PN,i64] OY:=k0 [] (A1 Ul B4)
def ej:a? 104 [lH] [.bool] Qu:=k0 [(104,[f? 2 [3] [.t 2 .bool] 0 []])] B4
def kV:a? 49 [(.arr 7 i64)] [lH,i64] OZ:=k0 [] (A1 ej B4)
def WW:a? 17 [i64,i64,i64,(.list i64)] [E9,i64] Ks:=k0 [] (A1 Qo (A1 WP (A1 WV (A1 kT (A1 cF (A1 kV B4))))))
def tN:a? 105 [E9] [(.list BX)] XP:=k0 [(105,[⟨0,6,[(5,BX)],[],[],[],[.t 23 i64,.u 150 BX,.g 5 150],[(.exit 0,[.u 150 BX,.g 5 150])]⟩,e? 11 [37,.u 149 BX,.g 5 149] 2 [.u 149 BX,.g 5 149]]),(162,[e? 4 [3] 0 []]),(275,[e? 1 [6] 0 [],e? 4 [7] 2 []]),(209,[hn 0 2 [1,2,3,.t 8 .bool,.t 9 .bool] [(.ret,[])]])] (A1 Qz (A1 cH (A1 Um (A1 Q1 (A1 Oh (A1 LM (A1 Mg (A1 Lf (A1 IA (A1 Kk (A1 OP (A1 SC (A1 VQ B4)))))))))))))
def di:a? 163 [(.int .u64)] [i64] Qq:=k0 [] (A1 Z4 B4)
def uY:a? 106 [i64,i64] [(.list i64)] YX:=k0 [(106,[⟨0,3,[(5,i64)],[],[],[],[.t 9 i64,.u 0 i64,.g 5 0],[(.exit 0,[.u 0 i64,.g 5 0])]⟩])] (A1 di (A1 YW B4))
def pJ:a? 34 [E9,(.list BX)] [E9] QS:=k0 [(34,[hn 6 2 [.x 0] [(.normal,[g? 0 E9])],hn 6 3 [.x 0] [(.normal,[g? 0 E9])]]),(127,[f? 2 [8] [4] 0 []]),(76,[e? 5 [6,5,.u 149 BX,.g 0 149] 0 [5,.u 149 BX,.g 0 149]])] (A1 UG B4)
def UD:a? 11 [E9,(.list BX)] [.bool] Fo:=k0 [(11,[f? 5 [27] [.t 4 .bool] 0 []])] (A1 HU (A1 J5 (A1 pJ (A1 od B4))))
def uX:a? 53 [E9,i64] [(.list (.list BX)),i64] Vq:=k0 [(53,[⟨0,13,[(7,(.list BX)),(8,i64)],[],[],[],[.t 9 i64,.u 1 (.list BX),.g 7 1,.u 2 i64,.g 8 2],[(.exit 1,[.u 1 (.list BX),.g 7 1,.u 2 i64,.g 8 2])]⟩,e? 16 [48,.u 1 (.list BX),.g 7 1,.u 2 i64,.g 8 2] 3 [.u 1 (.list BX),.g 7 1,.u 2 i64,.g 8 2],e? 21 [58,.u 4 BX,.g 12 4] 5 [.u 4 BX,.g 12 4]]),(167,[f? 2 [8] [4] 0 []])] (A1 HU (A1 J5 (A1 tN (A1 uY (A1 UD B4)))))
def oY:a? 20 [E9] [i64,i64] SJ:=k0 [] (A1 uX B4)
def dj:a? 5 [] [.bool] Iz:=k0 [] (A1 WW (A1 oY (A1 UD B4)))
def dm:b? 6 0 BR [] [E9] MC:=k1 [(6,[c? 9 [g? 5 BT],e? 5 [9,g? 0 BR,g? 5 BT] 0 [g? 0 BR,g? 5 BT],c? 12 [g? 0 BR,g? 2 Bp]])] (A1 lS (A1 Qo (A1 WV (A1 Dc (A1 iV (A1 dn (A1 WQ (A1 WW B4))))))))
def ii:a? 61 [(.list BX),(.list BX)] [(.list BX)] Hp:=k0 [(61,[e? 7 [.t 7 .bool,8] 2 [.t 7 .bool],c? 11 [.u 0 BX,.g 5 0],⟨0,3,[(5,BX)],[],[],[],[.t 6 i64,.u 0 BX,.g 5 0],[(.exit 0,[.u 0 BX,.g 5 0])]⟩])] B4
def aH:a? 26 [E9,(.list BX)] [E9] PH:=k0 [] (A1 ii B4)
def ia:a? 65 [(.list BX),i64] [BO,.bool] Na:=k0 [(65,[f? 3 [7,g? 0 BO] [.t 5 .bool,g? 0 BO] 0 [g? 0 BO]])] (A1 JZ B4)
def kQ:a? 114 [(.list i64),i64] [(.list i64)] E4:=k0 [(114,[e? 2 [5] 0 [5]])] B4
def iW:a? 66 [BT,Bp,i64,i64,i64] [(.list i64),i64,i64,i64] Hl:=k0 [(66,[c? 7 [11,12],c? 15 [.t 21 .bool],c? 17 [.t 10 (.list i64)],e? 9 [.t 10 (.list i64),17] 0 [.t 10 (.list i64)]])] (A1 XY (A1 Rc (A1 kQ B4)))
def aF:a? 29 [(.list BX),BT,Bp,i64,i64] [BF,RR,i64] KY:=k0 [(29,[⟨0,9,[],[],[4],[],[.t 14 i64,.p 2 [.d BF],.p 3 [.d RR]],[(.ret,[.t 12 i64,.p 2 [.d BF],.p 3 [.d RR]]),(.exit 0,[.p 2 [.d BF],.p 3 [.d RR]])]⟩]),(63,[e? 9 [12] 2 [12],⟨0,4,[(8,C4)],[],[],[],[.t 9 i64,.u 4 C4,.g 8 4],[(.exit 0,[.u 4 C4,.g 8 4])]⟩])] (A1 Dt (A1 Bk (A1 WO (A1 ia (A1 Ve (A1 Vf (A1 iW (A1 JZ (A1 Pl (A1 AGc B4))))))))))
def ZK:a? 9 [E9,(.list BX)] [.bool] Jk:=k0 [(9,[f? 5 [6] [.t 4 .bool] 0 []])] (A1 aH (A1 Dt (A1 Bk (A1 aF B4))))
def ig:a? 119 [i64,(.list CA)] [i64] Ho:=k0 [(119,[e? 2 [0,5] 0 [0]])] B4
def aG:a? 121 [i64,(.list B7)] [i64] Hn:=k0 [(121,[e? 5 [0,6] 2 [0],e? 2 [0,5] 0 [0]])] B4
def kS:a? 339 [(.list .bool)] [.bool] YP:=k0 [(339,[f? 2 [3] [.t 2 .bool] 0 []])] B4
def eX:a? 257 [LL] [.bool] kz:=k0 [(257,[f? 12 [5] [.t 2 .bool] 2 [],f? 6 [3] [.t 2 .bool] 0 []])] (A1 kS B4)
def eY:a? 180 [.str] [LL,.bool] Wn:=k0 [(180,[⟨0,5,[],[(1,1,.bool)],[],[],[.t 5 i64,.u 2 .bool,.p 1 [.d .bool,.o 2,.d (.list i64)],.p 0 [.d LL]],[(.ret,[.t 3 .bool,.p 0 [.d LL],.x 1,.x 2]),(.exit 0,[.u 2 .bool,.p 1 [.d .bool,.o 2,.d (.list i64)],.p 0 [.d LL]])]⟩])] (A1 eX B4)
def cD:a? 122 [Bp] [LL,i64,.bool] LK:=k0 [(122,[f? 4 [5,g? 1 LL] [3,.t 4 .bool,g? 1 LL] 0 [g? 1 LL]])] (A1 Bk (A1 eY B4))
def eZ:a? 181 [.str] [PN,.bool] Wo:=k0 [(181,[⟨0,9,[],[(1,2,UU)],[],[],[.t 7 i64,.u 2 UU,.p 1 [.d i64,.d i64,.o 2,.d (.list i64)]],[(.exit 0,[.u 2 UU,.p 1 [.d i64,.d i64,.o 2,.d (.list i64)]])]⟩,⟨0,13,[],[(1,3,i64)],[],[],[.t 8 i64,.u 2 UU,.u 3 i64,.p 1 [.d i64,.d i64,.o 2,.o 3]],[(.exit 2,[.u 2 UU,.u 3 i64,.p 1 [.d i64,.d i64,.o 2,.o 3]])]⟩])] (A1 Ul B4)
def cE:a? 123 [Bp] [PN,i64,.bool] IR:=k0 [(123,[f? 4 [5,g? 1 PN] [3,.t 4 .bool,g? 1 PN] 0 [g? 1 PN]])] (A1 Bk (A1 eZ B4))
def kX:a? 67 [Az,BT] [i64,i64] Kr:=k0 [(67,[c? 11 [10],c? 17 [10],c? 20 [10]])] (A1 CM (A1 Dt (A1 Uc (A1 VU (A1 SZ (A1 ig (A1 Ue (A1 aG (A1 cD (A1 cE B4))))))))))
def kY:a? 69 [(.list i64),i64] [(.list i64)] E4:=k0 [(69,[e? 2 [5] 0 [5]])] B4
def kZ:a? 70 [Bp,(.list B8),i64,i64] [i64,.bool] Oa:=k0 [(70,[e? 6 [.t 11 .bool,12] 2 [.t 11 .bool],f? 2 [10] [8,.t 9 .bool] 0 []])] B4
def er:a? 30 [Az,BT,(.list BX),i64] [HI,i64] JF:=k0 [(30,[c? 19 [.t 20 (.list C4),21],e? 22 [22,g? 3 HI] 4 [g? 3 HI],c? 26 [18],e? 14 [18,19,g? 3 HI] 2 [18,g? 3 HI],c? 33 [g? 3 HI],c? 35 [23],e? 29 [23,24,g? 3 HI] 6 [23,g? 3 HI],c? 37 [g? 3 HI],c? 40 [g? 3 HI],e? 9 [15,g? 3 HI] 0 [g? 3 HI]]),(63,[e? 9 [12] 2 [12],e? 4 [.t 8 (.list C4),9] 0 [.t 8 (.list C4)]])] (A1 kX (A1 Vd (A1 KC (A1 JZ (A1 Pl (A1 kY (A1 kZ B4)))))))
def kW:a? 31 [(.list i64),i64] [.bool] Ct:=k0 [(31,[f? 2 [5] [.t 4 .bool] 0 []])] B4
def ic:a? 10 [Az,BT,(.list BX),i64] [Az,BT,(.list BX),i64] Nb:=k0 [(10,[c? 10 [.u 5 BX,.g 14 5],⟨0,7,[(14,BX)],[],[],[],[.t 16 i64,.u 5 BX,.g 14 5],[(.exit 0,[.u 5 BX,.g 14 5])]⟩,e? 16 [.t 18 .bool,19] 4 [.t 18 .bool],c? 20 [.u 6 BX,.g 15 6],⟨0,12,[(15,BX)],[],[],[],[.t 17 i64,.u 6 BX,.g 15 6],[(.exit 2,[.u 6 BX,.g 15 6])]⟩])] (A1 er (A1 WQ (A1 kW B4)))
def YU:a? 3 [(.list (.int .u8))] [.bool] Mp:=k0 [(3,[f? 8 [5] [.t 2 .bool] 0 [],f? 18 [11] [.t 2 .bool] 2 []]),(7,[c? 2 [.t 0 (.list (.int .u8))]])] (A1 dj (A1 dm (A1 JZ (A1 ZK (A1 ic (A1 UD B4))))))
end Go.Proofs.YtkgodfhnofpglaaGreatDoor
