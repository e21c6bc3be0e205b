/- Texts of wip, joined and shortened by wip/tools/pack.py; nothing is assumed. -/
import Derived.Test.YtkgodfhnofpglaaGreatDoorK12
import Derived.Test.YtkgodfhnofpglaaGreatDoorProg
import Derived.KernelRfl
noncomputable section
set_option linter.all false
open Option renaming some->D
open Option renaming none->A
open Option renaming some->δ,none->ε
open List renaming replicate->ς
namespace Go.Proofs.YtkgodfhnofpglaaGreatDoor
open Go Go.Ab Go.Pm
set_option maxRecDepth 100000
def an:a? 216 [i64] [.bool] Fi:=k0 [] B4
def OQ:a? 139 [i64,i64] [i64] EB:=k0 [] (A1 an B4)
def lL:a? 234 [(.list i64)] [i64] Ky:=k0 [(234,[f? 3 [8] [2] 0 []])] B4
def YJ:a? 233 [BV,BV] [i64] IC:=k0 [] (A1 OQ (A1 lL B4))
def Pp:Ax (.c2 456 BV [i64,i64,i64] [] [.fn (.func 233) [] []] Cw):=Pr (hs:=ac [(456,[e? 1 [10,.u 0 BV,.g 0 0] 0 [.u 0 BV]])]) (n:=13) B4 (λl x=>by kernel_rfl)
def RO:Ax (.c2 426 BV [i64,i64,i64] [] [.fn (.func 233) [] []] Er):=Pr (hs:=ac [(426,[e? 2 [10,11,.u 0 BV,.g 0 0] 0 [10,.u 0 BV,.g 0 0]])]) (n:=13) (A1 Pp B4) (λl x=>by kernel_rfl)
def Nl:Ax (.c2 379 BV [i64,i64] [] [.fn (.func 233) [] []] C8):=Pr (hs:=ac [(379,[e? 1 [8,.u 0 BV,.g 0 0] 0 [.u 0 BV],e? 4 [9,.u 0 BV,.g 0 0] 2 [.u 0 BV,.g 0 0]])]) (n:=13) (A1 YJ B4) (λl x=>by kernel_rfl)
def QP:Ax (.c2 380 BV [i64,i64,i64] [] [.fn (.func 233) [] []] ET):=pd (P:=Tryz.prog) (F:=380) (te:=BV) (ds:=[i64,i64,i64]) (rs:=[]) (post:=[.fn (.func 233) [] []]) (f:=λg p=>CN g p.1 p.2) (hs:=ac [(380,[e? 3 [10,11] 0 [10],e? 9 [13,.u 0 BV,.g 0 0] 2 [.u 0 BV],e? 15 [14,15] 4 [14],e? 21 [17,.u 0 BV,.g 0 0] 6 [.u 0 BV],e? 33 [20,21] 8 [20],c? 28 [20,21],c? 40 [.u 0 BV,.g 0 0],c? 42 [.u 0 BV,.g 0 0],c? 44 [.u 0 BV]])]) (n:=13) (A1 YJ (A1 RO B4)) (λg l x=>by kernel_rfl)
def RP:Ax (.c2 314 BV [i64] [] [.fn (.func 233) [] []] Es):=Pr (hs:=ac [(314,[e? 2 [7,8,.u 0 BV,.g 0 0] 0 [7,.u 0 BV,.g 0 0],e? 7 [6,.u 0 BV,.g 0 0] 2 [.u 0 BV],e? 9 [7,8,.u 0 BV,.g 0 0] 4 [7,.u 0 BV,.g 0 0]])]) (n:=13) (A1 Nl (A1 QP B4)) (λl x=>by kernel_rfl)
def J1:Ax (.c2 232 BV [] [] [.fn (.func 233) [] []] C2):=Pr (hs:=ac []) (n:=13) (A1 RP B4) (λl x=>by kernel_rfl)
def S1:Ax (.cl 316 Aj):=uj (t:=24) (b:=4) h! h! h!
def nZ:a? 285 [(.int .u64)] [i64] Q7:=k0 [(285,[c? 2 [.t 0 (.int .u64),2],c? 5 [.t 0 (.int .u64),2],c? 8 [.t 0 (.int .u64),2]])] B4
def Q1:a? 210 [(.int .u64)] [i64] Kf:=k0 [] (A1 nZ B4)
def HU:a? 32 [BT] [.bool] Fm:=k0 [(32,[f? 5 [4] [.t 2 .bool] 0 [],f? 13 [5,89] [.t 2 .bool] 2 []])] B4
def ju:a? 71 [Bp] [i64] Cg:=k0 [] B4
def rF:a? 125 [i64,Aj] [.bool] On:=k0 [] B4
def rD:a? 260 [i64] [.bool] ID:=k0 [] B4
def lK:a? 261 [LZ] [.bool] DW:=k0 [] B4
def dd:a? 186 [JX] [.bool] Ol:=k0 [] (A1 rD (A1 lK B4))
def uZ:a? 185 [JX] [.bool] NH:=k0 [] B4
def pK:a? 184 [Aj] [.bool] GS:=k0 [] B4
def pL:a? 187 [Aj] [.bool] Tx:=k0 [] B4
def pM:a? 188 [JX] [.bool] Tz:=k0 [] B4
def Tu:a? 72 [Aj] [.bool] GR:=k0 [(72,[c? 5 [.t 47 .bool],c? 8 [.t 67 .bool]])] (A1 rF (A1 dd (A1 uZ (A1 pK (A1 pL (A1 pM B4))))))
def J5:a? 33 [Bp] [.bool] HM:=k0 [(33,[f? 4 [37] [.t 2 .bool] 0 []])] (A1 ju (A1 Tu B4))
def pN:a? 195 [BT,Bp,i64,i64] [i64] QU:=k0 [] (A1 HU (A1 J5 B4))
def dh:a? 132 [Bp] [i64] Ri:=k0 [] (A1 J5 (A1 ju B4))
def SC:a? 281 [i64,i64] [.bool] Om:=k0 [] (A1 an B4)
def lZ:a? 353 [i64] [.bool] Fi:=k0 [] B4
def WH:a? 273 [(.list i64),i64] [i64,.bool] Jy:=k0 [(273,[c? 6 [7,8],e? 3 [7,8] 0 [7]])] (A1 SC (A1 lZ B4))
def am:a? 274 [BT,i64] [i64,i64] Kb:=k0 [] B4
def VP:a? 208 [BT,i64] [i64,i64,.bool] GQ:=k0 [(208,[c? 5 [7]])] (A1 HU (A1 WH (A1 am B4)))
def Qg:a? 213 [.str,i64,i64] [i64,i64] By:=k0 [(213,[e? 7 [.t 8 (.int .u64),35] 1 [.t 8 (.int .u64)]])] B4
def lM:a? 268 [] [(.arr 15 (.int .u32))] Lh:=k0 [(268,[c? 9 [.t 3 (.int .u32)],e? 7 [.t 3 (.int .u32),9] 2 [.t 3 (.int .u32)],e? 3 [4,g? 1 (.arr 15 (.int .u32))] 0 [g? 1 (.arr 15 (.int .u32))]])] B4
def bP:a? 194 [.str] [(.int .u32)] PP:=k0 [(194,[e? 4 [.t 4 (.int .u32),9] 0 [.t 4 (.int .u32)]])] (A1 lM B4)
def aq:a? 211 [.str,i64] [.str,i64,i64] Dk:=k0 [] (A1 Qg (A1 bP B4))
def UE:a? 286 [.str,.str] [.bool] EY:=k0 [] B4
def WX:a? 212 [.str,.str] [.bool] E5:=k0 [] (A1 UE B4)
def UW:b? 420 0 RS [i64] [i64] CG:=k1 [(420,[c? 6 [g? 0 RS]])] (A1 Qg B4)
def WN:b? 422 0 RS [i64] [.str] Ez:=k1 [(422,[c? 2 [g? 0 RS]])] B4
def kF:b? 421 0 RS [] [LZ] Ey:=k1 [] (A1 UW (A1 WN B4))
def rE:a? 377 [.str] [Aj,i64] Jp:=k0 [] (A1 UW (A1 kF (A1 WN (A1 Tu B4))))
def pT:a? 423 [B8] [.bool] NB:=k0 [] B4
def VS:a? 199 [Aj] [.bool] BJ:=k0 [] B4
def tT:a? 424 [B8,Aj] [.bool] Qj:=k0 [] (A1 VS B4)
def rI:a? 425 [Aj,Aj] [i64] PK:=k0 [] (A1 OQ (A1 lL B4))
def ue:a? 378 [B8] [.bool] V6:=k0 [(378,[f? 4 [18] [.t 2 .bool] 0 []])] (A1 pT (A1 Tu (A1 tT (A1 rI B4))))
def tS:a? 312 [.str] [B8,i64] LP:=k0 [(312,[⟨0,8,[],[(4,5,Aj)],[],[],[.t 5 i64,.t 32 i64,.u 5 Aj,.p 4 [.d i64,.d i64,.d i64,.d i64,.d i64,.o 5],.p 0 [.d B8]],[(.ret,[.t 3 i64,.p 0 [.d B8],.x 4,.x 5]),(.exit 0,[.t 5 i64,.u 5 Aj,.p 4 [.d i64,.d i64,.d i64,.d i64,.d i64,.o 5],.p 0 [.d B8]])]⟩])] (A1 aq (A1 WX (A1 Qg (A1 rE (A1 ue B4)))))
def nW:a? 313 [BT,B8] [i64] NG:=k0 [(313,[f? 2 [11] [4] 0 []])] (A1 am B4)
def nV:a? 231 [BT,BX] [B8,.bool] G0:=k0 [] (A1 tS (A1 nW B4))
def oX:a? 235 [B8,i64] [B8] Oj:=k0 [(381,[f? 2 [8] [4] 0 []]),(315,[e? 5 [6,5,.u 3 Aj,.g 0 3] 0 [5,.u 3 Aj,.g 0 3]])] (A1 S1 B4)
def Qz:a? 160 [BT] [(.list B8),(.list i64)] HJ:=k0 [(160,[⟨0,5,[(4,BV)],[],[],[],[.t 19 i64,.u 1 BV,.g 4 1],[(.exit 0,[.u 1 BV,.g 4 1])]⟩,⟨0,14,[(2,B8),(3,i64)],[],[],[],[.t 42 i64,.t 9 i64,.t 10 i64,.u 2 B8,.g 2 2,.u 3 i64,.g 3 3],[(.exit 2,[.u 2 B8,.g 2 2,.u 3 i64,.g 3 3])]⟩])] (A1 HU (A1 nV (A1 J1 (A1 oX B4))))
def pP:a? 196 [BT,Bp,i64] [(.list Od)] QV:=k0 [(196,[hn 3 1 [] []]),(207,[e? 4 [27,.u 2 Od,.p 3 [.o 2],.y 6 .ready] 0 [.u 2 Od,.p 3 [.o 2],.y 6 .ready]])] (A1 dh (A1 VP (A1 Qz B4)))
def XT:a? 203 [Od,i64] [.bool] JQ:=k0 [] B4
def nY:b? 270 1 i64 [Od] [.bool] Vr:=k1 [] (A1 XT B4)
def pO:a? 197 [(.list Od),i64] [i64] NA:=k0 [(197,[hn 0 1 [g? 0 i64] [(.ret,[4,.x 0])]]),(269,[f? 2 [8,g? 0 i64] [4,g? 0 i64] 0 [g? 0 i64]])] (A1 nY B4)
def lO:a? 130 [BT,Bp,i64,i64,i64] [(.list Aj),i64] IE:=k0 [(130,[e? 14 [57,17,.m 9 .i64 Aj] 0 [17,.m 9 .i64 Aj],hn 0 24 [85,.m 9 .i64 Aj,g? 11 i64,g? 5 (.list Aj),g? 6 i64] [(4,[.m 9 .i64 Aj,g? 11 i64,g? 5 (.list Aj),g? 6 i64]),(.ret,[.m 9 .i64 Aj,g? 11 i64,g? 5 (.list Aj),g? 6 i64])],hn 0 43 [137,g? 5 (.list Aj),g? 6 i64] [(8,[g? 5 (.list Aj),g? 6 i64]),(.ret,[g? 5 (.list Aj),g? 6 i64])]]),(207,[hn 0 4 [27,.m 9 .i64 Aj,g? 11 i64,g? 5 (.list Aj),g? 6 i64,.y 14 .ready] [(0,[.m 9 .i64 Aj,g? 11 i64,g? 5 (.list Aj),g? 6 i64,.y 14 .ready]),(.ret,[.m 9 .i64 Aj,g? 11 i64,g? 5 (.list Aj),g? 6 i64,.y 14 .ret])]]),(201,[]),(269,[f? 2 [8] [4] 0 []])] (A1 pN (A1 pP (A1 pO (A1 VS (A1 VP (A1 Qz (A1 XT (A1 RK B4))))))))
def TN:Ax (.c2 275 i64 [i64,i64] [] [] Mh):=Pr (hs:=ac [(275,[e? 1 [6,.u 0 i64,.g 0 0] 0 [.u 0 i64],e? 4 [7,.u 0 i64,.g 0 0] 2 [.u 0 i64,.g 0 0],hn 4 4 [] [(2,[]),(.normal,[])]])]) (n:=13) (A1 SC B4) (λl x=>by kernel_rfl)
def Oh:Ax (.c0 276 [] [] (λ_=>A)):=λ_ _ h=>by cases h
def LM:Ax (.c0 277 [] [] (λ_=>A)):=λ_ _ h=>by cases h
def Mg:Ax (.c0 278 [] [] (λ_=>A)):=λ_ _ h=>by cases h
def Lf:Ax (.c0 279 [] [] (λ_=>A)):=λ_ _ h=>by cases h
def IA:Ax (.c0 280 [] [] (λ_=>A)):=λ_ _ h=>by cases h
def Kk:Ax (.c0 282 [] [] (λ_=>A)):=λ_ _ h=>by cases h
def OP:Ax (.c0 283 [] [] (λ_=>A)):=λ_ _ h=>by cases h
def Xa:Ax (.c2 209 i64 [i64,i64,i64] [] [] RH):=pd (P:=Tryz.prog) (F:=209) (te:=i64) (ds:=[i64,i64,i64]) (rs:=[]) (post:=[]) (f:=λg p=>PR g p.1 p.2) (hs:=ac [(209,[hn 0 2 [1,2,3,.t 8 .bool,.t 9 .bool,.u 0 i64,.g 0 0] [(.ret,[.u 0 i64])],c? 8 [3,.u 0 i64,.g 0 0],c? 12 [11,12,.u 0 i64,.g 0 0],hn 4 15 [.x 0] [(.normal,[.u 0 i64,.g 0 0]),(.ret,[.u 0 i64])],hn 4 17 [.x 0] [(1,[1,.u 0 i64,.g 0 0]),(.normal,[1,.u 0 i64,.g 0 0])],c? 25 [1,2,.t 8 .bool,.u 0 i64,.g 0 0]])]) (n:=13) (A1 TN (A1 Oh (A1 LM (A1 Mg (A1 Lf (A1 IA (A1 Kk (A1 OP (A1 SC B4))))))))) (λg l x=>by kernel_rfl)
def Um:Ax (.c2 134 i64 [] [] [] Mf):=Pr (hs:=ac []) (n:=13) (A1 Xa (A1 Q1 B4)) (λl x=>by kernel_rfl)
def YK:a? 138 [BO,BO] [i64] Q5:=k0 [] (A1 OQ B4)
def nX:a? 143 [C4,C4] [i64] Q4:=k0 [] (A1 OQ B4)
def QO:Ax (.c2 287 BO [i64,i64] [] [.fn (.func 138) [] []] JW):=Pr (hs:=ac [(287,[e? 1 [8,.u 0 BO,.g 0 0] 0 [.u 0 BO],e? 4 [9,.u 0 BO,.g 0 0] 2 [.u 0 BO,.g 0 0],hn 4 4 [] [(2,[]),(.normal,[])]])]) (n:=13) (A1 YK B4) (λl x=>by kernel_rfl)
def S2:Ax (.c0 288 [] [] (λ_=>A)):=λ_ _ h=>by cases h
def QN:Ax (.c0 289 [] [] (λ_=>A)):=λ_ _ h=>by cases h
def RM:Ax (.c0 290 [] [] (λ_=>A)):=λ_ _ h=>by cases h
def Qp:Ax (.c0 291 [] [] (λ_=>A)):=λ_ _ h=>by cases h
def Mo:Ax (.c0 292 [] [] (λ_=>A)):=λ_ _ h=>by cases h
def Po:Ax (.c0 293 [] [] (λ_=>A)):=λ_ _ h=>by cases h
def SD:Ax (.c0 294 [] [] (λ_=>A)):=λ_ _ h=>by cases h
def TO:Ax (.c2 215 BO [i64,i64,i64] [] [.fn (.func 138) [] []] Mi):=pd (P:=Tryz.prog) (F:=215) (te:=BO) (ds:=[i64,i64,i64]) (rs:=[]) (post:=[.fn (.func 138) [] []]) (f:=λg p=>LQ g p.1 p.2) (hs:=ac [(215,[hn 0 2 [1,2,3,.t 10 .bool,.t 11 .bool,.u 0 BO,.g 0 0] [(.ret,[.u 0 BO])],c? 8 [3,.u 0 BO,.g 0 0],c? 12 [13,14,.u 0 BO,.g 0 0],hn 4 15 [.x 0] [(.normal,[.u 0 BO,.g 0 0]),(.ret,[.u 0 BO])],hn 4 17 [.x 0] [(1,[1,.u 0 BO,.g 0 0]),(.normal,[1,.u 0 BO,.g 0 0])],c? 25 [1,2,.t 10 .bool,.u 0 BO,.g 0 0]])]) (n:=13) (A1 QO (A1 S2 (A1 QN (A1 RM (A1 Qp (A1 Mo (A1 Po (A1 SD (A1 YK B4))))))))) (λg l x=>by kernel_rfl)
def RL:Ax (.c2 137 BO [] [] [.fn (.func 138) [] []] Gm):=Pr (hs:=ac []) (n:=13) (A1 TO (A1 Q1 B4)) (λl x=>by kernel_rfl)
def RN:Ax (.c2 297 C4 [i64,i64] [] [.fn (.func 143) [] []] Ep):=Pr (hs:=ac [(297,[e? 1 [8,.u 0 C4,.g 0 0] 0 [.u 0 C4],e? 4 [9,.u 0 C4,.g 0 0] 2 [.u 0 C4,.g 0 0],hn 4 4 [] [(2,[]),(.normal,[])]])]) (n:=13) (A1 nX B4) (λl x=>by kernel_rfl)
def UI:Ax (.c0 298 [] [] (λ_=>A)):=λ_ _ h=>by cases h
def Vg:Ax (.c2 219 C4 [i64] [] [.fn (.func 143) [] []] JS):=Pr (hs:=ac [(219,[e? 2 [7,8,.u 0 C4,.g 0 0] 0 [7,.u 0 C4,.g 0 0],e? 7 [6,.u 0 C4,.g 0 0] 2 [.u 0 C4],e? 9 [7,8,.u 0 C4,.g 0 0] 4 [7,.u 0 C4,.g 0 0],c? 15 [.u 0 C4,.g 0 0]])]) (n:=13) (A1 RN (A1 UI B4)) (λl x=>by kernel_rfl)
def QM:Ax (.c2 142 C4 [] [] [.fn (.func 143) [] []] ES):=Pr (hs:=ac []) (n:=13) (A1 Vg B4) (λl x=>by kernel_rfl)
def cH:Ax (.cl 161 i64):=uj (t:=41) (b:=4) h! h! h!
def UG:Ax (.cl 77 BX):=uj (t:=45) (b:=4) h! h! h!
def de:Ax (.c0 165 [] [] (λ_=>A)):=λ_ _ h=>by cases h
def W7:Ax (.c0 319 [] [] (λ_=>A)):=λ_ _ h=>by cases h
def TL:Ax (.c0 320 [] [] (λ_=>A)):=λ_ _ h=>by cases h
def VJ:Ax (.c0 321 [] [] (λ_=>A)):=λ_ _ h=>by cases h
def UH:Ax (.c0 322 [] [] (λ_=>A)):=λ_ _ h=>by cases h
def Pn:Ax (.c0 323 [] [] (λ_=>A)):=λ_ _ h=>by cases h
def S3:Ax (.c0 324 [] [] (λ_=>A)):=λ_ _ h=>by cases h
def WI:Ax (.c0 325 [] [] (λ_=>A)):=λ_ _ h=>by cases h
def WS:a? 54 [i64] [EU,i64] Kp:=k0 [] B4
def WT:a? 55 [i64] [EK,i64] OT:=k0 [] B4
def kJ:a? 56 [] [Bp] IX:=k0 [] B4
def Qo:a? 21 [i64,i64] [Az,i64] ER:=k0 [] (A1 WS (A1 WT (A1 kJ B4)))
def bR:a? 102 [i64] [(.list .str)] Pu:=k0 [(102,[⟨0,3,[(3,.str)],[],[],[],[.t 4 i64,.u 0 .str,.g 3 0],[(.exit 0,[.u 0 .str,.g 3 0])]⟩])] B4
def WP:a? 47 [i64] [Ex,i64] Fs:=k0 [] (A1 bR B4)
def TK:a? 39 [i64,(.list i64)] [.bool] Ff:=k0 [(39,[f? 4 [5] [.t 4 .bool] 0 []])] B4
def WV:a? 13 [i64,(.list i64)] [BT,i64] Fu:=k0 [] (A1 TK B4)
def lQ:a? 220 [i64] [.bool] ID:=k0 [] B4
def ub:a? 299 [] [.str] YZ:=k0 [] (A1 UJ B4)
def jv:a? 300 [.str,i64,i64] [i64] HE:=k0 [] (A1 Qg B4)
def wP:a? 301 [.str] [BF,.bool] Xd:=k0 [(301,[hn 2 9 [.x 0,.x 1] [(.normal,[g? 1 BF,g? 0 BF]),(.ret,[.t 3 .bool,g? 0 BF,.x 1])],f? 3 [13,g? 1 BF,g? 0 BF] [.t 3 .bool,g? 0 BF,.x 1] 0 [g? 1 BF,g? 0 BF]])] (A1 jv B4)
def tR:a? 189 [BF] [.bool] XS:=k0 [] (A1 lQ B4)
def uc:a? 190 [BF] [.bool] Vu:=k0 [(190,[f? 2 [7] [.t 2 .bool] 0 []])] B4
def kG:b? 192 0 Y7 [LZ] [] Kn:=k1 [(192,[c? 3 [4]])] (A1 ny (A1 UJ B4))
def Xy:a? 129 [BF] [.str,i64] Nn:=k0 [(129,[e? 8 [29,g? 1 Y7] 1 [g? 1 Y7]])] (A1 tR (A1 uc (A1 ny (A1 kG (A1 UJ (A1 bP B4))))))
def tQ:a? 221 [.str] [BF,i64] Qi:=k0 [] (A1 ub (A1 jv (A1 bP (A1 wP (A1 Xy B4)))))
def pS:a? 86 [i64] [BF] EP:=k0 [] B4
def VT:a? 145 [.str,i64] [BF,i64] GU:=k0 [] (A1 lQ (A1 tQ (A1 pS B4)))
def oZ:a? 214 [.str] [Ej] SL:=k0 [] (A1 Qg (A1 VT B4))
def Tv:a? 144 [BO] [.bool] LO:=k0 [(144,[f? 4 [36] [.t 2 .bool] 0 []])] (A1 VT B4)
def rH:a? 135 [.str] [BO,i64] Jq:=k0 [(135,[⟨0,13,[],[(1,2,Ej)],[],[],[.t 5 i64,.t 50 i64,.u 2 Ej,.p 1 Q?,.p 0 [.d BO]],[(.ret,[.t 3 i64,.p 0 [.d BO],.x 1,.x 2]),(.exit 0,[.t 5 i64,.u 2 Ej,.p 1 Q?,.p 0 [.d BO]])]⟩])] (A1 aq (A1 WX (A1 Qg (A1 oZ (A1 Tv B4)))))
def tO:a? 136 [BO] [.bool] XQ:=k0 [] (A1 Tv B4)
def VQ:a? 81 [(.list BX)] [(.list BO)] HK:=k0 [(81,[⟨0,4,[(4,BO)],[],[],[],[.t 12 i64,.m 0 .i64 .bool,.u 1 BO,.g 4 1],[(.exit 0,[.m 0 .i64 .bool,.u 1 BO,.g 4 1])]⟩])] (A1 rH (A1 tO (A1 RL B4)))
def pQ:a? 296 [Ej,i64] [i64] QW:=k0 [] B4
def tP:a? 218 [BO,i64] [i64,.bool] TQ:=k0 [(295,[c? 6 [9,10],e? 3 [9,10] 0 [9]])] (A1 pQ B4)
def lP:a? 141 [BO,i64] [Ej,.bool] Vs:=k0 [] (A1 Tv (A1 tP B4))
def pI:a? 82 [(.list BX),i64,i64] [(.list C4)] Tw:=k0 [(82,[hn 3 2 [] []]),(217,[⟨0,1,[],[(2,0,C4)],[],[],[.t 3 i64,.u 5 C4,.p 2 [.o 5],.y 4 .ready],[(.exit 0,[.u 5 C4,.p 2 [.o 5],.y 4 .ready])]⟩])] (A1 VQ (A1 lP (A1 QM B4)))
def lY:b? 84 1 C4 [BO] [.bool] UP:=k1 [] B4
def ua:a? 85 [BO,i64] [BF,i64] YY:=k0 [] (A1 Tv (A1 lP (A1 VT B4)))
def ng:a? 128 [BT,Bp] [i64] RI:=k0 [] (A1 HU (A1 J5 B4))
def rC:a? 272 [BF,JX] [BF,i64] Vn:=k0 [] (A1 dd B4)
def ud:a? 206 [BF,Aj] [BF,i64] V5:=k0 [] (A1 Tu (A1 VS (A1 Xy (A1 rC B4))))
def rK:a? 131 [BF,(.list Aj)] [BF,i64] V7:=k0 [(131,[f? 2 [12,g? 0 BF,g? 1 BF] [5,g? 1 BF,.x 0] 0 [g? 0 BF,g? 1 BF]])] (A1 ud B4)
def rJ:a? 79 [BF,BT,Bp,i64] [BF,i64] Jz:=k0 [] (A1 ng (A1 Xy (A1 lO (A1 rK B4))))
def rG:a? 80 [BT,Bp,i64,i64,i64] [(.list i64),i64,i64,i64] Oo:=k0 [(80,[]),(207,[⟨0,4,[],[(4,0,i64)],[],[],[.t 27 i64,.u 9 i64,.p 4 [.o 9],.y 8 .ready],[(.exit 0,[.u 9 i64,.p 4 [.o 9],.y 8 .ready])]⟩])] (A1 lO (A1 dh (A1 VP (A1 Qz (A1 Um B4)))))
def od:a? 35 [(.list BX),BT,Bp,i64,i64] [BF,RR,i64] SM:=k0 [(35,[f? 10 [61,g? 4 BF,g? 5 RR] [12,g? 4 BF,g? 5 RR] 1 [g? 4 BF,g? 5 RR]]),(83,[f? 2 [8,g? 6 C4] [4,g? 6 C4] 0 [g? 6 C4]])] (A1 HU (A1 J5 (A1 VQ (A1 pI (A1 lY (A1 ua (A1 rJ (A1 rG (A1 pS B4)))))))))
def W5:b? 22 0 BR [i64] [i64] HN:=k1 [] B4
def Dc:b? 22 0 BR [i64] [i64] A2:=k1 [] (A1 W5 B4)
def kO:a? 146 [i64,i64] [A6,i64] OW:=k0 [] (A1 Qo (A1 WP B4))
def YS:b? 374 0 BR [] [.str] Ik:=k1 [(374,[c? 3 [3,g? 0 BR],e? 6 [5,.u 1 (.int .u8),.g 4 1,g? 0 BR] 0 [.u 1 (.int .u8),.g 4 1,g? 0 BR]])] (A1 Dc B4)
def ZH:b? 375 0 BR [] [i64] HF:=k1 [] (A1 Dc B4)
def XU:b? 311 0 BR [i64] [Ew] Hs:=k1 [(311,[c? 5 [.t 15 .bool],c? 4 [.t 15 .bool],c? 8 [g? 0 BR,g? 3 Ew],c? 11 [g? 0 BR,g? 3 Ew],c? 6 [g? 0 BR,g? 3 Ew],c? 13 [g? 0 BR,g? 3 Ew]])] (A1 Dc (A1 YS (A1 ZH B4)))
def YT:b? 223 0 BR [i64,i64,.bool] [T5] Il:=k1 [(223,[c? 3 [.t 11 .bool],d? 12 [g? 0 BR,g? 1 T5] [g? 0 BR,g? 1 T5]])] (A1 Dc (A1 XU B4))
def WG:b? 148 0 BR [i64,i64,.bool] [(.list T5)] G1:=k1 [(148,[e? 3 [10,.u 1 T5,.g 9 1,g? 0 BR] 0 [.u 1 T5,.g 9 1,g? 0 BR]])] (A1 Dc (A1 YT B4))
def GZ:a? 51 [Bp] [i64] Cg:=k0 [] B4
def Q2:a? 230 [LZ] [.bool] DW:=k0 [] B4
def Ub:a? 168 [JX] [.bool] I3:=k0 [] (A1 Q2 B4)
def dv:a? 111 [Aj] [Aj,.bool] MH:=k0 [(111,[c? 4 [.t 13 .bool],c? 8 [.t 5 .bool,g? 2 Aj],c? 13 [.t 67 .bool],c? 12 [.t 67 .bool],c? 17 [.t 91 .bool]])] (A1 Ub B4)
def bS:a? 112 [i64,i64] [.bool] Ge:=k0 [] B4
def Ds:a? 62 [Aj] [.bool] Cv:=k0 [] (A1 dv (A1 bS B4))
def Bk:a? 28 [Bp] [.bool] Be:=k0 [(28,[f? 4 [3] [.t 2 .bool] 0 []])] (A1 GZ (A1 Ds B4))
def SX:a? 157 [BF] [.bool] Ha:=k0 [] B4
def UY:a? 158 [BF] [.bool] I1:=k0 [(158,[f? 2 [3] [.t 2 .bool] 0 []])] (A1 Q2 B4)
def dp:a? 256 [BF] [.bool] ME:=k0 [] (A1 SX (A1 UY B4))
def EL:a? 178 [EU] [.bool] Da:=k0 [(178,[f? 11 [6] [.t 2 .bool] 2 [],f? 5 [4] [.t 2 .bool] 0 []])] (A1 dp B4)
def Ud:a? 326 [Bq] [.bool] G8:=k0 [] B4
def VW:a? 327 [Bq,Bq] [.bool] FV:=k0 [] B4
def Le:a? 328 [Bq,Bq] [.bool] D6:=k0 [] B4
def Pj:a? 329 [DO,i64,JM] [i64] D7:=k0 [(329,[f? 2 [7] [6] 0 []])] B4
def FC:a? 241 [DO] [.bool] Dw:=k0 [(241,[f? 9 [4] [.t 2 .bool] 2 [],f? 4 [3] [.t 2 .bool] 0 [],f? 20 [7] [.t 2 .bool] 6 [],f? 14 [5] [.t 2 .bool] 4 []])] (A1 Ud (A1 VW (A1 Le (A1 Pj B4))))
def eE:a? 330 [B7] [.bool] MP:=k0 [(330,[f? 6 [3] [.t 2 .bool] 0 [],f? 11 [4] [.t 2 .bool] 2 []])] B4
def FE:a? 242 [(.list B7)] [.bool] Dy:=k0 [(242,[f? 4 [3] [.t 2 .bool] 0 []])] (A1 eE B4)
def kL:a? 331 [i64] [.bool] Gy:=k0 [] B4
def F9:a? 243 [EK] [.bool] Dx:=k0 [(243,[f? 4 [3] [.t 2 .bool] 0 []])] (A1 kL B4)
def QL:a? 244 [(.list CA),i64] [.bool] FJ:=k0 [(244,[f? 2 [5] [.t 4 .bool] 0 []])] B4
def eL:a? 170 [Az] [.bool] MU:=k0 [] (A1 Bk (A1 EL (A1 FC (A1 FE (A1 F9 (A1 QL B4))))))
def J9:a? 171 [Az,i64] [CA,.bool] Et:=k0 [(171,[f? 2 [6,g? 1 CA] [.t 5 .bool,g? 1 CA] 0 [g? 1 CA]])] B4
def CM:a? 115 [Az] [.bool] Bf:=k0 [(115,[f? 4 [3] [.t 2 .bool] 0 [],f? 9 [4] [.t 2 .bool] 2 [],f? 18 [8] [.t 2 .bool] 4 [],f? 23 [9] [.t 2 .bool] 6 []])] (A1 eL (A1 J9 B4))
def Kx:a? 333 [(.list B7),i64] [i64] Ed:=k0 [(333,[f? 2 [5] [4] 0 []])] B4
def Uf:a? 250 [(.list B7),i64] [(.list B7),i64] I9:=k0 [(250,[⟨0,11,[(6,B7)],[],[],[],[.t 7 i64,.u 0 B7,.g 6 0],[(.exit 1,[.u 0 B7,.g 6 0])]⟩])] (A1 FE (A1 Kx B4))
def eF:a? 363 [Az] [Az,i64,i64] MQ:=k0 [] (A1 CM (A1 Uf B4))
def eR:a? 302 [A6] [A6,i64,i64] MY:=k0 [] (A1 eF B4)
def Cz:a? 310 [i64] [DF] BI:=k0 [] B4
def bk:a? 307 [i64] [DF] D2:=k0 [] (A1 Cz B4)
def Ga:a? 179 [EU,i64] [i64] FW:=k0 [(179,[f? 2 [5] [4] 0 []])] B4
def FZ:a? 366 [EU,i64] [i64] D8:=k0 [] (A1 EL (A1 Ga B4))
def Iy:a? 399 [EU,i64] [BF,.bool] Ft:=k0 [] (A1 FZ B4)
def Kw:a? 38 [Bp] [i64] FT:=k0 [] (A1 Bk (A1 GZ B4))
def J7:a? 37 [Bp,i64] [Bp,i64] EH:=k0 [] (A1 Bk (A1 GZ B4))
def J8:a? 400 [Az,i64] [Az] Fy:=k0 [(400,[c? 3 [g? 0 Az]])] (A1 Kw (A1 J7 B4))
def eG:a? 365 [Az,i64] [Az,BF,i64] MR:=k0 [] (A1 CM (A1 Iy (A1 J8 B4)))
def HY:a? 98 [BF] [i64] Dv:=k0 [] (A1 SX (A1 UY B4))
def DX:a? 99 [.str,i64,i64] [.str] An:=k0 [(99,[e? 4 [.t 0 .str,7] 0 [.t 0 .str]])] B4
def UZ:a? 100 [i64] [.str] G6:=k0 [] B4
def L8:a? 101 [.str] [(.int .u32)] E0:=k0 [(101,[c? 10 [.t 3 (.int .u32)],e? 7 [.t 3 (.int .u32),5] 2 [.t 3 (.int .u32)],e? 3 [.t 3 (.int .u32),4] 0 [.t 3 (.int .u32)]])] B4
def HC:a? 45 [BF] [.str,i64] DH:=k0 [(45,[c? 11 [7],e? 7 [.t 5 .str,6] 0 [.t 5 .str]])] (A1 HY (A1 DX (A1 UZ (A1 L8 B4))))
def du:a? 488 [Ex,Db] [.bool] MG:=k0 [(488,[c? 7 [.t 59 .bool],d? 13 [.t 4 .bool,.x 2] [g? 2 Db],hn 2 11 [.x 2] [(.normal,[g? 2 Db]),(.ret,[.t 4 .bool,.x 2])],hn 2 9 [.x 2] [(.normal,[g? 2 Db]),(.ret,[.t 4 .bool,.x 2])],hn 2 8 [.x 2] [(.normal,[g? 2 Db]),(.ret,[.t 4 .bool,.x 2])]])] B4
def dr:a? 468 [Ex] [.bool] MF:=k0 [(468,[f? 5 [4] [.t 2 .bool] 0 [],f? 10 [5] [.t 2 .bool] 2 [],f? 15 [6] [.t 2 .bool] 4 []])] (A1 du B4)
def Ni:a? 437 [Ex,i64] [i64] Gd:=k0 [] (A1 dr B4)
def SY:a? 469 [(.list i64),i64] [(.list i64)] FF:=k0 [(469,[c? 6 [.u 0 i64,.g 5 0],⟨0,3,[(5,i64)],[],[],[],[.t 6 i64,.u 0 i64,.g 5 0],[(.exit 0,[.u 0 i64,.g 5 0])]⟩])] B4
def gq:a? 440 [(.list i64),i64] [(.list i64)] FQ:=k0 [(440,[c? 7 [.t 6 .bool,.u 0 i64,.g 5 0],c? 10 [.u 0 i64,.g 5 0],⟨0,4,[(5,i64)],[],[],[],[.t 6 .bool,.t 7 i64,.u 0 i64,.g 5 0],[(.exit 0,[.t 6 .bool,.u 0 i64,.g 5 0])]⟩,c? 12 [.u 0 i64,.g 5 0]])] B4
def dt:a? 401 [Ex,i64,.str] [Ex,i64] Qr:=k0 [(401,[c? 16 [.u 8 Db,.u 9 Db,.g 10 8,.p 7 [.o 4,.d i64,.o 5,.d .bool,.o 9]],⟨0,13,[(10,Db)],[(7,4,Db)],[],[],[.t 11 i64,.u 8 Db,.u 4 .str,.u 5 i64,.u 9 Db,.g 10 8,.p 7 [.o 4,.d i64,.o 5,.d .bool,.o 9],.p 2 Q!,.p 3 Q!],[(.exit 0,[.u 8 Db,.u 4 .str,.u 5 i64,.u 9 Db,.g 10 8,.p 7 [.o 4,.d i64,.o 5,.d .bool,.o 9],.p 2 Q!,.p 3 Q!])]⟩,c? 29 [.t 12 .bool,.u 4 .str,.p 7 i?,.p 2 e!,.p 3 e!],c? 26 [.t 12 .bool,.u 4 .str,.p 2 e!,.p 3 e!,.p 7 i?],c? 24 [.t 12 .bool,.u 4 .str,.p 2 e!,.p 3 e!,.p 7 i?],⟨0,20,[],[],[5],[],[.t 12 .bool,.t 13 i64,.u 4 .str,.u 6 Db,.u 4 .str,.u 6 Db,.u 4 .str,.u 9 Db,.p 2 e!,.p 3 e!,.p 7 i?],[(.exit 2,[.t 12 .bool,.u 4 .str,.u 6 Db,.u 9 Db,.p 2 e!,.p 3 e!,.p 7 i?])]⟩,c? 32 [.u 4 .str,.p 7 i?,.p 2 e!,.p 3 e!],c? 45 [.p 7 i?],c? 43 [.p 7 i?],c? 39 [.u 4 .str,.p 7 i?,.p 2 e!,.p 3 e!],e? 34 [14,.u 4 .str,.u 6 Db,.u 4 .str,.u 6 Db,.u 4 .str,.u 9 Db,.p 2 e!,.p 3 e!,.p 7 i?] 5 [.u 4 .str,.u 6 Db,.u 9 Db,.p 2 e!,.p 3 e!,.p 7 i?]])] (A1 Ni (A1 SY (A1 gq B4)))
def L9:a? 470 [EU,i64,UT] [EU] IZ:=k0 [] B4
def eC:a? 441 [EU,i64,i64] [EU,i64] Qs:=k0 [(441,[c? 14 [g? 2 UT],c? 12 [g? 2 UT]])] (A1 EL (A1 Ga (A1 L9 B4)))
def Dl:a? 249 [(.list B7),i64] [i64] CV:=k0 [] (A1 Kx B4)
def D0:a? 89 [Aj] [.bool] BJ:=k0 [] B4
def Pk:a? 410 [Az,i64] [i64] Ee:=k0 [] (A1 CM (A1 Iy (A1 J9 B4)))
def bT:a? 444 [Bp,Aj] [Bp,i64,i64] K4:=k0 [] (A1 Bk (A1 GZ (A1 Ds B4)))
def G5:a? 254 [Bp,i64] [Aj,i64] E2:=k0 [] (A1 Bk (A1 GZ B4))
def Nj:a? 334 [(.list B7),i64] [(.list B7)] Gi:=k0 [(334,[c? 6 [.u 0 B7,.g 5 0],⟨0,3,[(5,B7)],[],[],[],[.t 6 i64,.u 0 B7,.g 5 0],[(.exit 0,[.u 0 B7,.g 5 0])]⟩])] B4
def TH:a? 336 [B7] [B7] IM:=k0 [(336,[c? 2 [g? 0 B7]])] B4
def Qn:a? 335 [(.list B7),i64,B7] [(.list B7)] Ia:=k0 [] B4
def VZ:a? 251 [(.list B7),Aj] [(.list B7),i64] GL:=k0 [(251,[c? 24 [.u 2 i64,.g 8 2],⟨0,21,[(8,i64)],[],[],[],[.t 9 i64,.u 2 i64,.g 8 2],[(.exit 2,[.u 2 i64,.g 8 2])]⟩,d? 19 [.t 4 (.list B7),5,.x 1] [g? 1 B7],hn 2 17 [.x 1] [(.normal,[g? 1 B7]),(.ret,[.t 4 (.list B7),5,.x 1])]])] (A1 FE (A1 Ds (A1 Kx (A1 Nj (A1 TH (A1 Qn B4))))))
def kM:a? 337 [EK,i64,C4] [EK] OU:=k0 [] B4
def VY:a? 252 [EK,Aj] [EK,i64] He:=k0 [] (A1 F9 (A1 Ds (A1 kM B4)))
def Fw:a? 405 [Az,Aj] [Az,i64,i64] EQ:=k0 [(405,[d? 5 [5,6,g? 2 Az,.x 1] [g? 1 Aj,g? 2 Az],c? 10 [g? 1 Aj]])] (A1 CM (A1 Dl (A1 D0 (A1 Pk (A1 bT (A1 G5 (A1 VZ (A1 VY B4))))))))
def Z9:a? 402 [Az,i64,i64] [Az,i64] KO:=k0 [(402,[d? 7 [7,g? 1 Az,.x 2] [g? 2 EU,g? 1 Az]])] (A1 CM (A1 Kw (A1 FZ (A1 eC (A1 Fw B4)))))
def Ui:a? 367 [A6,Az,BF] [A6,i64] Mb:=k0 [] (A1 HC (A1 dt (A1 Z9 B4)))
def eT:a? 305 [A6,i64] [A6,i64] Ma:=k0 [] (A1 eG (A1 FZ (A1 Ui B4)))
def Ue:a? 120 [EU] [(.list CA)] I6:=k0 [(120,[c? 9 [.u 1 CA,.g 3 1],⟨0,5,[(3,CA)],[],[],[],[.t 4 i64,.u 1 CA,.g 3 1],[(.exit 0,[.u 1 CA,.g 3 1])]⟩])] (A1 EL (A1 Ga B4))
def lV:a? 403 [Az] [HX,i64] P5:=k0 [(403,[c? 9 [.u 3 CA,.p 2 l?],c? 14 [.u 3 CA,.p 2 l?],e? 11 [46,.u 3 CA,.p 2 l?] 2 [.u 3 CA,.p 2 l?],⟨0,5,[],[(2,3,CA)],[],[],[.t 5 i64,.u 3 CA,.p 2 l?],[(.exit 0,[.u 3 CA,.p 2 l?])]⟩])] (A1 CM (A1 J9 (A1 Ue B4)))
def Ug:a? 387 [HX] [.bool] G9:=k0 [(387,[f? 4 [3] [.t 2 .bool] 0 []])] (A1 FE (A1 QL (A1 F9 B4)))
def Z8:a? 471 [.str,(.list i64)] [.str] Hf:=k0 [(471,[e? 2 [.t 0 .str,5] 0 [.t 0 .str]])] (A1 DX B4)
def bc:a? 442 [(.list B7)] [.str,i64] K8:=k0 [(442,[e? 5 [.t 4 .str,5] 0 [.t 4 .str]])] (A1 FE (A1 DX (A1 Z8 B4)))
def bZ:a? 443 [EK] [.str,i64] IJ:=k0 [(443,[e? 5 [.t 4 .str,5] 0 [.t 4 .str]])] (A1 F9 (A1 DX B4))
def bi:a? 404 [HX] [.str,i64] Gj:=k0 [(404,[e? 9 [.t 6 .str,7] 0 [.t 6 .str]])] (A1 Ug (A1 bc (A1 DX (A1 bZ B4))))
def iE:a? 368 [Az] [Az,i64,i64] Ro:=k0 [] (A1 lV (A1 bi (A1 Fw (A1 J7 B4))))
def Xz:a? 306 [A6] [A6,i64,i64] Lw:=k0 [] (A1 iE B4)
def gp:a? 406 [Ex,i64,.str,i64] [Ex,i64] Rj:=k0 [] (A1 Ni (A1 SY B4))
def J6:a? 92 [.str] [.str] DY:=k0 [] (A1 DX (A1 L8 B4))
def gu:a? 173 [i64] [.str] Js:=k0 [] (A1 DX (A1 J6 B4))
def gr:a? 150 [.str,LZ] [.str] GI:=k0 [] (A1 DX B4)
def TF:a? 94 [Aj] [.str,i64] Fb:=k0 [] (A1 Ds (A1 DX (A1 gr B4)))
def dw:a? 174 [Aj] [.str] I4:=k0 [] (A1 TF (A1 J6 B4))
def Uc:a? 117 [Bp,i64] [.str] EG:=k0 [(117,[c? 8 [.t 5 .str,.t 6 .str],e? 5 [.t 5 .str,.t 6 .str,7] 0 [.t 5 .str,.t 6 .str]])] (A1 Bk (A1 gu (A1 dw B4)))
def eS:a? 369 [A6,i64,i64,i64] [Ex,.str] MZ:=k0 [(369,[c? 8 [g? 3 Ex],c? 4 [g? 2 Az,g? 3 Ex]])] (A1 FZ (A1 HC (A1 J8 (A1 gp (A1 Uc B4)))))
def EF:a? 109 [.str,i64,i64] [i64,i64] Ay:=k0 [(109,[e? 7 [.t 8 (.int .u64),9] 0 [.t 8 (.int .u64)]])] B4
def Mm:a? 57 [.str,i64] [.str,i64,i64] Bd:=k0 [] (A1 EF (A1 L8 B4))
def ON:b? 245 0 PZ [i64] [i64] BU:=k1 [] (A1 EF B4)
def Og:b? 247 0 PZ [i64] [.str] Dz:=k1 [] B4
def XW:b? 246 0 PZ [] [LZ] Dd:=k1 [] (A1 ON (A1 Og B4))
def TE:a? 172 [.str] [Aj,i64] Fa:=k0 [] (A1 ON (A1 XW (A1 Og (A1 Ds B4))))
def VU:a? 116 [.str] [Bp,i64] FU:=k0 [(116,[⟨0,8,[],[(1,1,Aj)],[],[],[.t 5 i64,.u 2 Aj,.p 1 [.d i64,.o 2,.d i64],.p 0 [.d Bp]],[(.ret,[.t 3 i64,.p 0 [.d Bp],.x 1,.x 2]),(.exit 0,[.u 2 Aj,.p 1 [.d i64,.o 2,.d i64],.p 0 [.d Bp]])]⟩])] (A1 Mm (A1 EF (A1 TE B4)))
def OO:b? 428 0 GX [i64] [i64] Cc:=k1 [] (A1 EF B4)
def XX:b? 429 0 GX [i64] [(.list i64)] F3:=k1 [(429,[⟨0,3,[(5,i64)],[],[],[],[.t 6 i64,.u 1 i64,.g 5 1,.p 0 [.d GX]],[(.exit 0,[.u 1 i64,.g 5 1,.p 0 [.d GX]])]⟩])] (A1 OO B4)
def ba:a? 385 [.str] [(.list B7),i64] K7:=k0 [(385,[⟨0,4,[(5,B7)],[],[],[],[.t 6 i64,.u 1 B7,.g 5 1,.p 0 [.d GX]],[(.exit 0,[.u 1 B7,.g 5 1,.p 0 [.d GX]])]⟩])] (A1 OO (A1 XX (A1 FE B4)))
def bY:a? 386 [.str] [EK,i64] Eb:=k0 [(386,[⟨0,8,[],[(1,0,C4)],[],[],[.t 7 i64,.u 2 C4,.p 1 [.o 2]],[(.exit 1,[.u 2 C4,.p 1 [.o 2]])]⟩])] (A1 EF (A1 F9 B4))
def bh:a? 332 [.str] [HX,i64] DM:=k0 [(332,[⟨0,15,[],[(1,3,CA)],[],[],[.t 9 i64,.t 11 i64,.u 2 CA,.p 1 [.d i64,.d i64,.d (.list B7),.o 2,.d EK]],[(.exit 0,[.t 9 i64,.u 2 CA,.p 1 [.d i64,.d i64,.d (.list B7),.o 2,.d EK]])]⟩])] (A1 EF (A1 ba (A1 bY (A1 Ug B4))))
def bj:a? 248 [Bp] [HX,i64,.bool] P4:=k0 [(248,[f? 4 [5,g? 1 HX] [3,.t 4 .bool,g? 1 HX] 0 [g? 1 HX]])] (A1 Bk (A1 bh B4))
def eO:a? 175 [Bp,i64] [E8,i64] MW:=k0 [] (A1 bj (A1 WT B4))
def eM:a? 253 [(.list CA),Aj] [(.list CA)] HA:=k0 [(253,[c? 10 [.t 6 .bool,.u 1 CA,.g 5 1],c? 18 [g? 2 CA],hn 2 15 [.x 2] [(.normal,[g? 2 CA]),(1,[g? 2 CA])],hn 2 13 [.x 2] [(.normal,[.t 6 .bool,g? 2 CA]),(1,[.t 6 .bool,g? 2 CA])],⟨0,6,[(5,CA)],[],[],[],[.t 6 .bool,.t 7 i64,.u 1 CA,.g 5 1],[(.exit 0,[.t 6 .bool,.u 1 CA,.g 5 1])]⟩,c? 21 [.u 1 CA,.g 5 1]])] (A1 D0 B4)
def iH:a? 176 [E8,Aj] [E8,i64] Hh:=k0 [(176,[d? 2 [5,g? 2 E8,.x 0] [g? 0 E8,g? 2 E8]])] (A1 Dl (A1 Uf (A1 VZ (A1 VY (A1 D0 (A1 eM B4))))))
def iG:a? 338 [Bq,Bq] [.bool] FV:=k0 [] B4
def iI:a? 255 [(.list Bq),Bq] [(.list Bq)] Rq:=k0 [(255,[e? 2 [5] 0 [5]])] (A1 iG B4)
def eN:a? 177 [Bp,(.list B7)] [(.list Bq),i64] MV:=k0 [(177,[f? 6 [.t 6 (.list Bq),8] [.t 4 (.list Bq),5] 2 [.t 6 (.list Bq)],f? 3 [.t 6 (.list Bq),7] [.t 4 (.list Bq),5] 0 [.t 6 (.list Bq)]])] (A1 G5 (A1 iI B4))
def SZ:a? 118 [Bp,i64] [E8,i64] FL:=k0 [(118,[f? 9 [8,g? 2 E8,g? 1 E8] [5,g? 1 E8,.x 2] 0 [g? 2 E8,g? 1 E8],c? 20 [.u 3 B7,.g 9 3],⟨0,17,[(9,B7)],[],[],[],[.t 10 i64,.u 3 B7,.g 9 3],[(.exit 2,[.u 3 B7,.g 9 3])]⟩])] (A1 Bk (A1 eO (A1 iH (A1 eN B4))))
def eQ:a? 445 [Bp,E8,i64] [Az,i64] MX:=k0 [(445,[f? 8 [11,g? 4 Az,g? 2 Az] [7,g? 2 Az,.x 4] 0 [g? 4 Az,g? 2 Az]])] (A1 WS (A1 CM (A1 Fw B4)))
def iO:a? 407 [Ex,.str,i64,i64] [A6,i64] Rt:=k0 [] (A1 VU (A1 SZ (A1 eQ B4)))
def iP:a? 370 [Ex,.str,i64,i64] [A6,i64] Ru:=k0 [] (A1 iO B4)
def bX:a? 472 [EU] [EU,i64,i64] P0:=k0 [(472,[e? 5 [g? 0 EU] 0 [g? 0 EU]])] (A1 EL (A1 L9 B4))
def gz:a? 473 [EU,i64] [EU,i64] NO:=k0 [(473,[c? 10 [.p 0 [.d i64,.o 2,.d i64]],c? 12 [.p 0 [.d i64,.o 2,.d i64]]])] (A1 EL (A1 Ga B4))
def iB:a? 446 [Az] [Az,BF,.bool,i64] NR:=k0 [] (A1 CM (A1 bX (A1 FZ (A1 gz (A1 J8 B4)))))
def iM:a? 408 [A6] [A6,i64] NU:=k0 [(408,[hn 0 1 [g? 0 A6,g? 1 A6] [(.ret,[3,g? 1 A6,.x 0])]])] (A1 iB (A1 Ui B4))
def kI:a? 447 [(.list i64),i64] [.bool] Ct:=k0 [(447,[f? 2 [5] [.t 4 .bool] 0 []])] B4
def gj:a? 409 [Ex,i64] [.str,i64] NJ:=k0 [] (A1 Ni (A1 kI B4))
def UX:a? 46 [] [.str] I0:=k0 [] (A1 UZ B4)
def bQ:a? 110 [.str] [BF,i64] EZ:=k0 [(110,[f? 14 [7,g? 1 BF,g? 0 BF] [3,g? 0 BF,.x 1] 1 [g? 1 BF,g? 0 BF]])] (A1 UX (A1 EF (A1 L8 (A1 HC B4))))
def WO:a? 64 [i64] [BF] EP:=k0 [] B4
def H9:a? 59 [.str,i64] [BF,i64] Ch:=k0 [] (A1 bQ (A1 WO B4))
def eD:a? 411 [EK,i64,i64,.str] [BF,i64] MN:=k0 [] (A1 F9 (A1 H9 B4))
def dx:a? 490 [Aj,(.list Aj)] [(.list Aj)] MI:=k0 [] B4
def gv:a? 489 [Bp,i64,i64,i64] [(.list Aj),i64] Rk:=k0 [(489,[f? 7 [.t 10 (.list Aj),11] [.t 8 (.list Aj),9] 0 [.t 10 (.list Aj),11]])] (A1 Bk (A1 G5 (A1 D0 (A1 dx B4))))
def eP:a? 474 [Bp,BF,i64] [(.list Aj),i64] Wk:=k0 [] (A1 Bk (A1 HY (A1 gv B4)))
def Ua:a? 229 [BF,JX] [BF,i64] I2:=k0 [] (A1 Ub B4)
def Uh:a? 156 [BF,Aj] [BF,i64] JB:=k0 [] (A1 Ds (A1 D0 (A1 HY (A1 Ua B4))))
def iK:a? 448 [Bp,BF,i64] [BF,i64,i64] Rs:=k0 [(448,[f? 5 [11,g? 1 BF,g? 2 BF] [7,8,g? 2 BF,.x 1] 0 [g? 1 BF,g? 2 BF]])] (A1 eP (A1 Uh B4))
def iJ:a? 412 [Bp,BF,i64] [BF,i64] Rr:=k0 [] (A1 iK B4)
def be:a? 413 [Az,BF] [Az,i64] LB:=k0 [(413,[c? 21 [.u 9 CA,.g 10 9],⟨0,18,[(10,CA)],[],[],[],[.t 11 i64,.u 9 CA,.g 10 9],[(.exit 1,[.u 9 CA,.g 10 9])]⟩,c? 14 [.u 6 UT,g? 0 Az,.p 3 [.d i64,.o 6,.d i64],.p 5 [.d i64,.o 6,.d i64],.p 7 [.d i64,.o 6,.d i64]]])] (A1 CM (A1 Pk (A1 EL (A1 HY (A1 J9 (A1 Ga B4))))))
def KA:a? 371 [A6,i64] [A6,i64] Eu:=k0 [] (A1 CM (A1 FZ (A1 iM (A1 gj (A1 Pk (A1 eD (A1 iJ (A1 be B4))))))))
def TJ:a? 414 [Az,i64] [B7,.bool] IN:=k0 [(414,[d? 2 [.t 5 .bool,g? 1 B7] [g? 1 B7]])] (A1 CM (A1 Dl B4))
def iL:a? 372 [Az] [(.list i64)] NT:=k0 [(372,[c? 7 [.u 1 i64,.g 3 1],⟨0,3,[(3,i64)],[],[],[],[.t 4 i64,.u 1 i64,.g 3 1],[(.exit 0,[.u 1 i64,.g 3 1])]⟩])] (A1 TJ B4)
def Ij:a? 415 [Az,i64] [B7,i64] FK:=k0 [] (A1 CM (A1 Dl B4))
def Ph:a? 451 [(.list Bq),i64,.bool,JM] [(.list Bq)] GK:=k0 [(451,[c? 6 [.u 1 Bq,.g 9 1],⟨0,3,[(9,Bq)],[],[],[],[.t 10 i64,.u 1 Bq,.g 9 1],[(.exit 0,[.u 1 Bq,.g 9 1])]⟩])] B4
def gw:a? 475 [DO,i64] [.bool] NM:=k0 [(475,[f? 2 [5] [.t 4 .bool] 0 [],f? 7 [6] [.t 4 .bool] 2 []])] (A1 Le B4)
def gy:a? 476 [(.list Bq),Bq] [(.list Bq)] NN:=k0 [(476,[c? 7 [.t 6 .bool,.u 1 Bq,.g 5 1],c? 10 [.u 1 Bq,.g 5 1],⟨0,4,[(5,Bq)],[],[],[],[.t 6 .bool,.t 7 i64,.u 1 Bq,.g 5 1],[(.exit 0,[.t 6 .bool,.u 1 Bq,.g 5 1])]⟩,c? 12 [.u 1 Bq,.g 5 1]])] (A1 VW B4)
def JY:a? 450 [DO] [DO] Fc:=k0 [(450,[c? 5 [3,g? 0 DO],e? 2 [3,g? 0 DO] 0 [g? 0 DO]])] (A1 gw (A1 gy B4))
def Mn:a? 416 [DO,i64] [DO] Hd:=k0 [] (A1 FC (A1 Ph (A1 JY B4)))
def iD:a? 417 [Az,i64] [Aj,.bool] Hg:=k0 [] (A1 Ij (A1 G5 B4))
def Z5:a? 452 [JX] [JX] KF:=k0 [] B4
def bW:a? 477 [EU,BF] [EU,i64] K6:=k0 [(477,[c? 13 [g? 3 UT]])] (A1 EL (A1 HY (A1 Ga (A1 L9 B4))))
def WU:a? 453 [Az,Aj] [Az,i64] Kq:=k0 [] (A1 Fw (A1 Iy (A1 bW B4)))
def lU:a? 478 [Az,B7,JM,i64] [Aj,.bool] P3:=k0 [(478,[f? 2 [10,g? 3 Aj] [.t 9 .bool,g? 3 Aj] 0 [g? 3 Aj]])] (A1 G5 B4)
def TI:a? 454 [Az,i64,JM] [Aj,.bool] LF:=k0 [] (A1 Ij (A1 lU B4))
def VV:a? 455 [DO,i64,JM] [DO] NK:=k0 [] (A1 FC (A1 Ph (A1 JY B4)))
def Vc:a? 418 [Az,B7,Aj] [Az,DF] GM:=k0 [(418,[c? 15 [g? 8 Az],c? 12 [g? 8 Az]])] (A1 Iy (A1 Z5 (A1 Ua (A1 Cz (A1 WU (A1 TI (A1 VV B4)))))))
def Vb:a? 373 [Az,i64] [Az,DF] Ju:=k0 [] (A1 Ij (A1 Cz (A1 Fw (A1 Mn (A1 iD (A1 Vc B4))))))
def iQ:a? 309 [A6] [A6,.bool,i64] NV:=k0 [(309,[hn 0 9 [g? 0 A6,g? 1 A6] [(.ret,[.t 3 .bool,4,g? 1 A6,.x 0])]])] (A1 CM (A1 KA (A1 iL (A1 Vb B4))))
def bd:a? 479 [Az,Ew] [i64] K9:=k0 [(479,[c? 6 [.t 11 .bool],c? 5 [.t 11 .bool],c? 11 [g? 2 Ew],c? 18 [.t 60 .bool],c? 17 [.t 60 .bool],d? 13 [4,.x 2] [g? 2 Ew],d? 7 [4,.x 2] [g? 2 Ew]])] B4
def Ii:a? 434 [DO,i64] [Bq,.bool] FH:=k0 [(434,[f? 3 [6,g? 1 Bq] [.t 5 .bool,g? 1 Bq] 0 [g? 1 Bq],d? 2 [.t 5 .bool,g? 1 Bq] [g? 1 Bq]])] (A1 FC B4)
def Va:a? 462 [i64,Ew] [Bq,.bool] Jt:=k0 [(462,[c? 7 [.t 20 .bool]])] B4
def aB:a? 457 [Az,i64,Ew] [i64] KR:=k0 [] (A1 CM (A1 Dl (A1 bd (A1 Ii (A1 Va B4)))))
def bg:a? 458 [Az,i64] [Az,DF] LD:=k0 [(458,[hn 2 3 [.x 1,.x 2,.x 3] [(.normal,[g? 3 Az,g? 1 Az,g? 2 DF]),(.ret,[g? 1 Az,g? 2 DF,.x 3])]])] (A1 Dl (A1 Nj (A1 Fw (A1 Cz (A1 J8 (A1 Mn B4))))))
def bU:a? 480 [DO,i64] [DO] Pv:=k0 [] (A1 FC (A1 Ph (A1 JY B4)))
def aA:a? 481 [Az,i64,JM] [.bool] KQ:=k0 [(481,[f? 3 [8] [.t 6 .bool] 0 []])] (A1 Dl (A1 G5 B4))
def eK:a? 459 [Az,i64,i64] [Az,DF] JA:=k0 [(459,[c? 15 [g? 3 Az],e? 12 [12,g? 3 Az] 0 [g? 3 Az]])] (A1 bU (A1 Dl (A1 Nj (A1 Mn (A1 Fw (A1 Cz (A1 aA (A1 VV B4))))))))
def TG:a? 482 [(.list B7),i64] [i64,i64] IK:=k0 [] (A1 FE (A1 Kx B4))
def hZ:a? 460 [(.list B7),i64] [(.list B7),i64] NQ:=k0 [] (A1 TG (A1 Qn B4))
def hY:a? 461 [(.list B7),i64,i64] [(.list B7),i64] NP:=k0 [] (A1 TG (A1 TH (A1 Qn B4)))
def dy:a? 483 [DO,Bq] [i64] I5:=k0 [(483,[f? 4 [5] [4] 0 []])] (A1 Pj B4)
def Z6:a? 463 [DO,Bq] [DO,.bool,i64] Ow:=k0 [] (A1 FC (A1 Ud (A1 Ii (A1 Pj (A1 dy (A1 JY B4))))))
def kK:a? 484 [EU,i64] [EU] OS:=k0 [] (A1 FZ (A1 L9 B4))
def bf:a? 464 [Az,i64,Ew] [Az,DF] LC:=k0 [(464,[c? 9 [g? 5 JX]])] (A1 Iy (A1 kK (A1 WU (A1 Cz B4))))
def VX:a? 467 [(.list i64),i64] [(.list i64)] FQ:=k0 [(467,[c? 7 [.t 6 .bool,.u 0 i64,.g 5 0],c? 10 [.u 0 i64,.g 5 0],⟨0,4,[(5,i64)],[],[],[],[.t 6 .bool,.t 7 i64,.u 0 i64,.g 5 0],[(.exit 0,[.t 6 .bool,.u 0 i64,.g 5 0])]⟩,c? 12 [.u 0 i64,.g 5 0]])] B4
def Z7:a? 485 [DO] [(.list i64)] KH:=k0 [(485,[e? 4 [.t 3 (.list i64),4] 0 [.t 3 (.list i64)],c? 3 [.t 3 (.list i64)]])] (A1 FC (A1 VX B4))
def Qm:a? 435 [DO,i64] [(.list i64)] IY:=k0 [(435,[c? 9 [.t 7 (.list i64)],e? 6 [.t 7 (.list i64),8] 0 [.t 7 (.list i64)],c? 14 [.t 7 (.list i64)],e? 11 [.t 7 (.list i64),9] 2 [.t 7 (.list i64)]])] (A1 Ii (A1 Le (A1 VX B4)))
def bV:Ax (.c0 486 [DO,(.list i64),i64] [(.list i64)] Py):=AHH (P:=Tryz.prog) (F:=486) (ds:=[DO,(.list i64),i64]) (rs:=[(.list i64)]) (f:=Em) (hs:=ac [(486,[f? 4 [30] [.t 6 (.list i64)] 0 [],e? 15 [.t 12 .bool,49] 4 [.t 12 .bool],f? 11 [43] [.t 6 (.list i64)] 2 []])]) (n:=13) (A1 Qm B4) (λg x=>by kernel_rfl)
def dz:a? 465 [DO,i64] [(.list i64)] MJ:=k0 [(465,[f? 2 [5] [.t 4 (.list i64)] 0 []])] (A1 Z7 (A1 bV B4))
def eJ:a? 487 [(.list i64)] [i64] MS:=k0 [] B4
def kN:a? 466 [Az,i64] [i64] OV:=k0 [] (A1 Qm (A1 eJ B4))
def lT:a? 431 [Az,i64,Ew] [Az,DF] P2:=k0 [(431,[c? 10 [.t 46 .bool],c? 13 [.t 9 (.list B7),10]])] (A1 aB (A1 Cz (A1 bg (A1 eK (A1 hZ (A1 hY (A1 Va (A1 Z6 (A1 bf (A1 dz (A1 kN B4)))))))))))
def Sa:a? 432 [A6,i64] [.bool] EO:=k0 [] (A1 Dl B4)
def ZI:a? 433 [A6,i64] [A6,i64] En:=k0 [(433,[d? 12 [5,g? 1 A6,.x 0] [g? 0 A6,g? 1 A6],f? 5 [g? 0 A6,g? 1 A6] [5,g? 1 A6,.x 0] 0 [g? 0 A6,g? 1 A6]])] (A1 CM (A1 Dl (A1 Sa (A1 Vb (A1 KA B4)))))
def lW:a? 396 [A6,i64,Ew] [A6,DF] P6:=k0 [(396,[d? 10 [g? 2 A6,g? 3 DF,.x 0] [g? 0 A6,g? 2 A6,g? 3 DF],hn 0 1 [g? 0 A6,g? 2 A6,g? 3 DF] [(.ret,[g? 2 A6,g? 3 DF,.x 0])]])] (A1 lT (A1 KA (A1 Cz (A1 Sa (A1 ZI B4)))))
def aC:a? 397 [Az,i64] [i64,JM,.bool] KT:=k0 [(397,[f? 5 [28,g? 1 JM] [4,.t 6 .bool,g? 1 JM] 0 [g? 1 JM]])] (A1 Ii (A1 Qm (A1 TJ B4)))
def iC:a? 436 [Az,i64,JM] [Az,DF] NS:=k0 [] (A1 Ij (A1 Cz (A1 TI (A1 Vc B4))))
def iR:a? 398 [A6,i64,JM] [A6,i64,i64] NW:=k0 [(398,[d? 8 [7,8,g? 2 A6,.x 0] [9,g? 0 A6,g? 2 A6],hn 0 2 [9,g? 0 A6,g? 2 A6] [(.ret,[7,8,g? 2 A6,.x 0])]])] (A1 iC (A1 KA B4))
def lX:a? 364 [A6,i64,Ew] [A6,DF] P7:=k0 [(364,[hn 0 1 [g? 0 A6,g? 2 A6,g? 3 DF] [(.ret,[g? 2 A6,g? 3 DF,.x 0])]])] (A1 lW (A1 aC (A1 iR (A1 Cz B4))))
def kP:a? 147 [A6,(.list T5)] [A6,(.list DF),(.list Y6)] OX:=k0 [(147,[⟨0,4,[(8,DF)],[(2,18,i64),(2,19,Y6)],[],[],[.t 9 i64,.u 3 DF,.u 4 i64,.u 5 Y6,.g 8 3,.p 2 o?],[(.exit 0,[.u 3 DF,.u 4 i64,.u 5 Y6,.g 8 3,.p 2 o?])]⟩]),(222,[c? 5 [.u 4 i64,.p 2 o?],c? 19 [.p 2 o?]]),(303,[c? 2 [.p 2 o?]]),(304,[c? 9 [.u 5 Y6,.p 2 o?]]),(308,[e? 4 [9,.u 4 i64,.p 2 o?] 0 [.u 4 i64,.p 2 o?]])] (A1 eR (A1 bk (A1 Cz (A1 eT (A1 Xz (A1 Kw (A1 J7 (A1 eS (A1 iP (A1 iQ (A1 lX B4)))))))))))
def W6:b? 87 0 BR [i64,.bool] [A6] HO:=k1 [] (A1 Dc (A1 kO (A1 WG (A1 kP B4))))
def XV:b? 36 0 BR [i64,.bool] [Az] Ht:=k1 [] (A1 W6 B4)
def lS:b? 12 0 BR [i64] [i64,Bp] Ll:=k1 [] (A1 XV (A1 Kw (A1 J7 B4)))
def Dt:a? 27 [BT] [.bool] Ci:=k0 [(27,[f? 5 [3,4] [.t 2 .bool] 0 []])] (A1 TK B4)
def KC:a? 40 [BT,i64] [i64,i64] EI:=k0 [(40,[c? 3 [5]])] B4
def Sc:a? 88 [i64,i64,i64,i64,i64] [.bool] Hk:=k0 [] B4
def Sb:a? 149 [Aj,Aj] [i64] C7:=k0 [] B4
def Nk:a? 90 [(.list Aj),Aj] [(.list Aj),.bool] Ck:=k0 [(90,[e? 2 [6] 0 [6]])] (A1 Sb B4)
def KB:a? 91 [B8] [.bool] Ev:=k0 [(91,[d? 12 [.t 2 .bool] [],f? 4 [3] [.t 2 .bool] 0 []])] (A1 Sc (A1 Ds (A1 D0 (A1 Sb B4))))
def iT:a? 41 [(.list Aj),i64,i64,i64,i64,i64] [B8,i64] Jv:=k0 [(41,[f? 4 [14,g? 0 B8] [13,g? 0 B8] 0 [g? 0 B8],e? 16 [.t 16 .bool,19] 4 [.t 16 .bool],e? 11 [.t 16 .bool,17,g? 1 B8] 2 [.t 16 .bool,g? 1 B8]])] (A1 Sc (A1 Ds (A1 D0 (A1 Nk (A1 KB B4)))))
def iS:a? 93 [B8] [.str] Hj:=k0 [] (A1 DX B4)
def bo:a? 42 [B8] [.str,i64] IP:=k0 [(42,[e? 5 [.t 4 .str,5] 0 [.t 4 .str]])] (A1 KB (A1 iS (A1 J6 (A1 TF B4))))
def iV:a? 14 [BT,Bp,i64] [BT,i64] GN:=k0 [(14,[f? 15 [11,g? 2 BT] [7,g? 2 BT] 0 [g? 2 BT],f? 22 [13,.u 4 BX,.p 3 [.d (.list i64),.d i64,.o 4,.d i64,.d i64],g? 2 BT] [7,g? 2 BT,.x 3,.x 4] 2 [.u 4 BX,.p 3 [.d (.list i64),.d i64,.o 4,.d i64,.d i64],g? 2 BT]])] (A1 Dt (A1 Bk (A1 KC (A1 iT (A1 bo B4)))))
def gi:a? 16 [i64,i64] [BO] Jr:=k0 [(16,[⟨0,3,[],[(1,2,Ej)],[],[],[.t 6 i64,.u 2 Ej,.p 1 Q?],[(.exit 0,[.u 2 Ej,.p 1 Q?])]⟩])] (A1 UX B4)
def HZ:a? 60 [BO] [.bool] EJ:=k0 [(60,[f? 4 [3] [.t 2 .bool] 0 []])] (A1 H9 B4)
def Uk:a? 25 [BO] [.bool] JE:=k0 [] (A1 HZ B4)
def Pl:a? 95 [BO,i64] [Ej,.bool] GO:=k0 [(95,[f? 2 [6,g? 1 Ej] [.t 5 .bool,g? 1 Ej] 0 [g? 1 Ej]])] (A1 HZ B4)
def Ve:a? 43 [BO,i64] [BF,i64] Jx:=k0 [] (A1 HZ (A1 Pl (A1 H9 B4)))
def eW:a? 151 [BT,Bp,i64,i64,i64] [i64] JD:=k0 [] (A1 Dt (A1 Bk B4))
def iU:a? 169 [BT,i64] [i64,i64,.bool] Rv:=k0 [(169,[e? 4 [7] 0 [7]])] (A1 Dt (A1 KC B4))
def bq:a? 340 [.str,i64,i64] [i64] Bl:=k0 [] (A1 EF B4)
def bn:a? 258 [.str] [B8,i64] Gk:=k0 [(258,[⟨0,11,[],[(1,5,Aj)],[],[],[.t 5 i64,.t 9 i64,.u 2 Aj,.p 1 [.d i64,.d i64,.d i64,.d i64,.d i64,.o 2],.p 0 [.d B8]],[(.ret,[.t 3 i64,.p 0 [.d B8],.x 1,.x 2]),(.exit 0,[.t 5 i64,.u 2 Aj,.p 1 [.d i64,.d i64,.d i64,.d i64,.d i64,.o 2],.p 0 [.d B8]])]⟩])] (A1 Mm (A1 bq (A1 TE (A1 KB B4))))
def YV:a? 259 [BT,B8] [i64] Iu:=k0 [(259,[f? 2 [5] [4] 0 []])] (A1 KC B4)
def br:a? 182 [BT,BX] [B8,i64] Gl:=k0 [] (A1 bn (A1 YV B4))
def aD:a? 183 [B8,i64] [B8] KV:=k0 [(183,[c? 8 [.u 3 Aj,.p 2 [.d i64,.d i64,.d i64,.d i64,.d i64,.o 3]],⟨0,5,[],[(2,5,Aj)],[],[],[.t 6 i64,.u 3 Aj,.p 2 [.d i64,.d i64,.d i64,.d i64,.d i64,.o 3]],[(.exit 0,[.u 3 Aj,.p 2 [.d i64,.d i64,.d i64,.d i64,.d i64,.o 3]])]⟩])] B4
def eU:a? 124 [BT] [(.list B8),(.list i64),(.list .bool)] Mc:=k0 [(124,[e? 14 [11] 4 [11],e? 9 [.t 6 (.list B8),.t 7 (.list i64),8] 2 [.t 6 (.list B8),.t 7 (.list i64)],e? 20 [12,13,.u 1 B8,.u 2 i64,.u 3 .bool,.g 2 1,.g 3 2,.g 4 3] 6 [.u 1 B8,.u 2 i64,.u 3 .bool,.g 2 1,.g 3 2,.g 4 3],⟨0,4,[(2,B8),(3,i64),(4,.bool)],[],[],[],[.t 5 i64,.u 1 B8,.u 2 i64,.u 3 .bool,.g 2 1,.g 3 2,.g 4 3],[(.exit 0,[.u 1 B8,.u 2 i64,.u 3 .bool,.g 2 1,.g 3 2,.g 4 3])]⟩])] (A1 Dt (A1 br (A1 aD B4)))
def Vd:a? 68 [BT] [(.list B8),(.list i64)] Jw:=k0 [] (A1 eU B4)
def Rc:a? 113 [BT,Bp,i64] [Pa] Jj:=k0 [(113,[c? 8 [.u 4 B8,.u 5 i64,.p 3 [.o 4,.o 5,.d Bp]],⟨0,5,[],[(3,0,B8),(3,1,i64)],[],[],[.t 13 i64,.u 4 B8,.u 5 i64,.p 3 [.o 4,.o 5,.d Bp]],[(.exit 0,[.u 4 B8,.u 5 i64,.p 3 [.o 4,.o 5,.d Bp]])]⟩])] (A1 iU (A1 Vd B4))
def Uj:a? 227 [Bp,i64] [.bool] JC:=k0 [] B4
def iX:a? 224 [Pa,i64] [i64] Rw:=k0 [(224,[c? 6 [5],e? 3 [5,6] 0 [5],c? 8 [5]])] (A1 Uj B4)
def aE:a? 152 [Pa,i64,i64] [.bool] KW:=k0 [(152,[f? 1 [1] [.t 6 .bool] 0 []])] (A1 iX B4)
def bp:a? 228 [B8,i64] [(.list Aj)] P9:=k0 [(228,[c? 8 [.u 1 Aj,.g 5 1],⟨0,5,[(5,Aj)],[],[],[],[.t 6 i64,.u 1 Aj,.g 5 1],[(.exit 0,[.u 1 Aj,.g 5 1])]⟩])] (A1 KB B4)
def ZJ:a? 154 [(.list B8),i64,i64,i64] [(.list Aj)] Ji:=k0 [(154,[c? 10 [.t 9 (.list Aj)],e? 7 [.t 9 (.list Aj),12] 2 [.t 9 (.list Aj)],e? 3 [.t 9 (.list Aj),10] 0 [.t 9 (.list Aj)]])] (A1 bp (A1 Nk B4))
def bv:a? 155 [Bp,i64,i64,i64] [(.list Aj)] QC:=k0 [(155,[c? 7 [.u 1 Aj,.g 9 1],⟨0,3,[(9,Aj)],[],[],[],[.t 10 i64,.u 1 Aj,.g 9 1],[(.exit 0,[.u 1 Aj,.g 9 1])]⟩])] (A1 D0 B4)
def bu:a? 225 [(.list B8),i64] [i64] LJ:=k0 [(225,[f? 2 [5] [4] 0 []])] B4
def kR:a? 226 [(.list Aj),Aj] [.bool] Ib:=k0 [(226,[f? 2 [5] [.t 4 .bool] 0 []])] B4
def eV:a? 153 [(.list B8),Bp,(.list Aj),(.list Aj)] [(.list Aj),.bool] Md:=k0 [(153,[f? 3 [.t 10 (.list Aj),11] [.t 8 (.list Aj),.t 9 .bool] 0 [.t 10 (.list Aj)],f? 9 [12] [.t 8 (.list Aj),.t 9 .bool] 2 []])] (A1 bu (A1 kR (A1 Nk (A1 Uj B4))))
def XY:a? 96 [BT,Bp,i64,i64,i64] [(.list Aj),i64] Fg:=k0 [(96,[f? 11 [16] [.t 10 (.list Aj),11] 0 []])] (A1 eW (A1 Rc (A1 aE (A1 ZJ (A1 bv (A1 eV B4))))))
def iZ:a? 97 [BF,(.list Aj)] [BF,i64] NZ:=k0 [(97,[f? 2 [6,g? 0 BF,g? 1 BF] [5,g? 1 BF,.x 0] 0 [g? 0 BF,g? 1 BF]])] (A1 Uh B4)
def Vf:a? 44 [BF,BT,Bp,i64] [BF,i64] Hm:=k0 [] (A1 Dt (A1 Bk (A1 HC (A1 XY (A1 iZ B4)))))
def iY:a? 15 [BO,BT,Bp,i64,i64] [BO,i64] NY:=k0 [(15,[c? 19 [g? 6 Ej],⟨0,11,[],[(4,2,Ej)],[],[],[.t 13 i64,.u 5 Ej,.p 4 [.d i64,.d i64,.o 5],.p 3 [.d BO]],[(.ret,[.t 11 i64,.p 3 [.d BO],.x 4,.x 5]),(.exit 0,[.u 5 Ej,.p 4 [.d i64,.d i64,.o 5],.p 3 [.d BO]])]⟩])] (A1 Uk (A1 Dt (A1 Bk (A1 Ve (A1 Vf (A1 HC B4))))))
def WQ:a? 18 [Bp,i64] [Bp,i64] Gx:=k0 [] (A1 Bk (A1 GZ B4))
def bx:a? 52 [BO] [.str,i64] IQ:=k0 [(52,[e? 7 [.t 5 .str,6] 0 [.t 5 .str]])] (A1 HZ (A1 DX (A1 J6 B4)))
def kH:a? 19 [BO] [BX] Ko:=k0 [] (A1 bx B4)
def dn:b? 23 0 BR [i64,BT,Bp] [(.list BX)] MD:=k1 [(23,[⟨2,4,[(9,BX)],[],[],[],[.x 4],[(.normal,[.u 4 BX,.g 9 4])]⟩,e? 7 [11,12,.u 4 BX,.g 9 4,g? 0 BR,g? 3 BO] 0 [.u 4 BX,.g 9 4,g? 0 BR,g? 3 BO]])] (A1 gi (A1 Dc (A1 kH (A1 iY B4))))
def cC:a? 58 [.str,i64,i64] [i64] Bl:=k0 [] (A1 EF B4)
def bw:a? 24 [.str] [BO,i64] Ef:=k0 [(24,[⟨0,11,[],[(1,2,Ej)],[],[],[.t 5 i64,.t 9 i64,.u 2 Ej,.p 1 Q?,.p 0 [.d BO]],[(.ret,[.t 3 i64,.p 0 [.d BO],.x 1,.x 2]),(.exit 0,[.t 5 i64,.u 2 Ej,.p 1 Q?,.p 0 [.d BO]])]⟩])] (A1 Mm (A1 cC (A1 H9 (A1 HZ B4))))
def JZ:a? 8 [(.list BX)] [(.list BO)] C1:=k0 [(8,[e? 7 [.t 5 .bool,6] 2 [.t 5 .bool],e? 14 [9] 4 [9],e? 3 [.t 3 (.list BO),4] 0 [.t 3 (.list BO)]])] (A1 bw (A1 Uk B4))
open Go.RowKit Go.Ab Go.Pm
def AH9(w:World):Calls Tryz.prog 50 #[] w λe a=>e=.returned (.agg (ς 8 (Value.int .i64 1)).toArray)/\Below w.heap.size w a:=by
 go_enter Tryz.func50,Tryz.ntmps50
 go_wp2
 refine bodyPost_ret (results_cell_row (p:=0) (ty:=62) (t:=62) rfl _ _ w.heap.size _ _ _ rfl (heap_alloc_new w _) Tryz.underlying62 rfl h!) rfl ⟨rfl,(Below.refl _ w).alloc (Am _) _⟩
def cF:(RJ.c0 50 [] [(.arr 7 (.int .i64))] V4).Ok Tryz.prog:=by
 intro x y m H;cases m;refine lI (args:=[]) (v:=.agg (ς 8 (AZ.int .i64 1))) (λw f l hr=>?_) H;have e:f= #[]:=pE l;rw[e];apply (AH9 w).mono;rintro e n ⟨rfl,b⟩;have d:∀{i:Type}{a v:i}{j:Nat},(ς 8 a)[j]?=D v->v=a:=λ{i a v j} h=>by rw[List.getElem?_replicate]at h;split at h<;>simp_all
 refine⟨_,rfl,λx=>.agg rfl (λj c h=>?_) (λj v c k g=>?_),b⟩;rw[Yw]at h;rw[d h];rfl;rw[Yw]at g;rw[d k,d g];exact .int _ _
def Z4:(RJ.c0 237 [(.int .u64)] [(.int .i64)] Uo).Ok Tryz.prog:=by intro x y a;obtain⟨h,rfl⟩:=uU a;rw[show x=0 from eq_of_beq h];exact yV (P:=Tryz.prog) (cs:=[]) (hs:=λ_=>[]) (n:=13) (F:=237) (ds:=[(.int .u64)]) (rs:=[(.int .i64)]) (g:=zp Tryz.prog [] (λ_=>[]) 13 237 [(.int .u64)] [(.int .i64)]) B4 (λ_=>rfl) 0 0 h!
end Go.Proofs.YtkgodfhnofpglaaGreatDoor
