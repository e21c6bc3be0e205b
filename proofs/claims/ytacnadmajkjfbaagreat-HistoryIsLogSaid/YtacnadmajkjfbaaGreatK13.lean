/- That the code computes these functions, part 13. Texts of the folder wip, laid in few files with shorter names by a program (wip/tools/pack.py); nothing is assumed. -/
import Derived.Test.YtacnadmajkjfbaaGreatK12
import Derived.Test.YtacnadmajkjfbaaGreatProg
import Derived.KernelRfl
noncomputable section
set_option linter.unusedVariables false
set_option linter.unusedSimpArgs false
set_option linter.unusedSectionVars false
set_option linter.defProp false
set_option linter.unnecessarySimpa false
set_option linter.deprecated false
namespace Go.Proofs.YtacnadmajkjfbaaGreat
open Go Go.Ab Go.Pm
abbrev A7(c:SW):Prop:=c.Ok Tryz.prog
set_option maxRecDepth 100000
def Wf:A7 (.c0 58 [i64] [.bool] EK):=k0 [] CT
def QB:A7 (.c0 38 [i64,i64] [i64] EO):=k0 [] (A9 Wf CT)
def cY:A7 (.c0 76 [(.list i64)] [i64] Ja):=k0 [(76,[hn 0 3 [.t 8 i64] [(.ret,[.t 2 i64]),(.exit 0,[])]])] CT
def UJ:A7 (.c0 75 [BK,BK] [i64] Fs):=k0 [] (A9 QB (A9 cY CT))
def Ns:A7 (.c2 200 BK [i64,i64,i64] [] [.fn (.func 75) [] []] Bw):=Ma (hs:=X2 [(200,[hn 0 1 [.t 10 i64,.u 0 BK,.g 0 0] [(.exit 0,[.u 0 BK])]])]) (n:=13) CT (λl x=>by kernel_rfl)
def Ow:A7 (.c2 179 BK [i64,i64,i64] [] [.fn (.func 75) [] []] Cy):=Ma (hs:=X2 [(179,[hn 0 2 [.t 10 i64,.t 11 i64,.u 0 BK,.g 0 0] [(.exit 0,[.t 10 i64,.u 0 BK,.g 0 0])]])]) (n:=13) (A9 Ns CT) (λl x=>by kernel_rfl)
def Ly:A7 (.c2 146 BK [i64,i64] [] [.fn (.func 75) [] []] B0):=Ma (hs:=X2 [(146,[hn 0 1 [.t 8 i64,.u 0 BK,.g 0 0] [(.exit 0,[.u 0 BK])],hn 0 4 [.t 9 i64,.u 0 BK,.g 0 0] [(.exit 2,[.u 0 BK,.g 0 0])]])]) (n:=13) (A9 UJ CT) (λl x=>by kernel_rfl)
def OL:A7 (.c2 147 BK [i64,i64,i64] [] [.fn (.func 75) [] []] Ct):=pw (P:=Tryz.prog) (F:=147) (te:=BK) (ds:=[i64,i64,i64]) (rs:=[]) (post:=[.fn (.func 75) [] []]) (f:=λg p=>BG g p.1 p.2) (hs:=X2 [(147,[hn 0 3 [.t 10 i64,.t 11 i64] [(.exit 0,[.t 10 i64])],hn 0 9 [.t 13 i64,.u 0 BK,.g 0 0] [(.exit 2,[.u 0 BK])],hn 0 15 [.t 14 i64,.t 15 i64] [(.exit 4,[.t 14 i64])],hn 0 21 [.t 17 i64,.u 0 BK,.g 0 0] [(.exit 6,[.u 0 BK])],hn 0 33 [.t 20 i64,.t 21 i64] [(.exit 8,[.t 20 i64])],hn 2 28 [] [(.normal,[.t 20 i64,.t 21 i64])],hn 2 40 [.x 0] [(.normal,[.u 0 BK,.g 0 0])],hn 2 42 [.x 0] [(.normal,[.u 0 BK,.g 0 0])],hn 2 44 [.x 0] [(.normal,[.u 0 BK])]])]) (n:=13) (A9 UJ (A9 Ow CT)) (λg l x=>by kernel_rfl)
def Ox:A7 (.c2 114 BK [i64] [] [.fn (.func 75) [] []] C0):=Ma (hs:=X2 [(114,[hn 0 2 [.t 7 i64,.t 8 i64,.u 0 BK,.g 0 0] [(.exit 0,[.t 7 i64,.u 0 BK,.g 0 0])],hn 0 7 [.t 6 i64,.u 0 BK,.g 0 0] [(.exit 2,[.u 0 BK])],hn 0 9 [.t 7 i64,.t 8 i64,.u 0 BK,.g 0 0] [(.exit 4,[.t 7 i64,.u 0 BK,.g 0 0])]])]) (n:=13) (A9 Ly (A9 OL CT)) (λl x=>by kernel_rfl)
def Iy:A7 (.c2 74 BK [] [] [.fn (.func 75) [] []] Bq):=Ma (hs:=X2 []) (n:=13) (A9 Ox CT) (λl x=>by kernel_rfl)
def QC:A7 (.cl 116 AY):=wD (t:=30) (b:=4) (by kernel_rfl) (by kernel_rfl) (by kernel_rfl)
def IW:A7 (.c0 37 [AY,AY] [i64] BT):=k0 [] (A9 QB CT)
def OK:A7 (.c2 78 AY [i64,i64] [] [.fn (.func 37) [] []] DR):=Ma (hs:=X2 [(78,[hn 0 1 [.t 8 i64,.u 0 AY,.g 0 0] [(.exit 0,[.u 0 AY])],hn 0 4 [.t 9 i64,.u 0 AY,.g 0 0] [(.exit 2,[.u 0 AY,.g 0 0])],hn 4 4 [] [(.exit 2,[]),(.normal,[])]])]) (n:=13) (A9 IW CT) (λl x=>by kernel_rfl)
def QE:A7 (.c2 118 AY [i64,i64,i64] [] [.fn (.func 37) [] []] DP):=Ma (hs:=X2 [(118,[hn 0 1 [.t 10 i64,.u 0 AY,.g 0 0] [(.exit 0,[.u 0 AY]),(.ret,[.u 0 AY])],hn 4 3 [] [(.normal,[.t 11 i64])]])]) (n:=13) (A9 IW CT) (λl x=>by kernel_rfl)
def QD:A7 (.c2 79 AY [i64,i64] [] [.fn (.func 37) [] []] D7):=Ma (hs:=X2 [(79,[hn 0 4 [.t 11 i64,.u 0 AY,.g 0 0] [(.exit 0,[.u 0 AY,.g 0 0])],hn 0 8 [.t 12 i64,.u 0 AY,.g 0 0] [(.exit 2,[.u 0 AY])]])]) (n:=13) (A9 QE CT) (λl x=>by kernel_rfl)
def eK:A7 (.c0 87 [(.int .u64)] [i64] On):=k0 [(87,[hn 2 2 [] [(.normal,[.t 0 (.int .u64),.t 2 i64])],hn 2 5 [] [(.normal,[.t 0 (.int .u64),.t 2 i64])],hn 2 8 [] [(.normal,[.t 0 (.int .u64),.t 2 i64])]])] CT
def Wm:A7 (.c0 57 [(.int .u64)] [i64] OP):=k0 [] (A9 eK CT)
def WD:A7 (.c0 119 [i64] [(.int .u64)] JJ):=k0 [] (A9 Wm CT)
def OJ:A7 (.c2 80 AY [i64,i64] [] [.fn (.func 37) [] []] EH):=Ma (hs:=X2 [(80,[hn 0 5 [.t 11 i64,.u 0 AY,.p 1 [.d (.int .u64)],.g 0 0] [(.exit 0,[.u 0 AY,.p 1 [.d (.int .u64)]])],hn 2 9 [] [(.normal,[.t 12 i64])]])]) (n:=13) (A9 WD CT) (λl x=>by kernel_rfl)
def Ov:A7 (.c2 81 AY [i64,i64] [i64,i64] [.fn (.func 37) [] []] Cw):=Ma (hs:=X2 [(81,[]),(122,[hn 6 1 [.x 1] [(.normal,[.t 1 i64,.t 2 i64,.p 1 [.d i64]])],hn 6 2 [.x 1] [(.normal,[.t 2 i64,.t 3 i64,.p 1 [.d i64]])],hn 6 3 [.x 1] [(.normal,[.t 1 i64,.t 2 i64,.p 1 [.d i64]])]])]) (n:=13) (A9 IW CT) (λl x=>by kernel_rfl)
def OZ:A7 (.c2 82 AY [i64,i64] [] [.fn (.func 37) [] []] Da):=Ma (hs:=X2 [(82,[hn 0 2 [.t 8 i64,.t 9 i64,.u 0 AY,.g 0 0] [(.exit 0,[.u 0 AY])]])]) (n:=13) CT (λl x=>by kernel_rfl)
def Kv:A7 (.c2 83 AY [i64,i64] [.bool] [.fn (.func 37) [] []] Cn):=Ma (hs:=X2 [(83,[hn 0 3 [.t 9 i64,.t 10 i64,.u 0 AY,.g 0 0] [(.exit 0,[.u 0 AY]),(.ret,[.t 8 .bool,.u 0 AY])],hn 0 5 [.t 9 i64] [(.exit 2,[.t 9 i64])],hn 4 5 [] [(.exit 2,[]),(.normal,[])],hn 2 13 [.x 0] [(.normal,[.u 0 AY,.g 0 0])],hn 0 14 [.t 11 i64,.u 0 AY,.g 0 0] [(.exit 4,[.u 0 AY,.g 0 0])],hn 2 19 [.x 0] [(.normal,[.u 0 AY,.g 0 0])],hn 0 20 [.t 12 i64,.u 0 AY,.g 0 0] [(.exit 6,[.u 0 AY,.g 0 0])]])]) (n:=13) (A9 IW CT) (λl x=>by kernel_rfl)
def Nr:A7 (.c2 84 AY [i64,i64,i64] [i64] [.fn (.func 37) [] []] DH):=Ma (hs:=X2 [(84,[hn 5 3 [.t 11 i64,.t 12 i64,.u 0 AY,.g 0 0] [(.exit 0,[.t 11 i64,.u 0 AY])],hn 0 3 [.t 11 i64] [(.exit 2,[.t 11 i64])],hn 4 3 [] [(.exit 2,[]),(.normal,[])],hn 0 5 [.t 12 i64] [(.exit 4,[.t 12 i64])],hn 4 5 [] [(.exit 4,[]),(.normal,[])]])]) (n:=13) (A9 IW CT) (λl x=>by kernel_rfl)
def Pc:A7 (.c2 85 AY [i64,i64,i64] [i64,.bool] [.fn (.func 37) [] []] D0):=Ma (hs:=X2 [(85,[hn 0 3 [.t 12 i64] [(.exit 0,[.t 12 i64])],hn 4 3 [] [(.exit 0,[]),(.normal,[])],hn 0 5 [.t 13 i64] [(.exit 2,[.t 13 i64])],hn 4 5 [] [(.exit 2,[]),(.normal,[])],hn 5 13 [.t 12 i64,.t 13 i64,.u 0 AY,.g 0 0] [(.exit 4,[.t 13 i64,.u 0 AY,.g 0 0])],hn 0 13 [.t 12 i64] [(.exit 6,[.t 12 i64])],hn 4 13 [] [(.exit 6,[]),(.normal,[])],hn 0 15 [.t 13 i64] [(.exit 8,[.t 13 i64])],hn 4 15 [] [(.exit 8,[]),(.normal,[])]])]) (n:=13) (A9 IW CT) (λl x=>by kernel_rfl)
def QR:A7 (.c2 56 AY [i64,i64,i64] [] [.fn (.func 37) [] []] HQ):=pw (P:=Tryz.prog) (F:=56) (te:=AY) (ds:=[i64,i64,i64]) (rs:=[]) (post:=[.fn (.func 37) [] []]) (f:=λg p=>D1 g p.1 p.2) (hs:=X2 [(56,[hn 0 2 [.t 1 i64,.t 2 i64,.t 3 i64,.t 10 .bool,.t 11 .bool,.u 0 AY,.g 0 0] [(.ret,[.u 0 AY])],hn 2 8 [.x 0] [(.normal,[.t 3 i64,.u 0 AY,.g 0 0])],hn 2 12 [.x 0] [(.normal,[.t 13 i64,.t 14 i64,.u 0 AY,.g 0 0])],hn 4 15 [.x 0] [(.normal,[.u 0 AY,.g 0 0]),(.ret,[.u 0 AY])],hn 4 17 [.x 0] [(.exit 1,[.t 1 i64,.u 0 AY,.g 0 0]),(.normal,[.t 1 i64,.u 0 AY,.g 0 0])],hn 2 25 [.x 0] [(.normal,[.t 1 i64,.t 2 i64,.t 10 .bool,.u 0 AY,.g 0 0])]])]) (n:=13) (A9 IW (A9 OK (A9 QD (A9 OJ (A9 Ov (A9 OZ (A9 Kv (A9 Nr (A9 Pc CT))))))))) (λg l x=>by kernel_rfl)
def Ou:A7 (.c2 36 AY [] [] [.fn (.func 37) [] []] Cc):=Ma (hs:=X2 []) (n:=13) (A9 QR (A9 Wm CT)) (λl x=>by kernel_rfl)
def Q2:A7 (.c0 49 [BH] [.bool] Jr):=k0 [(49,[hn 0 5 [.t 4 i64] [(.ret,[.t 2 .bool]),(.exit 0,[])],hn 0 13 [.t 5 i64,.t 89 i64] [(.ret,[.t 2 .bool]),(.exit 2,[])]])] CT
def bg:A7 (.c0 63 [Ca] [i64] CW):=k0 [] CT
def ia:A7 (.c0 109 [i64,AY] [.bool] My):=k0 [] CT
def iX:A7 (.c0 167 [i64] [.bool] R4):=k0 [] CT
def cX:A7 (.c0 168 [Lt] [.bool] DF):=k0 [] CT
def iW:A7 (.c0 139 [JX] [.bool] PF):=k0 [] (A9 iX (A9 cX CT))
def lI:A7 (.c0 138 [JX] [.bool] LO):=k0 [] CT
def gL:A7 (.c0 137 [AY] [.bool] GN):=k0 [] CT
def gM:A7 (.c0 140 [AY] [.bool] Qp):=k0 [] CT
def gN:A7 (.c0 141 [JX] [.bool] Qq):=k0 [] CT
def Tv:A7 (.c0 70 [AY] [.bool] Gw):=k0 [(70,[hn 2 5 [] [(.normal,[.t 47 .bool])],hn 2 8 [] [(.normal,[.t 67 .bool])]])] (A9 ia (A9 iW (A9 lI (A9 gL (A9 gM (A9 gN CT))))))
def Wl:A7 (.c0 50 [Ca] [.bool] OO):=k0 [(50,[hn 0 4 [.t 37 i64] [(.ret,[.t 2 .bool]),(.exit 0,[])]])] (A9 bg (A9 Tv CT))
def Wi:A7 (.c0 26 [BH,Ca,i64,i64] [i64] ON):=k0 [] (A9 Q2 (A9 Wl CT))
def ic:A7 (.c0 40 [Ca] [i64] R9):=k0 [] (A9 Wl (A9 bg CT))
def iY:A7 (.c0 101 [i64,i64] [.bool] R5):=k0 [] (A9 Wf CT)
def cr:A7 (.c0 111 [i64] [.bool] EK):=k0 [] CT
def SZ:A7 (.c0 71 [(.list i64),i64] [i64,.bool] FF):=k0 [(71,[hn 2 6 [] [(.normal,[.t 7 i64,.t 8 i64])],hn 0 3 [.t 7 i64,.t 8 i64] [(.exit 0,[.t 7 i64])]])] (A9 iY (A9 cr CT))
def We:A7 (.c0 72 [BH,i64] [i64,i64] JM):=k0 [] CT
def Wc:A7 (.c0 54 [BH,i64] [i64,i64,.bool] FV):=k0 [(54,[hn 2 5 [] [(.normal,[.t 7 i64])]])] (A9 Q2 (A9 SZ (A9 We CT)))
def W4:A7 (.c0 169 [.str,i64,i64] [i64,i64] CN):=k0 [(169,[hn 0 7 [.t 8 (.int .u64),.t 35 i64] [(.exit 1,[.t 8 (.int .u64)])]])] CT
def cZ:A7 (.c0 198 [] [(.arr 15 (.int .u32))] J2):=k0 [(198,[hn 2 9 [] [(.normal,[.t 3 (.int .u32)])],hn 0 7 [.t 3 (.int .u32),.t 9 i64] [(.exit 2,[.t 3 (.int .u32)])],hn 0 3 [.t 4 i64,.p 1 [.d (.arr 15 (.int .u32))]] [(.exit 0,[.p 1 [.d (.arr 15 (.int .u32))]])]])] CT
def ml:A7 (.c0 170 [.str] [(.int .u32)] RV):=k0 [(170,[hn 0 4 [.t 4 (.int .u32),.t 9 i64] [(.exit 0,[.t 4 (.int .u32)])]])] (A9 cZ CT)
def gK:A7 (.c0 142 [.str,i64] [.str,i64,i64] FW):=k0 [] (A9 W4 (A9 ml CT))
def Q3:A7 (.c0 199 [.str,.str] [.bool] Ft):=k0 [] CT
def cE:A7 (.c0 171 [.str,.str] [.bool] Hu):=k0 [] (A9 Q3 CT)
def RI:A7 (.c1 173 0 O1 [i64] [i64] Bi):=k1 [(173,[hn 2 6 [.x 0] [(.normal,[.p 0 [.d O1]])]])] (A9 W4 CT)
def Sg:A7 (.c1 175 0 O1 [i64] [.str] Em):=k1 [(175,[hn 2 2 [.x 0] [(.normal,[.p 0 [.d O1]])]])] CT
def bo:A7 (.c1 174 0 O1 [] [Lt] El):=k1 [] (A9 RI (A9 Sg CT))
def iZ:A7 (.c0 144 [.str] [AY,i64] Is):=k0 [] (A9 RI (A9 bo (A9 Sg (A9 Tv CT))))
def gO:A7 (.c0 176 [Bo] [.bool] LF):=k0 [] CT
def Wg:A7 (.c0 30 [AY] [.bool] A5):=k0 [] CT
def kN:A7 (.c0 177 [Bo,AY] [.bool] OW):=k0 [] (A9 Wg CT)
def ii:A7 (.c0 178 [AY,AY] [i64] NS):=k0 [] (A9 QB (A9 cY CT))
def lK:A7 (.c0 145 [Bo] [.bool] SM):=k0 [(145,[hn 0 4 [.t 18 i64] [(.ret,[.t 2 .bool]),(.exit 0,[])]])] (A9 gO (A9 Tv (A9 kN (A9 ii CT))))
def kM:A7 (.c0 112 [.str] [Bo,i64] Jo):=k0 [(112,[⟨0,8,[],[(4,5,AY)],[],[],[.t 5 i64,.t 32 i64,.u 5 AY,.p 4 [.d i64,.d i64,.d i64,.d i64,.d i64,.o 5],.p 0 [.d Bo]],[(.ret,[.t 3 i64,.p 0 [.d Bo],.x 4,.x 5]),(.exit 0,[.t 5 i64,.u 5 AY,.p 4 [.d i64,.d i64,.d i64,.d i64,.d i64,.o 5],.p 0 [.d Bo]])]⟩])] (A9 gK (A9 cE (A9 W4 (A9 iZ (A9 lK CT)))))
def eH:A7 (.c0 113 [BH,Bo] [i64] LN):=k0 [(113,[hn 0 2 [.t 11 i64] [(.ret,[.t 4 i64]),(.exit 0,[])]])] (A9 We CT)
def eG:A7 (.c0 73 [BH,Jx] [Bo,.bool] Gi):=k0 [] (A9 kM (A9 eH CT))
def fU:A7 (.c0 77 [Bo,i64] [Bo] Mx):=k0 [(148,[hn 0 2 [.t 8 i64] [(.ret,[.t 4 i64]),(.exit 0,[])]]),(115,[hn 0 5 [.t 6 i64,.t 5 i64,.u 3 AY,.g 0 3] [(.exit 0,[.t 5 i64,.u 3 AY,.g 0 3])]])] (A9 QC CT)
def Wd:A7 (.c0 55 [BH] [(.list Bo),(.list i64)] G3):=k0 [(55,[⟨0,5,[(4,BK)],[],[],[],[.t 19 i64,.u 1 BK,.g 4 1],[(.exit 0,[.u 1 BK,.g 4 1])]⟩,⟨0,14,[(2,Bo),(3,i64)],[],[],[],[.t 42 i64,.t 9 i64,.t 10 i64,.u 2 Bo,.g 2 2,.u 3 i64,.g 3 3],[(.exit 2,[.u 2 Bo,.g 2 2,.u 3 i64,.g 3 3])]⟩])] (A9 Q2 (A9 eG (A9 Iy (A9 fU CT))))
def Wk:A7 (.c0 27 [BH,Ca,i64] [(.list Mo)] JO):=k0 [(27,[hn 3 1 [] []]),(53,[hn 0 4 [.t 27 i64,.u 2 Mo,.p 3 [.o 2],.y 6 .ready] [(.exit 0,[.u 2 Mo,.p 3 [.o 2],.y 6 .ready])]])] (A9 ic (A9 Wc (A9 Wd CT)))
def TZ:A7 (.c0 34 [Mo,i64] [.bool] GA):=k0 [] CT
def eJ:A7 (.c1 52 1 i64 [Mo] [.bool] Om):=k1 [] (A9 TZ CT)
def Wj:A7 (.c0 28 [(.list Mo),i64] [i64] G4):=k0 [(28,[hn 0 1 [.p 0 [.d i64]] [(.ret,[.t 4 i64,.x 0])]]),(51,[hn 0 2 [.t 8 i64,.p 0 [.d i64]] [(.ret,[.t 4 i64,.p 0 [.d i64]]),(.exit 0,[.p 0 [.d i64]])]])] (A9 eJ CT)
def UK:A7 (.c0 12 [BH,Ca,i64,i64,i64] [.bool] E6):=k0 [] (A9 Wi (A9 Wk (A9 Wj CT)))
def lJ:A7 (.c0 11 [BH,Ca,i64,i64,i64] [(.list AY),i64] LP):=k0 [(11,[hn 0 14 [.t 57 i64,.t 17 i64,.m 9 .i64 AY] [(.exit 0,[.t 17 i64,.m 9 .i64 AY])],hn 0 24 [.t 85 i64,.m 9 .i64 AY,.p 11 [.d i64],.p 5 [.d (.list AY)],.p 6 [.d i64]] [(.exit 4,[.m 9 .i64 AY,.p 11 [.d i64],.p 5 [.d (.list AY)],.p 6 [.d i64]]),(.ret,[.m 9 .i64 AY,.p 11 [.d i64],.p 5 [.d (.list AY)],.p 6 [.d i64]])],hn 0 43 [.t 137 i64,.p 5 [.d (.list AY)],.p 6 [.d i64]] [(.exit 8,[.p 5 [.d (.list AY)],.p 6 [.d i64]]),(.ret,[.p 5 [.d (.list AY)],.p 6 [.d i64]])]]),(53,[hn 0 4 [.t 27 i64,.m 9 .i64 AY,.p 11 [.d i64],.p 5 [.d (.list AY)],.p 6 [.d i64],.y 14 .ready] [(.exit 0,[.m 9 .i64 AY,.p 11 [.d i64],.p 5 [.d (.list AY)],.p 6 [.d i64],.y 14 .ready]),(.ret,[.m 9 .i64 AY,.p 11 [.d i64],.p 5 [.d (.list AY)],.p 6 [.d i64],.y 14 .ret])]]),(32,[]),(51,[hn 0 2 [.t 8 i64] [(.ret,[.t 4 i64]),(.exit 0,[])]])] (A9 Wi (A9 Wk (A9 Wj (A9 Wg (A9 Wc (A9 Wd (A9 TZ (A9 Ou CT))))))))
def QQ:A7 (.c0 42 [i64,(.list i64)] [.bool] FQ):=k0 [(42,[hn 0 4 [.t 5 i64] [(.ret,[.t 4 .bool]),(.exit 0,[])]])] CT
def Sl:A7 (.c0 19 [i64,(.list i64)] [BH,i64] Fe):=k0 [] (A9 QQ CT)
def Sh:A7 (.c0 18 [] [Ca] Hq):=k0 [] CT
def YO:A7 (.c0 7 [] [.bool] KJ):=k0 [] (A9 Sl (A9 Sh (A9 UK CT)))
def TD:A7 (.c1 16 0 A4 [i64] [i64] G5):=k1 [] CT
def CM:A7 (.c1 16 0 A4 [i64] [i64] Af):=k1 [] (A9 TD CT)
def Si:A7 (.c0 154 [i64] [EI,i64] JV):=k0 [] CT
def Sj:A7 (.c0 155 [i64] [EB,i64] Mh):=k0 [] CT
def cB:A7 (.c0 132 [i64,i64] [Au,i64] Mk):=k0 [] (A9 Si (A9 Sj (A9 Sh CT)))
def W7:A7 (.c0 156 [i64] [(.list .str)] Jd):=k0 [(156,[⟨0,3,[(3,.str)],[],[],[],[.t 4 i64,.u 0 .str,.g 3 0],[(.exit 0,[.u 0 .str,.g 3 0])]⟩])] CT
def bq:A7 (.c0 133 [i64] [FH,i64] Hp):=k0 [] (A9 W7 CT)
def cC:A7 (.c0 104 [i64,i64] [At,i64] Ml):=k0 [] (A9 cB (A9 bq CT))
def US:A7 (.c1 196 0 A4 [] [.str] H6):=k1 [(196,[hn 2 3 [.x 0] [(.normal,[.t 3 i64,.p 0 [.d A4]])],hn 0 6 [.t 5 i64,.u 1 (.int .u8),.g 4 1,.p 0 [.d A4]] [(.exit 0,[.u 1 (.int .u8),.g 4 1,.p 0 [.d A4]])]])] (A9 CM CT)
def VI:A7 (.c1 197 0 A4 [] [i64] Gx):=k1 [] (A9 CM CT)
def Ta:A7 (.c1 166 0 A4 [i64] [Ek] HN):=k1 [(166,[hn 2 5 [] [(.normal,[.t 15 .bool])],hn 2 4 [] [(.normal,[.t 15 .bool])],hn 2 8 [.x 0,.x 3] [(.normal,[.p 0 [.d A4],.p 3 [.d Ek]])],hn 2 11 [.x 0,.x 3] [(.normal,[.p 0 [.d A4],.p 3 [.d Ek]])],hn 2 6 [.x 0,.x 3] [(.normal,[.p 0 [.d A4],.p 3 [.d Ek]])],hn 2 13 [.x 0,.x 3] [(.normal,[.p 0 [.d A4],.p 3 [.d Ek]])]])] (A9 CM (A9 US (A9 VI CT)))
def UT:A7 (.c1 135 0 A4 [i64,i64,.bool] [Qv] H7):=k1 [(135,[hn 2 3 [] [(.normal,[.t 11 .bool])],hn 2 12 [.x 0,.x 1] [(.ret,[.p 0 [.d A4],.p 1 [.d Qv]]),(.normal,[.p 0 [.d A4],.p 1 [.d Qv]])]])] (A9 CM (A9 Ta CT))
def SY:A7 (.c1 106 0 A4 [i64,i64,.bool] [(.list Qv)] Gj):=k1 [(106,[hn 0 3 [.t 10 i64,.u 1 Qv,.g 9 1,.p 0 [.d A4]] [(.exit 0,[.u 1 Qv,.g 9 1,.p 0 [.d A4]])]])] (A9 CM (A9 UT CT))
def GP:A7 (.c0 25 [Ca] [i64] CW):=k0 [] CT
def Oj:A7 (.c0 136 [Lt] [.bool] DF):=k0 [] CT
def RN:A7 (.c0 108 [JX] [.bool] IH):=k0 [] (A9 Oj CT)
def YX:A7 (.c0 68 [AY] [AY,.bool] KV):=k0 [(68,[hn 2 4 [] [(.normal,[.t 13 .bool])],hn 2 8 [.x 2] [(.normal,[.t 5 .bool,.p 2 [.d AY]])],hn 2 13 [] [(.normal,[.t 67 .bool])],hn 2 12 [] [(.normal,[.t 67 .bool])],hn 2 17 [] [(.normal,[.t 91 .bool])]])] (A9 RN CT)
def W8:A7 (.c0 69 [i64,i64] [.bool] GW):=k0 [] CT
def Dd:A7 (.c0 48 [AY] [.bool] Ck):=k0 [] (A9 YX (A9 W8 CT))
def Cg:A7 (.c0 24 [Ca] [.bool] CK):=k0 [(24,[hn 0 4 [.t 3 i64] [(.ret,[.t 2 .bool]),(.exit 0,[])]])] (A9 GP (A9 Dd CT))
def Pn:A7 (.c0 289 [CV] [.bool] HC):=k0 [] CT
def RJ:A7 (.c0 290 [CV] [.bool] IF):=k0 [(290,[hn 0 2 [.t 3 i64] [(.ret,[.t 2 .bool]),(.exit 0,[])]])] (A9 Oj CT)
def YT:A7 (.c0 239 [CV] [.bool] KR):=k0 [] (A9 Pn (A9 RJ CT))
def EC:A7 (.c0 207 [EI] [.bool] DG):=k0 [(207,[hn 0 11 [.t 6 i64] [(.ret,[.t 2 .bool]),(.exit 2,[])],hn 0 5 [.t 4 i64] [(.ret,[.t 2 .bool]),(.exit 0,[])]])] (A9 YT CT)
def RO:A7 (.c0 302 [BU] [.bool] Gr):=k0 [] CT
def Rs:A7 (.c0 303 [BU,BU] [.bool] FC):=k0 [] CT
def J0:A7 (.c0 287 [BU,BU] [.bool] Dx):=k0 [] CT
def Np:A7 (.c0 304 [C9,i64,IR] [i64] Dy):=k0 [(304,[hn 0 2 [.t 7 i64] [(.ret,[.t 6 i64]),(.exit 0,[])]])] CT
def Ev:A7 (.c0 261 [C9] [.bool] Di):=k0 [(261,[hn 0 9 [.t 4 i64] [(.ret,[.t 2 .bool]),(.exit 2,[])],hn 0 4 [.t 3 i64] [(.ret,[.t 2 .bool]),(.exit 0,[])],hn 0 20 [.t 7 i64] [(.ret,[.t 2 .bool]),(.exit 6,[])],hn 0 14 [.t 5 i64] [(.ret,[.t 2 .bool]),(.exit 4,[])]])] (A9 RO (A9 Rs (A9 J0 (A9 Np CT))))
def Yg:A7 (.c0 276 [Bh] [.bool] Ke):=k0 [(276,[hn 0 6 [.t 3 i64] [(.ret,[.t 2 .bool]),(.exit 0,[])],hn 0 11 [.t 4 i64] [(.ret,[.t 2 .bool]),(.exit 2,[])]])] CT
def Ew:A7 (.c0 231 [(.list Bh)] [.bool] Dk):=k0 [(231,[hn 0 4 [.t 3 i64] [(.ret,[.t 2 .bool]),(.exit 0,[])]])] (A9 Yg CT)
def bw:A7 (.c0 305 [i64] [.bool] Gf):=k0 [] CT
def Fy:A7 (.c0 262 [EB] [.bool] Dj):=k0 [(262,[hn 0 4 [.t 3 i64] [(.ret,[.t 2 .bool]),(.exit 0,[])]])] (A9 bw CT)
def OI:A7 (.c0 263 [(.list Bk),i64] [.bool] E0):=k0 [(263,[hn 0 2 [.t 5 i64] [(.ret,[.t 4 .bool]),(.exit 0,[])]])] CT
def Yl:A7 (.c0 218 [Au] [.bool] Ki):=k0 [] (A9 Cg (A9 EC (A9 Ev (A9 Ew (A9 Fy (A9 OI CT))))))
def I4:A7 (.c0 219 [Au,i64] [Bk,.bool] Eg):=k0 [(219,[hn 0 2 [.t 6 i64,.p 1 [.d Bk]] [(.ret,[.t 5 .bool,.p 1 [.d Bk]]),(.exit 0,[.p 1 [.d Bk]])]])] CT
def Bx:A7 (.c0 192 [Au] [.bool] Bd):=k0 [(192,[hn 0 4 [.t 3 i64] [(.ret,[.t 2 .bool]),(.exit 0,[])],hn 0 9 [.t 4 i64] [(.ret,[.t 2 .bool]),(.exit 2,[])],hn 0 18 [.t 8 i64] [(.ret,[.t 2 .bool]),(.exit 4,[])],hn 0 23 [.t 9 i64] [(.ret,[.t 2 .bool]),(.exit 6,[])]])] (A9 Yl (A9 I4 CT))
def JZ:A7 (.c0 232 [(.list Bh),i64] [i64] ES):=k0 [(232,[hn 0 2 [.t 5 i64] [(.ret,[.t 4 i64]),(.exit 0,[])]])] CT
def RP:A7 (.c0 201 [(.list Bh),i64] [(.list Bh),i64] IL):=k0 [(201,[⟨0,11,[(6,Bh)],[],[],[],[.t 7 i64,.u 0 Bh,.g 6 0],[(.exit 1,[.u 0 Bh,.g 6 0])]⟩])] (A9 Ew (A9 JZ CT))
def Yh:A7 (.c0 184 [Au] [Au,i64,i64] Kf):=k0 [] (A9 Bx (A9 RP CT))
def Ys:A7 (.c0 157 [At] [At,i64,i64] Kn):=k0 [] (A9 Yh CT)
def Cm:A7 (.c0 165 [i64] [C1] A1):=k0 [] CT
def XP:A7 (.c0 162 [i64] [C1] Dt):=k0 [] (A9 Cm CT)
def GQ:A7 (.c0 208 [EI,i64] [i64] FE):=k0 [(208,[hn 0 2 [.t 5 i64] [(.ret,[.t 4 i64]),(.exit 0,[])]])] CT
def FI:A7 (.c0 187 [EI,i64] [i64] Dz):=k0 [] (A9 EC (A9 GQ CT))
def IE:A7 (.c0 205 [EI,i64] [CV,.bool] Fc):=k0 [] (A9 FI CT)
def Ha:A7 (.c0 10 [Ca] [i64] Dw):=k0 [] (A9 Cg (A9 GP CT))
def I2:A7 (.c0 44 [Ca,i64] [Ca,i64] EA):=k0 [] (A9 Cg (A9 GP CT))
def I3:A7 (.c0 206 [Au,i64] [Au] Fj):=k0 [(206,[hn 2 3 [.x 0] [(.normal,[.p 0 [.d Au]])]])] (A9 Ha (A9 I2 CT))
def Yi:A7 (.c0 186 [Au,i64] [Au,CV,i64] Kg):=k0 [] (A9 Bx (A9 IE (A9 I3 CT)))
def HA:A7 (.c0 240 [CV] [i64] Ef):=k0 [] (A9 Pn (A9 RJ CT))
def Dg:A7 (.c0 126 [.str,i64,i64] [.str] Al):=k0 [(126,[hn 0 4 [.t 0 .str,.t 7 i64] [(.exit 0,[.t 0 .str])]])] CT
def RK:A7 (.c0 241 [i64] [.str] Gn):=k0 [] CT
def KE:A7 (.c0 127 [.str] [(.int .u32)] En):=k0 [(127,[hn 2 10 [] [(.normal,[.t 3 (.int .u32)])],hn 0 7 [.t 3 (.int .u32),.t 5 i64] [(.exit 2,[.t 3 (.int .u32)])],hn 0 3 [.t 3 (.int .u32),.t 4 i64] [(.exit 0,[.t 3 (.int .u32)])]])] CT
def Lv:A7 (.c0 209 [CV] [.str,i64] GU):=k0 [(209,[hn 2 11 [] [(.normal,[.t 7 i64])],hn 0 7 [.t 5 .str,.t 6 i64] [(.exit 0,[.t 5 .str])]])] (A9 HA (A9 Dg (A9 RK (A9 KE CT))))
def YW:A7 (.c0 325 [FH,DJ] [.bool] KU):=k0 [(325,[hn 2 7 [] [(.normal,[.t 59 .bool])],hn 2 13 [.x 2] [(.ret,[.t 4 .bool,.x 2]),(.normal,[.p 2 [.d DJ]])],hn 2 11 [.x 2] [(.normal,[.p 2 [.d DJ]]),(.ret,[.t 4 .bool,.x 2])],hn 2 9 [.x 2] [(.normal,[.p 2 [.d DJ]]),(.ret,[.t 4 .bool,.x 2])],hn 2 8 [.x 2] [(.normal,[.p 2 [.d DJ]]),(.ret,[.t 4 .bool,.x 2])]])] CT
def YU:A7 (.c0 291 [FH] [.bool] KT):=k0 [(291,[hn 0 5 [.t 4 i64] [(.ret,[.t 2 .bool]),(.exit 0,[])],hn 0 10 [.t 5 i64] [(.ret,[.t 2 .bool]),(.exit 2,[])],hn 0 15 [.t 6 i64] [(.ret,[.t 2 .bool]),(.exit 4,[])]])] (A9 YW CT)
def Lw:A7 (.c0 242 [FH,i64] [i64] GV):=k0 [] (A9 YU CT)
def Po:A7 (.c0 292 [(.list i64),i64] [(.list i64)] Ex):=k0 [(292,[hn 2 6 [.x 0] [(.normal,[.u 0 i64,.g 5 0])],⟨0,3,[(5,i64)],[],[],[],[.t 6 i64,.u 0 i64,.g 5 0],[(.exit 0,[.u 0 i64,.g 5 0])]⟩])] CT
def Z0:A7 (.c0 245 [(.list i64),i64] [(.list i64)] FB):=k0 [(245,[hn 2 7 [.x 0] [(.normal,[.t 6 .bool,.u 0 i64,.g 5 0])],hn 2 10 [.x 0] [(.normal,[.u 0 i64,.g 5 0])],⟨0,4,[(5,i64)],[],[],[],[.t 6 .bool,.t 7 i64,.u 0 i64,.g 5 0],[(.exit 0,[.t 6 .bool,.u 0 i64,.g 5 0])]⟩,hn 2 12 [.x 0] [(.normal,[.u 0 i64,.g 5 0])]])] CT
def YV:A7 (.c0 210 [FH,i64,.str] [FH,i64] Oa):=k0 [(210,[hn 2 16 [.x 7,.x 8,.x 9] [(.normal,[.u 8 DJ,.u 9 DJ,.g 10 8,.p 7 [.o 4,.d i64,.o 5,.d .bool,.o 9]])],⟨0,13,[(10,DJ)],[(7,4,DJ)],[],[],[.t 11 i64,.u 8 DJ,.u 4 .str,.u 5 i64,.u 9 DJ,.g 10 8,.p 7 [.o 4,.d i64,.o 5,.d .bool,.o 9],.p 2 [.o 4,.d i64,.o 5,.d .bool,.o 6],.p 3 [.o 4,.d i64,.o 5,.d .bool,.o 6]],[(.exit 0,[.u 8 DJ,.u 4 .str,.u 5 i64,.u 9 DJ,.g 10 8,.p 7 [.o 4,.d i64,.o 5,.d .bool,.o 9],.p 2 [.o 4,.d i64,.o 5,.d .bool,.o 6],.p 3 [.o 4,.d i64,.o 5,.d .bool,.o 6]])]⟩,hn 2 29 [.x 2,.x 3,.x 4,.x 7] [(.normal,[.t 12 .bool,.u 4 .str,.p 7 [.o 4,.d i64,.d (.list i64),.d .bool,.o 9],.p 2 [.o 4,.d i64,.d (.list i64),.d .bool,.o 6],.p 3 [.o 4,.d i64,.d (.list i64),.d .bool,.o 6]])],hn 2 26 [.x 2,.x 3,.x 4,.x 7] [(.normal,[.t 12 .bool,.u 4 .str,.p 2 [.o 4,.d i64,.d (.list i64),.d .bool,.o 6],.p 3 [.o 4,.d i64,.d (.list i64),.d .bool,.o 6],.p 7 [.o 4,.d i64,.d (.list i64),.d .bool,.o 9]])],hn 2 24 [.x 2,.x 3,.x 4,.x 7] [(.normal,[.t 12 .bool,.u 4 .str,.p 2 [.o 4,.d i64,.d (.list i64),.d .bool,.o 6],.p 3 [.o 4,.d i64,.d (.list i64),.d .bool,.o 6],.p 7 [.o 4,.d i64,.d (.list i64),.d .bool,.o 9]])],⟨0,20,[],[],[5],[],[.t 12 .bool,.t 13 i64,.u 4 .str,.u 6 DJ,.u 4 .str,.u 6 DJ,.u 4 .str,.u 9 DJ,.p 2 [.o 4,.d i64,.d (.list i64),.d .bool,.o 6],.p 3 [.o 4,.d i64,.d (.list i64),.d .bool,.o 6],.p 7 [.o 4,.d i64,.d (.list i64),.d .bool,.o 9]],[(.exit 2,[.t 12 .bool,.u 4 .str,.u 6 DJ,.u 9 DJ,.p 2 [.o 4,.d i64,.d (.list i64),.d .bool,.o 6],.p 3 [.o 4,.d i64,.d (.list i64),.d .bool,.o 6],.p 7 [.o 4,.d i64,.d (.list i64),.d .bool,.o 9]])]⟩,hn 2 32 [.x 2,.x 3,.x 4,.x 7] [(.normal,[.u 4 .str,.p 7 [.o 4,.d i64,.d (.list i64),.d .bool,.o 9],.p 2 [.o 4,.d i64,.d (.list i64),.d .bool,.o 6],.p 3 [.o 4,.d i64,.d (.list i64),.d .bool,.o 6]])],hn 2 45 [.x 7] [(.normal,[.p 7 [.o 4,.d i64,.d (.list i64),.d .bool,.o 9]])],hn 2 43 [.x 7] [(.normal,[.p 7 [.o 4,.d i64,.d (.list i64),.d .bool,.o 9]])],hn 2 39 [.x 2,.x 3,.x 4,.x 7] [(.normal,[.u 4 .str,.p 7 [.o 4,.d i64,.d (.list i64),.d .bool,.o 9],.p 2 [.o 4,.d i64,.d (.list i64),.d .bool,.o 6],.p 3 [.o 4,.d i64,.d (.list i64),.d .bool,.o 6]])],hn 0 34 [.t 14 i64,.u 4 .str,.u 6 DJ,.u 4 .str,.u 6 DJ,.u 4 .str,.u 9 DJ,.p 2 [.o 4,.d i64,.d (.list i64),.d .bool,.o 6],.p 3 [.o 4,.d i64,.d (.list i64),.d .bool,.o 6],.p 7 [.o 4,.d i64,.d (.list i64),.d .bool,.o 9]] [(.exit 5,[.u 4 .str,.u 6 DJ,.u 9 DJ,.p 2 [.o 4,.d i64,.d (.list i64),.d .bool,.o 6],.p 3 [.o 4,.d i64,.d (.list i64),.d .bool,.o 6],.p 7 [.o 4,.d i64,.d (.list i64),.d .bool,.o 9]])]])] (A9 Lw (A9 Po (A9 Z0 CT)))
def KF:A7 (.c0 293 [EI,i64,RE] [EI] Hs):=k0 [] CT
def Yd:A7 (.c0 246 [EI,i64,i64] [EI,i64] Oc):=k0 [(246,[hn 2 14 [.x 2] [(.normal,[.p 2 [.d RE]])],hn 2 12 [.x 2] [(.normal,[.p 2 [.d RE]])]])] (A9 EC (A9 GQ (A9 KF CT)))
def DU:A7 (.c0 251 [(.list Bh),i64] [i64] CG):=k0 [] (A9 JZ CT)
def Dm:A7 (.c0 13 [AY] [.bool] A5):=k0 [] CT
def Nq:A7 (.c0 222 [Au,i64] [i64] GG):=k0 [] (A9 Bx (A9 IE (A9 I4 CT)))
def W9:A7 (.c0 252 [Ca,AY] [Ca,i64,i64] Je):=k0 [] (A9 Cg (A9 GP (A9 Dd CT)))
def Gm:A7 (.c0 253 [Ca,i64] [AY,i64] Eo):=k0 [] (A9 Cg (A9 GP CT))
def Lx:A7 (.c0 295 [(.list Bh),i64] [(.list Bh)] GY):=k0 [(295,[hn 2 6 [.x 0] [(.normal,[.u 0 Bh,.g 5 0])],⟨0,3,[(5,Bh)],[],[],[],[.t 6 i64,.u 0 Bh,.g 5 0],[(.exit 0,[.u 0 Bh,.g 5 0])]⟩])] CT
def QL:A7 (.c0 297 [Bh] [Bh] Hk):=k0 [(297,[hn 2 2 [.x 0] [(.normal,[.p 0 [.d Bh]])]])] CT
def OY:A7 (.c0 296 [(.list Bh),i64,Bh] [(.list Bh)] Ht):=k0 [] CT
def Rv:A7 (.c0 254 [(.list Bh),AY] [(.list Bh),i64] GF):=k0 [(254,[hn 2 24 [.x 2] [(.normal,[.u 2 i64,.g 8 2])],⟨0,21,[(8,i64)],[],[],[],[.t 9 i64,.u 2 i64,.g 8 2],[(.exit 2,[.u 2 i64,.g 8 2])]⟩,hn 2 19 [.x 1] [(.ret,[.t 4 (.list Bh),.t 5 i64,.x 1]),(.normal,[.p 1 [.d Bh]])],hn 2 17 [.x 1] [(.normal,[.p 1 [.d Bh]]),(.ret,[.t 4 (.list Bh),.t 5 i64,.x 1])]])] (A9 Ew (A9 Dd (A9 JZ (A9 Lx (A9 QL (A9 OY CT))))))
def bx:A7 (.c0 298 [EB,i64,X6] [EB] Mi):=k0 [] CT
def Ru:A7 (.c0 255 [EB,AY] [EB,i64] HE):=k0 [] (A9 Fy (A9 Dd (A9 bx CT)))
def Fg:A7 (.c0 214 [Au,AY] [Au,i64,i64] EG):=k0 [(214,[hn 2 5 [.x 1,.x 2] [(.ret,[.t 5 i64,.t 6 i64,.p 2 [.d Au],.x 1]),(.normal,[.p 1 [.d AY],.p 2 [.d Au]])],hn 2 10 [.x 1] [(.normal,[.p 1 [.d AY]])]])] (A9 Bx (A9 DU (A9 Dm (A9 Nq (A9 W9 (A9 Gm (A9 Rv (A9 Ru CT))))))))
def V7:A7 (.c0 211 [Au,i64,i64] [Au,i64] JD):=k0 [(211,[hn 2 7 [.x 1,.x 2] [(.ret,[.t 7 i64,.p 1 [.d Au],.x 2]),(.normal,[.p 2 [.d EI],.p 1 [.d Au]])]])] (A9 Bx (A9 Ha (A9 FI (A9 Yd (A9 Fg CT)))))
def RR:A7 (.c0 188 [At,Au,CV] [At,i64] IN):=k0 [] (A9 Lv (A9 YV (A9 V7 CT)))
def Yu:A7 (.c0 160 [At,i64] [At,i64] Ko):=k0 [] (A9 Yi (A9 FI (A9 RR CT)))
def Ye:A7 (.c0 247 [EI] [(.list Bk)] KZ):=k0 [(247,[hn 2 9 [.x 1] [(.normal,[.u 1 Bk,.g 3 1])],⟨0,5,[(3,Bk)],[],[],[],[.t 4 i64,.u 1 Bk,.g 3 1],[(.exit 0,[.u 1 Bk,.g 3 1])]⟩])] (A9 EC (A9 GQ CT))
def cn:A7 (.c0 212 [Au] [G7,i64] N9):=k0 [(212,[hn 2 9 [.x 2,.x 3] [(.normal,[.u 3 Bk,.p 2 [.d i64,.d i64,.d (.list Bh),.o 3,.d EB]])],hn 2 14 [.x 2,.x 3] [(.normal,[.u 3 Bk,.p 2 [.d i64,.d i64,.d (.list Bh),.o 3,.d EB]])],hn 0 11 [.t 46 i64,.u 3 Bk,.p 2 [.d i64,.d i64,.d (.list Bh),.o 3,.d EB]] [(.exit 2,[.u 3 Bk,.p 2 [.d i64,.d i64,.d (.list Bh),.o 3,.d EB]])],⟨0,5,[],[(2,3,Bk)],[],[],[.t 5 i64,.u 3 Bk,.p 2 [.d i64,.d i64,.d (.list Bh),.o 3,.d EB]],[(.exit 0,[.u 3 Bk,.p 2 [.d i64,.d i64,.d (.list Bh),.o 3,.d EB]])]⟩])] (A9 Bx (A9 I4 (A9 Ye CT)))
def RQ:A7 (.c0 248 [G7] [.bool] Gs):=k0 [(248,[hn 0 4 [.t 3 i64] [(.ret,[.t 2 .bool]),(.exit 0,[])]])] (A9 Ew (A9 OI (A9 Fy CT)))
def V6:A7 (.c0 294 [.str,(.list i64)] [.str] HF):=k0 [(294,[hn 0 2 [.t 0 .str,.t 5 i64] [(.exit 0,[.t 0 .str])]])] (A9 Dg CT)
def XH:A7 (.c0 249 [(.list Bh)] [.str,i64] Ji):=k0 [(249,[hn 0 5 [.t 4 .str,.t 5 i64] [(.exit 0,[.t 4 .str])]])] (A9 Ew (A9 Dg (A9 V6 CT)))
def XF:A7 (.c0 250 [EB] [.str,i64] Hh):=k0 [(250,[hn 0 5 [.t 4 .str,.t 5 i64] [(.exit 0,[.t 4 .str])]])] (A9 Fy (A9 Dg CT))
def XN:A7 (.c0 213 [G7] [.str,i64] GZ):=k0 [(213,[hn 0 9 [.t 6 .str,.t 7 i64] [(.exit 0,[.t 6 .str])]])] (A9 RQ (A9 XH (A9 Dg (A9 XF CT))))
def aD:A7 (.c0 189 [Au] [Au,i64,i64] PK):=k0 [] (A9 cn (A9 XN (A9 Fg (A9 I2 CT))))
def Tw:A7 (.c0 161 [At] [At,i64,i64] KA):=k0 [] (A9 aD CT)
def Zz:A7 (.c0 215 [FH,i64,.str,i64] [FH,i64] LU):=k0 [] (A9 Lw (A9 Po CT))
def Ms:A7 (.c0 92 [.str] [.str] D9):=k0 [] (A9 Dg (A9 KE CT))
def Z3:A7 (.c0 256 [i64] [.str] LV):=k0 [] (A9 Dg (A9 Ms CT))
def Z1:A7 (.c0 128 [.str,Lt] [.str] GB):=k0 [] (A9 Dg CT)
def QJ:A7 (.c0 94 [AY] [.str,i64] FJ):=k0 [] (A9 Dd (A9 Dg (A9 Z1 CT)))
def YZ:A7 (.c0 257 [AY] [.str] II):=k0 [] (A9 QJ (A9 Ms CT))
def YY:A7 (.c0 216 [Ca,i64] [.str] Gp):=k0 [(216,[hn 2 8 [] [(.normal,[.t 5 .str,.t 6 .str])],hn 0 5 [.t 5 .str,.t 6 .str,.t 7 i64] [(.exit 0,[.t 5 .str,.t 6 .str])]])] (A9 Cg (A9 Z3 (A9 YZ CT)))
def Yt:A7 (.c0 190 [At,i64,i64,i64] [FH,.str] Oe):=k0 [(190,[hn 2 8 [.x 3] [(.normal,[.p 3 [.d FH]])],hn 2 4 [.x 2,.x 3] [(.normal,[.p 2 [.d Au],.p 3 [.d FH]])]])] (A9 FI (A9 Lv (A9 I3 (A9 Zz (A9 YY CT)))))
def Ee:A7 (.c0 180 [.str,i64,i64] [i64,i64] Av):=k0 [(180,[hn 0 7 [.t 8 (.int .u64),.t 9 i64] [(.exit 0,[.t 8 (.int .u64)])]])] CT
def Pl:A7 (.c0 150 [.str,i64] [.str,i64,i64] By):=k0 [] (A9 Ee (A9 KE CT))
def MV:A7 (.c1 181 0 Nf [i64] [i64] BB):=k1 [] (A9 Ee CT)
def Mt:A7 (.c1 183 0 Nf [i64] [.str] Cq):=k1 [] CT
def Td:A7 (.c1 182 0 Nf [] [Lt] Cf):=k1 [] (A9 MV (A9 Mt CT))
def QI:A7 (.c0 152 [.str] [AY,i64] Ds):=k0 [] (A9 MV (A9 Td (A9 Mt (A9 Dd CT))))
def Z2:A7 (.c0 258 [.str] [Ca,i64] It):=k0 [(258,[⟨0,8,[],[(1,1,AY)],[],[],[.t 5 i64,.u 2 AY,.p 1 [.d i64,.o 2,.d i64],.p 0 [.d Ca]],[(.ret,[.t 3 i64,.p 0 [.d Ca],.x 1,.x 2]),(.exit 0,[.u 2 AY,.p 1 [.d i64,.o 2,.d i64],.p 0 [.d Ca]])]⟩])] (A9 Pl (A9 Ee (A9 QI CT)))
def MW:A7 (.c1 336 0 GO [i64] [i64] CO):=k1 [] (A9 Ee CT)
def Te:A7 (.c1 337 0 GO [i64] [(.list i64)] Fv):=k1 [(337,[⟨0,3,[(5,i64)],[],[],[],[.t 6 i64,.u 1 i64,.g 5 1,.p 0 [.d GO]],[(.exit 0,[.u 1 i64,.g 5 1,.p 0 [.d GO]])]⟩])] (A9 MW CT)
def XG:A7 (.c0 334 [.str] [(.list Bh),i64] Jh):=k0 [(334,[⟨0,4,[(5,Bh)],[],[],[],[.t 6 i64,.u 1 Bh,.g 5 1,.p 0 [.d GO]],[(.exit 0,[.u 1 Bh,.g 5 1,.p 0 [.d GO]])]⟩])] (A9 MW (A9 Te (A9 Ew CT)))
def XE:A7 (.c0 335 [.str] [EB,i64] ER):=k0 [(335,[⟨0,8,[],[(1,0,X6)],[],[],[.t 7 i64,.u 2 X6,.p 1 [.o 2]],[(.exit 1,[.u 2 X6,.p 1 [.o 2]])]⟩])] (A9 Ee (A9 Fy CT))
def XM:A7 (.c0 331 [.str] [G7,i64] C2):=k0 [(331,[⟨0,15,[],[(1,3,Bk)],[],[],[.t 9 i64,.t 11 i64,.u 2 Bk,.p 1 [.d i64,.d i64,.d (.list Bh),.o 2,.d EB]],[(.exit 0,[.t 9 i64,.u 2 Bk,.p 1 [.d i64,.d i64,.d (.list Bh),.o 2,.d EB]])]⟩])] (A9 Ee (A9 XG (A9 XE (A9 RQ CT))))
def XO:A7 (.c0 326 [Ca] [G7,i64,.bool] N8):=k0 [(326,[hn 0 4 [.t 5 i64,.p 1 [.d G7]] [(.ret,[.t 3 i64,.t 4 .bool,.p 1 [.d G7]]),(.exit 0,[.p 1 [.d G7]])]])] (A9 Cg (A9 XM CT))
def Yo:A7 (.c0 299 [Ca,i64] [Et,i64] Od):=k0 [] (A9 XO (A9 Sj CT))
def Ym:A7 (.c0 327 [(.list Bk),AY] [(.list Bk)] Gt):=k0 [(327,[hn 2 10 [.x 1] [(.normal,[.t 6 .bool,.u 1 Bk,.g 5 1])],hn 2 18 [.x 2] [(.normal,[.p 2 [.d Bk]])],hn 2 15 [.x 2] [(.normal,[.p 2 [.d Bk]]),(.exit 1,[.p 2 [.d Bk]])],hn 2 13 [.x 2] [(.normal,[.t 6 .bool,.p 2 [.d Bk]]),(.exit 1,[.t 6 .bool,.p 2 [.d Bk]])],⟨0,6,[(5,Bk)],[],[],[],[.t 6 .bool,.t 7 i64,.u 1 Bk,.g 5 1],[(.exit 0,[.t 6 .bool,.u 1 Bk,.g 5 1])]⟩,hn 2 21 [.x 1] [(.normal,[.u 1 Bk,.g 5 1])]])] (A9 Dm CT)
def aF:A7 (.c0 300 [Et,AY] [Et,i64] Lg):=k0 [(300,[hn 2 2 [.x 0,.x 2] [(.ret,[.t 5 i64,.p 2 [.d Et],.x 0]),(.normal,[.p 0 [.d Et],.p 2 [.d Et]])]])] (A9 DU (A9 RP (A9 Rv (A9 Ru (A9 Dm (A9 Ym CT))))))
def aE:A7 (.c0 332 [BU,BU] [.bool] FC):=k0 [] CT
def aG:A7 (.c0 328 [(.list BU),BU] [(.list BU)] PO):=k0 [(328,[hn 0 2 [.t 5 i64] [(.exit 0,[.t 5 i64])]])] (A9 aE CT)
def Yn:A7 (.c0 301 [Ca,(.list Bh)] [(.list BU),i64] Kj):=k0 [(301,[hn 0 6 [.t 6 (.list BU),.t 8 i64] [(.ret,[.t 4 (.list BU),.t 5 i64]),(.exit 2,[.t 6 (.list BU)])],hn 0 3 [.t 6 (.list BU),.t 7 i64] [(.ret,[.t 4 (.list BU),.t 5 i64]),(.exit 0,[.t 6 (.list BU)])]])] (A9 Gm (A9 aG CT))
def WA:A7 (.c0 259 [Ca,i64] [Et,i64] JG):=k0 [(259,[hn 0 9 [.t 8 i64,.p 2 [.d Et],.p 1 [.d Et]] [(.ret,[.t 5 i64,.p 1 [.d Et],.x 2]),(.exit 0,[.p 2 [.d Et],.p 1 [.d Et]])],hn 2 20 [.x 3] [(.normal,[.u 3 Bh,.g 9 3])],⟨0,17,[(9,Bh)],[],[],[],[.t 10 i64,.u 3 Bh,.g 9 3],[(.exit 2,[.u 3 Bh,.g 9 3])]⟩])] (A9 Cg (A9 Yo (A9 aF (A9 Yn CT))))
def Yr:A7 (.c0 260 [Ca,Et,i64] [Au,i64] Km):=k0 [(260,[hn 0 8 [.t 11 i64,.p 4 [.d Au],.p 2 [.d Au]] [(.ret,[.t 7 i64,.p 2 [.d Au],.x 4]),(.exit 0,[.p 4 [.d Au],.p 2 [.d Au]])]])] (A9 Si (A9 Bx (A9 Fg CT)))
def aL:A7 (.c0 217 [FH,.str,i64,i64] [At,i64] PP):=k0 [] (A9 Z2 (A9 WA (A9 Yr CT)))
def aM:A7 (.c0 191 [FH,.str,i64,i64] [At,i64] PQ):=k0 [] (A9 aL CT)
def XD:A7 (.c0 306 [EI] [EI,i64,i64] N5):=k0 [(306,[hn 0 5 [.p 0 [.d EI]] [(.exit 0,[.p 0 [.d EI]])]])] (A9 EC (A9 KF CT))
def Z7:A7 (.c0 307 [EI,i64] [EI,i64] Lb):=k0 [(307,[hn 2 10 [.x 0] [(.normal,[.p 0 [.d i64,.o 2,.d i64]])],hn 2 12 [.x 0] [(.normal,[.p 0 [.d i64,.o 2,.d i64]])]])] (A9 EC (A9 GQ CT))
def aA:A7 (.c0 264 [Au] [Au,CV,.bool,i64] Le):=k0 [] (A9 Bx (A9 XD (A9 FI (A9 Z7 (A9 I3 CT)))))
def aK:A7 (.c0 220 [At] [At,i64] Lk):=k0 [(220,[hn 0 1 [.p 0 [.d At],.p 1 [.d At]] [(.ret,[.t 3 i64,.p 1 [.d At],.x 0])]])] (A9 aA (A9 RR CT))
def br:A7 (.c0 265 [(.list i64),i64] [.bool] Mf):=k0 [(265,[hn 0 2 [.t 5 i64] [(.ret,[.t 4 .bool]),(.exit 0,[])]])] CT
def Zy:A7 (.c0 221 [FH,i64] [.str,i64] LR):=k0 [] (A9 Lw (A9 br CT))
def YS:A7 (.c0 329 [] [.str] KQ):=k0 [] (A9 RK CT)
def W6:A7 (.c0 308 [.str] [CV,i64] Jb):=k0 [(308,[hn 0 14 [.t 7 i64,.p 1 [.d CV],.p 0 [.d CV]] [(.ret,[.t 3 i64,.p 0 [.d CV],.x 1]),(.exit 1,[.p 1 [.d CV],.p 0 [.d CV]])]])] (A9 YS (A9 Ee (A9 KE (A9 Lv CT))))
def bp:A7 (.c0 309 [i64] [CV] Me):=k0 [] CT
def VJ:A7 (.c0 266 [.str,i64] [CV,i64] Ie):=k0 [] (A9 W6 (A9 bp CT))
def Yf:A7 (.c0 223 [EB,i64,i64,.str] [CV,i64] Kb):=k0 [] (A9 Fy (A9 VJ CT))
def Ya:A7 (.c0 333 [AY,(.list AY)] [(.list AY)] KW):=k0 [] CT
def Z4:A7 (.c0 330 [Ca,i64,i64,i64] [(.list AY),i64] LW):=k0 [(330,[hn 0 7 [.t 10 (.list AY),.t 11 i64] [(.ret,[.t 8 (.list AY),.t 9 i64]),(.exit 0,[.t 10 (.list AY),.t 11 i64])]])] (A9 Cg (A9 Gm (A9 Dm (A9 Ya CT))))
def Yq:A7 (.c0 310 [Ca,CV,i64] [(.list AY),i64] Kl):=k0 [] (A9 Cg (A9 HA (A9 Z4 CT)))
def RM:A7 (.c0 272 [CV,JX] [CV,i64] IG):=k0 [] (A9 RN CT)
def Yp:A7 (.c0 311 [CV,AY] [CV,i64] Kk):=k0 [] (A9 Dd (A9 Dm (A9 HA (A9 RM CT))))
def aI:A7 (.c0 267 [Ca,CV,i64] [CV,i64,i64] Li):=k0 [(267,[hn 0 5 [.t 11 i64,.p 1 [.d CV],.p 2 [.d CV]] [(.ret,[.t 7 i64,.t 8 i64,.p 2 [.d CV],.x 1]),(.exit 0,[.p 1 [.d CV],.p 2 [.d CV]])]])] (A9 Yq (A9 Yp CT))
def aH:A7 (.c0 224 [Ca,CV,i64] [CV,i64] Lh):=k0 [] (A9 aI CT)
def XJ:A7 (.c0 225 [Au,CV] [Au,i64] Jl):=k0 [(225,[hn 2 21 [.x 9] [(.normal,[.u 9 Bk,.g 10 9])],⟨0,18,[(10,Bk)],[],[],[],[.t 11 i64,.u 9 Bk,.g 10 9],[(.exit 1,[.u 9 Bk,.g 10 9])]⟩,hn 2 14 [.x 0,.x 3,.x 5,.x 6,.x 7] [(.normal,[.u 6 RE,.p 0 [.d Au],.p 3 [.d i64,.o 6,.d i64],.p 5 [.d i64,.o 6,.d i64],.p 7 [.d i64,.o 6,.d i64]])]])] (A9 Bx (A9 Nq (A9 EC (A9 HA (A9 I4 (A9 GQ CT))))))
def I5:A7 (.c0 193 [At,i64] [At,i64] Eh):=k0 [] (A9 Bx (A9 FI (A9 aK (A9 Zy (A9 Nq (A9 Yf (A9 aH (A9 XJ CT))))))))
def QN:A7 (.c0 226 [Au,i64] [Bh,.bool] Hm):=k0 [(226,[hn 2 2 [.x 1] [(.ret,[.t 5 .bool,.p 1 [.d Bh]]),(.normal,[.p 1 [.d Bh]])]])] (A9 Bx (A9 DU CT))
def aJ:A7 (.c0 194 [Au] [(.list i64)] Lj):=k0 [(194,[hn 2 7 [.x 1] [(.normal,[.u 1 i64,.g 3 1])],⟨0,3,[(3,i64)],[],[],[],[.t 4 i64,.u 1 i64,.g 3 1],[(.exit 0,[.u 1 i64,.g 3 1])]⟩])] (A9 QN CT)
def H5:A7 (.c0 227 [Au,i64] [Bh,i64] E2):=k0 [] (A9 Bx (A9 DU CT))
def No:A7 (.c0 270 [(.list BU),i64,.bool,IR] [(.list BU)] GD):=k0 [(270,[hn 2 6 [.x 1] [(.normal,[.u 1 BU,.g 9 1])],⟨0,3,[(9,BU)],[],[],[],[.t 10 i64,.u 1 BU,.g 9 1],[(.exit 0,[.u 1 BU,.g 9 1])]⟩])] CT
def Z5:A7 (.c0 312 [C9,i64] [.bool] LZ):=k0 [(312,[hn 0 2 [.t 5 i64] [(.ret,[.t 4 .bool]),(.exit 0,[])],hn 0 7 [.t 6 i64] [(.ret,[.t 4 .bool]),(.exit 2,[])]])] (A9 J0 CT)
def Z6:A7 (.c0 313 [(.list BU),BU] [(.list BU)] La):=k0 [(313,[hn 2 7 [.x 1] [(.normal,[.t 6 .bool,.u 1 BU,.g 5 1])],hn 2 10 [.x 1] [(.normal,[.u 1 BU,.g 5 1])],⟨0,4,[(5,BU)],[],[],[],[.t 6 .bool,.t 7 i64,.u 1 BU,.g 5 1],[(.exit 0,[.t 6 .bool,.u 1 BU,.g 5 1])]⟩,hn 2 12 [.x 1] [(.normal,[.u 1 BU,.g 5 1])]])] (A9 Rs CT)
def Ib:A7 (.c0 269 [C9] [C9] FK):=k0 [(269,[hn 2 5 [.x 0] [(.normal,[.t 3 i64,.p 0 [.d C9]])],hn 0 2 [.t 3 i64,.p 0 [.d C9]] [(.exit 0,[.p 0 [.d C9]])]])] (A9 Z5 (A9 Z6 CT))
def Ku:A7 (.c0 228 [C9,i64] [C9] HD):=k0 [] (A9 Ev (A9 No (A9 Ib CT)))
def aC:A7 (.c0 229 [Au,i64] [AY,.bool] HG):=k0 [] (A9 H5 (A9 Gm CT))
def V3:A7 (.c0 271 [JX] [JX] I7):=k0 [] CT
def XC:A7 (.c0 314 [EI,CV] [EI,i64] Jg):=k0 [(314,[hn 2 13 [.x 3] [(.normal,[.p 3 [.d RE]])]])] (A9 EC (A9 HA (A9 GQ (A9 KF CT))))
def Sk:A7 (.c0 273 [Au,AY] [Au,i64] JW):=k0 [] (A9 Fg (A9 IE (A9 XC CT)))
def ck:A7 (.c0 315 [Au,Bh,IR,i64] [AY,.bool] N7):=k0 [(315,[hn 0 2 [.t 10 i64,.p 3 [.d AY]] [(.ret,[.t 9 .bool,.p 3 [.d AY]]),(.exit 0,[.p 3 [.d AY]])]])] (A9 Gm CT)
def QM:A7 (.c0 274 [Au,i64,IR] [AY,.bool] Hl):=k0 [] (A9 H5 (A9 ck CT))
def Rr:A7 (.c0 275 [C9,i64,IR] [C9] LY):=k0 [] (A9 Ev (A9 No (A9 Ib CT)))
def Ry:A7 (.c0 230 [Au,Bh,AY] [Au,C1] GH):=k0 [(230,[hn 2 15 [.x 8] [(.normal,[.p 8 [.d Au]])],hn 2 12 [.x 8] [(.normal,[.p 8 [.d Au]])]])] (A9 IE (A9 V3 (A9 RM (A9 Cm (A9 Sk (A9 QM (A9 Rr CT)))))))
def Rx:A7 (.c0 195 [Au,i64] [Au,C1] Iv):=k0 [] (A9 H5 (A9 Cm (A9 Fg (A9 Ku (A9 aC (A9 Ry CT))))))
def aN:A7 (.c0 164 [At] [At,.bool,i64] Ll):=k0 [(164,[hn 0 9 [.p 0 [.d At],.p 1 [.d At]] [(.ret,[.t 3 .bool,.t 4 i64,.p 1 [.d At],.x 0])]])] (A9 Bx (A9 I5 (A9 aJ (A9 Rx CT))))
def XI:A7 (.c0 316 [Au,Ek] [i64] Jj):=k0 [(316,[hn 2 6 [] [(.normal,[.t 11 .bool])],hn 2 5 [] [(.normal,[.t 11 .bool])],hn 2 11 [.x 2] [(.normal,[.p 2 [.d Ek]])],hn 2 18 [] [(.normal,[.t 60 .bool])],hn 2 17 [] [(.normal,[.t 60 .bool])],hn 2 13 [.x 2] [(.ret,[.t 4 i64,.x 2]),(.normal,[.p 2 [.d Ek]])],hn 2 7 [.x 2] [(.ret,[.t 4 i64,.x 2]),(.normal,[.p 2 [.d Ek]])]])] CT
def H4:A7 (.c0 236 [C9,i64] [BU,.bool] Ez):=k0 [(236,[hn 0 3 [.t 6 i64,.p 1 [.d BU]] [(.ret,[.t 5 .bool,.p 1 [.d BU]]),(.exit 0,[.p 1 [.d BU]])],hn 2 2 [.x 1] [(.ret,[.t 5 .bool,.p 1 [.d BU]]),(.normal,[.p 1 [.d BU]])]])] (A9 Ev CT)
def Rw:A7 (.c0 282 [i64,Ek] [BU,.bool] Iu):=k0 [(282,[hn 2 7 [] [(.normal,[.t 20 .bool])]])] CT
def V9:A7 (.c0 277 [Au,i64,Ek] [i64] JF):=k0 [] (A9 Bx (A9 DU (A9 XI (A9 H4 (A9 Rw CT)))))
def XL:A7 (.c0 278 [Au,i64] [Au,C1] Jn):=k0 [(278,[hn 2 3 [.x 1,.x 2,.x 3] [(.normal,[.p 3 [.d Au],.p 1 [.d Au],.p 2 [.d C1]]),(.ret,[.p 1 [.d Au],.p 2 [.d C1],.x 3])]])] (A9 DU (A9 Lx (A9 Fg (A9 Cm (A9 I3 (A9 Ku CT))))))
def XA:A7 (.c0 317 [C9,i64] [C9] N0):=k0 [] (A9 Ev (A9 No (A9 Ib CT)))
def V8:A7 (.c0 318 [Au,i64,IR] [.bool] JE):=k0 [(318,[hn 0 3 [.t 8 i64] [(.ret,[.t 6 .bool]),(.exit 0,[])]])] (A9 DU (A9 Gm CT))
def Yk:A7 (.c0 279 [Au,i64,i64] [Au,C1] IM):=k0 [(279,[hn 2 15 [.x 3] [(.normal,[.p 3 [.d Au]])],hn 0 12 [.t 12 i64,.p 3 [.d Au]] [(.exit 0,[.p 3 [.d Au]])]])] (A9 XA (A9 DU (A9 Lx (A9 Ku (A9 Fg (A9 Cm (A9 V8 (A9 Rr CT))))))))
def QK:A7 (.c0 319 [(.list Bh),i64] [i64,i64] Hi):=k0 [] (A9 Ew (A9 JZ CT))
def Z9:A7 (.c0 280 [(.list Bh),i64] [(.list Bh),i64] Ld):=k0 [] (A9 QK (A9 OY CT))
def Z8:A7 (.c0 281 [(.list Bh),i64,i64] [(.list Bh),i64] Lc):=k0 [] (A9 QK (A9 QL (A9 OY CT)))
def Yb:A7 (.c0 320 [C9,BU] [i64] IJ):=k0 [(320,[hn 0 4 [.t 5 i64] [(.ret,[.t 4 i64]),(.exit 0,[])]])] (A9 Np CT)
def V4:A7 (.c0 283 [C9,BU] [C9,.bool,i64] M5):=k0 [] (A9 Ev (A9 RO (A9 H4 (A9 Np (A9 Yb (A9 Ib CT))))))
def bv:A7 (.c0 321 [EI,i64] [EI] Mg):=k0 [] (A9 FI (A9 KF CT))
def XK:A7 (.c0 284 [Au,i64,Ek] [Au,C1] Jm):=k0 [(284,[hn 2 9 [.x 5] [(.normal,[.p 5 [.d JX]])]])] (A9 IE (A9 bv (A9 Sk (A9 Cm CT))))
def Rt:A7 (.c0 288 [(.list i64),i64] [(.list i64)] FB):=k0 [(288,[hn 2 7 [.x 0] [(.normal,[.t 6 .bool,.u 0 i64,.g 5 0])],hn 2 10 [.x 0] [(.normal,[.u 0 i64,.g 5 0])],⟨0,4,[(5,i64)],[],[],[],[.t 6 .bool,.t 7 i64,.u 0 i64,.g 5 0],[(.exit 0,[.t 6 .bool,.u 0 i64,.g 5 0])]⟩,hn 2 12 [.x 0] [(.normal,[.u 0 i64,.g 5 0])]])] CT
def V5:A7 (.c0 322 [C9] [(.list i64)] I9):=k0 [(322,[hn 0 4 [.t 3 (.list i64),.t 4 i64] [(.exit 0,[.t 3 (.list i64)])],hn 2 3 [] [(.normal,[.t 3 (.list i64)])]])] (A9 Ev (A9 Rt CT))
def OX:A7 (.c0 237 [C9,i64] [(.list i64)] Hr):=k0 [(237,[hn 2 9 [] [(.normal,[.t 7 (.list i64)])],hn 0 6 [.t 7 (.list i64),.t 8 i64] [(.exit 0,[.t 7 (.list i64)])],hn 2 14 [] [(.normal,[.t 7 (.list i64)])],hn 0 11 [.t 7 (.list i64),.t 9 i64] [(.exit 2,[.t 7 (.list i64)])]])] (A9 H4 (A9 J0 (A9 Rt CT)))
def XB:A7 (.c0 323 [C9,(.list i64),i64] [(.list i64)] N3):=yb (P:=Tryz.prog) (F:=323) (ds:=[C9,(.list i64),i64]) (rs:=[(.list i64)]) (f:=EW) (hs:=X2 [(323,[hn 0 4 [.t 30 i64] [(.ret,[.t 6 (.list i64)]),(.exit 0,[])],hn 0 15 [.t 12 .bool,.t 49 i64] [(.exit 4,[.t 12 .bool])],hn 0 11 [.t 43 i64] [(.ret,[.t 6 (.list i64)]),(.exit 2,[])]])]) (n:=13) (A9 OX CT) (λg x=>by kernel_rfl)
def Yc:A7 (.c0 285 [C9,i64] [(.list i64)] KX):=k0 [(285,[hn 0 2 [.t 5 i64] [(.ret,[.t 4 (.list i64)]),(.exit 0,[])]])] (A9 V5 (A9 XB CT))
def Yj:A7 (.c0 324 [(.list i64)] [i64] Kh):=k0 [] CT
def cA:A7 (.c0 286 [Au,i64] [i64] Mj):=k0 [] (A9 OX (A9 Yj CT))
def cj:A7 (.c0 233 [Au,i64,Ek] [Au,C1] N6):=k0 [(233,[hn 2 10 [] [(.normal,[.t 46 .bool])],hn 2 13 [] [(.normal,[.t 9 (.list Bh),.t 10 i64])]])] (A9 V9 (A9 Cm (A9 XL (A9 Yk (A9 Z9 (A9 Z8 (A9 Rw (A9 V4 (A9 XK (A9 Yc (A9 cA CT)))))))))))
def Pp:A7 (.c0 234 [At,i64] [.bool] EE):=k0 [] (A9 DU CT)
def VL:A7 (.c0 235 [At,i64] [At,i64] EX):=k0 [(235,[hn 2 12 [.x 0,.x 1] [(.ret,[.t 5 i64,.p 1 [.d At],.x 0]),(.normal,[.p 0 [.d At],.p 1 [.d At]])],hn 0 5 [.p 0 [.d At],.p 1 [.d At]] [(.ret,[.t 5 i64,.p 1 [.d At],.x 0]),(.exit 0,[.p 0 [.d At],.p 1 [.d At]])]])] (A9 Bx (A9 DU (A9 Pp (A9 Rx (A9 I5 CT)))))
def cp:A7 (.c0 202 [At,i64,Ek] [At,C1] OA):=k0 [(202,[hn 2 10 [.x 0,.x 2,.x 3] [(.ret,[.p 2 [.d At],.p 3 [.d C1],.x 0]),(.normal,[.p 0 [.d At],.p 2 [.d At],.p 3 [.d C1]])],hn 0 1 [.p 0 [.d At],.p 2 [.d At],.p 3 [.d C1]] [(.ret,[.p 2 [.d At],.p 3 [.d C1],.x 0])]])] (A9 cj (A9 I5 (A9 Cm (A9 Pp (A9 VL CT)))))
def WB:A7 (.c0 203 [Au,i64] [i64,IR,.bool] JH):=k0 [(203,[hn 0 5 [.t 28 i64,.p 1 [.d IR]] [(.ret,[.t 4 i64,.t 6 .bool,.p 1 [.d IR]]),(.exit 0,[.p 1 [.d IR]])]])] (A9 H4 (A9 OX (A9 QN CT)))
def aB:A7 (.c0 238 [Au,i64,IR] [Au,C1] Lf):=k0 [] (A9 H5 (A9 Cm (A9 QM (A9 Ry CT))))
def aO:A7 (.c0 204 [At,i64,IR] [At,i64,i64] Lm):=k0 [(204,[hn 2 8 [.x 0,.x 2] [(.ret,[.t 7 i64,.t 8 i64,.p 2 [.d At],.x 0]),(.normal,[.t 9 i64,.p 0 [.d At],.p 2 [.d At]])],hn 0 2 [.t 9 i64,.p 0 [.d At],.p 2 [.d At]] [(.ret,[.t 7 i64,.t 8 i64,.p 2 [.d At],.x 0])]])] (A9 aB (A9 I5 CT))
def cq:A7 (.c0 185 [At,i64,Ek] [At,C1] OB):=k0 [(185,[hn 0 1 [.p 0 [.d At],.p 2 [.d At],.p 3 [.d C1]] [(.ret,[.p 2 [.d At],.p 3 [.d C1],.x 0])]])] (A9 cp (A9 WB (A9 aO (A9 Cm CT))))
def cD:A7 (.c0 105 [At,(.list Qv)] [At,(.list C1),(.list U7)] Mm):=k0 [(105,[⟨0,4,[(8,C1)],[(2,18,i64),(2,19,U7)],[],[],[.t 9 i64,.u 3 C1,.u 4 i64,.u 5 U7,.g 8 3,.p 2 [.d At,.o 4,.o 5,.d .bool]],[(.exit 0,[.u 3 C1,.u 4 i64,.u 5 U7,.g 8 3,.p 2 [.d At,.o 4,.o 5,.d .bool]])]⟩]),(134,[hn 2 5 [.x 2,.x 4] [(.normal,[.u 4 i64,.p 2 [.d At,.o 4,.o 5,.d .bool]])],hn 2 19 [.x 2] [(.normal,[.p 2 [.d At,.o 4,.o 5,.d .bool]])]]),(158,[hn 2 2 [.x 2] [(.normal,[.p 2 [.d At,.o 4,.o 5,.d .bool]])]]),(159,[hn 2 9 [.x 2,.x 5] [(.normal,[.u 5 U7,.p 2 [.d At,.o 4,.o 5,.d .bool]])]]),(163,[hn 0 4 [.t 9 i64,.u 4 i64,.p 2 [.d At,.o 4,.o 5,.d .bool]] [(.exit 0,[.u 4 i64,.p 2 [.d At,.o 4,.o 5,.d .bool]])]])] (A9 Ys (A9 XP (A9 Cm (A9 Yu (A9 Tw (A9 Ha (A9 I2 (A9 Yt (A9 aM (A9 aN (A9 cq CT)))))))))))
def TE:A7 (.c1 65 0 A4 [i64,.bool] [At] G6):=k1 [] (A9 CM (A9 cC (A9 SY (A9 cD CT))))
def Tb:A7 (.c1 43 0 A4 [i64,.bool] [Au] HO):=k1 [] (A9 TE CT)
def cg:A7 (.c1 20 0 A4 [i64] [i64,Ca] J3):=k1 [] (A9 Tb (A9 Ha (A9 I2 CT)))
def YQ:A7 (.c1 45 0 A4 [i64] [(.list i64)] KM):=k1 [(45,[hn 2 6 [.x 1] [(.normal,[.u 1 i64,.g 5 1])],hn 0 3 [.t 6 i64,.u 1 i64,.g 5 1,.p 0 [.d A4]] [(.exit 0,[.u 1 i64,.g 5 1,.p 0 [.d A4]])]])] (A9 CM CT)
def Mu:A7 (.c0 59 [BH] [.bool] Ej):=k0 [(59,[hn 0 5 [.t 3 i64,.t 4 i64] [(.ret,[.t 2 .bool]),(.exit 0,[])]])] (A9 QQ CT)
def RS:A7 (.c0 66 [BH,i64] [i64,i64] Fk):=k0 [(66,[hn 2 3 [] [(.normal,[.t 5 i64])]])] CT
def Pr:A7 (.c0 107 [i64,i64,i64,i64,i64] [.bool] HJ):=k0 [] CT
def Pq:A7 (.c0 125 [AY,AY] [i64] Df):=k0 [] CT
def QP:A7 (.c0 90 [(.list AY),AY] [(.list AY),.bool] FO):=k0 [(90,[hn 0 2 [.t 6 i64] [(.exit 0,[.t 6 i64])]])] (A9 Pq CT)
def I6:A7 (.c0 91 [Bo] [.bool] Ei):=k0 [(91,[hn 2 12 [] [(.ret,[.t 2 .bool]),(.normal,[])],hn 0 4 [.t 3 i64] [(.ret,[.t 2 .bool]),(.exit 0,[])]])] (A9 Pr (A9 Dd (A9 Dm (A9 Pq CT))))
def aQ:A7 (.c0 67 [(.list AY),i64,i64,i64,i64,i64] [Bo,i64] Iw):=k0 [(67,[hn 0 4 [.t 14 i64,.p 0 [.d Bo]] [(.ret,[.t 13 i64,.p 0 [.d Bo]]),(.exit 0,[.p 0 [.d Bo]])],hn 0 16 [.t 16 .bool,.t 19 i64] [(.exit 4,[.t 16 .bool])],hn 0 11 [.t 16 .bool,.t 17 i64,.p 1 [.d Bo]] [(.exit 2,[.t 16 .bool,.p 1 [.d Bo]])]])] (A9 Pr (A9 Dd (A9 Dm (A9 QP (A9 I6 CT)))))
def aP:A7 (.c0 93 [Bo] [.str] HI):=k0 [] (A9 Dg CT)
def QO:A7 (.c0 62 [Bo] [.str,i64] Ga):=k0 [(62,[hn 0 5 [.t 4 .str,.t 5 i64] [(.exit 0,[.t 4 .str])]])] (A9 I6 (A9 aP (A9 Ms (A9 QJ CT))))
def aR:A7 (.c0 46 [BH,Ca,i64] [BH,i64] ET):=k0 [(46,[hn 0 15 [.t 11 i64,.p 2 [.d BH]] [(.ret,[.t 7 i64,.p 2 [.d BH]]),(.exit 0,[.p 2 [.d BH]])],hn 0 22 [.t 13 i64,.u 4 Jx,.p 3 [.d (.list i64),.d i64,.o 4,.d i64,.d i64],.p 2 [.d BH]] [(.ret,[.t 7 i64,.p 2 [.d BH],.x 3,.x 4]),(.exit 2,[.u 4 Jx,.p 3 [.d (.list i64),.d i64,.o 4,.d i64,.d i64],.p 2 [.d BH]])]])] (A9 Mu (A9 Cg (A9 RS (A9 aQ (A9 QO CT)))))
def XS:A7 (.c0 151 [.str,i64,i64] [i64] C3):=k0 [] (A9 Ee CT)
def XQ:A7 (.c0 123 [.str] [Bo,i64] FN):=k0 [(123,[⟨0,11,[],[(1,5,AY)],[],[],[.t 5 i64,.t 9 i64,.u 2 AY,.p 1 [.d i64,.d i64,.d i64,.d i64,.d i64,.o 2],.p 0 [.d Bo]],[(.ret,[.t 3 i64,.p 0 [.d Bo],.x 1,.x 2]),(.exit 0,[.t 5 i64,.u 2 AY,.p 1 [.d i64,.d i64,.d i64,.d i64,.d i64,.o 2],.p 0 [.d Bo]])]⟩])] (A9 Pl (A9 XS (A9 QI (A9 I6 CT))))
def UU:A7 (.c0 124 [BH,Bo] [i64] Gd):=k0 [(124,[hn 0 2 [.t 5 i64] [(.ret,[.t 4 i64]),(.exit 0,[])]])] (A9 RS CT)
def XT:A7 (.c0 88 [BH,Jx] [Bo,i64] Du):=k0 [] (A9 XQ (A9 UU CT))
def WC:A7 (.c0 89 [Bo,i64] [Bo] HK):=k0 [(89,[hn 2 8 [.x 2,.x 3] [(.normal,[.u 3 AY,.p 2 [.d i64,.d i64,.d i64,.d i64,.d i64,.o 3]])],⟨0,5,[],[(2,5,AY)],[],[],[.t 6 i64,.u 3 AY,.p 2 [.d i64,.d i64,.d i64,.d i64,.d i64,.o 3]],[(.exit 0,[.u 3 AY,.p 2 [.d i64,.d i64,.d i64,.d i64,.d i64,.o 3]])]⟩])] CT
def Yv:A7 (.c0 60 [BH] [(.list Bo),(.list i64),(.list .bool)] Kp):=k0 [(60,[hn 0 14 [.t 11 i64] [(.exit 4,[.t 11 i64])],hn 0 9 [.t 6 (.list Bo),.t 7 (.list i64),.t 8 i64] [(.exit 2,[.t 6 (.list Bo),.t 7 (.list i64)])],hn 0 20 [.t 12 i64,.t 13 i64,.u 1 Bo,.u 2 i64,.u 3 .bool,.g 2 1,.g 3 2,.g 4 3] [(.exit 6,[.u 1 Bo,.u 2 i64,.u 3 .bool,.g 2 1,.g 3 2,.g 4 3])],⟨0,4,[(2,Bo),(3,i64),(4,.bool)],[],[],[],[.t 5 i64,.u 1 Bo,.u 2 i64,.u 3 .bool,.g 2 1,.g 3 2,.g 4 3],[(.exit 0,[.u 1 Bo,.u 2 i64,.u 3 .bool,.g 2 1,.g 3 2,.g 4 3])]⟩])] (A9 Mu (A9 XT (A9 WC CT)))
def Yw:A7 (.c0 61 [(.list Bo),(.list .bool)] [Bo,.bool] Kq):=k0 [(61,[hn 0 8 [.t 8 i64,.p 1 [.d Bo]] [(.exit 2,[.p 1 [.d Bo]])],hn 0 3 [.t 7 i64,.p 1 [.d Bo],.p 0 [.d Bo]] [(.ret,[.t 5 .bool,.p 0 [.d Bo],.x 1]),(.exit 0,[.p 1 [.d Bo],.p 0 [.d Bo]])]])] (A9 QP (A9 I6 CT))
def aS:A7 (.c0 39 [BH,i64] [BH,.bool,i64] Ln):=k0 [(39,[hn 0 20 [.t 15 .bool,.t 16 i64] [(.exit 4,[.t 15 .bool])],hn 2 24 [.x 3,.x 4] [(.normal,[.u 4 Jx,.p 3 [.d (.list i64),.d i64,.o 4,.d i64,.d i64]])],⟨0,16,[],[(3,2,Jx)],[],[],[.t 14 i64,.u 4 Jx,.p 3 [.d (.list i64),.d i64,.o 4,.d i64,.d i64]],[(.exit 2,[.u 4 Jx,.p 3 [.d (.list i64),.d i64,.o 4,.d i64,.d i64]])]⟩,hn 0 7 [.t 10 i64,.p 1 [.d BH]] [(.ret,[.t 5 .bool,.t 6 i64,.p 1 [.d BH]]),(.exit 0,[.p 1 [.d BH]])]])] (A9 Mu (A9 Yv (A9 Yw (A9 QO CT))))
def aT:A7 (.c0 15 [BH,i64] [BH,i64] Ix):=k0 [(15,[hn 0 1 [.p 0 [.d BH],.p 1 [.d BH]] [(.ret,[.t 5 i64,.p 1 [.d BH],.x 0])]])] (A9 aS CT)
def W5:A7 (.c1 21 0 A4 [i64,Ca] [BH] Ny):=k1 [(21,[hn 2 7 [.x 3] [(.normal,[.p 3 [.d BH]])],hn 2 11 [.x 3] [(.normal,[.p 3 [.d BH]])],hn 2 9 [.x 0,.x 3] [(.normal,[.p 0 [.d A4],.p 3 [.d BH]])],hn 0 3 [.t 9 i64,.p 0 [.d A4],.p 3 [.d BH]] [(.exit 0,[.p 0 [.d A4],.p 3 [.d BH]])],hn 2 15 [.x 3] [(.normal,[.p 3 [.d BH]])],hn 2 13 [.x 3] [(.normal,[.p 3 [.d BH]])]])] (A9 YQ (A9 Sl (A9 CM (A9 aR (A9 aT CT)))))
def bu:A7 (.c0 22 [Ca,i64] [Ca,i64] JU):=k0 [] (A9 Cg (A9 GP CT))
def Tc:A7 (.c1 47 0 A4 [.str] [.str] Fu):=k1 [] (A9 CM CT)
def YR:A7 (.c1 23 0 A4 [(.list Jx)] [(.list Jx)] Fh):=k1 [] (A9 CM (A9 Tc CT))
def YP:A7 (.c1 9 0 A4 [] [i64,BH,Ca,Ca] KK):=k1 [(9,[hn 2 5 [.x 0,.x 6] [(.normal,[.p 0 [.d A4],.p 6 [.d Ca]])],hn 2 7 [.x 0,.x 5] [(.normal,[.p 0 [.d A4],.p 5 [.d BH]])]])] (A9 cg (A9 W5 (A9 CM (A9 bu (A9 YR CT)))))
def Tf:A7 (.c0 14 [(.list AY),(.list AY)] [.bool] HP):=k0 [(14,[hn 0 4 [.t 5 i64] [(.ret,[.t 4 .bool]),(.exit 0,[])]])] CT
def TF:A7 (.c0 3 [(.list (.int .u8)),(.int .u8),(.int .u8)] [.bool] JP):=k0 [(3,[hn 2 20 [.x 4] [(.normal,[.u 4 AY,.g 17 4])],⟨0,16,[(17,AY)],[],[],[],[.t 18 i64,.u 4 AY,.g 17 4],[(.exit 2,[.u 4 AY,.g 17 4])]⟩,hn 0 8 [.t 14 i64] [(.ret,[.t 6 .bool]),(.exit 0,[])]]),(8,[hn 2 2 [] [(.normal,[.t 0 (.list (.int .u8))])]])] (A9 YO (A9 YP (A9 Ha (A9 lJ (A9 UK (A9 Dm (A9 Tf CT)))))))
end Go.Proofs.YtacnadmajkjfbaaGreat
