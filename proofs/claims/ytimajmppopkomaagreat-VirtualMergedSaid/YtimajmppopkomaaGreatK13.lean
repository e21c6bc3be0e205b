/- That the code computes these functions, part 13. Texts of the folder wip, laid in few files with shorter names by a program (wip/tools/pack.py); nothing is assumed. -/
import Derived.Test.YtimajmppopkomaaGreatK12
import Derived.Test.YtimajmppopkomaaGreatProg
import Derived.KernelRfl
noncomputable section
set_option linter.unusedVariables false
set_option linter.unusedSimpArgs false
set_option linter.unusedSectionVars false
set_option linter.defProp false
set_option linter.unnecessarySimpa false
set_option linter.deprecated false
namespace Go.Proofs.YtimajmppopkomaaGreat
open Go Go.Ab Go.Pm
set_option maxRecDepth 100000
def XO:A5 (.c0 140 [i64] [.bool] FY):=k0 [] B8
def QQ:A5 (.c0 94 [i64,i64] [i64] EW):=k0 [] (A8 XO B8)
def dS:A5 (.c0 178 [(.list i64)] [i64] Jn):=k0 [(178,[hn 0 3 [.t 8 i64] [(.ret,[.t 2 i64]),(.exit 0,[])]])] B8
def Uw:A5 (.c0 177 [BM,BM] [i64] HU):=k0 [] (A8 QQ (A8 dS B8))
def N4:A5 (.c2 296 BM [i64,i64,i64] [] [.fn (.func 177) [] []] Ce):=Mo (hs:=XH [(296,[hn 0 1 [.t 10 i64,.u 0 BM,.g 0 0] [(.exit 0,[.u 0 BM])]])]) (n:=13) B8 (λl x=>by kernel_rfl)
def PA:A5 (.c2 267 BM [i64,i64,i64] [] [.fn (.func 177) [] []] El):=Mo (hs:=XH [(267,[hn 0 2 [.t 10 i64,.t 11 i64,.u 0 BM,.g 0 0] [(.exit 0,[.t 10 i64,.u 0 BM,.g 0 0])]])]) (n:=13) (A8 N4 B8) (λl x=>by kernel_rfl)
def MH:A5 (.c2 241 BM [i64,i64] [] [.fn (.func 177) [] []] Cp):=Mo (hs:=XH [(241,[hn 0 1 [.t 8 i64,.u 0 BM,.g 0 0] [(.exit 0,[.u 0 BM])],hn 0 4 [.t 9 i64,.u 0 BM,.g 0 0] [(.exit 2,[.u 0 BM,.g 0 0])]])]) (n:=13) (A8 Uw B8) (λl x=>by kernel_rfl)
def OT:A5 (.c2 242 BM [i64,i64,i64] [] [.fn (.func 177) [] []] EP):=sN (P:=Tryz.prog) (F:=242) (te:=BM) (ds:=[i64,i64,i64]) (rs:=[]) (post:=[.fn (.func 177) [] []]) (f:=λg p=>Bv g p.1 p.2) (hs:=XH [(242,[hn 0 3 [.t 10 i64,.t 11 i64] [(.exit 0,[.t 10 i64])],hn 0 9 [.t 13 i64,.u 0 BM,.g 0 0] [(.exit 2,[.u 0 BM])],hn 0 15 [.t 14 i64,.t 15 i64] [(.exit 4,[.t 14 i64])],hn 0 21 [.t 17 i64,.u 0 BM,.g 0 0] [(.exit 6,[.u 0 BM])],hn 0 33 [.t 20 i64,.t 21 i64] [(.exit 8,[.t 20 i64])],hn 2 28 [] [(.normal,[.t 20 i64,.t 21 i64])],hn 2 40 [.x 0] [(.normal,[.u 0 BM,.g 0 0])],hn 2 42 [.x 0] [(.normal,[.u 0 BM,.g 0 0])],hn 2 44 [.x 0] [(.normal,[.u 0 BM])]])]) (n:=13) (A8 Uw (A8 PA B8)) (λg l x=>by kernel_rfl)
def PB:A5 (.c2 213 BM [i64] [] [.fn (.func 177) [] []] Em):=Mo (hs:=XH [(213,[hn 0 2 [.t 7 i64,.t 8 i64,.u 0 BM,.g 0 0] [(.exit 0,[.t 7 i64,.u 0 BM,.g 0 0])],hn 0 7 [.t 6 i64,.u 0 BM,.g 0 0] [(.exit 2,[.u 0 BM])],hn 0 9 [.t 7 i64,.t 8 i64,.u 0 BM,.g 0 0] [(.exit 4,[.t 7 i64,.u 0 BM,.g 0 0])]])]) (n:=13) (A8 MH (A8 OT B8)) (λl x=>by kernel_rfl)
def I3:A5 (.c2 176 BM [] [] [.fn (.func 177) [] []] Cm):=Mo (hs:=XH []) (n:=13) (A8 PB B8) (λl x=>by kernel_rfl)
def QR:A5 (.cl 215 AW):=yQ (t:=30) (b:=4) (by kernel_rfl) (by kernel_rfl) (by kernel_rfl)
def Ia:A5 (.c0 93 [AW,AW] [i64] BV):=k0 [] (A8 QQ B8)
def OS:A5 (.c2 180 AW [i64,i64] [] [.fn (.func 93) [] []] DU):=Mo (hs:=XH [(180,[hn 0 1 [.t 8 i64,.u 0 AW,.g 0 0] [(.exit 0,[.u 0 AW])],hn 0 4 [.t 9 i64,.u 0 AW,.g 0 0] [(.exit 2,[.u 0 AW,.g 0 0])],hn 4 4 [] [(.exit 2,[]),(.normal,[])]])]) (n:=13) (A8 Ia B8) (λl x=>by kernel_rfl)
def QT:A5 (.c2 217 AW [i64,i64,i64] [] [.fn (.func 93) [] []] DR):=Mo (hs:=XH [(217,[hn 0 1 [.t 10 i64,.u 0 AW,.g 0 0] [(.exit 0,[.u 0 AW]),(.ret,[.u 0 AW])],hn 4 3 [] [(.normal,[.t 11 i64])]])]) (n:=13) (A8 Ia B8) (λl x=>by kernel_rfl)
def QS:A5 (.c2 181 AW [i64,i64] [] [.fn (.func 93) [] []] EE):=Mo (hs:=XH [(181,[hn 0 4 [.t 11 i64,.u 0 AW,.g 0 0] [(.exit 0,[.u 0 AW,.g 0 0])],hn 0 8 [.t 12 i64,.u 0 AW,.g 0 0] [(.exit 2,[.u 0 AW])]])]) (n:=13) (A8 QT B8) (λl x=>by kernel_rfl)
def ft:A5 (.c0 189 [(.int .u64)] [i64] O4):=k0 [(189,[hn 2 2 [] [(.normal,[.t 0 (.int .u64),.t 2 i64])],hn 2 5 [] [(.normal,[.t 0 (.int .u64),.t 2 i64])],hn 2 8 [] [(.normal,[.t 0 (.int .u64),.t 2 i64])]])] B8
def XP:A5 (.c0 139 [(.int .u64)] [i64] OY):=k0 [] (A8 ft B8)
def Wr:A5 (.c0 218 [i64] [(.int .u64)] JQ):=k0 [] (A8 XP B8)
def OR:A5 (.c2 182 AW [i64,i64] [] [.fn (.func 93) [] []] EO):=Mo (hs:=XH [(182,[hn 0 5 [.t 11 i64,.u 0 AW,.p 1 [.d (.int .u64)],.g 0 0] [(.exit 0,[.u 0 AW,.p 1 [.d (.int .u64)]])],hn 2 9 [] [(.normal,[.t 12 i64])]])]) (n:=13) (A8 Wr B8) (λl x=>by kernel_rfl)
def O9:A5 (.c2 183 AW [i64,i64] [i64,i64] [.fn (.func 93) [] []] Cs):=Mo (hs:=XH [(183,[]),(221,[hn 6 1 [.x 1] [(.normal,[.t 1 i64,.t 2 i64,.p 1 [.d i64]])],hn 6 2 [.x 1] [(.normal,[.t 2 i64,.t 3 i64,.p 1 [.d i64]])],hn 6 3 [.x 1] [(.normal,[.t 1 i64,.t 2 i64,.p 1 [.d i64]])]])]) (n:=13) (A8 Ia B8) (λl x=>by kernel_rfl)
def Oo:A5 (.c2 184 AW [i64,i64] [] [.fn (.func 93) [] []] Dd):=Mo (hs:=XH [(184,[hn 0 2 [.t 8 i64,.t 9 i64,.u 0 AW,.g 0 0] [(.exit 0,[.u 0 AW])]])]) (n:=13) B8 (λl x=>by kernel_rfl)
def LA:A5 (.c2 185 AW [i64,i64] [.bool] [.fn (.func 93) [] []] Ch):=Mo (hs:=XH [(185,[hn 0 3 [.t 9 i64,.t 10 i64,.u 0 AW,.g 0 0] [(.exit 0,[.u 0 AW]),(.ret,[.t 8 .bool,.u 0 AW])],hn 0 5 [.t 9 i64] [(.exit 2,[.t 9 i64])],hn 4 5 [] [(.exit 2,[]),(.normal,[])],hn 2 13 [.x 0] [(.normal,[.u 0 AW,.g 0 0])],hn 0 14 [.t 11 i64,.u 0 AW,.g 0 0] [(.exit 4,[.u 0 AW,.g 0 0])],hn 2 19 [.x 0] [(.normal,[.u 0 AW,.g 0 0])],hn 0 20 [.t 12 i64,.u 0 AW,.g 0 0] [(.exit 6,[.u 0 AW,.g 0 0])]])]) (n:=13) (A8 Ia B8) (λl x=>by kernel_rfl)
def N3:A5 (.c2 186 AW [i64,i64,i64] [i64] [.fn (.func 93) [] []] DF):=Mo (hs:=XH [(186,[hn 5 3 [.t 11 i64,.t 12 i64,.u 0 AW,.g 0 0] [(.exit 0,[.t 11 i64,.u 0 AW])],hn 0 3 [.t 11 i64] [(.exit 2,[.t 11 i64])],hn 4 3 [] [(.exit 2,[]),(.normal,[])],hn 0 5 [.t 12 i64] [(.exit 4,[.t 12 i64])],hn 4 5 [] [(.exit 4,[]),(.normal,[])]])]) (n:=13) (A8 Ia B8) (λl x=>by kernel_rfl)
def Pr:A5 (.c2 187 AW [i64,i64,i64] [i64,.bool] [.fn (.func 93) [] []] D6):=Mo (hs:=XH [(187,[hn 0 3 [.t 12 i64] [(.exit 0,[.t 12 i64])],hn 4 3 [] [(.exit 0,[]),(.normal,[])],hn 0 5 [.t 13 i64] [(.exit 2,[.t 13 i64])],hn 4 5 [] [(.exit 2,[]),(.normal,[])],hn 5 13 [.t 12 i64,.t 13 i64,.u 0 AW,.g 0 0] [(.exit 4,[.t 13 i64,.u 0 AW,.g 0 0])],hn 0 13 [.t 12 i64] [(.exit 6,[.t 12 i64])],hn 4 13 [] [(.exit 6,[]),(.normal,[])],hn 0 15 [.t 13 i64] [(.exit 8,[.t 13 i64])],hn 4 15 [] [(.exit 8,[]),(.normal,[])]])]) (n:=13) (A8 Ia B8) (λl x=>by kernel_rfl)
def Ql:A5 (.c2 138 AW [i64,i64,i64] [] [.fn (.func 93) [] []] HO):=sN (P:=Tryz.prog) (F:=138) (te:=AW) (ds:=[i64,i64,i64]) (rs:=[]) (post:=[.fn (.func 93) [] []]) (f:=λg p=>D7 g p.1 p.2) (hs:=XH [(138,[hn 0 2 [.t 1 i64,.t 2 i64,.t 3 i64,.t 10 .bool,.t 11 .bool,.u 0 AW,.g 0 0] [(.ret,[.u 0 AW])],hn 2 8 [.x 0] [(.normal,[.t 3 i64,.u 0 AW,.g 0 0])],hn 2 12 [.x 0] [(.normal,[.t 13 i64,.t 14 i64,.u 0 AW,.g 0 0])],hn 4 15 [.x 0] [(.normal,[.u 0 AW,.g 0 0]),(.ret,[.u 0 AW])],hn 4 17 [.x 0] [(.exit 1,[.t 1 i64,.u 0 AW,.g 0 0]),(.normal,[.t 1 i64,.u 0 AW,.g 0 0])],hn 2 25 [.x 0] [(.normal,[.t 1 i64,.t 2 i64,.t 10 .bool,.u 0 AW,.g 0 0])]])]) (n:=13) (A8 Ia (A8 OS (A8 QS (A8 OR (A8 O9 (A8 Oo (A8 LA (A8 N3 (A8 Pr B8))))))))) (λg l x=>by kernel_rfl)
def O8:A5 (.c2 92 AW [] [] [.fn (.func 93) [] []] CW):=Mo (hs:=XH []) (n:=13) (A8 Ql (A8 XP B8)) (λl x=>by kernel_rfl)
def Nz:A5 (.c0 69 [BK] [.bool] Ic):=k0 [(69,[hn 0 5 [.t 4 i64] [(.ret,[.t 2 .bool]),(.exit 0,[])],hn 0 13 [.t 5 i64,.t 89 i64] [(.ret,[.t 2 .bool]),(.exit 2,[])]])] B8
def cL:A5 (.c0 117 [CV] [i64] CR):=k0 [] B8
def kF:A5 (.c0 149 [i64,AW] [.bool] ND):=k0 [] B8
def kC:A5 (.c0 195 [i64] [.bool] HV):=k0 [] B8
def dR:A5 (.c0 196 [KF] [.bool] DB):=k0 [] B8
def Yy:A5 (.c0 151 [Ii] [.bool] NC):=k0 [] (A8 kC (A8 dR B8))
def my:A5 (.c0 192 [Ii] [.bool] Lh):=k0 [] B8
def iY:A5 (.c0 191 [AW] [.bool] GF):=k0 [] B8
def iZ:A5 (.c0 193 [AW] [.bool] RJ):=k0 [] B8
def ia:A5 (.c0 194 [Ii] [.bool] RK):=k0 [] B8
def RG:A5 (.c0 101 [AW] [.bool] GD):=k0 [(101,[hn 2 5 [] [(.normal,[.t 47 .bool])],hn 2 8 [] [(.normal,[.t 67 .bool])]])] (A8 kF (A8 Yy (A8 my (A8 iY (A8 iZ (A8 ia B8))))))
def SV:A5 (.c0 70 [CV] [.bool] Lb):=k0 [(70,[hn 0 4 [.t 37 i64] [(.ret,[.t 2 .bool]),(.exit 0,[])]])] (A8 cL (A8 RG B8))
def ic:A5 (.c0 82 [BK,CV,i64,i64] [i64] OW):=k0 [] (A8 Nz (A8 SV B8))
def kG:A5 (.c0 132 [CV] [i64] Sn):=k0 [] (A8 SV (A8 cL B8))
def kD:A5 (.c0 209 [i64,i64] [.bool] Sj):=k0 [] (A8 XO B8)
def db:A5 (.c0 210 [i64] [.bool] FY):=k0 [] B8
def TC:A5 (.c0 173 [(.list i64),i64] [i64,.bool] I2):=k0 [(173,[hn 2 6 [] [(.normal,[.t 7 i64,.t 8 i64])],hn 0 3 [.t 7 i64,.t 8 i64] [(.exit 0,[.t 7 i64])]])] (A8 kD (A8 db B8))
def XN:A5 (.c0 174 [BK,i64] [i64,i64] JX):=k0 [] B8
def XL:A5 (.c0 136 [BK,i64] [i64,i64,.bool] Gy):=k0 [(136,[hn 2 5 [] [(.normal,[.t 7 i64])]])] (A8 Nz (A8 TC (A8 XN B8)))
def T9:A5 (.c0 206 [.str,i64,i64] [i64,i64] CE):=k0 [(206,[hn 0 7 [.t 8 (.int .u64),.t 35 i64] [(.exit 1,[.t 8 (.int .u64)])]])] B8
def dT:A5 (.c0 131 [] [(.arr 15 (.int .u32))] KQ):=k0 [(131,[hn 2 9 [] [(.normal,[.t 3 (.int .u32)])],hn 0 7 [.t 3 (.int .u32),.t 9 i64] [(.exit 2,[.t 3 (.int .u32)])],hn 0 3 [.t 4 i64,.p 1 [.d (.arr 15 (.int .u32))]] [(.exit 0,[.p 1 [.d (.arr 15 (.int .u32))]])]])] B8
def Xl:A5 (.c0 81 [.str] [(.int .u32)] Nm):=k0 [(81,[hn 0 4 [.t 4 (.int .u32),.t 9 i64] [(.exit 0,[.t 4 (.int .u32)])]])] (A8 dT B8)
def iX:A5 (.c0 237 [.str,i64] [.str,i64,i64] FZ):=k0 [] (A8 T9 (A8 Xl B8))
def RU:A5 (.c0 171 [.str,.str] [.bool] Fp):=k0 [] B8
def cw:A5 (.c0 128 [.str,.str] [.bool] Ho):=k0 [] (A8 RU B8)
def Rm:A5 (.c1 261 0 PE [i64] [i64] Bj):=k1 [(261,[hn 2 6 [.x 0] [(.normal,[.p 0 [.d PE]])]])] (A8 T9 B8)
def TJ:A5 (.c1 263 0 PE [i64] [.str] Ev):=k1 [(263,[hn 2 2 [.x 0] [(.normal,[.p 0 [.d PE]])]])] B8
def cT:A5 (.c1 262 0 PE [] [KF] Eu):=k1 [] (A8 Rm (A8 TJ B8))
def kE:A5 (.c0 239 [.str] [AW,i64] Iw):=k0 [] (A8 Rm (A8 cT (A8 TJ (A8 RG B8))))
def il:A5 (.c0 264 [Bn] [.bool] Lc):=k0 [] B8
def SU:A5 (.c0 86 [AW] [.bool] A6):=k0 [] B8
def mF:A5 (.c0 265 [Bn,AW] [.bool] Oj):=k0 [] (A8 SU B8)
def kH:A5 (.c0 266 [AW,AW] [i64] Ng):=k0 [] (A8 QQ (A8 dS B8))
def m9:A5 (.c0 240 [Bn] [.bool] S1):=k0 [(240,[hn 0 4 [.t 18 i64] [(.ret,[.t 2 .bool]),(.exit 0,[])]])] (A8 il (A8 RG (A8 mF (A8 kH B8))))
def mE:A5 (.c0 211 [.str] [Bn,i64] J4):=k0 [(211,[⟨0,8,[],[(4,5,AW)],[],[],[.t 5 i64,.t 32 i64,.u 5 AW,.p 4 [.d i64,.d i64,.d i64,.d i64,.d i64,.o 5],.p 0 [.d Bn]],[(.ret,[.t 3 i64,.p 0 [.d Bn],.x 4,.x 5]),(.exit 0,[.t 5 i64,.u 5 AW,.p 4 [.d i64,.d i64,.d i64,.d i64,.d i64,.o 5],.p 0 [.d Bn]])]⟩])] (A8 iX (A8 cw (A8 T9 (A8 kE (A8 m9 B8)))))
def fo:A5 (.c0 212 [BK,Bn] [i64] Lg):=k0 [(212,[hn 0 2 [.t 11 i64] [(.ret,[.t 4 i64]),(.exit 0,[])]])] (A8 XN B8)
def fm:A5 (.c0 175 [BK,Ns] [Bn,.bool] Gc):=k0 [] (A8 mE (A8 fo B8))
def gp:A5 (.c0 179 [Bn,i64] [Bn] NB):=k0 [(243,[hn 0 2 [.t 8 i64] [(.ret,[.t 4 i64]),(.exit 0,[])]]),(214,[hn 0 5 [.t 6 i64,.t 5 i64,.u 3 AW,.g 0 3] [(.exit 0,[.t 5 i64,.u 3 AW,.g 0 3])]])] (A8 QR B8)
def XM:A5 (.c0 137 [BK] [(.list Bn),(.list i64)] JW):=k0 [(137,[⟨0,5,[(4,BM)],[],[],[],[.t 19 i64,.u 1 BM,.g 4 1],[(.exit 0,[.u 1 BM,.g 4 1])]⟩,⟨0,14,[(2,Bn),(3,i64)],[],[],[],[.t 42 i64,.t 9 i64,.t 10 i64,.u 2 Bn,.g 2 2,.u 3 i64,.g 3 3],[(.exit 2,[.u 2 Bn,.g 2 2,.u 3 i64,.g 3 3])]⟩])] (A8 Nz (A8 fm (A8 I3 (A8 gp B8))))
def ij:A5 (.c0 83 [BK,CV,i64] [(.list M3)] OX):=k0 [(83,[hn 3 1 [] []]),(135,[hn 0 4 [.t 27 i64,.u 2 M3,.p 3 [.o 2],.y 6 .ready] [(.exit 0,[.u 2 M3,.p 3 [.o 2],.y 6 .ready])]])] (A8 kG (A8 XL (A8 XM B8)))
def UH:A5 (.c0 90 [M3,i64] [.bool] Ie):=k0 [] B8
def fq:A5 (.c1 134 1 i64 [M3] [.bool] Sm):=k1 [] (A8 UH B8)
def ii:A5 (.c0 84 [(.list M3),i64] [i64] La):=k0 [(84,[hn 0 1 [.p 0 [.d i64]] [(.ret,[.t 4 i64,.x 0])]]),(133,[hn 0 2 [.t 8 i64,.p 0 [.d i64]] [(.ret,[.t 4 i64,.p 0 [.d i64]]),(.exit 0,[.p 0 [.d i64]])]])] (A8 fq B8)
def mz:A5 (.c0 53 [BK,CV,i64,i64,i64] [(.list AW),i64] Li):=k0 [(53,[hn 0 14 [.t 57 i64,.t 17 i64,.m 9 .i64 AW] [(.exit 0,[.t 17 i64,.m 9 .i64 AW])],hn 0 24 [.t 85 i64,.m 9 .i64 AW,.p 11 [.d i64],.p 5 [.d (.list AW)],.p 6 [.d i64]] [(.exit 4,[.m 9 .i64 AW,.p 11 [.d i64],.p 5 [.d (.list AW)],.p 6 [.d i64]]),(.ret,[.m 9 .i64 AW,.p 11 [.d i64],.p 5 [.d (.list AW)],.p 6 [.d i64]])],hn 0 43 [.t 137 i64,.p 5 [.d (.list AW)],.p 6 [.d i64]] [(.exit 8,[.p 5 [.d (.list AW)],.p 6 [.d i64]]),(.ret,[.p 5 [.d (.list AW)],.p 6 [.d i64]])]]),(135,[hn 0 4 [.t 27 i64,.m 9 .i64 AW,.p 11 [.d i64],.p 5 [.d (.list AW)],.p 6 [.d i64],.y 14 .ready] [(.exit 0,[.m 9 .i64 AW,.p 11 [.d i64],.p 5 [.d (.list AW)],.p 6 [.d i64],.y 14 .ready]),(.ret,[.m 9 .i64 AW,.p 11 [.d i64],.p 5 [.d (.list AW)],.p 6 [.d i64],.y 14 .ret])]]),(88,[]),(133,[hn 0 2 [.t 8 i64] [(.ret,[.t 4 i64]),(.exit 0,[])]])] (A8 ic (A8 ij (A8 ii (A8 SU (A8 XL (A8 XM (A8 UH (A8 O8 B8))))))))
def dU:A5 (.c0 118 [i64] [.bool] HV):=k0 [] B8
def m6:A5 (.c0 164 [] [.str] U9):=k0 [] (A8 RV B8)
def cM:A5 (.c0 165 [.str,i64,i64] [i64] Gq):=k0 [] (A8 T9 B8)
def og:A5 (.c0 166 [.str] [BJ,.bool] UO):=k0 [(166,[hn 2 9 [.x 0,.x 1] [(.normal,[.p 1 [.d BJ],.p 0 [.d BJ]]),(.ret,[.t 3 .bool,.p 0 [.d BJ],.x 1])],hn 0 3 [.t 13 i64,.p 1 [.d BJ],.p 0 [.d BJ]] [(.ret,[.t 3 .bool,.p 0 [.d BJ],.x 1]),(.exit 0,[.p 1 [.d BJ],.p 0 [.d BJ]])]])] (A8 cM B8)
def mD:A5 (.c0 76 [BJ] [.bool] UD):=k0 [] (A8 dU B8)
def m7:A5 (.c0 77 [BJ] [.bool] Sq):=k0 [(77,[hn 0 2 [.t 7 i64] [(.ret,[.t 2 .bool]),(.exit 0,[])]])] B8
def cU:A5 (.c1 79 0 Vi [KF] [] Je):=k1 [(79,[hn 2 3 [] [(.normal,[.t 4 i64])]])] (A8 gM (A8 RV B8))
def RH:A5 (.c0 52 [BJ] [.str,i64] J3):=k0 [(52,[hn 0 8 [.t 29 i64,.p 1 [.d Vi]] [(.exit 1,[.p 1 [.d Vi]])]])] (A8 mD (A8 m7 (A8 gM (A8 cU (A8 RV (A8 Xl B8))))))
def mC:A5 (.c0 119 [.str] [BJ,i64] Oi):=k0 [] (A8 m6 (A8 cM (A8 Xl (A8 og (A8 RH B8)))))
def qS:A5 (.c0 120 [i64] [BJ] Hj):=k0 [] B8
def XQ:A5 (.c0 71 [.str,i64] [BJ,i64] Gz):=k0 [] (A8 dU (A8 mC (A8 qS B8)))
def mA:A5 (.c0 68 [PD] [.bool] Qo):=k0 [(68,[hn 0 4 [.t 36 i64] [(.ret,[.t 2 .bool]),(.exit 0,[])]])] (A8 XQ B8)
def mB:A5 (.c0 40 [PD] [.bool] UB):=k0 [] (A8 mA B8)
def Ux:A5 (.c0 41 [BK,CV] [i64] L6):=k0 [] (A8 Nz (A8 SV B8))
def kB:A5 (.c0 102 [BJ,Ii] [BJ,i64] PR):=k0 [] (A8 Yy B8)
def m8:A5 (.c0 55 [BJ,AW] [BJ,i64] S0):=k0 [] (A8 RG (A8 SU (A8 RH (A8 kB B8))))
def kJ:A5 (.c0 24 [BJ,(.list AW)] [BJ,i64] S3):=k0 [(24,[hn 0 2 [.t 12 i64,.p 0 [.d BJ],.p 1 [.d BJ]] [(.ret,[.t 5 i64,.p 1 [.d BJ],.x 0]),(.exit 0,[.p 0 [.d BJ],.p 1 [.d BJ]])]])] (A8 m8 B8)
def kI:A5 (.c0 21 [BJ,BK,CV,i64] [BJ,i64] S2):=k0 [] (A8 Ux (A8 RH (A8 mz (A8 kJ B8))))
def gq:A5 (.c0 42 [Nr,BK,CV,i64] [Nr,i64] Pt):=k0 [] (A8 XQ (A8 kI (A8 RH B8)))
def ZW:A5 (.c0 16 [PD,BK,CV,i64,i64] [PD,i64] Gw):=AAe (hs:=XH [(16,[⟨0,11,[],[(3,2,Nr)],[],[],[.t 52 i64,.u 5 Nr,.p 3 [.d i64,.d i64,.o 5],.p 4 [.d i64]],[(.ret,[.p 3 [.d i64,.d i64,.o 5],.p 4 [.d i64],.x 5]),(.exit 0,[.u 5 Nr,.p 3 [.d i64,.d i64,.o 5],.p 4 [.d i64]])]⟩])]) (n:=13) (A8 mB (A8 Ux (A8 gq B8))) (λx=>by kernel_rfl)
def Rp:A5 (.c0 65 [i64] [.str] Gi):=k0 [] B8
def Rn:A5 (.c0 34 [] [.str] ID):=k0 [] (A8 Rp B8)
def SW:A5 (.c0 11 [i64,i64] [PD] F3):=k0 [(11,[⟨0,3,[],[(1,2,Nr)],[],[],[.t 6 i64,.u 2 Nr,.p 1 [.d i64,.d i64,.o 2]],[(.exit 0,[.u 2 Nr,.p 1 [.d i64,.d i64,.o 2]])]⟩])] (A8 Rn B8)
def TK:A5 (.c0 33 [] [CV] GZ):=k0 [] B8
def Tq:A5 (.c1 13 0 BG [i64] [i64] G0):=k1 [] B8
def DH:A5 (.c1 13 0 BG [i64] [i64] Aq):=k1 [] (A8 Tq B8)
def Y0:A5 (.c1 59 0 BG [i64] [(.list i64)] Kh):=k1 [(59,[hn 2 6 [.x 1] [(.normal,[.u 1 i64,.g 5 1])],hn 0 3 [.t 6 i64,.u 1 i64,.g 5 1,.p 0 [.d BG]] [(.exit 0,[.u 1 i64,.g 5 1,.p 0 [.d BG]])]])] (A8 DH B8)
def Qk:A5 (.c0 64 [i64,(.list i64)] [.bool] FV):=k0 [(64,[hn 0 4 [.t 5 i64] [(.ret,[.t 4 .bool]),(.exit 0,[])]])] B8
def TO:A5 (.c0 32 [i64,(.list i64)] [BK,i64] Hn):=k0 [] (A8 Qk B8)
def M8:A5 (.c0 44 [BK] [.bool] Es):=k0 [(44,[hn 0 5 [.t 3 i64,.t 4 i64] [(.ret,[.t 2 .bool]),(.exit 0,[])]])] (A8 Qk B8)
def GH:A5 (.c0 38 [CV] [i64] CR):=k0 [] B8
def O1:A5 (.c0 167 [KF] [.bool] DB):=k0 [] B8
def Rr:A5 (.c0 152 [Ii] [.bool] IG):=k0 [] (A8 O1 B8)
def Y5:A5 (.c0 115 [AW] [AW,.bool] Kl):=k0 [(115,[hn 2 4 [] [(.normal,[.t 13 .bool])],hn 2 8 [.x 2] [(.normal,[.t 5 .bool,.p 2 [.d AW]])],hn 2 13 [] [(.normal,[.t 67 .bool])],hn 2 12 [] [(.normal,[.t 67 .bool])],hn 2 17 [] [(.normal,[.t 91 .bool])]])] (A8 Rr B8)
def Xo:A5 (.c0 116 [i64,i64] [.bool] GM):=k0 [] B8
def Dg:A5 (.c0 67 [AW] [.bool] Cd):=k0 [] (A8 Y5 (A8 Xo B8))
def Cc:A5 (.c0 37 [CV] [.bool] CK):=k0 [(37,[hn 0 4 [.t 3 i64] [(.ret,[.t 2 .bool]),(.exit 0,[])]])] (A8 GH (A8 Dg B8))
def Rw:A5 (.c0 106 [BK,i64] [i64,i64] Fm):=k0 [(106,[hn 2 3 [] [(.normal,[.t 5 i64])]])] B8
def QB:A5 (.c0 156 [i64,i64,i64,i64,i64] [.bool] HF):=k0 [] B8
def ET:A5 (.c0 103 [AW] [.bool] A6):=k0 [] B8
def QA:A5 (.c0 190 [AW,AW] [i64] Dj):=k0 [] B8
def Qj:A5 (.c0 146 [(.list AW),AW] [(.list AW),.bool] FU):=k0 [(146,[hn 0 2 [.t 6 i64] [(.exit 0,[.t 6 i64])]])] (A8 QA B8)
def JC:A5 (.c0 157 [Bn] [.bool] Er):=k0 [(157,[hn 2 12 [] [(.ret,[.t 2 .bool]),(.normal,[])],hn 0 4 [.t 3 i64] [(.ret,[.t 2 .bool]),(.exit 0,[])]])] (A8 QB (A8 Dg (A8 ET (A8 QA B8))))
def bC:A5 (.c0 107 [(.list AW),i64,i64,i64,i64,i64] [Bn,i64] I1):=k0 [(107,[hn 0 4 [.t 14 i64,.p 0 [.d Bn]] [(.ret,[.t 13 i64,.p 0 [.d Bn]]),(.exit 0,[.p 0 [.d Bn]])],hn 0 16 [.t 16 .bool,.t 19 i64] [(.exit 4,[.t 16 .bool])],hn 0 11 [.t 16 .bool,.t 17 i64,.p 1 [.d Bn]] [(.exit 2,[.t 16 .bool,.p 1 [.d Bn]])]])] (A8 QB (A8 Dg (A8 ET (A8 Qj (A8 JC B8)))))
def Dk:A5 (.c0 73 [.str,i64,i64] [.str] Al):=k0 [(73,[hn 0 4 [.t 0 .str,.t 7 i64] [(.exit 0,[.t 0 .str])]])] B8
def bB:A5 (.c0 159 [Bn] [.str] HE):=k0 [] (A8 Dk B8)
def Ke:A5 (.c0 74 [.str] [(.int .u32)] Ew):=k0 [(74,[hn 2 10 [] [(.normal,[.t 3 (.int .u32)])],hn 0 7 [.t 3 (.int .u32),.t 5 i64] [(.exit 2,[.t 3 (.int .u32)])],hn 0 3 [.t 3 (.int .u32),.t 4 i64] [(.exit 0,[.t 3 (.int .u32)])]])] B8
def M6:A5 (.c0 158 [.str] [.str] EF):=k0 [] (A8 Dk (A8 Ke B8))
def aV:A5 (.c0 201 [.str,KF] [.str] F4):=k0 [] (A8 Dk B8)
def Qd:A5 (.c0 160 [AW] [.str,i64] FM):=k0 [] (A8 Dg (A8 Dk (A8 aV B8)))
def Qi:A5 (.c0 108 [Bn] [.str,i64] GR):=k0 [(108,[hn 0 5 [.t 4 .str,.t 5 i64] [(.exit 0,[.t 4 .str])]])] (A8 JC (A8 bB (A8 M6 (A8 Qd B8))))
def bD:A5 (.c0 60 [BK,CV,i64] [BK,i64] Eb):=k0 [(60,[hn 0 15 [.t 11 i64,.p 2 [.d BK]] [(.ret,[.t 7 i64,.p 2 [.d BK]]),(.exit 0,[.p 2 [.d BK]])],hn 0 22 [.t 13 i64,.u 4 Ns,.p 3 [.d (.list i64),.d i64,.o 4,.d i64,.d i64],.p 2 [.d BK]] [(.ret,[.t 7 i64,.p 2 [.d BK],.x 3,.x 4]),(.exit 2,[.u 4 Ns,.p 3 [.d (.list i64),.d i64,.o 4,.d i64,.d i64],.p 2 [.d BK]])]])] (A8 M8 (A8 Cc (A8 Rw (A8 bC (A8 Qi B8)))))
def En:A5 (.c0 123 [.str,i64,i64] [i64,i64] Av):=k0 [(123,[hn 0 7 [.t 8 (.int .u64),.t 9 i64] [(.exit 0,[.t 8 (.int .u64)])]])] B8
def P4:A5 (.c0 113 [.str,i64] [.str,i64,i64] Bz):=k0 [] (A8 En (A8 Ke B8))
def X8:A5 (.c0 235 [.str,i64,i64] [i64] C1):=k0 [] (A8 En B8)
def Mk:A5 (.c1 257 0 Nt [i64] [i64] BF):=k1 [] (A8 En B8)
def M7:A5 (.c1 259 0 Nt [i64] [.str] Cj):=k1 [] B8
def UK:A5 (.c1 258 0 Nt [] [KF] Ca):=k1 [] (A8 Mk (A8 M7 B8))
def Qb:A5 (.c0 236 [.str] [AW,i64] Dx):=k0 [] (A8 Mk (A8 UK (A8 M7 (A8 Dg B8))))
def X7:A5 (.c0 204 [.str] [Bn,i64] FT):=k0 [(204,[⟨0,11,[],[(1,5,AW)],[],[],[.t 5 i64,.t 9 i64,.u 2 AW,.p 1 [.d i64,.d i64,.d i64,.d i64,.d i64,.o 2],.p 0 [.d Bn]],[(.ret,[.t 3 i64,.p 0 [.d Bn],.x 1,.x 2]),(.exit 0,[.t 5 i64,.u 2 AW,.p 1 [.d i64,.d i64,.d i64,.d i64,.d i64,.o 2],.p 0 [.d Bn]])]⟩])] (A8 P4 (A8 X8 (A8 Qb (A8 JC B8))))
def U7:A5 (.c0 205 [BK,Bn] [i64] GW):=k0 [(205,[hn 0 2 [.t 5 i64] [(.ret,[.t 4 i64]),(.exit 0,[])]])] (A8 Rw B8)
def X9:A5 (.c0 162 [BK,Ns] [Bn,i64] Dz):=k0 [] (A8 X7 (A8 U7 B8))
def Wq:A5 (.c0 163 [Bn,i64] [Bn] HG):=k0 [(163,[hn 2 8 [.x 2,.x 3] [(.normal,[.u 3 AW,.p 2 [.d i64,.d i64,.d i64,.d i64,.d i64,.o 3]])],⟨0,5,[],[(2,5,AW)],[],[],[.t 6 i64,.u 3 AW,.p 2 [.d i64,.d i64,.d i64,.d i64,.d i64,.o 3]],[(.exit 0,[.u 3 AW,.p 2 [.d i64,.d i64,.d i64,.d i64,.d i64,.o 3]])]⟩])] B8
def ZU:A5 (.c0 111 [BK] [(.list Bn),(.list i64),(.list .bool)] K5):=k0 [(111,[hn 0 14 [.t 11 i64] [(.exit 4,[.t 11 i64])],hn 0 9 [.t 6 (.list Bn),.t 7 (.list i64),.t 8 i64] [(.exit 2,[.t 6 (.list Bn),.t 7 (.list i64)])],hn 0 20 [.t 12 i64,.t 13 i64,.u 1 Bn,.u 2 i64,.u 3 .bool,.g 2 1,.g 3 2,.g 4 3] [(.exit 6,[.u 1 Bn,.u 2 i64,.u 3 .bool,.g 2 1,.g 3 2,.g 4 3])],⟨0,4,[(2,Bn),(3,i64),(4,.bool)],[],[],[],[.t 5 i64,.u 1 Bn,.u 2 i64,.u 3 .bool,.g 2 1,.g 3 2,.g 4 3],[(.exit 0,[.u 1 Bn,.u 2 i64,.u 3 .bool,.g 2 1,.g 3 2,.g 4 3])]⟩])] (A8 M8 (A8 X9 (A8 Wq B8)))
def ZV:A5 (.c0 112 [(.list Bn),(.list .bool)] [Bn,.bool] K6):=k0 [(112,[hn 0 8 [.t 8 i64,.p 1 [.d Bn]] [(.exit 2,[.p 1 [.d Bn]])],hn 0 3 [.t 7 i64,.p 1 [.d Bn],.p 0 [.d Bn]] [(.ret,[.t 5 .bool,.p 0 [.d Bn],.x 1]),(.exit 0,[.p 1 [.d Bn],.p 0 [.d Bn]])]])] (A8 Qj (A8 JC B8))
def bE:A5 (.c0 63 [BK,i64] [BK,.bool,i64] L4):=k0 [(63,[hn 0 20 [.t 15 .bool,.t 16 i64] [(.exit 4,[.t 15 .bool])],hn 2 24 [.x 3,.x 4] [(.normal,[.u 4 Ns,.p 3 [.d (.list i64),.d i64,.o 4,.d i64,.d i64]])],⟨0,16,[],[(3,2,Ns)],[],[],[.t 14 i64,.u 4 Ns,.p 3 [.d (.list i64),.d i64,.o 4,.d i64,.d i64]],[(.exit 2,[.u 4 Ns,.p 3 [.d (.list i64),.d i64,.o 4,.d i64,.d i64]])]⟩,hn 0 7 [.t 10 i64,.p 1 [.d BK]] [(.ret,[.t 5 .bool,.t 6 i64,.p 1 [.d BK]]),(.exit 0,[.p 1 [.d BK]])]])] (A8 M8 (A8 ZU (A8 ZV (A8 Qi B8))))
def Sf:A5 (.c0 30 [BK,i64] [BK,i64] HH):=k0 [(30,[hn 0 1 [.p 0 [.d BK],.p 1 [.d BK]] [(.ret,[.t 5 i64,.p 1 [.d BK],.x 0])]])] (A8 bE B8)
def Qa:A5 (.c1 27 0 BG [i64,CV] [BK] Jo):=k1 [(27,[hn 2 7 [.x 3] [(.normal,[.p 3 [.d BK]])],hn 2 11 [.x 3] [(.normal,[.p 3 [.d BK]])],hn 2 9 [.x 0,.x 3] [(.normal,[.p 0 [.d BG],.p 3 [.d BK]])],hn 0 3 [.t 9 i64,.p 0 [.d BG],.p 3 [.d BK]] [(.exit 0,[.p 0 [.d BG],.p 3 [.d BK]])],hn 2 15 [.x 3] [(.normal,[.p 3 [.d BK]])],hn 2 13 [.x 3] [(.normal,[.p 3 [.d BK]])]])] (A8 Y0 (A8 TO (A8 DH (A8 bD (A8 Sf B8)))))
def Yz:A5 (.c0 8 [] [.bool] IC):=k0 [] (A8 SW (A8 TK (A8 Qa (A8 ZW B8))))
def TL:A5 (.c0 222 [i64] [ER,i64] Jh):=k0 [] B8
def TM:A5 (.c0 223 [i64] [EH,i64] Ms):=k0 [] B8
def cq:A5 (.c0 197 [i64,i64] [Au,i64] Mv):=k0 [] (A8 TL (A8 TM (A8 TK B8)))
def Xn:A5 (.c0 224 [i64] [(.list .str)] N6):=k0 [(224,[⟨0,3,[(3,.str)],[],[],[],[.t 4 i64,.u 0 .str,.g 3 0],[(.exit 0,[.u 0 .str,.g 3 0])]⟩])] B8
def cX:A5 (.c0 198 [i64] [FK,i64] Jf):=k0 [] (A8 Xn B8)
def cr:A5 (.c0 153 [i64,i64] [As,i64] Mw):=k0 [] (A8 cq (A8 cX B8))
def U5:A5 (.c1 50 0 BG [] [.str] Hw):=k1 [(50,[hn 2 3 [.x 0] [(.normal,[.t 3 i64,.p 0 [.d BG]])],hn 0 6 [.t 5 i64,.u 1 (.int .u8),.g 4 1,.p 0 [.d BG]] [(.exit 0,[.u 1 (.int .u8),.g 4 1,.p 0 [.d BG]])]])] (A8 DH B8)
def Vt:A5 (.c1 49 0 BG [] [i64] Gr):=k1 [] (A8 DH B8)
def UI:A5 (.c1 234 0 BG [i64] [Et] HK):=k1 [(234,[hn 2 5 [] [(.normal,[.t 15 .bool])],hn 2 4 [] [(.normal,[.t 15 .bool])],hn 2 8 [.x 0,.x 3] [(.normal,[.p 0 [.d BG],.p 3 [.d Et]])],hn 2 11 [.x 0,.x 3] [(.normal,[.p 0 [.d BG],.p 3 [.d Et]])],hn 2 6 [.x 0,.x 3] [(.normal,[.p 0 [.d BG],.p 3 [.d Et]])],hn 2 13 [.x 0,.x 3] [(.normal,[.p 0 [.d BG],.p 3 [.d Et]])]])] (A8 DH (A8 U5 (A8 Vt B8)))
def U6:A5 (.c1 200 0 BG [i64,i64,.bool] [RP] Hy):=k1 [(200,[hn 2 3 [] [(.normal,[.t 11 .bool])],hn 2 12 [.x 0,.x 1] [(.ret,[.p 0 [.d BG],.p 1 [.d RP]]),(.normal,[.p 0 [.d BG],.p 1 [.d RP]])]])] (A8 DH (A8 UI B8))
def TA:A5 (.c1 155 0 BG [i64,i64,.bool] [(.list RP)] Gd):=k1 [(155,[hn 0 3 [.t 10 i64,.u 1 RP,.g 9 1,.p 0 [.d BG]] [(.exit 0,[.u 1 RP,.g 9 1,.p 0 [.d BG]])]])] (A8 DH (A8 U6 B8))
def P7:A5 (.c0 121 [BJ] [.bool] G8):=k0 [] B8
def Ro:A5 (.c0 122 [BJ] [.bool] IE):=k0 [(122,[hn 0 2 [.t 3 i64] [(.ret,[.t 2 .bool]),(.exit 0,[])]])] (A8 O1 B8)
def Y1:A5 (.c0 305 [BJ] [.bool] Ki):=k0 [] (A8 P7 (A8 Ro B8))
def EI:A5 (.c0 274 [ER] [.bool] DE):=k0 [(274,[hn 0 11 [.t 6 i64] [(.ret,[.t 2 .bool]),(.exit 2,[])],hn 0 5 [.t 4 i64] [(.ret,[.t 2 .bool]),(.exit 0,[])]])] (A8 Y1 B8)
def Rs:A5 (.c0 360 [BW] [.bool] Gl):=k0 [] B8
def SY:A5 (.c0 361 [BW,BW] [.bool] FI):=k0 [] B8
def KM:A5 (.c0 347 [BW,BW] [.bool] D3):=k0 [] B8
def N1:A5 (.c0 362 [C6,i64,IU] [i64] D4):=k0 [(362,[hn 0 2 [.t 7 i64] [(.ret,[.t 6 i64]),(.exit 0,[])]])] B8
def E4:A5 (.c0 324 [C6] [.bool] Dm):=k0 [(324,[hn 0 9 [.t 4 i64] [(.ret,[.t 2 .bool]),(.exit 2,[])],hn 0 4 [.t 3 i64] [(.ret,[.t 2 .bool]),(.exit 0,[])],hn 0 20 [.t 7 i64] [(.ret,[.t 2 .bool]),(.exit 6,[])],hn 0 14 [.t 5 i64] [(.ret,[.t 2 .bool]),(.exit 4,[])]])] (A8 Rs (A8 SY (A8 KM (A8 N1 B8))))
def ZE:A5 (.c0 336 [Bi] [.bool] Kt):=k0 [(336,[hn 0 6 [.t 3 i64] [(.ret,[.t 2 .bool]),(.exit 0,[])],hn 0 11 [.t 4 i64] [(.ret,[.t 2 .bool]),(.exit 2,[])]])] B8
def E5:A5 (.c0 297 [(.list Bi)] [.bool] Do):=k0 [(297,[hn 0 4 [.t 3 i64] [(.ret,[.t 2 .bool]),(.exit 0,[])]])] (A8 ZE B8)
def cj:A5 (.c0 363 [i64] [.bool] Ga):=k0 [] B8
def Fu:A5 (.c0 325 [EH] [.bool] Dn):=k0 [(325,[hn 0 4 [.t 3 i64] [(.ret,[.t 2 .bool]),(.exit 0,[])]])] (A8 cj B8)
def OQ:A5 (.c0 326 [(.list Bl),i64] [.bool] E9):=k0 [(326,[hn 0 2 [.t 5 i64] [(.ret,[.t 4 .bool]),(.exit 0,[])]])] B8
def ZJ:A5 (.c0 284 [Au] [.bool] Kx):=k0 [] (A8 Cc (A8 EI (A8 E4 (A8 E5 (A8 Fu (A8 OQ B8))))))
def JA:A5 (.c0 285 [Au,i64] [Bl,.bool] Eo):=k0 [(285,[hn 0 2 [.t 6 i64,.p 1 [.d Bl]] [(.ret,[.t 5 .bool,.p 1 [.d Bl]]),(.exit 0,[.p 1 [.d Bl]])]])] B8
def By:A5 (.c0 253 [Au] [.bool] BT):=k0 [(253,[hn 0 4 [.t 3 i64] [(.ret,[.t 2 .bool]),(.exit 0,[])],hn 0 9 [.t 4 i64] [(.ret,[.t 2 .bool]),(.exit 2,[])],hn 0 18 [.t 8 i64] [(.ret,[.t 2 .bool]),(.exit 4,[])],hn 0 23 [.t 9 i64] [(.ret,[.t 2 .bool]),(.exit 6,[])]])] (A8 ZJ (A8 JA B8))
def Jl:A5 (.c0 298 [(.list Bi),i64] [i64] EZ):=k0 [(298,[hn 0 2 [.t 5 i64] [(.ret,[.t 4 i64]),(.exit 0,[])]])] B8
def Rt:A5 (.c0 268 [(.list Bi),i64] [(.list Bi),i64] IK):=k0 [(268,[⟨0,11,[(6,Bi)],[],[],[],[.t 7 i64,.u 0 Bi,.g 6 0],[(.exit 1,[.u 0 Bi,.g 6 0])]⟩])] (A8 E5 (A8 Jl B8))
def ZF:A5 (.c0 245 [Au] [Au,i64,i64] Ku):=k0 [] (A8 By (A8 Rt B8))
def ZQ:A5 (.c0 225 [As] [As,i64,i64] K1):=k0 [] (A8 ZF B8)
def Cg:A5 (.c0 233 [i64] [Cw] A4):=k0 [] B8
def X6:A5 (.c0 230 [i64] [Cw] Dy):=k0 [] (A8 Cg B8)
def GI:A5 (.c0 275 [ER,i64] [i64] FJ):=k0 [(275,[hn 0 2 [.t 5 i64] [(.ret,[.t 4 i64]),(.exit 0,[])]])] B8
def FL:A5 (.c0 248 [ER,i64] [i64] D5):=k0 [] (A8 EI (A8 GI B8))
def IB:A5 (.c0 272 [ER,i64] [BJ,.bool] Fh):=k0 [] (A8 FL B8)
def Jk:A5 (.c0 15 [CV] [i64] FH):=k0 [] (A8 Cc (A8 GH B8))
def I8:A5 (.c0 58 [CV,i64] [CV,i64] EG):=k0 [] (A8 Cc (A8 GH B8))
def I9:A5 (.c0 273 [Au,i64] [Au] Fl):=k0 [(273,[hn 2 3 [.x 0] [(.normal,[.p 0 [.d Au]])]])] (A8 Jk (A8 I8 B8))
def ZG:A5 (.c0 247 [Au,i64] [Au,BJ,i64] Kv):=k0 [] (A8 By (A8 IB (A8 I9 B8)))
def G7:A5 (.c0 72 [BJ] [i64] Dl):=k0 [] (A8 P7 (A8 Ro B8))
def ME:A5 (.c0 45 [BJ] [.str,i64] Dw):=k0 [(45,[hn 2 11 [] [(.normal,[.t 7 i64])],hn 0 7 [.t 5 .str,.t 6 i64] [(.exit 0,[.t 5 .str])]])] (A8 G7 (A8 Dk (A8 Rp (A8 Ke B8))))
def Y4:A5 (.c0 379 [FK,DG] [.bool] Kk):=k0 [(379,[hn 2 7 [] [(.normal,[.t 59 .bool])],hn 2 13 [.x 2] [(.ret,[.t 4 .bool,.x 2]),(.normal,[.p 2 [.d DG]])],hn 2 11 [.x 2] [(.normal,[.p 2 [.d DG]]),(.ret,[.t 4 .bool,.x 2])],hn 2 9 [.x 2] [(.normal,[.p 2 [.d DG]]),(.ret,[.t 4 .bool,.x 2])],hn 2 8 [.x 2] [(.normal,[.p 2 [.d DG]]),(.ret,[.t 4 .bool,.x 2])]])] B8
def Y2:A5 (.c0 349 [FK] [.bool] Kj):=k0 [(349,[hn 0 5 [.t 4 i64] [(.ret,[.t 2 .bool]),(.exit 0,[])],hn 0 10 [.t 5 i64] [(.ret,[.t 2 .bool]),(.exit 2,[])],hn 0 15 [.t 6 i64] [(.ret,[.t 2 .bool]),(.exit 4,[])]])] (A8 Y4 B8)
def MF:A5 (.c0 306 [FK,i64] [i64] GL):=k0 [] (A8 Y2 B8)
def P8:A5 (.c0 350 [(.list i64),i64] [(.list i64)] E6):=k0 [(350,[hn 2 6 [.x 0] [(.normal,[.u 0 i64,.g 5 0])],⟨0,3,[(5,i64)],[],[],[],[.t 6 i64,.u 0 i64,.g 5 0],[(.exit 0,[.u 0 i64,.g 5 0])]⟩])] B8
def aU:A5 (.c0 309 [(.list i64),i64] [(.list i64)] FG):=k0 [(309,[hn 2 7 [.x 0] [(.normal,[.t 6 .bool,.u 0 i64,.g 5 0])],hn 2 10 [.x 0] [(.normal,[.u 0 i64,.g 5 0])],⟨0,4,[(5,i64)],[],[],[],[.t 6 .bool,.t 7 i64,.u 0 i64,.g 5 0],[(.exit 0,[.t 6 .bool,.u 0 i64,.g 5 0])]⟩,hn 2 12 [.x 0] [(.normal,[.u 0 i64,.g 5 0])]])] B8
def Y3:A5 (.c0 276 [FK,i64,.str] [FK,i64] Ou):=k0 [(276,[hn 2 16 [.x 7,.x 8,.x 9] [(.normal,[.u 8 DG,.u 9 DG,.g 10 8,.p 7 [.o 4,.d i64,.o 5,.d .bool,.o 9]])],⟨0,13,[(10,DG)],[(7,4,DG)],[],[],[.t 11 i64,.u 8 DG,.u 4 .str,.u 5 i64,.u 9 DG,.g 10 8,.p 7 [.o 4,.d i64,.o 5,.d .bool,.o 9],.p 2 [.o 4,.d i64,.o 5,.d .bool,.o 6],.p 3 [.o 4,.d i64,.o 5,.d .bool,.o 6]],[(.exit 0,[.u 8 DG,.u 4 .str,.u 5 i64,.u 9 DG,.g 10 8,.p 7 [.o 4,.d i64,.o 5,.d .bool,.o 9],.p 2 [.o 4,.d i64,.o 5,.d .bool,.o 6],.p 3 [.o 4,.d i64,.o 5,.d .bool,.o 6]])]⟩,hn 2 29 [.x 2,.x 3,.x 4,.x 7] [(.normal,[.t 12 .bool,.u 4 .str,.p 7 [.o 4,.d i64,.d (.list i64),.d .bool,.o 9],.p 2 [.o 4,.d i64,.d (.list i64),.d .bool,.o 6],.p 3 [.o 4,.d i64,.d (.list i64),.d .bool,.o 6]])],hn 2 26 [.x 2,.x 3,.x 4,.x 7] [(.normal,[.t 12 .bool,.u 4 .str,.p 2 [.o 4,.d i64,.d (.list i64),.d .bool,.o 6],.p 3 [.o 4,.d i64,.d (.list i64),.d .bool,.o 6],.p 7 [.o 4,.d i64,.d (.list i64),.d .bool,.o 9]])],hn 2 24 [.x 2,.x 3,.x 4,.x 7] [(.normal,[.t 12 .bool,.u 4 .str,.p 2 [.o 4,.d i64,.d (.list i64),.d .bool,.o 6],.p 3 [.o 4,.d i64,.d (.list i64),.d .bool,.o 6],.p 7 [.o 4,.d i64,.d (.list i64),.d .bool,.o 9]])],⟨0,20,[],[],[5],[],[.t 12 .bool,.t 13 i64,.u 4 .str,.u 6 DG,.u 4 .str,.u 6 DG,.u 4 .str,.u 9 DG,.p 2 [.o 4,.d i64,.d (.list i64),.d .bool,.o 6],.p 3 [.o 4,.d i64,.d (.list i64),.d .bool,.o 6],.p 7 [.o 4,.d i64,.d (.list i64),.d .bool,.o 9]],[(.exit 2,[.t 12 .bool,.u 4 .str,.u 6 DG,.u 9 DG,.p 2 [.o 4,.d i64,.d (.list i64),.d .bool,.o 6],.p 3 [.o 4,.d i64,.d (.list i64),.d .bool,.o 6],.p 7 [.o 4,.d i64,.d (.list i64),.d .bool,.o 9]])]⟩,hn 2 32 [.x 2,.x 3,.x 4,.x 7] [(.normal,[.u 4 .str,.p 7 [.o 4,.d i64,.d (.list i64),.d .bool,.o 9],.p 2 [.o 4,.d i64,.d (.list i64),.d .bool,.o 6],.p 3 [.o 4,.d i64,.d (.list i64),.d .bool,.o 6]])],hn 2 45 [.x 7] [(.normal,[.p 7 [.o 4,.d i64,.d (.list i64),.d .bool,.o 9]])],hn 2 43 [.x 7] [(.normal,[.p 7 [.o 4,.d i64,.d (.list i64),.d .bool,.o 9]])],hn 2 39 [.x 2,.x 3,.x 4,.x 7] [(.normal,[.u 4 .str,.p 7 [.o 4,.d i64,.d (.list i64),.d .bool,.o 9],.p 2 [.o 4,.d i64,.d (.list i64),.d .bool,.o 6],.p 3 [.o 4,.d i64,.d (.list i64),.d .bool,.o 6]])],hn 0 34 [.t 14 i64,.u 4 .str,.u 6 DG,.u 4 .str,.u 6 DG,.u 4 .str,.u 9 DG,.p 2 [.o 4,.d i64,.d (.list i64),.d .bool,.o 6],.p 3 [.o 4,.d i64,.d (.list i64),.d .bool,.o 6],.p 7 [.o 4,.d i64,.d (.list i64),.d .bool,.o 9]] [(.exit 5,[.u 4 .str,.u 6 DG,.u 9 DG,.p 2 [.o 4,.d i64,.d (.list i64),.d .bool,.o 6],.p 3 [.o 4,.d i64,.d (.list i64),.d .bool,.o 6],.p 7 [.o 4,.d i64,.d (.list i64),.d .bool,.o 9]])]])] (A8 MF (A8 P8 (A8 aU B8)))
def Kf:A5 (.c0 351 [ER,i64,Rh] [ER] Hl):=k0 [] B8
def ZB:A5 (.c0 310 [ER,i64,i64] [ER,i64] Ov):=k0 [(310,[hn 2 14 [.x 2] [(.normal,[.p 2 [.d Rh]])],hn 2 12 [.x 2] [(.normal,[.p 2 [.d Rh]])]])] (A8 EI (A8 GI (A8 Kf B8)))
def DX:A5 (.c0 315 [(.list Bi),i64] [i64] CG):=k0 [] (A8 Jl B8)
def N2:A5 (.c0 288 [Au,i64] [i64] Ea):=k0 [] (A8 By (A8 IB (A8 JA B8)))
def Xp:A5 (.c0 316 [CV,AW] [CV,i64,i64] Jr):=k0 [] (A8 Cc (A8 GH (A8 Dg B8)))
def Gg:A5 (.c0 202 [CV,i64] [AW,i64] Ex):=k0 [] (A8 Cc (A8 GH B8))
def MG:A5 (.c0 353 [(.list Bi),i64] [(.list Bi)] GP):=k0 [(353,[hn 2 6 [.x 0] [(.normal,[.u 0 Bi,.g 5 0])],⟨0,3,[(5,Bi)],[],[],[],[.t 6 i64,.u 0 Bi,.g 5 0],[(.exit 0,[.u 0 Bi,.g 5 0])]⟩])] B8
def Qf:A5 (.c0 355 [Bi] [Bi] Hf):=k0 [(355,[hn 2 2 [.x 0] [(.normal,[.p 0 [.d Bi]])]])] B8
def On:A5 (.c0 354 [(.list Bi),i64,Bi] [(.list Bi)] Hm):=k0 [] B8
def Sb:A5 (.c0 317 [(.list Bi),AW] [(.list Bi),i64] F7):=k0 [(317,[hn 2 24 [.x 2] [(.normal,[.u 2 i64,.g 8 2])],⟨0,21,[(8,i64)],[],[],[],[.t 9 i64,.u 2 i64,.g 8 2],[(.exit 2,[.u 2 i64,.g 8 2])]⟩,hn 2 19 [.x 1] [(.ret,[.t 4 (.list Bi),.t 5 i64,.x 1]),(.normal,[.p 1 [.d Bi]])],hn 2 17 [.x 1] [(.normal,[.p 1 [.d Bi]]),(.ret,[.t 4 (.list Bi),.t 5 i64,.x 1])]])] (A8 E5 (A8 Dg (A8 Jl (A8 MG (A8 Qf (A8 On B8))))))
def cn:A5 (.c0 356 [EH,i64,Yo] [EH] Mt):=k0 [] B8
def Sa:A5 (.c0 318 [EH,AW] [EH,i64] HA):=k0 [] (A8 Fu (A8 Dg (A8 cn B8)))
def Fj:A5 (.c0 280 [Au,AW] [Au,i64,i64] EM):=k0 [(280,[hn 2 5 [.x 1,.x 2] [(.ret,[.t 5 i64,.t 6 i64,.p 2 [.d Au],.x 1]),(.normal,[.p 1 [.d AW],.p 2 [.d Au]])],hn 2 10 [.x 1] [(.normal,[.p 1 [.d AW]])]])] (A8 By (A8 DX (A8 ET (A8 N2 (A8 Xp (A8 Gg (A8 Sb (A8 Sa B8))))))))
def Wl:A5 (.c0 277 [Au,i64,i64] [Au,i64] JK):=k0 [(277,[hn 2 7 [.x 1,.x 2] [(.ret,[.t 7 i64,.p 1 [.d Au],.x 2]),(.normal,[.p 2 [.d ER],.p 1 [.d Au]])]])] (A8 By (A8 Jk (A8 FL (A8 ZB (A8 Fj B8)))))
def Rv:A5 (.c0 249 [As,Au,BJ] [As,i64] K4):=k0 [] (A8 ME (A8 Y3 (A8 Wl B8)))
def ZT:A5 (.c0 228 [As,i64] [As,i64] K3):=k0 [] (A8 ZG (A8 FL (A8 Rv B8)))
def ZC:A5 (.c0 311 [ER] [(.list Bl)] Kp):=k0 [(311,[hn 2 9 [.x 1] [(.normal,[.u 1 Bl,.g 3 1])],⟨0,5,[(3,Bl)],[],[],[],[.t 4 i64,.u 1 Bl,.g 3 1],[(.exit 0,[.u 1 Bl,.g 3 1])]⟩])] (A8 EI (A8 GI B8))
def dY:A5 (.c0 278 [Au] [G5,i64] OH):=k0 [(278,[hn 2 9 [.x 2,.x 3] [(.normal,[.u 3 Bl,.p 2 [.d i64,.d i64,.d (.list Bi),.o 3,.d EH]])],hn 2 14 [.x 2,.x 3] [(.normal,[.u 3 Bl,.p 2 [.d i64,.d i64,.d (.list Bi),.o 3,.d EH]])],hn 0 11 [.t 46 i64,.u 3 Bl,.p 2 [.d i64,.d i64,.d (.list Bi),.o 3,.d EH]] [(.exit 2,[.u 3 Bl,.p 2 [.d i64,.d i64,.d (.list Bi),.o 3,.d EH]])],⟨0,5,[],[(2,3,Bl)],[],[],[.t 5 i64,.u 3 Bl,.p 2 [.d i64,.d i64,.d (.list Bi),.o 3,.d EH]],[(.exit 0,[.u 3 Bl,.p 2 [.d i64,.d i64,.d (.list Bi),.o 3,.d EH]])]⟩])] (A8 By (A8 JA (A8 ZC B8)))
def Ru:A5 (.c0 312 [G5] [.bool] Gm):=k0 [(312,[hn 0 4 [.t 3 i64] [(.ret,[.t 2 .bool]),(.exit 0,[])]])] (A8 E5 (A8 OQ (A8 Fu B8)))
def Wk:A5 (.c0 352 [.str,(.list i64)] [.str] HB):=k0 [(352,[hn 0 2 [.t 0 .str,.t 5 i64] [(.exit 0,[.t 0 .str])]])] (A8 Dk B8)
def Xy:A5 (.c0 313 [(.list Bi)] [.str,i64] Jv):=k0 [(313,[hn 0 5 [.t 4 .str,.t 5 i64] [(.exit 0,[.t 4 .str])]])] (A8 E5 (A8 Dk (A8 Wk B8)))
def Xw:A5 (.c0 314 [EH] [.str,i64] Ha):=k0 [(314,[hn 0 5 [.t 4 .str,.t 5 i64] [(.exit 0,[.t 4 .str])]])] (A8 Fu (A8 Dk B8))
def X4:A5 (.c0 279 [G5] [.str,i64] GQ):=k0 [(279,[hn 0 9 [.t 6 .str,.t 7 i64] [(.exit 0,[.t 6 .str])]])] (A8 Ru (A8 Xy (A8 Dk (A8 Xw B8))))
def ai:A5 (.c0 250 [Au] [Au,i64,i64] PY):=k0 [] (A8 dY (A8 X4 (A8 Fj (A8 I8 B8))))
def Uc:A5 (.c0 229 [As] [As,i64,i64] KZ):=k0 [] (A8 ai B8)
def aT:A5 (.c0 281 [FK,i64,.str,i64] [FK,i64] PS):=k0 [] (A8 MF (A8 P8 B8))
def aX:A5 (.c0 319 [i64] [.str] Ll):=k0 [] (A8 Dk (A8 M6 B8))
def Y7:A5 (.c0 320 [AW] [.str] IH):=k0 [] (A8 Qd (A8 M6 B8))
def Y6:A5 (.c0 282 [CV,i64] [.str] Gj):=k0 [(282,[hn 2 8 [] [(.normal,[.t 5 .str,.t 6 .str])],hn 0 5 [.t 5 .str,.t 6 .str,.t 7 i64] [(.exit 0,[.t 5 .str,.t 6 .str])]])] (A8 Cc (A8 aX (A8 Y7 B8)))
def ZS:A5 (.c0 251 [As,i64,i64,i64] [FK,.str] K2):=k0 [(251,[hn 2 8 [.x 3] [(.normal,[.p 3 [.d FK]])],hn 2 4 [.x 2,.x 3] [(.normal,[.p 2 [.d Au],.p 3 [.d FK]])]])] (A8 FL (A8 ME (A8 I9 (A8 aT (A8 Y6 B8)))))
def aW:A5 (.c0 321 [.str] [CV,i64] Iy):=k0 [(321,[⟨0,8,[],[(1,1,AW)],[],[],[.t 5 i64,.u 2 AW,.p 1 [.d i64,.o 2,.d i64],.p 0 [.d CV]],[(.ret,[.t 3 i64,.p 0 [.d CV],.x 1,.x 2]),(.exit 0,[.u 2 AW,.p 1 [.d i64,.o 2,.d i64],.p 0 [.d CV]])]⟩])] (A8 P4 (A8 En (A8 Qb B8)))
def Ml:A5 (.c1 387 0 GG [i64] [i64] CL):=k1 [] (A8 En B8)
def UL:A5 (.c1 388 0 GG [i64] [(.list i64)] Fq):=k1 [(388,[⟨0,3,[(5,i64)],[],[],[],[.t 6 i64,.u 1 i64,.g 5 1,.p 0 [.d GG]],[(.exit 0,[.u 1 i64,.g 5 1,.p 0 [.d GG]])]⟩])] (A8 Ml B8)
def Xx:A5 (.c0 385 [.str] [(.list Bi),i64] Ju):=k0 [(385,[⟨0,4,[(5,Bi)],[],[],[],[.t 6 i64,.u 1 Bi,.g 5 1,.p 0 [.d GG]],[(.exit 0,[.u 1 Bi,.g 5 1,.p 0 [.d GG]])]⟩])] (A8 Ml (A8 UL (A8 E5 B8)))
def Xv:A5 (.c0 386 [.str] [EH,i64] EY):=k0 [(386,[⟨0,8,[],[(1,0,Yo)],[],[],[.t 7 i64,.u 2 Yo,.p 1 [.o 2]],[(.exit 1,[.u 2 Yo,.p 1 [.o 2]])]⟩])] (A8 En (A8 Fu B8))
def X3:A5 (.c0 383 [.str] [G5,i64] C0):=k0 [(383,[⟨0,15,[],[(1,3,Bl)],[],[],[.t 9 i64,.t 11 i64,.u 2 Bl,.p 1 [.d i64,.d i64,.d (.list Bi),.o 2,.d EH]],[(.exit 0,[.t 9 i64,.u 2 Bl,.p 1 [.d i64,.d i64,.d (.list Bi),.o 2,.d EH]])]⟩])] (A8 En (A8 Xx (A8 Xv (A8 Ru B8))))
def X5:A5 (.c0 380 [CV] [G5,i64,.bool] OG):=k0 [(380,[hn 0 4 [.t 5 i64,.p 1 [.d G5]] [(.ret,[.t 3 i64,.t 4 .bool,.p 1 [.d G5]]),(.exit 0,[.p 1 [.d G5]])]])] (A8 Cc (A8 X3 B8))
def ZM:A5 (.c0 357 [CV,i64] [E2,i64] Ow):=k0 [] (A8 X5 (A8 TM B8))
def ZK:A5 (.c0 381 [(.list Bl),AW] [(.list Bl)] Gn):=k0 [(381,[hn 2 10 [.x 1] [(.normal,[.t 6 .bool,.u 1 Bl,.g 5 1])],hn 2 18 [.x 2] [(.normal,[.p 2 [.d Bl]])],hn 2 15 [.x 2] [(.normal,[.p 2 [.d Bl]]),(.exit 1,[.p 2 [.d Bl]])],hn 2 13 [.x 2] [(.normal,[.t 6 .bool,.p 2 [.d Bl]]),(.exit 1,[.t 6 .bool,.p 2 [.d Bl]])],⟨0,6,[(5,Bl)],[],[],[],[.t 6 .bool,.t 7 i64,.u 1 Bl,.g 5 1],[(.exit 0,[.t 6 .bool,.u 1 Bl,.g 5 1])]⟩,hn 2 21 [.x 1] [(.normal,[.u 1 Bl,.g 5 1])]])] (A8 ET B8)
def ak:A5 (.c0 358 [E2,AW] [E2,i64] Lv):=k0 [(358,[hn 2 2 [.x 0,.x 2] [(.ret,[.t 5 i64,.p 2 [.d E2],.x 0]),(.normal,[.p 0 [.d E2],.p 2 [.d E2]])]])] (A8 DX (A8 Rt (A8 Sb (A8 Sa (A8 ET (A8 ZK B8))))))
def aj:A5 (.c0 384 [BW,BW] [.bool] FI):=k0 [] B8
def am:A5 (.c0 382 [(.list BW),BW] [(.list BW)] Pc):=k0 [(382,[hn 0 2 [.t 5 i64] [(.exit 0,[.t 5 i64])]])] (A8 aj B8)
def ZL:A5 (.c0 359 [CV,(.list Bi)] [(.list BW),i64] Ky):=k0 [(359,[hn 0 6 [.t 6 (.list BW),.t 8 i64] [(.ret,[.t 4 (.list BW),.t 5 i64]),(.exit 2,[.t 6 (.list BW)])],hn 0 3 [.t 6 (.list BW),.t 7 i64] [(.ret,[.t 4 (.list BW),.t 5 i64]),(.exit 0,[.t 6 (.list BW)])]])] (A8 Gg (A8 am B8))
def Wo:A5 (.c0 322 [CV,i64] [E2,i64] JN):=k0 [(322,[hn 0 9 [.t 8 i64,.p 2 [.d E2],.p 1 [.d E2]] [(.ret,[.t 5 i64,.p 1 [.d E2],.x 2]),(.exit 0,[.p 2 [.d E2],.p 1 [.d E2]])],hn 2 20 [.x 3] [(.normal,[.u 3 Bi,.g 9 3])],⟨0,17,[(9,Bi)],[],[],[],[.t 10 i64,.u 3 Bi,.g 9 3],[(.exit 2,[.u 3 Bi,.g 9 3])]⟩])] (A8 Cc (A8 ZM (A8 ak (A8 ZL B8))))
def ZP:A5 (.c0 323 [CV,E2,i64] [Au,i64] K0):=k0 [(323,[hn 0 8 [.t 11 i64,.p 4 [.d Au],.p 2 [.d Au]] [(.ret,[.t 7 i64,.p 2 [.d Au],.x 4]),(.exit 0,[.p 4 [.d Au],.p 2 [.d Au]])]])] (A8 TL (A8 By (A8 Fj B8)))
def aw:A5 (.c0 283 [FK,.str,i64,i64] [As,i64] Pf):=k0 [] (A8 aW (A8 Wo (A8 ZP B8)))
def ay:A5 (.c0 252 [FK,.str,i64,i64] [As,i64] Pg):=k0 [] (A8 aw B8)
def Xu:A5 (.c0 364 [ER] [ER,i64,i64] OD):=k0 [(364,[hn 0 5 [.p 0 [.d ER]] [(.exit 0,[.p 0 [.d ER]])]])] (A8 EI (A8 Kf B8))
def ab:A5 (.c0 365 [ER,i64] [ER,i64] Lq):=k0 [(365,[hn 2 10 [.x 0] [(.normal,[.p 0 [.d i64,.o 2,.d i64]])],hn 2 12 [.x 0] [(.normal,[.p 0 [.d i64,.o 2,.d i64]])]])] (A8 EI (A8 GI B8))
def af:A5 (.c0 327 [Au] [Au,BJ,.bool,i64] Lt):=k0 [] (A8 By (A8 Xu (A8 FL (A8 ab (A8 I9 B8)))))
def av:A5 (.c0 286 [As] [As,i64] Lx):=k0 [(286,[hn 0 1 [.p 0 [.d As],.p 1 [.d As]] [(.ret,[.t 3 i64,.p 1 [.d As],.x 0])]])] (A8 af (A8 Rv B8))
def cY:A5 (.c0 328 [(.list i64),i64] [.bool] Mq):=k0 [(328,[hn 0 2 [.t 5 i64] [(.ret,[.t 4 .bool]),(.exit 0,[])]])] B8
def aS:A5 (.c0 287 [FK,i64] [.str,i64] Lk):=k0 [] (A8 MF (A8 cY B8))
def Xm:A5 (.c0 75 [.str] [BJ,i64] Jp):=k0 [(75,[hn 0 14 [.t 7 i64,.p 1 [.d BJ],.p 0 [.d BJ]] [(.ret,[.t 3 i64,.p 0 [.d BJ],.x 1]),(.exit 1,[.p 1 [.d BJ],.p 0 [.d BJ]])]])] (A8 Rn (A8 En (A8 Ke (A8 ME B8))))
def cV:A5 (.c0 23 [i64] [BJ] Hj):=k0 [] B8
def Vu:A5 (.c0 48 [.str,i64] [BJ,i64] MK):=k0 [] (A8 Xm (A8 cV B8))
def ZD:A5 (.c0 289 [EH,i64,i64,.str] [BJ,i64] Kr):=k0 [] (A8 Fu (A8 Vu B8))
def Y8:A5 (.c0 203 [AW,(.list AW)] [(.list AW)] Km):=k0 [] B8
def aY:A5 (.c0 161 [CV,i64,i64,i64] [(.list AW),i64] PU):=k0 [(161,[hn 0 7 [.t 10 (.list AW),.t 11 i64] [(.ret,[.t 8 (.list AW),.t 9 i64]),(.exit 0,[.t 10 (.list AW),.t 11 i64])]])] (A8 Cc (A8 Gg (A8 ET (A8 Y8 B8))))
def ZO:A5 (.c0 110 [CV,BJ,i64] [(.list AW),i64] Tc):=k0 [] (A8 Cc (A8 G7 (A8 aY B8)))
def Rq:A5 (.c0 104 [BJ,Ii] [BJ,i64] IF):=k0 [] (A8 Rr B8)
def ZN:A5 (.c0 56 [BJ,AW] [BJ,i64] Kz):=k0 [] (A8 Dg (A8 ET (A8 G7 (A8 Rq B8))))
def aq:A5 (.c0 62 [CV,BJ,i64] [BJ,i64,i64] Pe):=k0 [(62,[hn 0 5 [.t 11 i64,.p 1 [.d BJ],.p 2 [.d BJ]] [(.ret,[.t 7 i64,.t 8 i64,.p 2 [.d BJ],.x 1]),(.exit 0,[.p 1 [.d BJ],.p 2 [.d BJ]])]])] (A8 ZO (A8 ZN B8))
def an:A5 (.c0 29 [CV,BJ,i64] [BJ,i64] Pd):=k0 [] (A8 aq B8)
def X0:A5 (.c0 290 [Au,BJ] [Au,i64] Jy):=k0 [(290,[hn 2 21 [.x 9] [(.normal,[.u 9 Bl,.g 10 9])],⟨0,18,[(10,Bl)],[],[],[],[.t 11 i64,.u 9 Bl,.g 10 9],[(.exit 1,[.u 9 Bl,.g 10 9])]⟩,hn 2 14 [.x 0,.x 3,.x 5,.x 6,.x 7] [(.normal,[.u 6 Rh,.p 0 [.d Au],.p 3 [.d i64,.o 6,.d i64],.p 5 [.d i64,.o 6,.d i64],.p 7 [.d i64,.o 6,.d i64]])]])] (A8 By (A8 N2 (A8 EI (A8 G7 (A8 JA (A8 GI B8))))))
def JB:A5 (.c0 254 [As,i64] [As,i64] Ep):=k0 [] (A8 By (A8 FL (A8 av (A8 aS (A8 N2 (A8 ZD (A8 an (A8 X0 B8))))))))
def Qh:A5 (.c0 291 [Au,i64] [Bi,.bool] Hg):=k0 [(291,[hn 2 2 [.x 1] [(.ret,[.t 5 .bool,.p 1 [.d Bi]]),(.normal,[.p 1 [.d Bi]])]])] (A8 By (A8 DX B8))
def au:A5 (.c0 255 [Au] [(.list i64)] Lw):=k0 [(255,[hn 2 7 [.x 1] [(.normal,[.u 1 i64,.g 3 1])],⟨0,3,[(3,i64)],[],[],[],[.t 4 i64,.u 1 i64,.g 3 1],[(.exit 0,[.u 1 i64,.g 3 1])]⟩])] (A8 Qh B8)
def Ht:A5 (.c0 292 [Au,i64] [Bi,i64] FA):=k0 [] (A8 By (A8 DX B8))
def N0:A5 (.c0 331 [(.list BW),i64,.bool,IU] [(.list BW)] F6):=k0 [(331,[hn 2 6 [.x 1] [(.normal,[.u 1 BW,.g 9 1])],⟨0,3,[(9,BW)],[],[],[],[.t 10 i64,.u 1 BW,.g 9 1],[(.exit 0,[.u 1 BW,.g 9 1])]⟩])] B8
def aZ:A5 (.c0 366 [C6,i64] [.bool] Ln):=k0 [(366,[hn 0 2 [.t 5 i64] [(.ret,[.t 4 .bool]),(.exit 0,[])],hn 0 7 [.t 6 i64] [(.ret,[.t 4 .bool]),(.exit 2,[])]])] (A8 KM B8)
def aa:A5 (.c0 367 [(.list BW),BW] [(.list BW)] Lo):=k0 [(367,[hn 2 7 [.x 1] [(.normal,[.t 6 .bool,.u 1 BW,.g 5 1])],hn 2 10 [.x 1] [(.normal,[.u 1 BW,.g 5 1])],⟨0,4,[(5,BW)],[],[],[],[.t 6 .bool,.t 7 i64,.u 1 BW,.g 5 1],[(.exit 0,[.t 6 .bool,.u 1 BW,.g 5 1])]⟩,hn 2 12 [.x 1] [(.normal,[.u 1 BW,.g 5 1])]])] (A8 SY B8)
def Ij:A5 (.c0 330 [C6] [C6] FN):=k0 [(330,[hn 2 5 [.x 0] [(.normal,[.t 3 i64,.p 0 [.d C6]])],hn 0 2 [.t 3 i64,.p 0 [.d C6]] [(.exit 0,[.p 0 [.d C6]])]])] (A8 aZ (A8 aa B8))
def K9:A5 (.c0 293 [C6,i64] [C6] G9):=k0 [] (A8 E4 (A8 N0 (A8 Ij B8)))
def ah:A5 (.c0 294 [Au,i64] [AW,.bool] HC):=k0 [] (A8 Ht (A8 Gg B8))
def Wg:A5 (.c0 332 [Ii] [Ii] JE):=k0 [] B8
def Xt:A5 (.c0 368 [ER,BJ] [ER,i64] Jt):=k0 [(368,[hn 2 13 [.x 3] [(.normal,[.p 3 [.d Rh]])]])] (A8 EI (A8 G7 (A8 GI (A8 Kf B8))))
def TN:A5 (.c0 333 [Au,AW] [Au,i64] Ji):=k0 [] (A8 Fj (A8 IB (A8 Xt B8)))
def dX:A5 (.c0 369 [Au,Bi,IU,i64] [AW,.bool] OF):=k0 [(369,[hn 0 2 [.t 10 i64,.p 3 [.d AW]] [(.ret,[.t 9 .bool,.p 3 [.d AW]]),(.exit 0,[.p 3 [.d AW]])]])] (A8 Gg B8)
def Qg:A5 (.c0 334 [Au,i64,IU] [AW,.bool] J1):=k0 [] (A8 Ht (A8 dX B8))
def SX:A5 (.c0 335 [C6,i64,IU] [C6] Lm):=k0 [] (A8 E4 (A8 N0 (A8 Ij B8)))
def Se:A5 (.c0 295 [Au,Bi,AW] [Au,Cw] F8):=k0 [(295,[hn 2 15 [.x 8] [(.normal,[.p 8 [.d Au]])],hn 2 12 [.x 8] [(.normal,[.p 8 [.d Au]])]])] (A8 IB (A8 Wg (A8 Rq (A8 Cg (A8 TN (A8 Qg (A8 SX B8)))))))
def Sd:A5 (.c0 256 [Au,i64] [Au,Cw] I0):=k0 [] (A8 Ht (A8 Cg (A8 Fj (A8 K9 (A8 ah (A8 Se B8))))))
def az:A5 (.c0 232 [As] [As,.bool,i64] Ly):=k0 [(232,[hn 0 9 [.p 0 [.d As],.p 1 [.d As]] [(.ret,[.t 3 .bool,.t 4 i64,.p 1 [.d As],.x 0])]])] (A8 By (A8 JB (A8 au (A8 Sd B8))))
def Xz:A5 (.c0 370 [Au,Et] [i64] Jw):=k0 [(370,[hn 2 6 [] [(.normal,[.t 11 .bool])],hn 2 5 [] [(.normal,[.t 11 .bool])],hn 2 11 [.x 2] [(.normal,[.p 2 [.d Et]])],hn 2 18 [] [(.normal,[.t 60 .bool])],hn 2 17 [] [(.normal,[.t 60 .bool])],hn 2 13 [.x 2] [(.ret,[.t 4 i64,.x 2]),(.normal,[.p 2 [.d Et]])],hn 2 7 [.x 2] [(.ret,[.t 4 i64,.x 2]),(.normal,[.p 2 [.d Et]])]])] B8
def Hs:A5 (.c0 302 [C6,i64] [BW,.bool] E8):=k0 [(302,[hn 0 3 [.t 6 i64,.p 1 [.d BW]] [(.ret,[.t 5 .bool,.p 1 [.d BW]]),(.exit 0,[.p 1 [.d BW]])],hn 2 2 [.x 1] [(.ret,[.t 5 .bool,.p 1 [.d BW]]),(.normal,[.p 1 [.d BW]])]])] (A8 E4 B8)
def Sc:A5 (.c0 342 [i64,Et] [BW,.bool] Iz):=k0 [(342,[hn 2 7 [] [(.normal,[.t 20 .bool])]])] B8
def Wn:A5 (.c0 337 [Au,i64,Et] [i64] JM):=k0 [] (A8 By (A8 DX (A8 Xz (A8 Hs (A8 Sc B8)))))
def X2:A5 (.c0 338 [Au,i64] [Au,Cw] J0):=k0 [(338,[hn 2 3 [.x 1,.x 2,.x 3] [(.normal,[.p 3 [.d Au],.p 1 [.d Au],.p 2 [.d Cw]]),(.ret,[.p 1 [.d Au],.p 2 [.d Cw],.x 3])]])] (A8 DX (A8 MG (A8 Fj (A8 Cg (A8 I9 (A8 K9 B8))))))
def Xq:A5 (.c0 371 [C6,i64] [C6] N8):=k0 [] (A8 E4 (A8 N0 (A8 Ij B8)))
def Wm:A5 (.c0 372 [Au,i64,IU] [.bool] JL):=k0 [(372,[hn 0 3 [.t 8 i64] [(.ret,[.t 6 .bool]),(.exit 0,[])]])] (A8 DX (A8 Gg B8))
def ZI:A5 (.c0 339 [Au,i64,i64] [Au,Cw] IL):=k0 [(339,[hn 2 15 [.x 3] [(.normal,[.p 3 [.d Au]])],hn 0 12 [.t 12 i64,.p 3 [.d Au]] [(.exit 0,[.p 3 [.d Au]])]])] (A8 Xq (A8 DX (A8 MG (A8 K9 (A8 Fj (A8 Cg (A8 Wm (A8 SX B8))))))))
def Qe:A5 (.c0 373 [(.list Bi),i64] [i64,i64] Hd):=k0 [] (A8 E5 (A8 Jl B8))
def ae:A5 (.c0 340 [(.list Bi),i64] [(.list Bi),i64] Ls):=k0 [] (A8 Qe (A8 On B8))
def ac:A5 (.c0 341 [(.list Bi),i64,i64] [(.list Bi),i64] Lr):=k0 [] (A8 Qe (A8 Qf (A8 On B8)))
def Y9:A5 (.c0 374 [C6,BW] [i64] II):=k0 [(374,[hn 0 4 [.t 5 i64] [(.ret,[.t 4 i64]),(.exit 0,[])]])] (A8 N1 B8)
def Wi:A5 (.c0 343 [C6,BW] [C6,.bool,i64] NJ):=k0 [] (A8 E4 (A8 Rs (A8 Hs (A8 N1 (A8 Y9 (A8 Ij B8))))))
def cg:A5 (.c0 375 [ER,i64] [ER] Mr):=k0 [] (A8 FL (A8 Kf B8))
def X1:A5 (.c0 344 [Au,i64,Et] [Au,Cw] Jz):=k0 [(344,[hn 2 9 [.x 5] [(.normal,[.p 5 [.d Ii]])]])] (A8 IB (A8 cg (A8 TN (A8 Cg B8))))
def SZ:A5 (.c0 348 [(.list i64),i64] [(.list i64)] FG):=k0 [(348,[hn 2 7 [.x 0] [(.normal,[.t 6 .bool,.u 0 i64,.g 5 0])],hn 2 10 [.x 0] [(.normal,[.u 0 i64,.g 5 0])],⟨0,4,[(5,i64)],[],[],[],[.t 6 .bool,.t 7 i64,.u 0 i64,.g 5 0],[(.exit 0,[.t 6 .bool,.u 0 i64,.g 5 0])]⟩,hn 2 12 [.x 0] [(.normal,[.u 0 i64,.g 5 0])]])] B8
def Wj:A5 (.c0 376 [C6] [(.list i64)] JG):=k0 [(376,[hn 0 4 [.t 3 (.list i64),.t 4 i64] [(.exit 0,[.t 3 (.list i64)])],hn 2 3 [] [(.normal,[.t 3 (.list i64)])]])] (A8 E4 (A8 SZ B8))
def Om:A5 (.c0 303 [C6,i64] [(.list i64)] Hk):=k0 [(303,[hn 2 9 [] [(.normal,[.t 7 (.list i64)])],hn 0 6 [.t 7 (.list i64),.t 8 i64] [(.exit 0,[.t 7 (.list i64)])],hn 2 14 [] [(.normal,[.t 7 (.list i64)])],hn 0 11 [.t 7 (.list i64),.t 9 i64] [(.exit 2,[.t 7 (.list i64)])]])] (A8 Hs (A8 KM (A8 SZ B8)))
def Xr:A5 (.c0 377 [C6,(.list i64),i64] [(.list i64)] OB):=AAg (P:=Tryz.prog) (F:=377) (ds:=[C6,(.list i64),i64]) (rs:=[(.list i64)]) (f:=Ef) (hs:=XH [(377,[hn 0 4 [.t 30 i64] [(.ret,[.t 6 (.list i64)]),(.exit 0,[])],hn 0 15 [.t 12 .bool,.t 49 i64] [(.exit 4,[.t 12 .bool])],hn 0 11 [.t 43 i64] [(.ret,[.t 6 (.list i64)]),(.exit 2,[])]])]) (n:=13) (A8 Om B8) (λg x=>by kernel_rfl)
def ZA:A5 (.c0 345 [C6,i64] [(.list i64)] Kn):=k0 [(345,[hn 0 2 [.t 5 i64] [(.ret,[.t 4 (.list i64)]),(.exit 0,[])]])] (A8 Wj (A8 Xr B8))
def ZH:A5 (.c0 378 [(.list i64)] [i64] Kw):=k0 [] B8
def cp:A5 (.c0 346 [Au,i64] [i64] Mu):=k0 [] (A8 Om (A8 ZH B8))
def dW:A5 (.c0 299 [Au,i64,Et] [Au,Cw] OE):=k0 [(299,[hn 2 10 [] [(.normal,[.t 46 .bool])],hn 2 13 [] [(.normal,[.t 9 (.list Bi),.t 10 i64])]])] (A8 Wn (A8 Cg (A8 X2 (A8 ZI (A8 ae (A8 ac (A8 Sc (A8 Wi (A8 X1 (A8 ZA (A8 cp B8)))))))))))
def P9:A5 (.c0 300 [As,i64] [.bool] EK):=k0 [] (A8 DX B8)
def Vv:A5 (.c0 301 [As,i64] [As,i64] Eg):=k0 [(301,[hn 2 12 [.x 0,.x 1] [(.ret,[.t 5 i64,.p 1 [.d As],.x 0]),(.normal,[.p 0 [.d As],.p 1 [.d As]])],hn 0 5 [.p 0 [.d As],.p 1 [.d As]] [(.ret,[.t 5 i64,.p 1 [.d As],.x 0]),(.exit 0,[.p 0 [.d As],.p 1 [.d As]])]])] (A8 By (A8 DX (A8 P9 (A8 Sd (A8 JB B8)))))
def dZ:A5 (.c0 269 [As,i64,Et] [As,Cw] OI):=k0 [(269,[hn 2 10 [.x 0,.x 2,.x 3] [(.ret,[.p 2 [.d As],.p 3 [.d Cw],.x 0]),(.normal,[.p 0 [.d As],.p 2 [.d As],.p 3 [.d Cw]])],hn 0 1 [.p 0 [.d As],.p 2 [.d As],.p 3 [.d Cw]] [(.ret,[.p 2 [.d As],.p 3 [.d Cw],.x 0])]])] (A8 dW (A8 JB (A8 Cg (A8 P9 (A8 Vv B8)))))
def Wp:A5 (.c0 270 [Au,i64] [i64,IU,.bool] JO):=k0 [(270,[hn 0 5 [.t 28 i64,.p 1 [.d IU]] [(.ret,[.t 4 i64,.t 6 .bool,.p 1 [.d IU]]),(.exit 0,[.p 1 [.d IU]])]])] (A8 Hs (A8 Om (A8 Qh B8)))
def ag:A5 (.c0 304 [Au,i64,IU] [Au,Cw] Lu):=k0 [] (A8 Ht (A8 Cg (A8 Qg (A8 Se B8))))
def bA:A5 (.c0 271 [As,i64,IU] [As,i64,i64] L3):=k0 [(271,[hn 2 8 [.x 0,.x 2] [(.ret,[.t 7 i64,.t 8 i64,.p 2 [.d As],.x 0]),(.normal,[.t 9 i64,.p 0 [.d As],.p 2 [.d As]])],hn 0 2 [.t 9 i64,.p 0 [.d As],.p 2 [.d As]] [(.ret,[.t 7 i64,.t 8 i64,.p 2 [.d As],.x 0])]])] (A8 ag (A8 JB B8))
def da:A5 (.c0 246 [As,i64,Et] [As,Cw] OJ):=k0 [(246,[hn 0 1 [.p 0 [.d As],.p 2 [.d As],.p 3 [.d Cw]] [(.ret,[.p 2 [.d As],.p 3 [.d Cw],.x 0])]])] (A8 dZ (A8 Wp (A8 bA (A8 Cg B8))))
def cu:A5 (.c0 154 [As,(.list RP)] [As,(.list Cw),(.list Vh)] Mx):=k0 [(154,[⟨0,4,[(8,Cw)],[(2,18,i64),(2,19,Vh)],[],[],[.t 9 i64,.u 3 Cw,.u 4 i64,.u 5 Vh,.g 8 3,.p 2 [.d As,.o 4,.o 5,.d .bool]],[(.exit 0,[.u 3 Cw,.u 4 i64,.u 5 Vh,.g 8 3,.p 2 [.d As,.o 4,.o 5,.d .bool]])]⟩]),(199,[hn 2 5 [.x 2,.x 4] [(.normal,[.u 4 i64,.p 2 [.d As,.o 4,.o 5,.d .bool]])],hn 2 19 [.x 2] [(.normal,[.p 2 [.d As,.o 4,.o 5,.d .bool]])]]),(226,[hn 2 2 [.x 2] [(.normal,[.p 2 [.d As,.o 4,.o 5,.d .bool]])]]),(227,[hn 2 9 [.x 2,.x 5] [(.normal,[.u 5 Vh,.p 2 [.d As,.o 4,.o 5,.d .bool]])]]),(231,[hn 0 4 [.t 9 i64,.u 4 i64,.p 2 [.d As,.o 4,.o 5,.d .bool]] [(.exit 0,[.u 4 i64,.p 2 [.d As,.o 4,.o 5,.d .bool]])]])] (A8 ZQ (A8 X6 (A8 Cg (A8 ZT (A8 Uc (A8 Jk (A8 I8 (A8 ZS (A8 ay (A8 az (A8 da B8)))))))))))
def Tr:A5 (.c1 105 0 BG [i64,.bool] [As] G1):=k1 [] (A8 DH (A8 cr (A8 TA (A8 cu B8))))
def UJ:A5 (.c1 57 0 BG [i64,.bool] [Au] HM):=k1 [] (A8 Tr B8)
def dV:A5 (.c1 26 0 BG [i64] [i64,CV] KR):=k1 [] (A8 UJ (A8 Jk (A8 I8 B8)))
def cZ:A5 (.c0 31 [CV,i64] [CV,i64] Jg):=k0 [] (A8 Cc (A8 GH B8))
def bF:A5 (.c0 18 [PD,PD] [.bool] HI):=k0 [(18,[hn 0 4 [.t 5 i64] [(.ret,[.t 4 .bool]),(.exit 0,[])]])] B8
def TB:A5 (.c0 7 [(.list (.int .u8)),(.int .u8),(.int .u8)] [.bool] Ix):=k0 [(9,[hn 2 2 [] [(.normal,[.t 0 (.list (.int .u8))])]])] (A8 Yz (A8 dV (A8 Qa (A8 Sf (A8 cZ (A8 TO (A8 SW (A8 ZW (A8 bF B8)))))))))
end Go.Proofs.YtimajmppopkomaaGreat
