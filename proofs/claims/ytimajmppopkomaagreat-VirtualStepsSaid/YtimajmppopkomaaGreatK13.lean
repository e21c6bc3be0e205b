/- That the code computes these functions, part 13. Texts of the folder wip, laid in few files with shorter names by a program (wip/tools/pack.py); nothing is assumed. -/
import Derived.Test.YtimajmppopkomaaGreatK12
import Derived.Test.YtimajmppopkomaaGreatProg
import Derived.KernelRfl
noncomputable section
set_option linter.unusedVariables false
set_option linter.unusedSimpArgs false
set_option linter.unusedSectionVars false
set_option linter.defProp false
set_option linter.unnecessarySimpa false
set_option linter.deprecated false
namespace Go.Proofs.YtimajmppopkomaaGreat
open Go Go.Ab Go.Pm
set_option maxRecDepth 100000
def XK:A5 (.c0 140 [i64] [.bool] FY):=k0 [] B8
def QP:A5 (.c0 94 [i64,i64] [i64] EX):=k0 [] (A8 XK B8)
def dP:A5 (.c0 178 [(.list i64)] [i64] Jm):=k0 [(178,[hn 0 3 [.t 8 i64] [(.ret,[.t 2 i64]),(.exit 0,[])]])] B8
def Us:A5 (.c0 177 [BL,BL] [i64] HS):=k0 [] (A8 QP (A8 dP B8))
def N3:A5 (.c2 296 BL [i64,i64,i64] [] [.fn (.func 177) [] []] Cd):=Mn (hs:=XD [(296,[hn 0 1 [.t 10 i64,.u 0 BL,.g 0 0] [(.exit 0,[.u 0 BL])]])]) (n:=13) B8 (λl x=>by kernel_rfl)
def O9:A5 (.c2 267 BL [i64,i64,i64] [] [.fn (.func 177) [] []] Ek):=Mn (hs:=XD [(267,[hn 0 2 [.t 10 i64,.t 11 i64,.u 0 BL,.g 0 0] [(.exit 0,[.t 10 i64,.u 0 BL,.g 0 0])]])]) (n:=13) (A8 N3 B8) (λl x=>by kernel_rfl)
def MG:A5 (.c2 241 BL [i64,i64] [] [.fn (.func 177) [] []] Cp):=Mn (hs:=XD [(241,[hn 0 1 [.t 8 i64,.u 0 BL,.g 0 0] [(.exit 0,[.u 0 BL])],hn 0 4 [.t 9 i64,.u 0 BL,.g 0 0] [(.exit 2,[.u 0 BL,.g 0 0])]])]) (n:=13) (A8 Us B8) (λl x=>by kernel_rfl)
def OS:A5 (.c2 242 BL [i64,i64,i64] [] [.fn (.func 177) [] []] EP):=sK (P:=Tryz.prog) (F:=242) (te:=BL) (ds:=[i64,i64,i64]) (rs:=[]) (post:=[.fn (.func 177) [] []]) (f:=λg p=>Bu g p.1 p.2) (hs:=XD [(242,[hn 0 3 [.t 10 i64,.t 11 i64] [(.exit 0,[.t 10 i64])],hn 0 9 [.t 13 i64,.u 0 BL,.g 0 0] [(.exit 2,[.u 0 BL])],hn 0 15 [.t 14 i64,.t 15 i64] [(.exit 4,[.t 14 i64])],hn 0 21 [.t 17 i64,.u 0 BL,.g 0 0] [(.exit 6,[.u 0 BL])],hn 0 33 [.t 20 i64,.t 21 i64] [(.exit 8,[.t 20 i64])],hn 2 28 [] [(.normal,[.t 20 i64,.t 21 i64])],hn 2 40 [.x 0] [(.normal,[.u 0 BL,.g 0 0])],hn 2 42 [.x 0] [(.normal,[.u 0 BL,.g 0 0])],hn 2 44 [.x 0] [(.normal,[.u 0 BL])]])]) (n:=13) (A8 Us (A8 O9 B8)) (λg l x=>by kernel_rfl)
def PA:A5 (.c2 213 BL [i64] [] [.fn (.func 177) [] []] El):=Mn (hs:=XD [(213,[hn 0 2 [.t 7 i64,.t 8 i64,.u 0 BL,.g 0 0] [(.exit 0,[.t 7 i64,.u 0 BL,.g 0 0])],hn 0 7 [.t 6 i64,.u 0 BL,.g 0 0] [(.exit 2,[.u 0 BL])],hn 0 9 [.t 7 i64,.t 8 i64,.u 0 BL,.g 0 0] [(.exit 4,[.t 7 i64,.u 0 BL,.g 0 0])]])]) (n:=13) (A8 MG (A8 OS B8)) (λl x=>by kernel_rfl)
def I1:A5 (.c2 176 BL [] [] [.fn (.func 177) [] []] Cl):=Mn (hs:=XD []) (n:=13) (A8 PA B8) (λl x=>by kernel_rfl)
def QQ:A5 (.cl 215 AW):=yL (t:=30) (b:=4) (by kernel_rfl) (by kernel_rfl) (by kernel_rfl)
def IX:A5 (.c0 93 [AW,AW] [i64] BV):=k0 [] (A8 QP B8)
def OR:A5 (.c2 180 AW [i64,i64] [] [.fn (.func 93) [] []] DU):=Mn (hs:=XD [(180,[hn 0 1 [.t 8 i64,.u 0 AW,.g 0 0] [(.exit 0,[.u 0 AW])],hn 0 4 [.t 9 i64,.u 0 AW,.g 0 0] [(.exit 2,[.u 0 AW,.g 0 0])],hn 4 4 [] [(.exit 2,[]),(.normal,[])]])]) (n:=13) (A8 IX B8) (λl x=>by kernel_rfl)
def QS:A5 (.c2 217 AW [i64,i64,i64] [] [.fn (.func 93) [] []] DR):=Mn (hs:=XD [(217,[hn 0 1 [.t 10 i64,.u 0 AW,.g 0 0] [(.exit 0,[.u 0 AW]),(.ret,[.u 0 AW])],hn 4 3 [] [(.normal,[.t 11 i64])]])]) (n:=13) (A8 IX B8) (λl x=>by kernel_rfl)
def QR:A5 (.c2 181 AW [i64,i64] [] [.fn (.func 93) [] []] EE):=Mn (hs:=XD [(181,[hn 0 4 [.t 11 i64,.u 0 AW,.g 0 0] [(.exit 0,[.u 0 AW,.g 0 0])],hn 0 8 [.t 12 i64,.u 0 AW,.g 0 0] [(.exit 2,[.u 0 AW])]])]) (n:=13) (A8 QS B8) (λl x=>by kernel_rfl)
def fm:A5 (.c0 189 [(.int .u64)] [i64] O3):=k0 [(189,[hn 2 2 [] [(.normal,[.t 0 (.int .u64),.t 2 i64])],hn 2 5 [] [(.normal,[.t 0 (.int .u64),.t 2 i64])],hn 2 8 [] [(.normal,[.t 0 (.int .u64),.t 2 i64])]])] B8
def XL:A5 (.c0 139 [(.int .u64)] [i64] OX):=k0 [] (A8 fm B8)
def Wn:A5 (.c0 218 [i64] [(.int .u64)] JO):=k0 [] (A8 XL B8)
def OQ:A5 (.c2 182 AW [i64,i64] [] [.fn (.func 93) [] []] EO):=Mn (hs:=XD [(182,[hn 0 5 [.t 11 i64,.u 0 AW,.p 1 [.d (.int .u64)],.g 0 0] [(.exit 0,[.u 0 AW,.p 1 [.d (.int .u64)]])],hn 2 9 [] [(.normal,[.t 12 i64])]])]) (n:=13) (A8 Wn B8) (λl x=>by kernel_rfl)
def O8:A5 (.c2 183 AW [i64,i64] [i64,i64] [.fn (.func 93) [] []] Cs):=Mn (hs:=XD [(183,[]),(221,[hn 6 1 [.x 1] [(.normal,[.t 1 i64,.t 2 i64,.p 1 [.d i64]])],hn 6 2 [.x 1] [(.normal,[.t 2 i64,.t 3 i64,.p 1 [.d i64]])],hn 6 3 [.x 1] [(.normal,[.t 1 i64,.t 2 i64,.p 1 [.d i64]])]])]) (n:=13) (A8 IX B8) (λl x=>by kernel_rfl)
def On:A5 (.c2 184 AW [i64,i64] [] [.fn (.func 93) [] []] Dd):=Mn (hs:=XD [(184,[hn 0 2 [.t 8 i64,.t 9 i64,.u 0 AW,.g 0 0] [(.exit 0,[.u 0 AW])]])]) (n:=13) B8 (λl x=>by kernel_rfl)
def K8:A5 (.c2 185 AW [i64,i64] [.bool] [.fn (.func 93) [] []] Cg):=Mn (hs:=XD [(185,[hn 0 3 [.t 9 i64,.t 10 i64,.u 0 AW,.g 0 0] [(.exit 0,[.u 0 AW]),(.ret,[.t 8 .bool,.u 0 AW])],hn 0 5 [.t 9 i64] [(.exit 2,[.t 9 i64])],hn 4 5 [] [(.exit 2,[]),(.normal,[])],hn 2 13 [.x 0] [(.normal,[.u 0 AW,.g 0 0])],hn 0 14 [.t 11 i64,.u 0 AW,.g 0 0] [(.exit 4,[.u 0 AW,.g 0 0])],hn 2 19 [.x 0] [(.normal,[.u 0 AW,.g 0 0])],hn 0 20 [.t 12 i64,.u 0 AW,.g 0 0] [(.exit 6,[.u 0 AW,.g 0 0])]])]) (n:=13) (A8 IX B8) (λl x=>by kernel_rfl)
def N2:A5 (.c2 186 AW [i64,i64,i64] [i64] [.fn (.func 93) [] []] DF):=Mn (hs:=XD [(186,[hn 5 3 [.t 11 i64,.t 12 i64,.u 0 AW,.g 0 0] [(.exit 0,[.t 11 i64,.u 0 AW])],hn 0 3 [.t 11 i64] [(.exit 2,[.t 11 i64])],hn 4 3 [] [(.exit 2,[]),(.normal,[])],hn 0 5 [.t 12 i64] [(.exit 4,[.t 12 i64])],hn 4 5 [] [(.exit 4,[]),(.normal,[])]])]) (n:=13) (A8 IX B8) (λl x=>by kernel_rfl)
def Pq:A5 (.c2 187 AW [i64,i64,i64] [i64,.bool] [.fn (.func 93) [] []] D5):=Mn (hs:=XD [(187,[hn 0 3 [.t 12 i64] [(.exit 0,[.t 12 i64])],hn 4 3 [] [(.exit 0,[]),(.normal,[])],hn 0 5 [.t 13 i64] [(.exit 2,[.t 13 i64])],hn 4 5 [] [(.exit 2,[]),(.normal,[])],hn 5 13 [.t 12 i64,.t 13 i64,.u 0 AW,.g 0 0] [(.exit 4,[.t 13 i64,.u 0 AW,.g 0 0])],hn 0 13 [.t 12 i64] [(.exit 6,[.t 12 i64])],hn 4 13 [] [(.exit 6,[]),(.normal,[])],hn 0 15 [.t 13 i64] [(.exit 8,[.t 13 i64])],hn 4 15 [] [(.exit 8,[]),(.normal,[])]])]) (n:=13) (A8 IX B8) (λl x=>by kernel_rfl)
def Qk:A5 (.c2 138 AW [i64,i64,i64] [] [.fn (.func 93) [] []] HK):=sK (P:=Tryz.prog) (F:=138) (te:=AW) (ds:=[i64,i64,i64]) (rs:=[]) (post:=[.fn (.func 93) [] []]) (f:=λg p=>D6 g p.1 p.2) (hs:=XD [(138,[hn 0 2 [.t 1 i64,.t 2 i64,.t 3 i64,.t 10 .bool,.t 11 .bool,.u 0 AW,.g 0 0] [(.ret,[.u 0 AW])],hn 2 8 [.x 0] [(.normal,[.t 3 i64,.u 0 AW,.g 0 0])],hn 2 12 [.x 0] [(.normal,[.t 13 i64,.t 14 i64,.u 0 AW,.g 0 0])],hn 4 15 [.x 0] [(.normal,[.u 0 AW,.g 0 0]),(.ret,[.u 0 AW])],hn 4 17 [.x 0] [(.exit 1,[.t 1 i64,.u 0 AW,.g 0 0]),(.normal,[.t 1 i64,.u 0 AW,.g 0 0])],hn 2 25 [.x 0] [(.normal,[.t 1 i64,.t 2 i64,.t 10 .bool,.u 0 AW,.g 0 0])]])]) (n:=13) (A8 IX (A8 OR (A8 QR (A8 OQ (A8 O8 (A8 On (A8 K8 (A8 N2 (A8 Pq B8))))))))) (λg l x=>by kernel_rfl)
def O7:A5 (.c2 92 AW [] [] [.fn (.func 93) [] []] CU):=Mn (hs:=XD []) (n:=13) (A8 Qk (A8 XL B8)) (λl x=>by kernel_rfl)
def Ny:A5 (.c0 69 [BK] [.bool] IZ):=k0 [(69,[hn 0 5 [.t 4 i64] [(.ret,[.t 2 .bool]),(.exit 0,[])],hn 0 13 [.t 5 i64,.t 89 i64] [(.ret,[.t 2 .bool]),(.exit 2,[])]])] B8
def cH:A5 (.c0 117 [Cb] [i64] Ca):=k0 [] B8
def kC:A5 (.c0 149 [i64,AW] [.bool] NC):=k0 [] B8
def j9:A5 (.c0 195 [i64] [.bool] HT):=k0 [] B8
def dO:A5 (.c0 196 [KD] [.bool] DB):=k0 [] B8
def Yu:A5 (.c0 151 [If] [.bool] NB):=k0 [] (A8 j9 (A8 dO B8))
def ms:A5 (.c0 192 [If] [.bool] Lg):=k0 [] B8
def iW:A5 (.c0 191 [AW] [.bool] GF):=k0 [] B8
def iX:A5 (.c0 193 [AW] [.bool] RI):=k0 [] B8
def iY:A5 (.c0 194 [If] [.bool] RJ):=k0 [] B8
def RF:A5 (.c0 101 [AW] [.bool] GD):=k0 [(101,[hn 2 5 [] [(.normal,[.t 47 .bool])],hn 2 8 [] [(.normal,[.t 67 .bool])]])] (A8 kC (A8 Yu (A8 ms (A8 iW (A8 iX (A8 iY B8))))))
def SU:A5 (.c0 70 [Cb] [.bool] La):=k0 [(70,[hn 0 4 [.t 37 i64] [(.ret,[.t 2 .bool]),(.exit 0,[])]])] (A8 cH (A8 RF B8))
def iZ:A5 (.c0 82 [BK,Cb,i64,i64] [i64] OV):=k0 [] (A8 Ny (A8 SU B8))
def kD:A5 (.c0 132 [Cb] [i64] Sl):=k0 [] (A8 SU (A8 cH B8))
def kA:A5 (.c0 209 [i64,i64] [.bool] Sh):=k0 [] (A8 XK B8)
def dY:A5 (.c0 210 [i64] [.bool] FY):=k0 [] B8
def S9:A5 (.c0 173 [(.list i64),i64] [i64,.bool] I0):=k0 [(173,[hn 2 6 [] [(.normal,[.t 7 i64,.t 8 i64])],hn 0 3 [.t 7 i64,.t 8 i64] [(.exit 0,[.t 7 i64])]])] (A8 kA (A8 dY B8))
def XJ:A5 (.c0 174 [BK,i64] [i64,i64] JV):=k0 [] B8
def XH:A5 (.c0 136 [BK,i64] [i64,i64,.bool] Gx):=k0 [(136,[hn 2 5 [] [(.normal,[.t 7 i64])]])] (A8 Ny (A8 S9 (A8 XJ B8)))
def T5:A5 (.c0 206 [.str,i64,i64] [i64,i64] CD):=k0 [(206,[hn 0 7 [.t 8 (.int .u64),.t 35 i64] [(.exit 1,[.t 8 (.int .u64)])]])] B8
def dQ:A5 (.c0 131 [] [(.arr 15 (.int .u32))] KM):=k0 [(131,[hn 2 9 [] [(.normal,[.t 3 (.int .u32)])],hn 0 7 [.t 3 (.int .u32),.t 9 i64] [(.exit 2,[.t 3 (.int .u32)])],hn 0 3 [.t 4 i64,.p 1 [.d (.arr 15 (.int .u32))]] [(.exit 0,[.p 1 [.d (.arr 15 (.int .u32))]])]])] B8
def Xh:A5 (.c0 81 [.str] [(.int .u32)] Nl):=k0 [(81,[hn 0 4 [.t 4 (.int .u32),.t 9 i64] [(.exit 0,[.t 4 (.int .u32)])]])] (A8 dQ B8)
def iV:A5 (.c0 237 [.str,i64] [.str,i64,i64] FZ):=k0 [] (A8 T5 (A8 Xh B8))
def RT:A5 (.c0 171 [.str,.str] [.bool] Fp):=k0 [] B8
def cr:A5 (.c0 128 [.str,.str] [.bool] Hl):=k0 [] (A8 RT B8)
def Rl:A5 (.c1 261 0 PD [i64] [i64] Bj):=k1 [(261,[hn 2 6 [.x 0] [(.normal,[.p 0 [.d PD]])]])] (A8 T5 B8)
def TG:A5 (.c1 263 0 PD [i64] [.str] Eu):=k1 [(263,[hn 2 2 [.x 0] [(.normal,[.p 0 [.d PD]])]])] B8
def cQ:A5 (.c1 262 0 PD [] [KD] Et):=k1 [] (A8 Rl (A8 TG B8))
def kB:A5 (.c0 239 [.str] [AW,i64] It):=k0 [] (A8 Rl (A8 cQ (A8 TG (A8 RF B8))))
def ij:A5 (.c0 264 [Bo] [.bool] Lb):=k0 [] B8
def SS:A5 (.c0 86 [AW] [.bool] A6):=k0 [] B8
def mA:A5 (.c0 265 [Bo,AW] [.bool] Oi):=k0 [] (A8 SS B8)
def kE:A5 (.c0 266 [AW,AW] [i64] Nf):=k0 [] (A8 QP (A8 dP B8))
def mz:A5 (.c0 240 [Bo] [.bool] Sz):=k0 [(240,[hn 0 4 [.t 18 i64] [(.ret,[.t 2 .bool]),(.exit 0,[])]])] (A8 ij (A8 RF (A8 mA (A8 kE B8))))
def lz:A5 (.c0 211 [.str] [Bo,i64] J3):=k0 [(211,[⟨0,8,[],[(4,5,AW)],[],[],[.t 5 i64,.t 32 i64,.u 5 AW,.p 4 [.d i64,.d i64,.d i64,.d i64,.d i64,.o 5],.p 0 [.d Bo]],[(.ret,[.t 3 i64,.p 0 [.d Bo],.x 4,.x 5]),(.exit 0,[.t 5 i64,.u 5 AW,.p 4 [.d i64,.d i64,.d i64,.d i64,.d i64,.o 5],.p 0 [.d Bo]])]⟩])] (A8 iV (A8 cr (A8 T5 (A8 kB (A8 mz B8)))))
def fi:A5 (.c0 212 [BK,Bo] [i64] Lf):=k0 [(212,[hn 0 2 [.t 11 i64] [(.ret,[.t 4 i64]),(.exit 0,[])]])] (A8 XJ B8)
def fh:A5 (.c0 175 [BK,Nr] [Bo,.bool] Gc):=k0 [] (A8 lz (A8 fi B8))
def gi:A5 (.c0 179 [Bo,i64] [Bo] NA):=k0 [(243,[hn 0 2 [.t 8 i64] [(.ret,[.t 4 i64]),(.exit 0,[])]]),(214,[hn 0 5 [.t 6 i64,.t 5 i64,.u 3 AW,.g 0 3] [(.exit 0,[.t 5 i64,.u 3 AW,.g 0 3])]])] (A8 QQ B8)
def XI:A5 (.c0 137 [BK] [(.list Bo),(.list i64)] JU):=k0 [(137,[⟨0,5,[(4,BL)],[],[],[],[.t 19 i64,.u 1 BL,.g 4 1],[(.exit 0,[.u 1 BL,.g 4 1])]⟩,⟨0,14,[(2,Bo),(3,i64)],[],[],[],[.t 42 i64,.t 9 i64,.t 10 i64,.u 2 Bo,.g 2 2,.u 3 i64,.g 3 3],[(.exit 2,[.u 2 Bo,.g 2 2,.u 3 i64,.g 3 3])]⟩])] (A8 Ny (A8 fh (A8 I1 (A8 gi B8))))
def ic:A5 (.c0 83 [BK,Cb,i64] [(.list M0)] OW):=k0 [(83,[hn 3 1 [] []]),(135,[hn 0 4 [.t 27 i64,.u 2 M0,.p 3 [.o 2],.y 6 .ready] [(.exit 0,[.u 2 M0,.p 3 [.o 2],.y 6 .ready])]])] (A8 kD (A8 XH (A8 XI B8)))
def UD:A5 (.c0 90 [M0,i64] [.bool] Ia):=k0 [] B8
def fj:A5 (.c1 134 1 i64 [M0] [.bool] Sk):=k1 [] (A8 UD B8)
def ia:A5 (.c0 84 [(.list M0),i64] [i64] LZ):=k0 [(84,[hn 0 1 [.p 0 [.d i64]] [(.ret,[.t 4 i64,.x 0])]]),(133,[hn 0 2 [.t 8 i64,.p 0 [.d i64]] [(.ret,[.t 4 i64,.p 0 [.d i64]]),(.exit 0,[.p 0 [.d i64]])]])] (A8 fj B8)
def mu:A5 (.c0 53 [BK,Cb,i64,i64,i64] [(.list AW),i64] Lh):=k0 [(53,[hn 0 14 [.t 57 i64,.t 17 i64,.m 9 .i64 AW] [(.exit 0,[.t 17 i64,.m 9 .i64 AW])],hn 0 24 [.t 85 i64,.m 9 .i64 AW,.p 11 [.d i64],.p 5 [.d (.list AW)],.p 6 [.d i64]] [(.exit 4,[.m 9 .i64 AW,.p 11 [.d i64],.p 5 [.d (.list AW)],.p 6 [.d i64]]),(.ret,[.m 9 .i64 AW,.p 11 [.d i64],.p 5 [.d (.list AW)],.p 6 [.d i64]])],hn 0 43 [.t 137 i64,.p 5 [.d (.list AW)],.p 6 [.d i64]] [(.exit 8,[.p 5 [.d (.list AW)],.p 6 [.d i64]]),(.ret,[.p 5 [.d (.list AW)],.p 6 [.d i64]])]]),(135,[hn 0 4 [.t 27 i64,.m 9 .i64 AW,.p 11 [.d i64],.p 5 [.d (.list AW)],.p 6 [.d i64],.y 14 .ready] [(.exit 0,[.m 9 .i64 AW,.p 11 [.d i64],.p 5 [.d (.list AW)],.p 6 [.d i64],.y 14 .ready]),(.ret,[.m 9 .i64 AW,.p 11 [.d i64],.p 5 [.d (.list AW)],.p 6 [.d i64],.y 14 .ret])]]),(88,[]),(133,[hn 0 2 [.t 8 i64] [(.ret,[.t 4 i64]),(.exit 0,[])]])] (A8 iZ (A8 ic (A8 ia (A8 SS (A8 XH (A8 XI (A8 UD (A8 O7 B8))))))))
def dR:A5 (.c0 118 [i64] [.bool] HT):=k0 [] B8
def mv:A5 (.c0 164 [] [.str] U5):=k0 [] (A8 RU B8)
def cI:A5 (.c0 165 [.str,i64,i64] [i64] Gq):=k0 [] (A8 T5 B8)
def oX:A5 (.c0 166 [.str] [BJ,.bool] UL):=k0 [(166,[hn 2 9 [.x 0,.x 1] [(.normal,[.p 1 [.d BJ],.p 0 [.d BJ]]),(.ret,[.t 3 .bool,.p 0 [.d BJ],.x 1])],hn 0 3 [.t 13 i64,.p 1 [.d BJ],.p 0 [.d BJ]] [(.ret,[.t 3 .bool,.p 0 [.d BJ],.x 1]),(.exit 0,[.p 1 [.d BJ],.p 0 [.d BJ]])]])] (A8 cI B8)
def ly:A5 (.c0 76 [BJ] [.bool] T9):=k0 [] (A8 dR B8)
def mw:A5 (.c0 77 [BJ] [.bool] So):=k0 [(77,[hn 0 2 [.t 7 i64] [(.ret,[.t 2 .bool]),(.exit 0,[])]])] B8
def cR:A5 (.c1 79 0 Ve [KD] [] Jd):=k1 [(79,[hn 2 3 [] [(.normal,[.t 4 i64])]])] (A8 gJ (A8 RU B8))
def RG:A5 (.c0 52 [BJ] [.str,i64] J2):=k0 [(52,[hn 0 8 [.t 29 i64,.p 1 [.d Ve]] [(.exit 1,[.p 1 [.d Ve]])]])] (A8 ly (A8 mw (A8 gJ (A8 cR (A8 RU (A8 Xh B8))))))
def lw:A5 (.c0 119 [.str] [BJ,i64] Oh):=k0 [] (A8 mv (A8 cI (A8 Xh (A8 oX (A8 RG B8)))))
def qO:A5 (.c0 120 [i64] [BJ] Hh):=k0 [] B8
def XM:A5 (.c0 71 [.str,i64] [BJ,i64] Gy):=k0 [] (A8 dR (A8 lw (A8 qO B8)))
def lr:A5 (.c0 68 [PC] [.bool] Qn):=k0 [(68,[hn 0 4 [.t 36 i64] [(.ret,[.t 2 .bool]),(.exit 0,[])]])] (A8 XM B8)
def lu:A5 (.c0 40 [PC] [.bool] T7):=k0 [] (A8 lr B8)
def Ut:A5 (.c0 41 [BK,Cb] [i64] L5):=k0 [] (A8 Ny (A8 SU B8))
def j8:A5 (.c0 102 [BJ,If] [BJ,i64] PQ):=k0 [] (A8 Yu B8)
def my:A5 (.c0 55 [BJ,AW] [BJ,i64] Sy):=k0 [] (A8 RF (A8 SS (A8 RG (A8 j8 B8))))
def kG:A5 (.c0 24 [BJ,(.list AW)] [BJ,i64] S1):=k0 [(24,[hn 0 2 [.t 12 i64,.p 0 [.d BJ],.p 1 [.d BJ]] [(.ret,[.t 5 i64,.p 1 [.d BJ],.x 0]),(.exit 0,[.p 0 [.d BJ],.p 1 [.d BJ]])]])] (A8 my B8)
def kF:A5 (.c0 21 [BJ,BK,Cb,i64] [BJ,i64] S0):=k0 [] (A8 Ut (A8 RG (A8 mu (A8 kG B8))))
def gj:A5 (.c0 42 [Nq,BK,Cb,i64] [Nq,i64] Ps):=k0 [] (A8 XM (A8 kF (A8 RG B8)))
def ZS:A5 (.c0 16 [PC,BK,Cb,i64,i64] [PC,i64] Fa):=AAW (hs:=XD [(16,[⟨0,11,[],[(3,2,Nq)],[],[],[.t 52 i64,.u 5 Nq,.p 3 [.d i64,.d i64,.o 5],.p 4 [.d i64]],[(.ret,[.p 3 [.d i64,.d i64,.o 5],.p 4 [.d i64],.x 5]),(.exit 0,[.u 5 Nq,.p 3 [.d i64,.d i64,.o 5],.p 4 [.d i64]])]⟩])]) (n:=13) (A8 lu (A8 Ut (A8 gj B8))) (λx=>by kernel_rfl)
def Ro:A5 (.c0 65 [i64] [.str] Gi):=k0 [] B8
def Rm:A5 (.c0 34 [] [.str] IA):=k0 [] (A8 Ro B8)
def SV:A5 (.c0 11 [i64,i64] [PC] F3):=k0 [(11,[⟨0,3,[],[(1,2,Nq)],[],[],[.t 6 i64,.u 2 Nq,.p 1 [.d i64,.d i64,.o 2]],[(.exit 0,[.u 2 Nq,.p 1 [.d i64,.d i64,.o 2]])]⟩])] (A8 Rm B8)
def TH:A5 (.c0 33 [] [Cb] GZ):=k0 [] B8
def Tm:A5 (.c1 13 0 BG [i64] [i64] Gz):=k1 [] B8
def DH:A5 (.c1 13 0 BG [i64] [i64] Aq):=k1 [] (A8 Tm B8)
def Yw:A5 (.c1 59 0 BG [i64] [(.list i64)] Kf):=k1 [(59,[hn 2 6 [.x 1] [(.normal,[.u 1 i64,.g 5 1])],hn 0 3 [.t 6 i64,.u 1 i64,.g 5 1,.p 0 [.d BG]] [(.exit 0,[.u 1 i64,.g 5 1,.p 0 [.d BG]])]])] (A8 DH B8)
def Qj:A5 (.c0 64 [i64,(.list i64)] [.bool] FV):=k0 [(64,[hn 0 4 [.t 5 i64] [(.ret,[.t 4 .bool]),(.exit 0,[])]])] B8
def cq:A5 (.c0 32 [i64,(.list i64)] [BK,i64] Jh):=k0 [] (A8 Qj B8)
def M7:A5 (.c0 44 [BK] [.bool] Er):=k0 [(44,[hn 0 5 [.t 3 i64,.t 4 i64] [(.ret,[.t 2 .bool]),(.exit 0,[])]])] (A8 Qj B8)
def HQ:A5 (.c0 38 [Cb] [i64] Ca):=k0 [] B8
def O0:A5 (.c0 167 [KD] [.bool] DB):=k0 [] B8
def Rq:A5 (.c0 152 [If] [.bool] ID):=k0 [] (A8 O0 B8)
def Y1:A5 (.c0 115 [AW] [AW,.bool] Kj):=k0 [(115,[hn 2 4 [] [(.normal,[.t 13 .bool])],hn 2 8 [.x 2] [(.normal,[.t 5 .bool,.p 2 [.d AW]])],hn 2 13 [] [(.normal,[.t 67 .bool])],hn 2 12 [] [(.normal,[.t 67 .bool])],hn 2 17 [] [(.normal,[.t 91 .bool])]])] (A8 Rq B8)
def Xk:A5 (.c0 116 [i64,i64] [.bool] GL):=k0 [] B8
def Dg:A5 (.c0 67 [AW] [.bool] Cc):=k0 [] (A8 Y1 (A8 Xk B8))
def Cn:A5 (.c0 37 [Cb] [.bool] CT):=k0 [(37,[hn 0 4 [.t 3 i64] [(.ret,[.t 2 .bool]),(.exit 0,[])]])] (A8 HQ (A8 Dg B8))
def Rv:A5 (.c0 106 [BK,i64] [i64,i64] Fm):=k0 [(106,[hn 2 3 [] [(.normal,[.t 5 i64])]])] B8
def QA:A5 (.c0 156 [i64,i64,i64,i64,i64] [.bool] HE):=k0 [] B8
def ET:A5 (.c0 103 [AW] [.bool] A6):=k0 [] B8
def P9:A5 (.c0 190 [AW,AW] [i64] Dj):=k0 [] B8
def Qi:A5 (.c0 146 [(.list AW),AW] [(.list AW),.bool] FU):=k0 [(146,[hn 0 2 [.t 6 i64] [(.exit 0,[.t 6 i64])]])] (A8 P9 B8)
def JA:A5 (.c0 157 [Bo] [.bool] Ep):=k0 [(157,[hn 2 12 [] [(.ret,[.t 2 .bool]),(.normal,[])],hn 0 4 [.t 3 i64] [(.ret,[.t 2 .bool]),(.exit 0,[])]])] (A8 QA (A8 Dg (A8 ET (A8 P9 B8))))
def ay:A5 (.c0 107 [(.list AW),i64,i64,i64,i64,i64] [Bo,i64] Ix):=k0 [(107,[hn 0 4 [.t 14 i64,.p 0 [.d Bo]] [(.ret,[.t 13 i64,.p 0 [.d Bo]]),(.exit 0,[.p 0 [.d Bo]])],hn 0 16 [.t 16 .bool,.t 19 i64] [(.exit 4,[.t 16 .bool])],hn 0 11 [.t 16 .bool,.t 17 i64,.p 1 [.d Bo]] [(.exit 2,[.t 16 .bool,.p 1 [.d Bo]])]])] (A8 QA (A8 Dg (A8 ET (A8 Qi (A8 JA B8)))))
def Dk:A5 (.c0 73 [.str,i64,i64] [.str] Al):=k0 [(73,[hn 0 4 [.t 0 .str,.t 7 i64] [(.exit 0,[.t 0 .str])]])] B8
def aw:A5 (.c0 159 [Bo] [.str] HD):=k0 [] (A8 Dk B8)
def Kb:A5 (.c0 74 [.str] [(.int .u32)] Ev):=k0 [(74,[hn 2 10 [] [(.normal,[.t 3 (.int .u32)])],hn 0 7 [.t 3 (.int .u32),.t 5 i64] [(.exit 2,[.t 3 (.int .u32)])],hn 0 3 [.t 3 (.int .u32),.t 4 i64] [(.exit 0,[.t 3 (.int .u32)])]])] B8
def M5:A5 (.c0 158 [.str] [.str] EF):=k0 [] (A8 Dk (A8 Kb B8))
def aR:A5 (.c0 201 [.str,KD] [.str] F4):=k0 [] (A8 Dk B8)
def Qb:A5 (.c0 160 [AW] [.str,i64] FL):=k0 [] (A8 Dg (A8 Dk (A8 aR B8)))
def Qh:A5 (.c0 108 [Bo] [.str,i64] GQ):=k0 [(108,[hn 0 5 [.t 4 .str,.t 5 i64] [(.exit 0,[.t 4 .str])]])] (A8 JA (A8 aw (A8 M5 (A8 Qb B8))))
def az:A5 (.c0 60 [BK,Cb,i64] [BK,i64] Eb):=k0 [(60,[hn 0 15 [.t 11 i64,.p 2 [.d BK]] [(.ret,[.t 7 i64,.p 2 [.d BK]]),(.exit 0,[.p 2 [.d BK]])],hn 0 22 [.t 13 i64,.u 4 Nr,.p 3 [.d (.list i64),.d i64,.o 4,.d i64,.d i64],.p 2 [.d BK]] [(.ret,[.t 7 i64,.p 2 [.d BK],.x 3,.x 4]),(.exit 2,[.u 4 Nr,.p 3 [.d (.list i64),.d i64,.o 4,.d i64,.d i64],.p 2 [.d BK]])]])] (A8 M7 (A8 Cn (A8 Rv (A8 ay (A8 Qh B8)))))
def Em:A5 (.c0 123 [.str,i64,i64] [i64,i64] Av):=k0 [(123,[hn 0 7 [.t 8 (.int .u64),.t 9 i64] [(.exit 0,[.t 8 (.int .u64)])]])] B8
def P0:A5 (.c0 113 [.str,i64] [.str,i64,i64] By):=k0 [] (A8 Em (A8 Kb B8))
def X4:A5 (.c0 235 [.str,i64,i64] [i64] C1):=k0 [] (A8 Em B8)
def Mj:A5 (.c1 257 0 Ns [i64] [i64] BF):=k1 [] (A8 Em B8)
def M6:A5 (.c1 259 0 Ns [i64] [.str] Ci):=k1 [] B8
def UH:A5 (.c1 258 0 Ns [] [KD] CY):=k1 [] (A8 Mj (A8 M6 B8))
def Qa:A5 (.c0 236 [.str] [AW,i64] Dw):=k0 [] (A8 Mj (A8 UH (A8 M6 (A8 Dg B8))))
def X3:A5 (.c0 204 [.str] [Bo,i64] FT):=k0 [(204,[⟨0,11,[],[(1,5,AW)],[],[],[.t 5 i64,.t 9 i64,.u 2 AW,.p 1 [.d i64,.d i64,.d i64,.d i64,.d i64,.o 2],.p 0 [.d Bo]],[(.ret,[.t 3 i64,.p 0 [.d Bo],.x 1,.x 2]),(.exit 0,[.t 5 i64,.u 2 AW,.p 1 [.d i64,.d i64,.d i64,.d i64,.d i64,.o 2],.p 0 [.d Bo]])]⟩])] (A8 P0 (A8 X4 (A8 Qa (A8 JA B8))))
def U3:A5 (.c0 205 [BK,Bo] [i64] GV):=k0 [(205,[hn 0 2 [.t 5 i64] [(.ret,[.t 4 i64]),(.exit 0,[])]])] (A8 Rv B8)
def X5:A5 (.c0 162 [BK,Nr] [Bo,i64] Dy):=k0 [] (A8 X3 (A8 U3 B8))
def Wm:A5 (.c0 163 [Bo,i64] [Bo] HF):=k0 [(163,[hn 2 8 [.x 2,.x 3] [(.normal,[.u 3 AW,.p 2 [.d i64,.d i64,.d i64,.d i64,.d i64,.o 3]])],⟨0,5,[],[(2,5,AW)],[],[],[.t 6 i64,.u 3 AW,.p 2 [.d i64,.d i64,.d i64,.d i64,.d i64,.o 3]],[(.exit 0,[.u 3 AW,.p 2 [.d i64,.d i64,.d i64,.d i64,.d i64,.o 3]])]⟩])] B8
def ZP:A5 (.c0 111 [BK] [(.list Bo),(.list i64),(.list .bool)] K3):=k0 [(111,[hn 0 14 [.t 11 i64] [(.exit 4,[.t 11 i64])],hn 0 9 [.t 6 (.list Bo),.t 7 (.list i64),.t 8 i64] [(.exit 2,[.t 6 (.list Bo),.t 7 (.list i64)])],hn 0 20 [.t 12 i64,.t 13 i64,.u 1 Bo,.u 2 i64,.u 3 .bool,.g 2 1,.g 3 2,.g 4 3] [(.exit 6,[.u 1 Bo,.u 2 i64,.u 3 .bool,.g 2 1,.g 3 2,.g 4 3])],⟨0,4,[(2,Bo),(3,i64),(4,.bool)],[],[],[],[.t 5 i64,.u 1 Bo,.u 2 i64,.u 3 .bool,.g 2 1,.g 3 2,.g 4 3],[(.exit 0,[.u 1 Bo,.u 2 i64,.u 3 .bool,.g 2 1,.g 3 2,.g 4 3])]⟩])] (A8 M7 (A8 X5 (A8 Wm B8)))
def ZQ:A5 (.c0 112 [(.list Bo),(.list .bool)] [Bo,.bool] K4):=k0 [(112,[hn 0 8 [.t 8 i64,.p 1 [.d Bo]] [(.exit 2,[.p 1 [.d Bo]])],hn 0 3 [.t 7 i64,.p 1 [.d Bo],.p 0 [.d Bo]] [(.ret,[.t 5 .bool,.p 0 [.d Bo],.x 1]),(.exit 0,[.p 1 [.d Bo],.p 0 [.d Bo]])]])] (A8 Qi (A8 JA B8))
def bA:A5 (.c0 63 [BK,i64] [BK,.bool,i64] L3):=k0 [(63,[hn 0 20 [.t 15 .bool,.t 16 i64] [(.exit 4,[.t 15 .bool])],hn 2 24 [.x 3,.x 4] [(.normal,[.u 4 Nr,.p 3 [.d (.list i64),.d i64,.o 4,.d i64,.d i64]])],⟨0,16,[],[(3,2,Nr)],[],[],[.t 14 i64,.u 4 Nr,.p 3 [.d (.list i64),.d i64,.o 4,.d i64,.d i64]],[(.exit 2,[.u 4 Nr,.p 3 [.d (.list i64),.d i64,.o 4,.d i64,.d i64]])]⟩,hn 0 7 [.t 10 i64,.p 1 [.d BK]] [(.ret,[.t 5 .bool,.t 6 i64,.p 1 [.d BK]]),(.exit 0,[.p 1 [.d BK]])]])] (A8 M7 (A8 ZP (A8 ZQ (A8 Qh B8))))
def bB:A5 (.c0 30 [BK,i64] [BK,i64] Iy):=k0 [(30,[hn 0 1 [.p 0 [.d BK],.p 1 [.d BK]] [(.ret,[.t 5 i64,.p 1 [.d BK],.x 0])]])] (A8 bA B8)
def QZ:A5 (.c1 27 0 BG [i64,Cb] [BK] Jn):=k1 [(27,[hn 2 7 [.x 3] [(.normal,[.p 3 [.d BK]])],hn 2 11 [.x 3] [(.normal,[.p 3 [.d BK]])],hn 2 9 [.x 0,.x 3] [(.normal,[.p 0 [.d BG],.p 3 [.d BK]])],hn 0 3 [.t 9 i64,.p 0 [.d BG],.p 3 [.d BK]] [(.exit 0,[.p 0 [.d BG],.p 3 [.d BK]])],hn 2 15 [.x 3] [(.normal,[.p 3 [.d BK]])],hn 2 13 [.x 3] [(.normal,[.p 3 [.d BK]])]])] (A8 Yw (A8 cq (A8 DH (A8 az (A8 bB B8)))))
def Yv:A5 (.c0 8 [] [.bool] H9):=k0 [] (A8 SV (A8 TH (A8 QZ (A8 ZS B8))))
def TI:A5 (.c0 222 [i64] [ER,i64] Jf):=k0 [] B8
def TJ:A5 (.c0 223 [i64] [EH,i64] Mr):=k0 [] B8
def cj:A5 (.c0 197 [i64,i64] [Au,i64] Mu):=k0 [] (A8 TI (A8 TJ (A8 TH B8)))
def Xj:A5 (.c0 224 [i64] [(.list .str)] N5):=k0 [(224,[⟨0,3,[(3,.str)],[],[],[],[.t 4 i64,.u 0 .str,.g 3 0],[(.exit 0,[.u 0 .str,.g 3 0])]⟩])] B8
def cU:A5 (.c0 198 [i64] [FJ,i64] Je):=k0 [] (A8 Xj B8)
def cn:A5 (.c0 153 [i64,i64] [As,i64] Mv):=k0 [] (A8 cj (A8 cU B8))
def U1:A5 (.c1 50 0 BG [] [.str] Hs):=k1 [(50,[hn 2 3 [.x 0] [(.normal,[.t 3 i64,.p 0 [.d BG]])],hn 0 6 [.t 5 i64,.u 1 (.int .u8),.g 4 1,.p 0 [.d BG]] [(.exit 0,[.u 1 (.int .u8),.g 4 1,.p 0 [.d BG]])]])] (A8 DH B8)
def Vp:A5 (.c1 49 0 BG [] [i64] Gr):=k1 [] (A8 DH B8)
def UE:A5 (.c1 234 0 BG [i64] [Es] HH):=k1 [(234,[hn 2 5 [] [(.normal,[.t 15 .bool])],hn 2 4 [] [(.normal,[.t 15 .bool])],hn 2 8 [.x 0,.x 3] [(.normal,[.p 0 [.d BG],.p 3 [.d Es]])],hn 2 11 [.x 0,.x 3] [(.normal,[.p 0 [.d BG],.p 3 [.d Es]])],hn 2 6 [.x 0,.x 3] [(.normal,[.p 0 [.d BG],.p 3 [.d Es]])],hn 2 13 [.x 0,.x 3] [(.normal,[.p 0 [.d BG],.p 3 [.d Es]])]])] (A8 DH (A8 U1 (A8 Vp B8)))
def U2:A5 (.c1 200 0 BG [i64,i64,.bool] [RO] Ht):=k1 [(200,[hn 2 3 [] [(.normal,[.t 11 .bool])],hn 2 12 [.x 0,.x 1] [(.ret,[.p 0 [.d BG],.p 1 [.d RO]]),(.normal,[.p 0 [.d BG],.p 1 [.d RO]])]])] (A8 DH (A8 UE B8))
def S8:A5 (.c1 155 0 BG [i64,i64,.bool] [(.list RO)] Gd):=k1 [(155,[hn 0 3 [.t 10 i64,.u 1 RO,.g 9 1,.p 0 [.d BG]] [(.exit 0,[.u 1 RO,.g 9 1,.p 0 [.d BG]])]])] (A8 DH (A8 U2 B8))
def P4:A5 (.c0 121 [BJ] [.bool] G7):=k0 [] B8
def Rn:A5 (.c0 122 [BJ] [.bool] IB):=k0 [(122,[hn 0 2 [.t 3 i64] [(.ret,[.t 2 .bool]),(.exit 0,[])]])] (A8 O0 B8)
def Yx:A5 (.c0 305 [BJ] [.bool] Kg):=k0 [] (A8 P4 (A8 Rn B8))
def EI:A5 (.c0 274 [ER] [.bool] DE):=k0 [(274,[hn 0 11 [.t 6 i64] [(.ret,[.t 2 .bool]),(.exit 2,[])],hn 0 5 [.t 4 i64] [(.ret,[.t 2 .bool]),(.exit 0,[])]])] (A8 Yx B8)
def Rr:A5 (.c0 360 [BW] [.bool] Gl):=k0 [] B8
def SX:A5 (.c0 361 [BW,BW] [.bool] FH):=k0 [] B8
def KJ:A5 (.c0 347 [BW,BW] [.bool] D2):=k0 [] B8
def N0:A5 (.c0 362 [C6,i64,IQ] [i64] D3):=k0 [(362,[hn 0 2 [.t 7 i64] [(.ret,[.t 6 i64]),(.exit 0,[])]])] B8
def E2:A5 (.c0 324 [C6] [.bool] Dm):=k0 [(324,[hn 0 9 [.t 4 i64] [(.ret,[.t 2 .bool]),(.exit 2,[])],hn 0 4 [.t 3 i64] [(.ret,[.t 2 .bool]),(.exit 0,[])],hn 0 20 [.t 7 i64] [(.ret,[.t 2 .bool]),(.exit 6,[])],hn 0 14 [.t 5 i64] [(.ret,[.t 2 .bool]),(.exit 4,[])]])] (A8 Rr (A8 SX (A8 KJ (A8 N0 B8))))
def ZA:A5 (.c0 336 [Bi] [.bool] Kr):=k0 [(336,[hn 0 6 [.t 3 i64] [(.ret,[.t 2 .bool]),(.exit 0,[])],hn 0 11 [.t 4 i64] [(.ret,[.t 2 .bool]),(.exit 2,[])]])] B8
def E4:A5 (.c0 297 [(.list Bi)] [.bool] Do):=k0 [(297,[hn 0 4 [.t 3 i64] [(.ret,[.t 2 .bool]),(.exit 0,[])]])] (A8 ZA B8)
def cY:A5 (.c0 363 [i64] [.bool] Ga):=k0 [] B8
def Fu:A5 (.c0 325 [EH] [.bool] Dn):=k0 [(325,[hn 0 4 [.t 3 i64] [(.ret,[.t 2 .bool]),(.exit 0,[])]])] (A8 cY B8)
def OP:A5 (.c0 326 [(.list Bl),i64] [.bool] E8):=k0 [(326,[hn 0 2 [.t 5 i64] [(.ret,[.t 4 .bool]),(.exit 0,[])]])] B8
def ZF:A5 (.c0 284 [Au] [.bool] Kv):=k0 [] (A8 Cn (A8 EI (A8 E2 (A8 E4 (A8 Fu (A8 OP B8))))))
def I8:A5 (.c0 285 [Au,i64] [Bl,.bool] En):=k0 [(285,[hn 0 2 [.t 6 i64,.p 1 [.d Bl]] [(.ret,[.t 5 .bool,.p 1 [.d Bl]]),(.exit 0,[.p 1 [.d Bl]])]])] B8
def Bx:A5 (.c0 253 [Au] [.bool] BT):=k0 [(253,[hn 0 4 [.t 3 i64] [(.ret,[.t 2 .bool]),(.exit 0,[])],hn 0 9 [.t 4 i64] [(.ret,[.t 2 .bool]),(.exit 2,[])],hn 0 18 [.t 8 i64] [(.ret,[.t 2 .bool]),(.exit 4,[])],hn 0 23 [.t 9 i64] [(.ret,[.t 2 .bool]),(.exit 6,[])]])] (A8 ZF (A8 I8 B8))
def Jk:A5 (.c0 298 [(.list Bi),i64] [i64] EZ):=k0 [(298,[hn 0 2 [.t 5 i64] [(.ret,[.t 4 i64]),(.exit 0,[])]])] B8
def Rs:A5 (.c0 268 [(.list Bi),i64] [(.list Bi),i64] IH):=k0 [(268,[⟨0,11,[(6,Bi)],[],[],[],[.t 7 i64,.u 0 Bi,.g 6 0],[(.exit 1,[.u 0 Bi,.g 6 0])]⟩])] (A8 E4 (A8 Jk B8))
def ZB:A5 (.c0 245 [Au] [Au,i64,i64] Ks):=k0 [] (A8 Bx (A8 Rs B8))
def ZM:A5 (.c0 225 [As] [As,i64,i64] Kz):=k0 [] (A8 ZB B8)
def Cf:A5 (.c0 233 [i64] [Cw] A4):=k0 [] B8
def X2:A5 (.c0 230 [i64] [Cw] Dx):=k0 [] (A8 Cf B8)
def GH:A5 (.c0 275 [ER,i64] [i64] FI):=k0 [(275,[hn 0 2 [.t 5 i64] [(.ret,[.t 4 i64]),(.exit 0,[])]])] B8
def FK:A5 (.c0 248 [ER,i64] [i64] D4):=k0 [] (A8 EI (A8 GH B8))
def H8:A5 (.c0 272 [ER,i64] [BJ,.bool] Fi):=k0 [] (A8 FK B8)
def Jj:A5 (.c0 15 [Cb] [i64] FG):=k0 [] (A8 Cn (A8 HQ B8))
def I6:A5 (.c0 58 [Cb,i64] [Cb,i64] EG):=k0 [] (A8 Cn (A8 HQ B8))
def I7:A5 (.c0 273 [Au,i64] [Au] Fl):=k0 [(273,[hn 2 3 [.x 0] [(.normal,[.p 0 [.d Au]])]])] (A8 Jj (A8 I6 B8))
def ZC:A5 (.c0 247 [Au,i64] [Au,BJ,i64] Kt):=k0 [] (A8 Bx (A8 H8 (A8 I7 B8)))
def G6:A5 (.c0 72 [BJ] [i64] Dl):=k0 [] (A8 P4 (A8 Rn B8))
def MD:A5 (.c0 45 [BJ] [.str,i64] Dv):=k0 [(45,[hn 2 11 [] [(.normal,[.t 7 i64])],hn 0 7 [.t 5 .str,.t 6 i64] [(.exit 0,[.t 5 .str])]])] (A8 G6 (A8 Dk (A8 Ro (A8 Kb B8))))
def Y0:A5 (.c0 379 [FJ,DG] [.bool] Ki):=k0 [(379,[hn 2 7 [] [(.normal,[.t 59 .bool])],hn 2 13 [.x 2] [(.ret,[.t 4 .bool,.x 2]),(.normal,[.p 2 [.d DG]])],hn 2 11 [.x 2] [(.normal,[.p 2 [.d DG]]),(.ret,[.t 4 .bool,.x 2])],hn 2 9 [.x 2] [(.normal,[.p 2 [.d DG]]),(.ret,[.t 4 .bool,.x 2])],hn 2 8 [.x 2] [(.normal,[.p 2 [.d DG]]),(.ret,[.t 4 .bool,.x 2])]])] B8
def Yy:A5 (.c0 349 [FJ] [.bool] Kh):=k0 [(349,[hn 0 5 [.t 4 i64] [(.ret,[.t 2 .bool]),(.exit 0,[])],hn 0 10 [.t 5 i64] [(.ret,[.t 2 .bool]),(.exit 2,[])],hn 0 15 [.t 6 i64] [(.ret,[.t 2 .bool]),(.exit 4,[])]])] (A8 Y0 B8)
def ME:A5 (.c0 306 [FJ,i64] [i64] GK):=k0 [] (A8 Yy B8)
def P7:A5 (.c0 350 [(.list i64),i64] [(.list i64)] E5):=k0 [(350,[hn 2 6 [.x 0] [(.normal,[.u 0 i64,.g 5 0])],⟨0,3,[(5,i64)],[],[],[],[.t 6 i64,.u 0 i64,.g 5 0],[(.exit 0,[.u 0 i64,.g 5 0])]⟩])] B8
def aQ:A5 (.c0 309 [(.list i64),i64] [(.list i64)] FF):=k0 [(309,[hn 2 7 [.x 0] [(.normal,[.t 6 .bool,.u 0 i64,.g 5 0])],hn 2 10 [.x 0] [(.normal,[.u 0 i64,.g 5 0])],⟨0,4,[(5,i64)],[],[],[],[.t 6 .bool,.t 7 i64,.u 0 i64,.g 5 0],[(.exit 0,[.t 6 .bool,.u 0 i64,.g 5 0])]⟩,hn 2 12 [.x 0] [(.normal,[.u 0 i64,.g 5 0])]])] B8
def Yz:A5 (.c0 276 [FJ,i64,.str] [FJ,i64] Ot):=k0 [(276,[hn 2 16 [.x 7,.x 8,.x 9] [(.normal,[.u 8 DG,.u 9 DG,.g 10 8,.p 7 [.o 4,.d i64,.o 5,.d .bool,.o 9]])],⟨0,13,[(10,DG)],[(7,4,DG)],[],[],[.t 11 i64,.u 8 DG,.u 4 .str,.u 5 i64,.u 9 DG,.g 10 8,.p 7 [.o 4,.d i64,.o 5,.d .bool,.o 9],.p 2 [.o 4,.d i64,.o 5,.d .bool,.o 6],.p 3 [.o 4,.d i64,.o 5,.d .bool,.o 6]],[(.exit 0,[.u 8 DG,.u 4 .str,.u 5 i64,.u 9 DG,.g 10 8,.p 7 [.o 4,.d i64,.o 5,.d .bool,.o 9],.p 2 [.o 4,.d i64,.o 5,.d .bool,.o 6],.p 3 [.o 4,.d i64,.o 5,.d .bool,.o 6]])]⟩,hn 2 29 [.x 2,.x 3,.x 4,.x 7] [(.normal,[.t 12 .bool,.u 4 .str,.p 7 [.o 4,.d i64,.d (.list i64),.d .bool,.o 9],.p 2 [.o 4,.d i64,.d (.list i64),.d .bool,.o 6],.p 3 [.o 4,.d i64,.d (.list i64),.d .bool,.o 6]])],hn 2 26 [.x 2,.x 3,.x 4,.x 7] [(.normal,[.t 12 .bool,.u 4 .str,.p 2 [.o 4,.d i64,.d (.list i64),.d .bool,.o 6],.p 3 [.o 4,.d i64,.d (.list i64),.d .bool,.o 6],.p 7 [.o 4,.d i64,.d (.list i64),.d .bool,.o 9]])],hn 2 24 [.x 2,.x 3,.x 4,.x 7] [(.normal,[.t 12 .bool,.u 4 .str,.p 2 [.o 4,.d i64,.d (.list i64),.d .bool,.o 6],.p 3 [.o 4,.d i64,.d (.list i64),.d .bool,.o 6],.p 7 [.o 4,.d i64,.d (.list i64),.d .bool,.o 9]])],⟨0,20,[],[],[5],[],[.t 12 .bool,.t 13 i64,.u 4 .str,.u 6 DG,.u 4 .str,.u 6 DG,.u 4 .str,.u 9 DG,.p 2 [.o 4,.d i64,.d (.list i64),.d .bool,.o 6],.p 3 [.o 4,.d i64,.d (.list i64),.d .bool,.o 6],.p 7 [.o 4,.d i64,.d (.list i64),.d .bool,.o 9]],[(.exit 2,[.t 12 .bool,.u 4 .str,.u 6 DG,.u 9 DG,.p 2 [.o 4,.d i64,.d (.list i64),.d .bool,.o 6],.p 3 [.o 4,.d i64,.d (.list i64),.d .bool,.o 6],.p 7 [.o 4,.d i64,.d (.list i64),.d .bool,.o 9]])]⟩,hn 2 32 [.x 2,.x 3,.x 4,.x 7] [(.normal,[.u 4 .str,.p 7 [.o 4,.d i64,.d (.list i64),.d .bool,.o 9],.p 2 [.o 4,.d i64,.d (.list i64),.d .bool,.o 6],.p 3 [.o 4,.d i64,.d (.list i64),.d .bool,.o 6]])],hn 2 45 [.x 7] [(.normal,[.p 7 [.o 4,.d i64,.d (.list i64),.d .bool,.o 9]])],hn 2 43 [.x 7] [(.normal,[.p 7 [.o 4,.d i64,.d (.list i64),.d .bool,.o 9]])],hn 2 39 [.x 2,.x 3,.x 4,.x 7] [(.normal,[.u 4 .str,.p 7 [.o 4,.d i64,.d (.list i64),.d .bool,.o 9],.p 2 [.o 4,.d i64,.d (.list i64),.d .bool,.o 6],.p 3 [.o 4,.d i64,.d (.list i64),.d .bool,.o 6]])],hn 0 34 [.t 14 i64,.u 4 .str,.u 6 DG,.u 4 .str,.u 6 DG,.u 4 .str,.u 9 DG,.p 2 [.o 4,.d i64,.d (.list i64),.d .bool,.o 6],.p 3 [.o 4,.d i64,.d (.list i64),.d .bool,.o 6],.p 7 [.o 4,.d i64,.d (.list i64),.d .bool,.o 9]] [(.exit 5,[.u 4 .str,.u 6 DG,.u 9 DG,.p 2 [.o 4,.d i64,.d (.list i64),.d .bool,.o 6],.p 3 [.o 4,.d i64,.d (.list i64),.d .bool,.o 6],.p 7 [.o 4,.d i64,.d (.list i64),.d .bool,.o 9]])]])] (A8 ME (A8 P7 (A8 aQ B8)))
def Kc:A5 (.c0 351 [ER,i64,Rg] [ER] Hj):=k0 [] B8
def Y7:A5 (.c0 310 [ER,i64,i64] [ER,i64] Ou):=k0 [(310,[hn 2 14 [.x 2] [(.normal,[.p 2 [.d Rg]])],hn 2 12 [.x 2] [(.normal,[.p 2 [.d Rg]])]])] (A8 EI (A8 GH (A8 Kc B8)))
def DX:A5 (.c0 315 [(.list Bi),i64] [i64] CE):=k0 [] (A8 Jk B8)
def N1:A5 (.c0 288 [Au,i64] [i64] Ea):=k0 [] (A8 Bx (A8 H8 (A8 I8 B8)))
def Xl:A5 (.c0 316 [Cb,AW] [Cb,i64,i64] Jq):=k0 [] (A8 Cn (A8 HQ (A8 Dg B8)))
def Gg:A5 (.c0 202 [Cb,i64] [AW,i64] Ew):=k0 [] (A8 Cn (A8 HQ B8))
def MF:A5 (.c0 353 [(.list Bi),i64] [(.list Bi)] GO):=k0 [(353,[hn 2 6 [.x 0] [(.normal,[.u 0 Bi,.g 5 0])],⟨0,3,[(5,Bi)],[],[],[],[.t 6 i64,.u 0 Bi,.g 5 0],[(.exit 0,[.u 0 Bi,.g 5 0])]⟩])] B8
def Qe:A5 (.c0 355 [Bi] [Bi] Hd):=k0 [(355,[hn 2 2 [.x 0] [(.normal,[.p 0 [.d Bi]])]])] B8
def Om:A5 (.c0 354 [(.list Bi),i64,Bi] [(.list Bi)] Hk):=k0 [] B8
def Sa:A5 (.c0 317 [(.list Bi),AW] [(.list Bi),i64] F7):=k0 [(317,[hn 2 24 [.x 2] [(.normal,[.u 2 i64,.g 8 2])],⟨0,21,[(8,i64)],[],[],[],[.t 9 i64,.u 2 i64,.g 8 2],[(.exit 2,[.u 2 i64,.g 8 2])]⟩,hn 2 19 [.x 1] [(.ret,[.t 4 (.list Bi),.t 5 i64,.x 1]),(.normal,[.p 1 [.d Bi]])],hn 2 17 [.x 1] [(.normal,[.p 1 [.d Bi]]),(.ret,[.t 4 (.list Bi),.t 5 i64,.x 1])]])] (A8 E4 (A8 Dg (A8 Jk (A8 MF (A8 Qe (A8 Om B8))))))
def cZ:A5 (.c0 356 [EH,i64,Yk] [EH] Ms):=k0 [] B8
def SZ:A5 (.c0 318 [EH,AW] [EH,i64] G9):=k0 [] (A8 Fu (A8 Dg (A8 cZ B8)))
def Fj:A5 (.c0 280 [Au,AW] [Au,i64,i64] EM):=k0 [(280,[hn 2 5 [.x 1,.x 2] [(.ret,[.t 5 i64,.t 6 i64,.p 2 [.d Au],.x 1]),(.normal,[.p 1 [.d AW],.p 2 [.d Au]])],hn 2 10 [.x 1] [(.normal,[.p 1 [.d AW]])]])] (A8 Bx (A8 DX (A8 ET (A8 N1 (A8 Xl (A8 Gg (A8 Sa (A8 SZ B8))))))))
def Wg:A5 (.c0 277 [Au,i64,i64] [Au,i64] JI):=k0 [(277,[hn 2 7 [.x 1,.x 2] [(.ret,[.t 7 i64,.p 1 [.d Au],.x 2]),(.normal,[.p 2 [.d ER],.p 1 [.d Au]])]])] (A8 Bx (A8 Jj (A8 FK (A8 Y7 (A8 Fj B8)))))
def Ru:A5 (.c0 249 [As,Au,BJ] [As,i64] K2):=k0 [] (A8 MD (A8 Yz (A8 Wg B8)))
def ZO:A5 (.c0 228 [As,i64] [As,i64] K1):=k0 [] (A8 ZC (A8 FK (A8 Ru B8)))
def Y8:A5 (.c0 311 [ER] [(.list Bl)] Kn):=k0 [(311,[hn 2 9 [.x 1] [(.normal,[.u 1 Bl,.g 3 1])],⟨0,5,[(3,Bl)],[],[],[],[.t 4 i64,.u 1 Bl,.g 3 1],[(.exit 0,[.u 1 Bl,.g 3 1])]⟩])] (A8 EI (A8 GH B8))
def dV:A5 (.c0 278 [Au] [G4,i64] OG):=k0 [(278,[hn 2 9 [.x 2,.x 3] [(.normal,[.u 3 Bl,.p 2 [.d i64,.d i64,.d (.list Bi),.o 3,.d EH]])],hn 2 14 [.x 2,.x 3] [(.normal,[.u 3 Bl,.p 2 [.d i64,.d i64,.d (.list Bi),.o 3,.d EH]])],hn 0 11 [.t 46 i64,.u 3 Bl,.p 2 [.d i64,.d i64,.d (.list Bi),.o 3,.d EH]] [(.exit 2,[.u 3 Bl,.p 2 [.d i64,.d i64,.d (.list Bi),.o 3,.d EH]])],⟨0,5,[],[(2,3,Bl)],[],[],[.t 5 i64,.u 3 Bl,.p 2 [.d i64,.d i64,.d (.list Bi),.o 3,.d EH]],[(.exit 0,[.u 3 Bl,.p 2 [.d i64,.d i64,.d (.list Bi),.o 3,.d EH]])]⟩])] (A8 Bx (A8 I8 (A8 Y8 B8)))
def Rt:A5 (.c0 312 [G4] [.bool] Gm):=k0 [(312,[hn 0 4 [.t 3 i64] [(.ret,[.t 2 .bool]),(.exit 0,[])]])] (A8 E4 (A8 OP (A8 Fu B8)))
def Wf:A5 (.c0 352 [.str,(.list i64)] [.str] HA):=k0 [(352,[hn 0 2 [.t 0 .str,.t 5 i64] [(.exit 0,[.t 0 .str])]])] (A8 Dk B8)
def Xu:A5 (.c0 313 [(.list Bi)] [.str,i64] Ju):=k0 [(313,[hn 0 5 [.t 4 .str,.t 5 i64] [(.exit 0,[.t 4 .str])]])] (A8 E4 (A8 Dk (A8 Wf B8)))
def Xr:A5 (.c0 314 [EH] [.str,i64] HY):=k0 [(314,[hn 0 5 [.t 4 .str,.t 5 i64] [(.exit 0,[.t 4 .str])]])] (A8 Fu (A8 Dk B8))
def X0:A5 (.c0 279 [G4] [.str,i64] GP):=k0 [(279,[hn 0 9 [.t 6 .str,.t 7 i64] [(.exit 0,[.t 6 .str])]])] (A8 Rt (A8 Xu (A8 Dk (A8 Xr B8))))
def ae:A5 (.c0 250 [Au] [Au,i64,i64] PX):=k0 [] (A8 dV (A8 X0 (A8 Fj (A8 I6 B8))))
def UZ:A5 (.c0 229 [As] [As,i64,i64] KX):=k0 [] (A8 ae B8)
def aP:A5 (.c0 281 [FJ,i64,.str,i64] [FJ,i64] PR):=k0 [] (A8 ME (A8 P7 B8))
def aT:A5 (.c0 319 [i64] [.str] Lk):=k0 [] (A8 Dk (A8 M5 B8))
def Y3:A5 (.c0 320 [AW] [.str] IE):=k0 [] (A8 Qb (A8 M5 B8))
def Y2:A5 (.c0 282 [Cb,i64] [.str] Gj):=k0 [(282,[hn 2 8 [] [(.normal,[.t 5 .str,.t 6 .str])],hn 0 5 [.t 5 .str,.t 6 .str,.t 7 i64] [(.exit 0,[.t 5 .str,.t 6 .str])]])] (A8 Cn (A8 aT (A8 Y3 B8)))
def ZN:A5 (.c0 251 [As,i64,i64,i64] [FJ,.str] K0):=k0 [(251,[hn 2 8 [.x 3] [(.normal,[.p 3 [.d FJ]])],hn 2 4 [.x 2,.x 3] [(.normal,[.p 2 [.d Au],.p 3 [.d FJ]])]])] (A8 FK (A8 MD (A8 I7 (A8 aP (A8 Y2 B8)))))
def aS:A5 (.c0 321 [.str] [Cb,i64] Iu):=k0 [(321,[⟨0,8,[],[(1,1,AW)],[],[],[.t 5 i64,.u 2 AW,.p 1 [.d i64,.o 2,.d i64],.p 0 [.d Cb]],[(.ret,[.t 3 i64,.p 0 [.d Cb],.x 1,.x 2]),(.exit 0,[.u 2 AW,.p 1 [.d i64,.o 2,.d i64],.p 0 [.d Cb]])]⟩])] (A8 P0 (A8 Em (A8 Qa B8)))
def Mk:A5 (.c1 387 0 GG [i64] [i64] CG):=k1 [] (A8 Em B8)
def UI:A5 (.c1 388 0 GG [i64] [(.list i64)] Fq):=k1 [(388,[⟨0,3,[(5,i64)],[],[],[],[.t 6 i64,.u 1 i64,.g 5 1,.p 0 [.d GG]],[(.exit 0,[.u 1 i64,.g 5 1,.p 0 [.d GG]])]⟩])] (A8 Mk B8)
def Xt:A5 (.c0 385 [.str] [(.list Bi),i64] Jt):=k0 [(385,[⟨0,4,[(5,Bi)],[],[],[],[.t 6 i64,.u 1 Bi,.g 5 1,.p 0 [.d GG]],[(.exit 0,[.u 1 Bi,.g 5 1,.p 0 [.d GG]])]⟩])] (A8 Mk (A8 UI (A8 E4 B8)))
def Xq:A5 (.c0 386 [.str] [EH,i64] EY):=k0 [(386,[⟨0,8,[],[(1,0,Yk)],[],[],[.t 7 i64,.u 2 Yk,.p 1 [.o 2]],[(.exit 1,[.u 2 Yk,.p 1 [.o 2]])]⟩])] (A8 Em (A8 Fu B8))
def Xz:A5 (.c0 383 [.str] [G4,i64] C0):=k0 [(383,[⟨0,15,[],[(1,3,Bl)],[],[],[.t 9 i64,.t 11 i64,.u 2 Bl,.p 1 [.d i64,.d i64,.d (.list Bi),.o 2,.d EH]],[(.exit 0,[.t 9 i64,.u 2 Bl,.p 1 [.d i64,.d i64,.d (.list Bi),.o 2,.d EH]])]⟩])] (A8 Em (A8 Xt (A8 Xq (A8 Rt B8))))
def X1:A5 (.c0 380 [Cb] [G4,i64,.bool] OF):=k0 [(380,[hn 0 4 [.t 5 i64,.p 1 [.d G4]] [(.ret,[.t 3 i64,.t 4 .bool,.p 1 [.d G4]]),(.exit 0,[.p 1 [.d G4]])]])] (A8 Cn (A8 Xz B8))
def ZI:A5 (.c0 357 [Cb,i64] [E0,i64] Ov):=k0 [] (A8 X1 (A8 TJ B8))
def ZG:A5 (.c0 381 [(.list Bl),AW] [(.list Bl)] Gn):=k0 [(381,[hn 2 10 [.x 1] [(.normal,[.t 6 .bool,.u 1 Bl,.g 5 1])],hn 2 18 [.x 2] [(.normal,[.p 2 [.d Bl]])],hn 2 15 [.x 2] [(.normal,[.p 2 [.d Bl]]),(.exit 1,[.p 2 [.d Bl]])],hn 2 13 [.x 2] [(.normal,[.t 6 .bool,.p 2 [.d Bl]]),(.exit 1,[.t 6 .bool,.p 2 [.d Bl]])],⟨0,6,[(5,Bl)],[],[],[],[.t 6 .bool,.t 7 i64,.u 1 Bl,.g 5 1],[(.exit 0,[.t 6 .bool,.u 1 Bl,.g 5 1])]⟩,hn 2 21 [.x 1] [(.normal,[.u 1 Bl,.g 5 1])]])] (A8 ET B8)
def ag:A5 (.c0 358 [E0,AW] [E0,i64] Lu):=k0 [(358,[hn 2 2 [.x 0,.x 2] [(.ret,[.t 5 i64,.p 2 [.d E0],.x 0]),(.normal,[.p 0 [.d E0],.p 2 [.d E0]])]])] (A8 DX (A8 Rs (A8 Sa (A8 SZ (A8 ET (A8 ZG B8))))))
def af:A5 (.c0 384 [BW,BW] [.bool] FH):=k0 [] B8
def ah:A5 (.c0 382 [(.list BW),BW] [(.list BW)] Pb):=k0 [(382,[hn 0 2 [.t 5 i64] [(.exit 0,[.t 5 i64])]])] (A8 af B8)
def ZH:A5 (.c0 359 [Cb,(.list Bi)] [(.list BW),i64] Kw):=k0 [(359,[hn 0 6 [.t 6 (.list BW),.t 8 i64] [(.ret,[.t 4 (.list BW),.t 5 i64]),(.exit 2,[.t 6 (.list BW)])],hn 0 3 [.t 6 (.list BW),.t 7 i64] [(.ret,[.t 4 (.list BW),.t 5 i64]),(.exit 0,[.t 6 (.list BW)])]])] (A8 Gg (A8 ah B8))
def Wk:A5 (.c0 322 [Cb,i64] [E0,i64] JL):=k0 [(322,[hn 0 9 [.t 8 i64,.p 2 [.d E0],.p 1 [.d E0]] [(.ret,[.t 5 i64,.p 1 [.d E0],.x 2]),(.exit 0,[.p 2 [.d E0],.p 1 [.d E0]])],hn 2 20 [.x 3] [(.normal,[.u 3 Bi,.g 9 3])],⟨0,17,[(9,Bi)],[],[],[],[.t 10 i64,.u 3 Bi,.g 9 3],[(.exit 2,[.u 3 Bi,.g 9 3])]⟩])] (A8 Cn (A8 ZI (A8 ag (A8 ZH B8))))
def ZL:A5 (.c0 323 [Cb,E0,i64] [Au,i64] Ky):=k0 [(323,[hn 0 8 [.t 11 i64,.p 4 [.d Au],.p 2 [.d Au]] [(.ret,[.t 7 i64,.p 2 [.d Au],.x 4]),(.exit 0,[.p 4 [.d Au],.p 2 [.d Au]])]])] (A8 TI (A8 Bx (A8 Fj B8)))
def an:A5 (.c0 283 [FJ,.str,i64,i64] [As,i64] Pe):=k0 [] (A8 aS (A8 Wk (A8 ZL B8)))
def aq:A5 (.c0 252 [FJ,.str,i64,i64] [As,i64] Pf):=k0 [] (A8 an B8)
def Xp:A5 (.c0 364 [ER] [ER,i64,i64] OC):=k0 [(364,[hn 0 5 [.p 0 [.d ER]] [(.exit 0,[.p 0 [.d ER]])]])] (A8 EI (A8 Kc B8))
def aX:A5 (.c0 365 [ER,i64] [ER,i64] Lo):=k0 [(365,[hn 2 10 [.x 0] [(.normal,[.p 0 [.d i64,.o 2,.d i64]])],hn 2 12 [.x 0] [(.normal,[.p 0 [.d i64,.o 2,.d i64]])]])] (A8 EI (A8 GH B8))
def aa:A5 (.c0 327 [Au] [Au,BJ,.bool,i64] Ls):=k0 [] (A8 Bx (A8 Xp (A8 FK (A8 aX (A8 I7 B8)))))
def am:A5 (.c0 286 [As] [As,i64] Lw):=k0 [(286,[hn 0 1 [.p 0 [.d As],.p 1 [.d As]] [(.ret,[.t 3 i64,.p 1 [.d As],.x 0])]])] (A8 aa (A8 Ru B8))
def cV:A5 (.c0 328 [(.list i64),i64] [.bool] Mp):=k0 [(328,[hn 0 2 [.t 5 i64] [(.ret,[.t 4 .bool]),(.exit 0,[])]])] B8
def aO:A5 (.c0 287 [FJ,i64] [.str,i64] Lj):=k0 [] (A8 ME (A8 cV B8))
def Xi:A5 (.c0 75 [.str] [BJ,i64] Jo):=k0 [(75,[hn 0 14 [.t 7 i64,.p 1 [.d BJ],.p 0 [.d BJ]] [(.ret,[.t 3 i64,.p 0 [.d BJ],.x 1]),(.exit 1,[.p 1 [.d BJ],.p 0 [.d BJ]])]])] (A8 Rm (A8 Em (A8 Kb (A8 MD B8))))
def cT:A5 (.c0 23 [i64] [BJ] Hh):=k0 [] B8
def Vq:A5 (.c0 48 [.str,i64] [BJ,i64] MJ):=k0 [] (A8 Xi (A8 cT B8))
def Y9:A5 (.c0 289 [EH,i64,i64,.str] [BJ,i64] Kp):=k0 [] (A8 Fu (A8 Vq B8))
def Y4:A5 (.c0 203 [AW,(.list AW)] [(.list AW)] Kk):=k0 [] B8
def aU:A5 (.c0 161 [Cb,i64,i64,i64] [(.list AW),i64] PS):=k0 [(161,[hn 0 7 [.t 10 (.list AW),.t 11 i64] [(.ret,[.t 8 (.list AW),.t 9 i64]),(.exit 0,[.t 10 (.list AW),.t 11 i64])]])] (A8 Cn (A8 Gg (A8 ET (A8 Y4 B8))))
def ZK:A5 (.c0 110 [Cb,BJ,i64] [(.list AW),i64] TY):=k0 [] (A8 Cn (A8 G6 (A8 aU B8)))
def Rp:A5 (.c0 104 [BJ,If] [BJ,i64] IC):=k0 [] (A8 Rq B8)
def ZJ:A5 (.c0 56 [BJ,AW] [BJ,i64] Kx):=k0 [] (A8 Dg (A8 ET (A8 G6 (A8 Rp B8))))
def aj:A5 (.c0 62 [Cb,BJ,i64] [BJ,i64,i64] Pd):=k0 [(62,[hn 0 5 [.t 11 i64,.p 1 [.d BJ],.p 2 [.d BJ]] [(.ret,[.t 7 i64,.t 8 i64,.p 2 [.d BJ],.x 1]),(.exit 0,[.p 1 [.d BJ],.p 2 [.d BJ]])]])] (A8 ZK (A8 ZJ B8))
def ai:A5 (.c0 29 [Cb,BJ,i64] [BJ,i64] Pc):=k0 [] (A8 aj B8)
def Xw:A5 (.c0 290 [Au,BJ] [Au,i64] Jx):=k0 [(290,[hn 2 21 [.x 9] [(.normal,[.u 9 Bl,.g 10 9])],⟨0,18,[(10,Bl)],[],[],[],[.t 11 i64,.u 9 Bl,.g 10 9],[(.exit 1,[.u 9 Bl,.g 10 9])]⟩,hn 2 14 [.x 0,.x 3,.x 5,.x 6,.x 7] [(.normal,[.u 6 Rg,.p 0 [.d Au],.p 3 [.d i64,.o 6,.d i64],.p 5 [.d i64,.o 6,.d i64],.p 7 [.d i64,.o 6,.d i64]])]])] (A8 Bx (A8 N1 (A8 EI (A8 G6 (A8 I8 (A8 GH B8))))))
def I9:A5 (.c0 254 [As,i64] [As,i64] Eo):=k0 [] (A8 Bx (A8 FK (A8 am (A8 aO (A8 N1 (A8 Y9 (A8 ai (A8 Xw B8))))))))
def Qg:A5 (.c0 291 [Au,i64] [Bi,.bool] He):=k0 [(291,[hn 2 2 [.x 1] [(.ret,[.t 5 .bool,.p 1 [.d Bi]]),(.normal,[.p 1 [.d Bi]])]])] (A8 Bx (A8 DX B8))
def ak:A5 (.c0 255 [Au] [(.list i64)] Lv):=k0 [(255,[hn 2 7 [.x 1] [(.normal,[.u 1 i64,.g 3 1])],⟨0,3,[(3,i64)],[],[],[],[.t 4 i64,.u 1 i64,.g 3 1],[(.exit 0,[.u 1 i64,.g 3 1])]⟩])] (A8 Qg B8)
def Hq:A5 (.c0 292 [Au,i64] [Bi,i64] E9):=k0 [] (A8 Bx (A8 DX B8))
def Nz:A5 (.c0 331 [(.list BW),i64,.bool,IQ] [(.list BW)] F6):=k0 [(331,[hn 2 6 [.x 1] [(.normal,[.u 1 BW,.g 9 1])],⟨0,3,[(9,BW)],[],[],[],[.t 10 i64,.u 1 BW,.g 9 1],[(.exit 0,[.u 1 BW,.g 9 1])]⟩])] B8
def aV:A5 (.c0 366 [C6,i64] [.bool] Lm):=k0 [(366,[hn 0 2 [.t 5 i64] [(.ret,[.t 4 .bool]),(.exit 0,[])],hn 0 7 [.t 6 i64] [(.ret,[.t 4 .bool]),(.exit 2,[])]])] (A8 KJ B8)
def aW:A5 (.c0 367 [(.list BW),BW] [(.list BW)] Ln):=k0 [(367,[hn 2 7 [.x 1] [(.normal,[.t 6 .bool,.u 1 BW,.g 5 1])],hn 2 10 [.x 1] [(.normal,[.u 1 BW,.g 5 1])],⟨0,4,[(5,BW)],[],[],[],[.t 6 .bool,.t 7 i64,.u 1 BW,.g 5 1],[(.exit 0,[.t 6 .bool,.u 1 BW,.g 5 1])]⟩,hn 2 12 [.x 1] [(.normal,[.u 1 BW,.g 5 1])]])] (A8 SX B8)
def Ig:A5 (.c0 330 [C6] [C6] FN):=k0 [(330,[hn 2 5 [.x 0] [(.normal,[.t 3 i64,.p 0 [.d C6]])],hn 0 2 [.t 3 i64,.p 0 [.d C6]] [(.exit 0,[.p 0 [.d C6]])]])] (A8 aV (A8 aW B8))
def K7:A5 (.c0 293 [C6,i64] [C6] G8):=k0 [] (A8 E2 (A8 Nz (A8 Ig B8)))
def ac:A5 (.c0 294 [Au,i64] [AW,.bool] HB):=k0 [] (A8 Hq (A8 Gg B8))
def Wc:A5 (.c0 332 [If] [If] JC):=k0 [] B8
def Xo:A5 (.c0 368 [ER,BJ] [ER,i64] Js):=k0 [(368,[hn 2 13 [.x 3] [(.normal,[.p 3 [.d Rg]])]])] (A8 EI (A8 G6 (A8 GH (A8 Kc B8))))
def TK:A5 (.c0 333 [Au,AW] [Au,i64] Jg):=k0 [] (A8 Fj (A8 H8 (A8 Xo B8)))
def dU:A5 (.c0 369 [Au,Bi,IQ,i64] [AW,.bool] OE):=k0 [(369,[hn 0 2 [.t 10 i64,.p 3 [.d AW]] [(.ret,[.t 9 .bool,.p 3 [.d AW]]),(.exit 0,[.p 3 [.d AW]])]])] (A8 Gg B8)
def Qf:A5 (.c0 334 [Au,i64,IQ] [AW,.bool] J0):=k0 [] (A8 Hq (A8 dU B8))
def SW:A5 (.c0 335 [C6,i64,IQ] [C6] Ll):=k0 [] (A8 E2 (A8 Nz (A8 Ig B8)))
def Sd:A5 (.c0 295 [Au,Bi,AW] [Au,Cw] F8):=k0 [(295,[hn 2 15 [.x 8] [(.normal,[.p 8 [.d Au]])],hn 2 12 [.x 8] [(.normal,[.p 8 [.d Au]])]])] (A8 H8 (A8 Wc (A8 Rp (A8 Cf (A8 TK (A8 Qf (A8 SW B8)))))))
def Sc:A5 (.c0 256 [Au,i64] [Au,Cw] Iw):=k0 [] (A8 Hq (A8 Cf (A8 Fj (A8 K7 (A8 ac (A8 Sd B8))))))
def au:A5 (.c0 232 [As] [As,.bool,i64] Lx):=k0 [(232,[hn 0 9 [.p 0 [.d As],.p 1 [.d As]] [(.ret,[.t 3 .bool,.t 4 i64,.p 1 [.d As],.x 0])]])] (A8 Bx (A8 I9 (A8 ak (A8 Sc B8))))
def Xv:A5 (.c0 370 [Au,Es] [i64] Jv):=k0 [(370,[hn 2 6 [] [(.normal,[.t 11 .bool])],hn 2 5 [] [(.normal,[.t 11 .bool])],hn 2 11 [.x 2] [(.normal,[.p 2 [.d Es]])],hn 2 18 [] [(.normal,[.t 60 .bool])],hn 2 17 [] [(.normal,[.t 60 .bool])],hn 2 13 [.x 2] [(.ret,[.t 4 i64,.x 2]),(.normal,[.p 2 [.d Es]])],hn 2 7 [.x 2] [(.ret,[.t 4 i64,.x 2]),(.normal,[.p 2 [.d Es]])]])] B8
def Hp:A5 (.c0 302 [C6,i64] [BW,.bool] E7):=k0 [(302,[hn 0 3 [.t 6 i64,.p 1 [.d BW]] [(.ret,[.t 5 .bool,.p 1 [.d BW]]),(.exit 0,[.p 1 [.d BW]])],hn 2 2 [.x 1] [(.ret,[.t 5 .bool,.p 1 [.d BW]]),(.normal,[.p 1 [.d BW]])]])] (A8 E2 B8)
def Sb:A5 (.c0 342 [i64,Es] [BW,.bool] Iv):=k0 [(342,[hn 2 7 [] [(.normal,[.t 20 .bool])]])] B8
def Wj:A5 (.c0 337 [Au,i64,Es] [i64] JK):=k0 [] (A8 Bx (A8 DX (A8 Xv (A8 Hp (A8 Sb B8)))))
def Xy:A5 (.c0 338 [Au,i64] [Au,Cw] Jz):=k0 [(338,[hn 2 3 [.x 1,.x 2,.x 3] [(.normal,[.p 3 [.d Au],.p 1 [.d Au],.p 2 [.d Cw]]),(.ret,[.p 1 [.d Au],.p 2 [.d Cw],.x 3])]])] (A8 DX (A8 MF (A8 Fj (A8 Cf (A8 I7 (A8 K7 B8))))))
def Xm:A5 (.c0 371 [C6,i64] [C6] N7):=k0 [] (A8 E2 (A8 Nz (A8 Ig B8)))
def Wi:A5 (.c0 372 [Au,i64,IQ] [.bool] JJ):=k0 [(372,[hn 0 3 [.t 8 i64] [(.ret,[.t 6 .bool]),(.exit 0,[])]])] (A8 DX (A8 Gg B8))
def ZE:A5 (.c0 339 [Au,i64,i64] [Au,Cw] II):=k0 [(339,[hn 2 15 [.x 3] [(.normal,[.p 3 [.d Au]])],hn 0 12 [.t 12 i64,.p 3 [.d Au]] [(.exit 0,[.p 3 [.d Au]])]])] (A8 Xm (A8 DX (A8 MF (A8 K7 (A8 Fj (A8 Cf (A8 Wi (A8 SW B8))))))))
def Qd:A5 (.c0 373 [(.list Bi),i64] [i64,i64] HZ):=k0 [] (A8 E4 (A8 Jk B8))
def aZ:A5 (.c0 340 [(.list Bi),i64] [(.list Bi),i64] Lr):=k0 [] (A8 Qd (A8 Om B8))
def aY:A5 (.c0 341 [(.list Bi),i64,i64] [(.list Bi),i64] Lq):=k0 [] (A8 Qd (A8 Qe (A8 Om B8)))
def Y5:A5 (.c0 374 [C6,BW] [i64] IF):=k0 [(374,[hn 0 4 [.t 5 i64] [(.ret,[.t 4 i64]),(.exit 0,[])]])] (A8 N0 B8)
def Wd:A5 (.c0 343 [C6,BW] [C6,.bool,i64] NI):=k0 [] (A8 E2 (A8 Rr (A8 Hp (A8 N0 (A8 Y5 (A8 Ig B8))))))
def cX:A5 (.c0 375 [ER,i64] [ER] Mq):=k0 [] (A8 FK (A8 Kc B8))
def Xx:A5 (.c0 344 [Au,i64,Es] [Au,Cw] Jy):=k0 [(344,[hn 2 9 [.x 5] [(.normal,[.p 5 [.d If]])]])] (A8 H8 (A8 cX (A8 TK (A8 Cf B8))))
def SY:A5 (.c0 348 [(.list i64),i64] [(.list i64)] FF):=k0 [(348,[hn 2 7 [.x 0] [(.normal,[.t 6 .bool,.u 0 i64,.g 5 0])],hn 2 10 [.x 0] [(.normal,[.u 0 i64,.g 5 0])],⟨0,4,[(5,i64)],[],[],[],[.t 6 .bool,.t 7 i64,.u 0 i64,.g 5 0],[(.exit 0,[.t 6 .bool,.u 0 i64,.g 5 0])]⟩,hn 2 12 [.x 0] [(.normal,[.u 0 i64,.g 5 0])]])] B8
def We:A5 (.c0 376 [C6] [(.list i64)] JE):=k0 [(376,[hn 0 4 [.t 3 (.list i64),.t 4 i64] [(.exit 0,[.t 3 (.list i64)])],hn 2 3 [] [(.normal,[.t 3 (.list i64)])]])] (A8 E2 (A8 SY B8))
def Ol:A5 (.c0 303 [C6,i64] [(.list i64)] Hi):=k0 [(303,[hn 2 9 [] [(.normal,[.t 7 (.list i64)])],hn 0 6 [.t 7 (.list i64),.t 8 i64] [(.exit 0,[.t 7 (.list i64)])],hn 2 14 [] [(.normal,[.t 7 (.list i64)])],hn 0 11 [.t 7 (.list i64),.t 9 i64] [(.exit 2,[.t 7 (.list i64)])]])] (A8 Hp (A8 KJ (A8 SY B8)))
def Xn:A5 (.c0 377 [C6,(.list i64),i64] [(.list i64)] OA):=AAY (P:=Tryz.prog) (F:=377) (ds:=[C6,(.list i64),i64]) (rs:=[(.list i64)]) (f:=Ef) (hs:=XD [(377,[hn 0 4 [.t 30 i64] [(.ret,[.t 6 (.list i64)]),(.exit 0,[])],hn 0 15 [.t 12 .bool,.t 49 i64] [(.exit 4,[.t 12 .bool])],hn 0 11 [.t 43 i64] [(.ret,[.t 6 (.list i64)]),(.exit 2,[])]])]) (n:=13) (A8 Ol B8) (λg x=>by kernel_rfl)
def Y6:A5 (.c0 345 [C6,i64] [(.list i64)] Kl):=k0 [(345,[hn 0 2 [.t 5 i64] [(.ret,[.t 4 (.list i64)]),(.exit 0,[])]])] (A8 We (A8 Xn B8))
def ZD:A5 (.c0 378 [(.list i64)] [i64] Ku):=k0 [] B8
def cg:A5 (.c0 346 [Au,i64] [i64] Mt):=k0 [] (A8 Ol (A8 ZD B8))
def dT:A5 (.c0 299 [Au,i64,Es] [Au,Cw] OD):=k0 [(299,[hn 2 10 [] [(.normal,[.t 46 .bool])],hn 2 13 [] [(.normal,[.t 9 (.list Bi),.t 10 i64])]])] (A8 Wj (A8 Cf (A8 Xy (A8 ZE (A8 aZ (A8 aY (A8 Sb (A8 Wd (A8 Xx (A8 Y6 (A8 cg B8)))))))))))
def P8:A5 (.c0 300 [As,i64] [.bool] EK):=k0 [] (A8 DX B8)
def Vr:A5 (.c0 301 [As,i64] [As,i64] Eg):=k0 [(301,[hn 2 12 [.x 0,.x 1] [(.ret,[.t 5 i64,.p 1 [.d As],.x 0]),(.normal,[.p 0 [.d As],.p 1 [.d As]])],hn 0 5 [.p 0 [.d As],.p 1 [.d As]] [(.ret,[.t 5 i64,.p 1 [.d As],.x 0]),(.exit 0,[.p 0 [.d As],.p 1 [.d As]])]])] (A8 Bx (A8 DX (A8 P8 (A8 Sc (A8 I9 B8)))))
def dW:A5 (.c0 269 [As,i64,Es] [As,Cw] OH):=k0 [(269,[hn 2 10 [.x 0,.x 2,.x 3] [(.ret,[.p 2 [.d As],.p 3 [.d Cw],.x 0]),(.normal,[.p 0 [.d As],.p 2 [.d As],.p 3 [.d Cw]])],hn 0 1 [.p 0 [.d As],.p 2 [.d As],.p 3 [.d Cw]] [(.ret,[.p 2 [.d As],.p 3 [.d Cw],.x 0])]])] (A8 dT (A8 I9 (A8 Cf (A8 P8 (A8 Vr B8)))))
def Wl:A5 (.c0 270 [Au,i64] [i64,IQ,.bool] JM):=k0 [(270,[hn 0 5 [.t 28 i64,.p 1 [.d IQ]] [(.ret,[.t 4 i64,.t 6 .bool,.p 1 [.d IQ]]),(.exit 0,[.p 1 [.d IQ]])]])] (A8 Hp (A8 Ol (A8 Qg B8)))
def ab:A5 (.c0 304 [Au,i64,IQ] [Au,Cw] Lt):=k0 [] (A8 Hq (A8 Cf (A8 Qf (A8 Sd B8))))
def av:A5 (.c0 271 [As,i64,IQ] [As,i64,i64] Ly):=k0 [(271,[hn 2 8 [.x 0,.x 2] [(.ret,[.t 7 i64,.t 8 i64,.p 2 [.d As],.x 0]),(.normal,[.t 9 i64,.p 0 [.d As],.p 2 [.d As]])],hn 0 2 [.t 9 i64,.p 0 [.d As],.p 2 [.d As]] [(.ret,[.t 7 i64,.t 8 i64,.p 2 [.d As],.x 0])]])] (A8 ab (A8 I9 B8))
def dX:A5 (.c0 246 [As,i64,Es] [As,Cw] OI):=k0 [(246,[hn 0 1 [.p 0 [.d As],.p 2 [.d As],.p 3 [.d Cw]] [(.ret,[.p 2 [.d As],.p 3 [.d Cw],.x 0])]])] (A8 dW (A8 Wl (A8 av (A8 Cf B8))))
def cp:A5 (.c0 154 [As,(.list RO)] [As,(.list Cw),(.list Vd)] Mw):=k0 [(154,[⟨0,4,[(8,Cw)],[(2,18,i64),(2,19,Vd)],[],[],[.t 9 i64,.u 3 Cw,.u 4 i64,.u 5 Vd,.g 8 3,.p 2 [.d As,.o 4,.o 5,.d .bool]],[(.exit 0,[.u 3 Cw,.u 4 i64,.u 5 Vd,.g 8 3,.p 2 [.d As,.o 4,.o 5,.d .bool]])]⟩]),(199,[hn 2 5 [.x 2,.x 4] [(.normal,[.u 4 i64,.p 2 [.d As,.o 4,.o 5,.d .bool]])],hn 2 19 [.x 2] [(.normal,[.p 2 [.d As,.o 4,.o 5,.d .bool]])]]),(226,[hn 2 2 [.x 2] [(.normal,[.p 2 [.d As,.o 4,.o 5,.d .bool]])]]),(227,[hn 2 9 [.x 2,.x 5] [(.normal,[.u 5 Vd,.p 2 [.d As,.o 4,.o 5,.d .bool]])]]),(231,[hn 0 4 [.t 9 i64,.u 4 i64,.p 2 [.d As,.o 4,.o 5,.d .bool]] [(.exit 0,[.u 4 i64,.p 2 [.d As,.o 4,.o 5,.d .bool]])]])] (A8 ZM (A8 X2 (A8 Cf (A8 ZO (A8 UZ (A8 Jj (A8 I6 (A8 ZN (A8 aq (A8 au (A8 dX B8)))))))))))
def Tn:A5 (.c1 105 0 BG [i64,.bool] [As] G0):=k1 [] (A8 DH (A8 cn (A8 S8 (A8 cp B8))))
def UG:A5 (.c1 57 0 BG [i64,.bool] [Au] HI):=k1 [] (A8 Tn B8)
def dS:A5 (.c1 26 0 BG [i64] [i64,Cb] KO):=k1 [] (A8 UG (A8 Jj (A8 I6 B8)))
def bC:A5 (.c0 18 [PC,PC] [.bool] Iz):=k0 [(18,[hn 0 4 [.t 5 i64] [(.ret,[.t 4 .bool]),(.exit 0,[])]])] B8
def To:A5 (.c0 4 [(.list (.int .u8)),(.int .u8),(.int .u8)] [.bool] JY):=k0 [(9,[hn 2 2 [] [(.normal,[.t 0 (.list (.int .u8))])]])] (A8 Yv (A8 dS (A8 QZ (A8 SV (A8 ZS (A8 bC B8))))))
end Go.Proofs.YtimajmppopkomaaGreat
