/- Texts of wip, joined and shortened by wip/tools/pack.py; nothing is assumed. -/
import Derived.Test.YtdbincbpjobdpaaGreatK15
import Derived.Test.YtdbincbpjobdpaaGreatProg
import Derived.KernelRfl
noncomputable section
set_option linter.all false
open Option renaming some->δ,none->ε,bind->σ
open Bool renaming true->ζ,false->η
open List renaming length->θ,replicate->ς
open Go.IntKind renaming wrap->ι
open BitVec renaming ofInt->κ,toNat->π
open Sum renaming elim->ν
open Nat renaming beq->ξ
open Int renaming toNat->ο
open Decidable renaming decide->τ
namespace Go.Proofs.YtdbincbpjobdpaaGreat
open Go Go.Ab Go.Pm
set_option maxRecDepth 100000
def Zb:a? 116 [i64] [.bool] Fo:=k0 [] CC
def NY:a? 63 [i64,i64] [i64] EG:=k0 [] (A7 Zb CC)
def jV:a? 171 [(.list i64)] [i64] KT:=k0 [(171,[f? 3 [8] [2] 0 []])] CC
def XB:a? 170 [BV,BV] [i64] H5:=k0 [] (A7 NY (A7 jV CC))
def Ox:A2 (.c2 338 BV [i64,i64,i64] [] [.fn (.func 170) [] []] Cr):=Q9 (hs:=gi [(338,[e? 1 [10,.u 0 BV,.g 0 0] 0 [.u 0 BV]])]) (n:=13) CC (λl x=>by kernel_rfl)
def QO:A2 (.c2 320 BV [i64,i64,i64] [] [.fn (.func 170) [] []] Es):=Q9 (hs:=gi [(320,[e? 2 [10,11,.u 0 BV,.g 0 0] 0 [10,.u 0 BV,.g 0 0]])]) (n:=13) (A7 Ox CC) (λl x=>by kernel_rfl)
def Mx:A2 (.c2 290 BV [i64,i64] [] [.fn (.func 170) [] []] C4):=Q9 (hs:=gi [(290,[e? 1 [8,.u 0 BV,.g 0 0] 0 [.u 0 BV],e? 4 [9,.u 0 BV,.g 0 0] 2 [.u 0 BV,.g 0 0]])]) (n:=13) (A7 XB CC) (λl x=>by kernel_rfl)
def PV:A2 (.c2 291 BV [i64,i64,i64] [] [.fn (.func 170) [] []] EV):=tH (P:=Tryz.prog) (F:=291) (te:=BV) (ds:=[i64,i64,i64]) (rs:=[]) (post:=[.fn (.func 170) [] []]) (f:=λg p=>CG g p.1 p.2) (hs:=gi [(291,[e? 3 [10,11] 0 [10],e? 9 [13,.u 0 BV,.g 0 0] 2 [.u 0 BV],e? 15 [14,15] 4 [14],e? 21 [17,.u 0 BV,.g 0 0] 6 [.u 0 BV],e? 33 [20,21] 8 [20],c? 28 [20,21],c? 40 [.u 0 BV,.g 0 0],c? 42 [.u 0 BV,.g 0 0],c? 44 [.u 0 BV]])]) (n:=13) (A7 XB (A7 QO CC)) (λg l x=>by kernel_rfl)
def QP:A2 (.c2 251 BV [i64] [] [.fn (.func 170) [] []] Et):=Q9 (hs:=gi [(251,[e? 2 [7,8,.u 0 BV,.g 0 0] 0 [7,.u 0 BV,.g 0 0],e? 7 [6,.u 0 BV,.g 0 0] 2 [.u 0 BV],e? 9 [7,8,.u 0 BV,.g 0 0] 4 [7,.u 0 BV,.g 0 0]])]) (n:=13) (A7 Mx (A7 PV CC)) (λl x=>by kernel_rfl)
def Jh:A2 (.c2 169 BV [] [] [.fn (.func 170) [] []] C0):=Q9 (hs:=gi []) (n:=13) (A7 QP CC) (λl x=>by kernel_rfl)
def Rr:A2 (.cl 252 Ae):=ADe (t:=30) (b:=4) (by kernel_rfl) (by kernel_rfl) (by kernel_rfl)
def lq:a? 186 [(.int .u64)] [i64] QA:=k0 [(186,[c? 2 [.t 0 (.int .u64),2],c? 5 [.t 0 (.int .u64),2],c? 8 [.t 0 (.int .u64),2]])] CC
def Zd:a? 115 [(.int .u64)] [i64] Sy:=k0 [] (A7 lq CC)
def HU:a? 43 [BC] [.bool] Fs:=k0 [(43,[f? 5 [4] [.t 2 .bool] 0 [],f? 13 [5,89] [.t 2 .bool] 2 []])] CC
def iH:a? 88 [Bj] [i64] Ch:=k0 [] CC
def pS:a? 137 [i64,Ae] [.bool] Nz:=k0 [] CC
def pQ:a? 274 [i64] [.bool] H6:=k0 [] CC
def jU:a? 275 [Ks] [.bool] Da:=k0 [] CC
def bi:a? 211 [JH] [.bool] Nx:=k0 [] (A7 pQ (A7 jU CC))
def sq:a? 210 [JH] [.bool] MV:=k0 [] CC
def nj:a? 209 [Ae] [.bool] GR:=k0 [] CC
def nk:a? 212 [Ae] [.bool] Sw:=k0 [] CC
def nl:a? 213 [JH] [.bool] Sx:=k0 [] CC
def Ss:a? 89 [Ae] [.bool] GQ:=k0 [(89,[c? 5 [.t 47 .bool],c? 8 [.t 67 .bool]])] (A7 pS (A7 bi (A7 sq (A7 nj (A7 nk (A7 nl CC))))))
def Jm:a? 44 [Bj] [.bool] HJ:=k0 [(44,[f? 4 [37] [.t 2 .bool] 0 []])] (A7 iH (A7 Ss CC))
def nm:a? 145 [BC,Bj,i64,i64] [i64] PY:=k0 [] (A7 HU (A7 Jm CC))
def Vs:a? 74 [Bj] [i64] N0:=k0 [] (A7 Jm (A7 iH CC))
def Vr:a? 229 [i64,i64] [.bool] Ny:=k0 [] (A7 Zb CC)
def jq:a? 248 [i64] [.bool] Fo:=k0 [] CC
def U6:a? 166 [(.list i64),i64] [i64,.bool] Je:=k0 [(166,[c? 6 [7,8],e? 3 [7,8] 0 [7]])] (A7 Vr (A7 jq CC))
def Za:a? 167 [BC,i64] [i64,i64] J8:=k0 [] CC
def P3:a? 105 [BC,i64] [i64,i64,.bool] Fm:=k0 [(105,[c? 5 [7]])] (A7 HU (A7 U6 (A7 Za CC)))
def Ph:a? 158 [.str,i64,i64] [i64,i64] By:=k0 [(158,[e? 7 [.t 8 (.int .u64),35] 1 [.t 8 (.int .u64)]])] CC
def jW:a? 220 [] [(.arr 15 (.int .u32))] Ky:=k0 [(220,[c? 9 [.t 3 (.int .u32)],e? 7 [.t 3 (.int .u32),9] 2 [.t 3 (.int .u32)],e? 3 [4,g? 1 (.arr 15 (.int .u32))] 0 [g? 1 (.arr 15 (.int .u32))]])] CC
def Zx:a? 144 [.str] [(.int .u32)] OT:=k0 [(144,[e? 4 [.t 4 (.int .u32),9] 0 [.t 4 (.int .u32)]])] (A7 jW CC)
def Zc:a? 156 [.str,i64] [.str,i64,i64] Dm:=k0 [] (A7 Ph (A7 Zx CC))
def TC:a? 232 [.str,.str] [.bool] Eb:=k0 [] CC
def VO:a? 157 [.str,.str] [.bool] E9:=k0 [] (A7 TC CC)
def TZ:b? 314 0 QS [i64] [i64] B6:=k1 [(314,[c? 6 [g? 0 QS]])] (A7 Ph CC)
def VF:b? 316 0 QS [i64] [.str] E6:=k1 [(316,[c? 2 [g? 0 QS]])] CC
def iQ:b? 315 0 QS [] [Ks] E5:=k1 [] (A7 TZ (A7 VF CC))
def pR:a? 288 [.str] [Ae,i64] JX:=k0 [] (A7 TZ (A7 iQ (A7 VF (A7 Ss CC))))
def nu:a? 317 [Bk] [.bool] MN:=k0 [] CC
def MQ:a? 113 [Ae] [.bool] BB:=k0 [] CC
def rS:a? 318 [Bk,Ae] [.bool] Pl:=k0 [] (A7 MQ CC)
def pV:a? 319 [Ae,Ae] [i64] OQ:=k0 [] (A7 NY (A7 jV CC))
def tB:a? 289 [Bk] [.bool] Ux:=k0 [(289,[f? 4 [18] [.t 2 .bool] 0 []])] (A7 nu (A7 Ss (A7 rS (A7 pV CC))))
def rR:a? 249 [.str] [Bk,i64] Kj:=k0 [(249,[⟨0,8,[],[(4,5,Ae)],[],[],[.t 5 i64,.t 32 i64,.u 5 Ae,.p 4 [.d i64,.d i64,.d i64,.d i64,.d i64,.o 5],.p 0 [.d Bk]],[(.ret,[.t 3 i64,.p 0 [.d Bk],.x 4,.x 5]),(.exit 0,[.t 5 i64,.u 5 Ae,.p 4 [.d i64,.d i64,.d i64,.d i64,.d i64,.o 5],.p 0 [.d Bk]])]⟩])] (A7 Zc (A7 VO (A7 Ph (A7 pR (A7 tB CC)))))
def lj:a? 250 [BC,Bk] [i64] MU:=k0 [(250,[f? 2 [11] [4] 0 []])] (A7 Za CC)
def lh:a? 168 [BC,Dq] [Bk,.bool] Gu:=k0 [] (A7 rR (A7 lj CC))
def mr:a? 172 [Bk,i64] [Bk] Nw:=k0 [(176,[f? 2 [8] [4] 0 []]),(110,[e? 5 [6,5,.u 3 Ae,.g 0 3] 0 [5,.u 3 Ae,.g 0 3]])] (A7 Rr CC)
def P4:a? 106 [BC] [(.list Bk),(.list i64)] HH:=k0 [(106,[⟨0,5,[(4,BV)],[],[],[],[.t 19 i64,.u 1 BV,.g 4 1],[(.exit 0,[.u 1 BV,.g 4 1])]⟩,⟨0,14,[(2,Bk),(3,i64)],[],[],[],[.t 42 i64,.t 9 i64,.t 10 i64,.u 2 Bk,.g 2 2,.u 3 i64,.g 3 3],[(.exit 2,[.u 2 Bk,.g 2 2,.u 3 i64,.g 3 3])]⟩])] (A7 HU (A7 lh (A7 Jh (A7 mr CC))))
def nq:a? 146 [BC,Bj,i64] [(.list Np)] PZ:=k0 [(146,[hn 3 1 [] []]),(154,[e? 4 [27,.u 2 Np,.p 3 [.o 2],.y 6 .ready] 0 [.u 2 Np,.p 3 [.o 2],.y 6 .ready]])] (A7 Vs (A7 P3 (A7 P4 CC)))
def WE:a? 152 [Np,i64] [.bool] I9:=k0 [] CC
def ln:b? 222 1 i64 [Np] [.bool] Uh:=k1 [] (A7 WE CC)
def np:a? 147 [(.list Np),i64] [i64] MM:=k0 [(147,[hn 0 1 [g? 0 i64] [(.ret,[4,.x 0])]]),(221,[f? 2 [8,g? 0 i64] [4,g? 0 i64] 0 [g? 0 i64]])] (A7 ln CC)
def jX:a? 92 [BC,Bj,i64,i64,i64] [(.list Ae),i64] HI:=k0 [(92,[e? 14 [57,17,.m 9 .i64 Ae] 0 [17,.m 9 .i64 Ae],hn 0 24 [85,.m 9 .i64 Ae,g? 11 i64,g? 5 (.list Ae),g? 6 i64] [(4,[.m 9 .i64 Ae,g? 11 i64,g? 5 (.list Ae),g? 6 i64]),(.ret,[.m 9 .i64 Ae,g? 11 i64,g? 5 (.list Ae),g? 6 i64])],hn 0 43 [137,g? 5 (.list Ae),g? 6 i64] [(8,[g? 5 (.list Ae),g? 6 i64]),(.ret,[g? 5 (.list Ae),g? 6 i64])]]),(154,[hn 0 4 [27,.m 9 .i64 Ae,g? 11 i64,g? 5 (.list Ae),g? 6 i64,.y 14 .ready] [(0,[.m 9 .i64 Ae,g? 11 i64,g? 5 (.list Ae),g? 6 i64,.y 14 .ready]),(.ret,[.m 9 .i64 Ae,g? 11 i64,g? 5 (.list Ae),g? 6 i64,.y 14 .ret])]]),(150,[]),(221,[f? 2 [8] [4] 0 []])] (A7 nm (A7 nq (A7 np (A7 MQ (A7 P3 (A7 P4 (A7 WE (A7 QK CC))))))))
def SG:A2 (.c2 223 i64 [i64,i64] [] [] Lx):=Q9 (hs:=gi [(223,[e? 1 [6,.u 0 i64,.g 0 0] 0 [.u 0 i64],e? 4 [7,.u 0 i64,.g 0 0] 2 [.u 0 i64,.g 0 0],hn 4 4 [] [(2,[]),(.normal,[])]])]) (n:=13) (A7 Vr CC) (λl x=>by kernel_rfl)
def Vv:A2 (.c0 224 [] [] (λ_=>ε)):=λ_ _ h=>by cases h
def SE:A2 (.c0 225 [] [] (λ_=>ε)):=λ_ _ h=>by cases h
def UJ:A2 (.c0 226 [] [] (λ_=>ε)):=λ_ _ h=>by cases h
def TD:A2 (.c0 227 [] [] (λ_=>ε)):=λ_ _ h=>by cases h
def Ov:A2 (.c0 228 [] [] (λ_=>ε)):=λ_ _ h=>by cases h
def Ru:A2 (.c0 230 [] [] (λ_=>ε)):=λ_ _ h=>by cases h
def U7:A2 (.c0 231 [] [] (λ_=>ε)):=λ_ _ h=>by cases h
def WM:A2 (.c2 155 i64 [i64,i64,i64] [] [] QH):=tH (P:=Tryz.prog) (F:=155) (te:=i64) (ds:=[i64,i64,i64]) (rs:=[]) (post:=[]) (f:=λg p=>OV g p.1 p.2) (hs:=gi [(155,[hn 0 2 [1,2,3,.t 8 .bool,.t 9 .bool,.u 0 i64,.g 0 0] [(.ret,[.u 0 i64])],c? 8 [3,.u 0 i64,.g 0 0],c? 12 [11,12,.u 0 i64,.g 0 0],hn 4 15 [.x 0] [(.normal,[.u 0 i64,.g 0 0]),(.ret,[.u 0 i64])],hn 4 17 [.x 0] [(1,[1,.u 0 i64,.g 0 0]),(.normal,[1,.u 0 i64,.g 0 0])],c? 25 [1,2,.t 8 .bool,.u 0 i64,.g 0 0]])]) (n:=13) (A7 SG (A7 Vv (A7 SE (A7 UJ (A7 TD (A7 Ov (A7 Ru (A7 U7 (A7 Vr CC))))))))) (λg l x=>by kernel_rfl)
def cp:A2 (.c2 94 i64 [] [] [] Lw):=Q9 (hs:=gi []) (n:=13) (A7 WM (A7 Zd CC)) (λl x=>by kernel_rfl)
def XC:a? 98 [Be,Be] [i64] P8:=k0 [] (A7 NY CC)
def lm:a? 102 [Dw,Dw] [i64] P7:=k0 [] (A7 NY CC)
def PU:A2 (.c2 233 Be [i64,i64] [] [.fn (.func 98) [] []] JG):=Q9 (hs:=gi [(233,[e? 1 [8,.u 0 Be,.g 0 0] 0 [.u 0 Be],e? 4 [9,.u 0 Be,.g 0 0] 2 [.u 0 Be,.g 0 0],hn 4 4 [] [(2,[]),(.normal,[])]])]) (n:=13) (A7 XC CC) (λl x=>by kernel_rfl)
def Rt:A2 (.c0 234 [] [] (λ_=>ε)):=λ_ _ h=>by cases h
def PS:A2 (.c0 235 [] [] (λ_=>ε)):=λ_ _ h=>by cases h
def QM:A2 (.c0 236 [] [] (λ_=>ε)):=λ_ _ h=>by cases h
def Pr:A2 (.c0 237 [] [] (λ_=>ε)):=λ_ _ h=>by cases h
def L7:A2 (.c0 238 [] [] (λ_=>ε)):=λ_ _ h=>by cases h
def Ow:A2 (.c0 239 [] [] (λ_=>ε)):=λ_ _ h=>by cases h
def Q8:A2 (.c0 240 [] [] (λ_=>ε)):=λ_ _ h=>by cases h
def SH:A2 (.c2 160 Be [i64,i64,i64] [] [.fn (.func 98) [] []] Ly):=tH (P:=Tryz.prog) (F:=160) (te:=Be) (ds:=[i64,i64,i64]) (rs:=[]) (post:=[.fn (.func 98) [] []]) (f:=λg p=>Kk g p.1 p.2) (hs:=gi [(160,[hn 0 2 [1,2,3,.t 10 .bool,.t 11 .bool,.u 0 Be,.g 0 0] [(.ret,[.u 0 Be])],c? 8 [3,.u 0 Be,.g 0 0],c? 12 [13,14,.u 0 Be,.g 0 0],hn 4 15 [.x 0] [(.normal,[.u 0 Be,.g 0 0]),(.ret,[.u 0 Be])],hn 4 17 [.x 0] [(1,[1,.u 0 Be,.g 0 0]),(.normal,[1,.u 0 Be,.g 0 0])],c? 25 [1,2,.t 10 .bool,.u 0 Be,.g 0 0]])]) (n:=13) (A7 PU (A7 Rt (A7 PS (A7 QM (A7 Pr (A7 L7 (A7 Ow (A7 Q8 (A7 XC CC))))))))) (λg l x=>by kernel_rfl)
def QL:A2 (.c2 97 Be [] [] [.fn (.func 98) [] []] Gf):=Q9 (hs:=gi []) (n:=13) (A7 SH (A7 Zd CC)) (λl x=>by kernel_rfl)
def QN:A2 (.c2 243 Dw [i64,i64] [] [.fn (.func 102) [] []] Er):=Q9 (hs:=gi [(243,[e? 1 [8,.u 0 Dw,.g 0 0] 0 [.u 0 Dw],e? 4 [9,.u 0 Dw,.g 0 0] 2 [.u 0 Dw,.g 0 0],hn 4 4 [] [(2,[]),(.normal,[])]])]) (n:=13) (A7 lm CC) (λl x=>by kernel_rfl)
def TE:A2 (.c0 244 [] [] (λ_=>ε)):=λ_ _ h=>by cases h
def UX:A2 (.c2 163 Dw [i64] [] [.fn (.func 102) [] []] JC):=Q9 (hs:=gi [(163,[e? 2 [7,8,.u 0 Dw,.g 0 0] 0 [7,.u 0 Dw,.g 0 0],e? 7 [6,.u 0 Dw,.g 0 0] 2 [.u 0 Dw],e? 9 [7,8,.u 0 Dw,.g 0 0] 4 [7,.u 0 Dw,.g 0 0],c? 15 [.u 0 Dw,.g 0 0]])]) (n:=13) (A7 QN (A7 TE CC)) (λl x=>by kernel_rfl)
def PR:A2 (.c2 101 Dw [] [] [.fn (.func 102) [] []] EU):=Q9 (hs:=gi []) (n:=13) (A7 UX CC) (λl x=>by kernel_rfl)
def SD:a? 55 [i64,(.list i64)] [.bool] Fj:=k0 [(55,[f? 4 [5] [.t 4 .bool] 0 []])] CC
def VM:a? 17 [i64,(.list i64)] [BC,i64] IN:=k0 [] (A7 SD CC)
def VH:a? 28 [] [Bj] Gq:=k0 [] CC
def ja:a? 164 [i64] [.bool] H6:=k0 [] CC
def su:a? 245 [] [.str] XN:=k0 [] (A7 TF CC)
def iI:a? 246 [.str,i64,i64] [i64] HA:=k0 [] (A7 Ph CC)
def ur:a? 247 [.str] [A6,.bool] WO:=k0 [(247,[hn 2 9 [.x 0,.x 1] [(.normal,[g? 1 A6,g? 0 A6]),(.ret,[.t 3 .bool,g? 0 A6,.x 1])],f? 3 [13,g? 1 A6,g? 0 A6] [.t 3 .bool,g? 0 A6,.x 1] 0 [g? 1 A6,g? 0 A6]])] (A7 iI CC)
def rQ:a? 139 [A6] [.bool] WC:=k0 [] (A7 ja CC)
def sy:a? 140 [A6] [.bool] Uk:=k0 [(140,[f? 2 [7] [.t 2 .bool] 0 []])] CC
def iR:b? 142 0 Xy [Ks] [] KE:=k1 [(142,[c? 3 [4]])] (A7 mK (A7 TF CC))
def Wk:a? 91 [A6] [.str,i64] M0:=k0 [(91,[e? 8 [29,g? 1 Xy] 1 [g? 1 Xy]])] (A7 rQ (A7 sy (A7 mK (A7 iR (A7 TF (A7 Zx CC))))))
def rP:a? 165 [.str] [A6,i64] Pk:=k0 [] (A7 su (A7 iI (A7 Zx (A7 ur (A7 Wk CC)))))
def eU:a? 53 [i64] [A6] DO:=k0 [] CC
def UO:a? 104 [.str,i64] [A6,i64] GS:=k0 [] (A7 ja (A7 rP (A7 eU CC)))
def ms:a? 159 [.str] [Fx] RH:=k0 [] (A7 Ph (A7 UO CC))
def Su:a? 103 [Be] [.bool] Ki:=k0 [(103,[f? 4 [36] [.t 2 .bool] 0 []])] (A7 UO CC)
def pU:a? 95 [.str] [Be,i64] H8:=k0 [(95,[⟨0,13,[],[(1,2,Fx)],[],[],[.t 5 i64,.t 50 i64,.u 2 Fx,.p 1 [.d i64,.d i64,.o 2],.p 0 [.d Be]],[(.ret,[.t 3 i64,.p 0 [.d Be],.x 1,.x 2]),(.exit 0,[.t 5 i64,.u 2 Fx,.p 1 [.d i64,.d i64,.o 2],.p 0 [.d Be]])]⟩])] (A7 Zc (A7 VO (A7 Ph (A7 ms (A7 Su CC)))))
def rN:a? 96 [Be] [.bool] WB:=k0 [] (A7 Su CC)
def UN:a? 48 [(.list Dq)] [(.list Be)] IQ:=k0 [(48,[⟨0,4,[(4,Be)],[],[],[],[.t 12 i64,.m 0 .i64 .bool,.u 1 Be,.g 4 1],[(.exit 0,[.m 0 .i64 .bool,.u 1 Be,.g 4 1])]⟩])] (A7 pU (A7 rN (A7 QL CC)))
def nr:a? 242 [Fx,i64] [i64] Pa:=k0 [] CC
def rO:a? 162 [Be,i64] [i64,.bool] SM:=k0 [(241,[c? 6 [9,10],e? 3 [9,10] 0 [9]])] (A7 nr CC)
def jY:a? 100 [Be,i64] [Fx,.bool] Ui:=k0 [] (A7 Su (A7 rO CC))
def ni:a? 49 [(.list Dq),i64,i64] [(.list Dw)] Sv:=k0 [(49,[hn 3 2 [] []]),(161,[⟨0,1,[],[(2,0,Dw)],[],[],[.t 3 i64,.u 5 Dw,.p 2 [.o 5],.y 4 .ready],[(.exit 0,[.u 5 Dw,.p 2 [.o 5],.y 4 .ready])]⟩])] (A7 UN (A7 jY (A7 PR CC)))
def jp:b? 51 1 Dw [Be] [.bool] TN:=k1 [] CC
def jZ:a? 52 [Be,i64] [A6,i64] RG:=k0 [] (A7 Su (A7 jY (A7 UO CC)))
def lw:a? 90 [BC,Bj] [i64] QI:=k0 [] (A7 HU (A7 Jm CC))
def pP:a? 187 [A6,JH] [A6,i64] Ud:=k0 [] (A7 bi CC)
def tA:a? 117 [A6,Ae] [A6,i64] Uw:=k0 [] (A7 Ss (A7 MQ (A7 Wk (A7 pP CC))))
def cq:a? 64 [A6,(.list Ae)] [A6,i64] LC:=k0 [(64,[f? 2 [12,g? 0 A6,g? 1 A6] [5,g? 1 A6,.x 0] 0 [g? 0 A6,g? 1 A6]])] (A7 tA CC)
def pW:a? 46 [A6,BC,Bj,i64] [A6,i64] Jf:=k0 [] (A7 lw (A7 Wk (A7 jX (A7 cq CC))))
def pT:a? 47 [BC,Bj,i64,i64,i64] [(.list i64),i64,i64,i64] H7:=k0 [(47,[]),(154,[⟨0,4,[],[(4,0,i64)],[],[],[.t 27 i64,.u 9 i64,.p 4 [.o 9],.y 8 .ready],[(.exit 0,[.u 9 i64,.p 4 [.o 9],.y 8 .ready])]⟩])] (A7 jX (A7 Vs (A7 P3 (A7 P4 (A7 cp CC)))))
def mw:a? 14 [(.list Dq),BC,Bj,i64,i64] [A6,Fy,i64] Ca:=k0 [(14,[f? 10 [61,g? 4 A6,g? 5 Fy] [12,g? 4 A6,g? 5 Fy] 1 [g? 4 A6,g? 5 Fy]]),(50,[f? 2 [8,g? 6 Dw] [4,g? 6 Dw] 0 [g? 6 Dw]])] (A7 HU (A7 Jm (A7 UN (A7 ni (A7 jp (A7 jZ (A7 pW (A7 pT (A7 eU CC)))))))))
def VG:a? 29 [i64] [A6] DO:=k0 [] CC
def Vt:b? 19 0 BE [i64] [i64] HK:=k1 [] CC
def CR:b? 19 0 BE [i64] [i64] Aj:=k1 [] (A7 Vt CC)
def VI:a? 293 [i64] [EW,i64] KJ:=k0 [] CC
def VJ:a? 294 [i64] [EM,i64] Nc:=k0 [] CC
def ia:a? 266 [i64,i64] [A3,i64] Ng:=k0 [] (A7 VI (A7 VJ (A7 VH CC)))
def Z0:a? 295 [i64] [(.list .str)] O1:=k0 [(295,[⟨0,3,[(3,.str)],[],[],[],[.t 4 i64,.u 0 .str,.g 3 0],[(.exit 0,[.u 0 .str,.g 3 0])]⟩])] CC
def iT:a? 267 [i64] [FZ,i64] KG:=k0 [] (A7 Z0 CC)
def ic:a? 196 [i64,i64] [A1,i64] Nh:=k0 [] (A7 ia (A7 iT CC))
def XK:b? 333 0 BE [] [.str] IX:=k1 [(333,[c? 3 [3,g? 0 BE],e? 6 [5,.u 1 (.int .u8),.g 4 1,g? 0 BE] 0 [.u 1 (.int .u8),.g 4 1,g? 0 BE]])] (A7 CR CC)
def X9:b? 334 0 BE [] [i64] HB:=k1 [] (A7 CR CC)
def WF:b? 305 0 BE [i64] [E2] Ho:=k1 [(305,[c? 5 [.t 15 .bool],c? 4 [.t 15 .bool],c? 8 [g? 0 BE,g? 3 E2],c? 11 [g? 0 BE,g? 3 E2],c? 6 [g? 0 BE,g? 3 E2],c? 13 [g? 0 BE,g? 3 E2]])] (A7 CR (A7 XK (A7 X9 CC)))
def XL:b? 269 0 BE [i64,i64,.bool] [S4] IY:=k1 [(269,[c? 3 [.t 11 .bool],d? 12 [g? 0 BE,g? 1 S4] [g? 0 BE,g? 1 S4]])] (A7 CR (A7 WF CC))
def U5:b? 198 0 BE [i64,i64,.bool] [(.list S4)] Gw:=k1 [(198,[e? 3 [10,.u 1 S4,.g 9 1,g? 0 BE] 0 [.u 1 S4,.g 9 1,g? 0 BE]])] (A7 CR (A7 XL CC))
def GV:a? 37 [Bj] [i64] Ch:=k0 [] CC
def P5:a? 265 [Ks] [.bool] Da:=k0 [] CC
def Te:a? 195 [JH] [.bool] Il:=k0 [] (A7 P5 CC)
def bw:a? 123 [Ae] [Ae,.bool] LY:=k0 [(123,[c? 4 [.t 13 .bool],c? 8 [.t 5 .bool,g? 2 Ae],c? 13 [.t 67 .bool],c? 12 [.t 67 .bool],c? 17 [.t 91 .bool]])] (A7 Te CC)
def Z1:a? 124 [i64,i64] [.bool] Ga:=k0 [] CC
def Dy:a? 71 [Ae] [.bool] Cq:=k0 [] (A7 bw (A7 Z1 CC))
def CN:a? 36 [Bj] [.bool] B7:=k0 [(36,[f? 4 [3] [.t 2 .bool] 0 []])] (A7 GV (A7 Dy CC))
def RS:a? 259 [A6] [.bool] He:=k0 [] CC
def Tb:a? 260 [A6] [.bool] Ij:=k0 [(260,[f? 2 [3] [.t 2 .bool] 0 []])] (A7 P5 CC)
def bq:a? 376 [A6] [.bool] LU:=k0 [] (A7 RS (A7 Tb CC))
def EQ:a? 345 [EW] [.bool] De:=k0 [(345,[f? 11 [6] [.t 2 .bool] 2 [],f? 5 [4] [.t 2 .bool] 0 []])] (A7 bq CC)
def Tf:a? 432 [Bq] [.bool] G4:=k0 [] CC
def UQ:a? 433 [Bq,Bq] [.bool] FW:=k0 [] CC
def Kw:a? 419 [Bq,Bq] [.bool] EB:=k0 [] CC
def Ot:a? 434 [DR,i64,I2] [i64] EC:=k0 [(434,[f? 2 [7] [6] 0 []])] CC
def FH:a? 395 [DR] [.bool] D2:=k0 [(395,[f? 9 [4] [.t 2 .bool] 2 [],f? 4 [3] [.t 2 .bool] 0 [],f? 20 [7] [.t 2 .bool] 6 [],f? 14 [5] [.t 2 .bool] 4 []])] (A7 Tf (A7 UQ (A7 Kw (A7 Ot CC))))
def cJ:a? 408 [B5] [.bool] Lg:=k0 [(408,[f? 6 [3] [.t 2 .bool] 0 [],f? 11 [4] [.t 2 .bool] 2 []])] CC
def FJ:a? 368 [(.list B5)] [.bool] D4:=k0 [(368,[f? 4 [3] [.t 2 .bool] 0 []])] (A7 cJ CC)
def iX:a? 435 [i64] [.bool] Gr:=k0 [] CC
def GB:a? 396 [EM] [.bool] D3:=k0 [(396,[f? 4 [3] [.t 2 .bool] 0 []])] (A7 iX CC)
def PQ:a? 397 [(.list B9),i64] [.bool] FO:=k0 [(397,[f? 2 [5] [.t 4 .bool] 0 []])] CC
def cO:a? 355 [A3] [.bool] Lk:=k0 [] (A7 CN (A7 EQ (A7 FH (A7 FJ (A7 GB (A7 PQ CC))))))
def Jq:a? 356 [A3,i64] [B9,.bool] Ew:=k0 [(356,[f? 2 [6,g? 1 B9] [.t 5 .bool,g? 1 B9] 0 [g? 1 B9]])] CC
def CO:a? 329 [A3] [.bool] Bp:=k0 [(329,[f? 4 [3] [.t 2 .bool] 0 [],f? 9 [4] [.t 2 .bool] 2 [],f? 18 [8] [.t 2 .bool] 4 [],f? 23 [9] [.t 2 .bool] 6 []])] (A7 cO (A7 Jq CC))
def KQ:a? 369 [(.list B5),i64] [i64] Eg:=k0 [(369,[f? 2 [5] [4] 0 []])] CC
def Tg:a? 339 [(.list B5),i64] [(.list B5),i64] Iq:=k0 [(339,[⟨0,11,[(6,B5)],[],[],[],[.t 7 i64,.u 0 B5,.g 6 0],[(.exit 1,[.u 0 B5,.g 6 0])]⟩])] (A7 FJ (A7 KQ CC))
def cK:a? 321 [A3] [A3,i64,i64] Lh:=k0 [] (A7 CO (A7 Tg CC))
def cV:a? 296 [A1] [A1,i64,i64] Ln:=k0 [] (A7 cK CC)
def Cu:a? 304 [i64] [C9] BL:=k0 [] CC
def aI:a? 301 [i64] [C9] D8:=k0 [] (A7 Cu CC)
def GW:a? 346 [EW,i64] [i64] FX:=k0 [(346,[f? 2 [5] [4] 0 []])] CC
def Fa:a? 324 [EW,i64] [i64] ED:=k0 [] (A7 EQ (A7 GW CC))
def Ig:a? 343 [EW,i64] [A6,.bool] Fv:=k0 [] (A7 Fa CC)
def Hz:a? 11 [Bj] [i64] Ed:=k0 [] (A7 CN (A7 GV CC))
def Jo:a? 76 [Bj,i64] [Bj,i64] EK:=k0 [] (A7 CN (A7 GV CC))
def Jp:a? 344 [A3,i64] [A3] F5:=k0 [(344,[c? 3 [g? 0 A3]])] (A7 Hz (A7 Jo CC))
def cL:a? 323 [A3,i64] [A3,A6,i64] Li:=k0 [] (A7 CO (A7 Ig (A7 Jp CC)))
def HZ:a? 189 [A6] [i64] D1:=k0 [] (A7 RS (A7 Tb CC))
def Db:a? 125 [.str,i64,i64] [.str] Al:=k0 [(125,[e? 4 [.t 0 .str,7] 0 [.t 0 .str]])] CC
def Tc:a? 127 [i64] [.str] G1:=k0 [] CC
def LL:a? 190 [.str] [(.int .u32)] E7:=k0 [(190,[c? 10 [.t 3 (.int .u32)],e? 7 [.t 3 (.int .u32),5] 2 [.t 3 (.int .u32)],e? 3 [.t 3 (.int .u32),4] 0 [.t 3 (.int .u32)]])] CC
def G9:a? 119 [A6] [.str,i64] DD:=k0 [(119,[c? 11 [7],e? 7 [.t 5 .str,6] 0 [.t 5 .str]])] (A7 HZ (A7 Db (A7 Tc (A7 LL CC))))
def bv:a? 452 [FZ,Df] [.bool] LW:=k0 [(452,[c? 7 [.t 59 .bool],d? 13 [.t 4 .bool,.x 2] [g? 2 Df],hn 2 11 [.x 2] [(.normal,[g? 2 Df]),(.ret,[.t 4 .bool,.x 2])],hn 2 9 [.x 2] [(.normal,[g? 2 Df]),(.ret,[.t 4 .bool,.x 2])],hn 2 8 [.x 2] [(.normal,[g? 2 Df]),(.ret,[.t 4 .bool,.x 2])]])] CC
def br:a? 421 [FZ] [.bool] LV:=k0 [(421,[f? 5 [4] [.t 2 .bool] 0 [],f? 10 [5] [.t 2 .bool] 2 [],f? 15 [6] [.t 2 .bool] 4 []])] (A7 bv CC)
def Mv:a? 377 [FZ,i64] [i64] GZ:=k0 [] (A7 br CC)
def RT:a? 422 [(.list i64),i64] [(.list i64)] FL:=k0 [(422,[c? 6 [.u 0 i64,.g 5 0],⟨0,3,[(5,i64)],[],[],[],[.t 6 i64,.u 0 i64,.g 5 0],[(.exit 0,[.u 0 i64,.g 5 0])]⟩])] CC
def eY:a? 380 [(.list i64),i64] [(.list i64)] FV:=k0 [(380,[c? 7 [.t 6 .bool,.u 0 i64,.g 5 0],c? 10 [.u 0 i64,.g 5 0],⟨0,4,[(5,i64)],[],[],[],[.t 6 .bool,.t 7 i64,.u 0 i64,.g 5 0],[(.exit 0,[.t 6 .bool,.u 0 i64,.g 5 0])]⟩,c? 12 [.u 0 i64,.g 5 0]])] CC
def bu:a? 347 [FZ,i64,.str] [FZ,i64] Pt:=k0 [(347,[c? 16 [.u 8 Df,.u 9 Df,.g 10 8,.p 7 [.o 4,.d i64,.o 5,.d .bool,.o 9]],⟨0,13,[(10,Df)],[(7,4,Df)],[],[],[.t 11 i64,.u 8 Df,.u 4 .str,.u 5 i64,.u 9 Df,.g 10 8,.p 7 [.o 4,.d i64,.o 5,.d .bool,.o 9],.p 2 [.o 4,.d i64,.o 5,.d .bool,.o 6],.p 3 [.o 4,.d i64,.o 5,.d .bool,.o 6]],[(.exit 0,[.u 8 Df,.u 4 .str,.u 5 i64,.u 9 Df,.g 10 8,.p 7 [.o 4,.d i64,.o 5,.d .bool,.o 9],.p 2 [.o 4,.d i64,.o 5,.d .bool,.o 6],.p 3 [.o 4,.d i64,.o 5,.d .bool,.o 6]])]⟩,c? 29 [.t 12 .bool,.u 4 .str,.p 7 [.o 4,.d i64,.d (.list i64),.d .bool,.o 9],.p 2 [.o 4,.d i64,.d (.list i64),.d .bool,.o 6],.p 3 [.o 4,.d i64,.d (.list i64),.d .bool,.o 6]],c? 26 [.t 12 .bool,.u 4 .str,.p 2 [.o 4,.d i64,.d (.list i64),.d .bool,.o 6],.p 3 [.o 4,.d i64,.d (.list i64),.d .bool,.o 6],.p 7 [.o 4,.d i64,.d (.list i64),.d .bool,.o 9]],c? 24 [.t 12 .bool,.u 4 .str,.p 2 [.o 4,.d i64,.d (.list i64),.d .bool,.o 6],.p 3 [.o 4,.d i64,.d (.list i64),.d .bool,.o 6],.p 7 [.o 4,.d i64,.d (.list i64),.d .bool,.o 9]],⟨0,20,[],[],[5],[],[.t 12 .bool,.t 13 i64,.u 4 .str,.u 6 Df,.u 4 .str,.u 6 Df,.u 4 .str,.u 9 Df,.p 2 [.o 4,.d i64,.d (.list i64),.d .bool,.o 6],.p 3 [.o 4,.d i64,.d (.list i64),.d .bool,.o 6],.p 7 [.o 4,.d i64,.d (.list i64),.d .bool,.o 9]],[(.exit 2,[.t 12 .bool,.u 4 .str,.u 6 Df,.u 9 Df,.p 2 [.o 4,.d i64,.d (.list i64),.d .bool,.o 6],.p 3 [.o 4,.d i64,.d (.list i64),.d .bool,.o 6],.p 7 [.o 4,.d i64,.d (.list i64),.d .bool,.o 9]])]⟩,c? 32 [.u 4 .str,.p 7 [.o 4,.d i64,.d (.list i64),.d .bool,.o 9],.p 2 [.o 4,.d i64,.d (.list i64),.d .bool,.o 6],.p 3 [.o 4,.d i64,.d (.list i64),.d .bool,.o 6]],c? 45 [.p 7 [.o 4,.d i64,.d (.list i64),.d .bool,.o 9]],c? 43 [.p 7 [.o 4,.d i64,.d (.list i64),.d .bool,.o 9]],c? 39 [.u 4 .str,.p 7 [.o 4,.d i64,.d (.list i64),.d .bool,.o 9],.p 2 [.o 4,.d i64,.d (.list i64),.d .bool,.o 6],.p 3 [.o 4,.d i64,.d (.list i64),.d .bool,.o 6]],e? 34 [14,.u 4 .str,.u 6 Df,.u 4 .str,.u 6 Df,.u 4 .str,.u 9 Df,.p 2 [.o 4,.d i64,.d (.list i64),.d .bool,.o 6],.p 3 [.o 4,.d i64,.d (.list i64),.d .bool,.o 6],.p 7 [.o 4,.d i64,.d (.list i64),.d .bool,.o 9]] 5 [.u 4 .str,.u 6 Df,.u 9 Df,.p 2 [.o 4,.d i64,.d (.list i64),.d .bool,.o 6],.p 3 [.o 4,.d i64,.d (.list i64),.d .bool,.o 6],.p 7 [.o 4,.d i64,.d (.list i64),.d .bool,.o 9]]])] (A7 Mv (A7 RT (A7 eY CC)))
def LM:a? 423 [EW,i64,TS] [EW] IL:=k0 [] CC
def cF:a? 381 [EW,i64,i64] [EW,i64] Pu:=k0 [(381,[c? 14 [g? 2 TS],c? 12 [g? 2 TS]])] (A7 EQ (A7 GW (A7 LM CC)))
def Dp:a? 386 [(.list B5),i64] [i64] Cb:=k0 [] (A7 KQ CC)
def D5:a? 200 [Ae] [.bool] BB:=k0 [] CC
def Ou:a? 359 [A3,i64] [i64] Eh:=k0 [] (A7 CO (A7 Ig (A7 Jq CC)))
def Z2:a? 25 [Bj,Ae] [Bj,i64,i64] KV:=k0 [] (A7 CN (A7 GV (A7 Dy CC)))
def G0:a? 387 [Bj,i64] [Ae,i64] E8:=k0 [] (A7 CN (A7 GV CC))
def Mw:a? 425 [(.list B5),i64] [(.list B5)] Gc:=k0 [(425,[c? 6 [.u 0 B5,.g 5 0],⟨0,3,[(5,B5)],[],[],[],[.t 6 i64,.u 0 B5,.g 5 0],[(.exit 0,[.u 0 B5,.g 5 0])]⟩])] CC
def R7:a? 427 [B5] [B5] IG:=k0 [(427,[c? 2 [g? 0 B5]])] CC
def Pq:a? 426 [(.list B5),i64,B5] [(.list B5)] IM:=k0 [] CC
def UT:a? 388 [(.list B5),Ae] [(.list B5),i64] GM:=k0 [(388,[c? 24 [.u 2 i64,.g 8 2],⟨0,21,[(8,i64)],[],[],[],[.t 9 i64,.u 2 i64,.g 8 2],[(.exit 2,[.u 2 i64,.g 8 2])]⟩,d? 19 [.t 4 (.list B5),5,.x 1] [g? 1 B5],hn 2 17 [.x 1] [(.normal,[g? 1 B5]),(.ret,[.t 4 (.list B5),5,.x 1])]])] (A7 FJ (A7 Dy (A7 KQ (A7 Mw (A7 R7 (A7 Pq CC))))))
def iY:a? 428 [EM,i64,Dw] [EM] Nd:=k0 [] CC
def US:a? 389 [EM,Ae] [EM,i64] Hg:=k0 [] (A7 GB (A7 Dy (A7 iY CC)))
def Fz:a? 351 [A3,Ae] [A3,i64,i64] ET:=k0 [(351,[d? 5 [5,6,g? 2 A3,.x 1] [g? 1 Ae,g? 2 A3],c? 10 [g? 1 Ae]])] (A7 CO (A7 Dp (A7 D5 (A7 Ou (A7 Z2 (A7 G0 (A7 UT (A7 US CC))))))))
def Y5:a? 348 [A3,i64,i64] [A3,i64] Jz:=k0 [(348,[d? 7 [7,g? 1 A3,.x 2] [g? 2 EW,g? 1 A3]])] (A7 CO (A7 Hz (A7 Fa (A7 cF (A7 Fz CC)))))
def Tj:a? 325 [A1,A3,A6] [A1,i64] Lr:=k0 [] (A7 G9 (A7 bu (A7 Y5 CC)))
def cY:a? 299 [A1,i64] [A1,i64] Lq:=k0 [] (A7 cL (A7 Fa (A7 Tj CC)))
def cH:a? 382 [EW] [(.list B9)] Lc:=k0 [(382,[c? 9 [.u 1 B9,.g 3 1],⟨0,5,[(3,B9)],[],[],[],[.t 4 i64,.u 1 B9,.g 3 1],[(.exit 0,[.u 1 B9,.g 3 1])]⟩])] (A7 EQ (A7 GW CC))
def jf:a? 349 [A3] [HX,i64] PC:=k0 [(349,[c? 9 [.u 3 B9,.p 2 [.d i64,.d i64,.d (.list B5),.o 3,.d EM]],c? 14 [.u 3 B9,.p 2 [.d i64,.d i64,.d (.list B5),.o 3,.d EM]],e? 11 [46,.u 3 B9,.p 2 [.d i64,.d i64,.d (.list B5),.o 3,.d EM]] 2 [.u 3 B9,.p 2 [.d i64,.d i64,.d (.list B5),.o 3,.d EM]],⟨0,5,[],[(2,3,B9)],[],[],[.t 5 i64,.u 3 B9,.p 2 [.d i64,.d i64,.d (.list B5),.o 3,.d EM]],[(.exit 0,[.u 3 B9,.p 2 [.d i64,.d i64,.d (.list B5),.o 3,.d EM]])]⟩])] (A7 CO (A7 Jq (A7 cH CC)))
def Th:a? 383 [HX] [.bool] G5:=k0 [(383,[f? 4 [3] [.t 2 .bool] 0 []])] (A7 FJ (A7 PQ (A7 GB CC)))
def Y4:a? 424 [.str,(.list i64)] [.str] Hh:=k0 [(424,[e? 2 [.t 0 .str,5] 0 [.t 0 .str]])] (A7 Db CC)
def aA:a? 384 [(.list B5)] [.str,i64] KZ:=k0 [(384,[e? 5 [.t 4 .str,5] 0 [.t 4 .str]])] (A7 FJ (A7 Db (A7 Y4 CC)))
def Z8:a? 385 [EM] [.str,i64] ID:=k0 [(385,[e? 5 [.t 4 .str,5] 0 [.t 4 .str]])] (A7 GB (A7 Db CC))
def aG:a? 350 [HX] [.str,i64] Gd:=k0 [(350,[e? 9 [.t 6 .str,7] 0 [.t 6 .str]])] (A7 Th (A7 aA (A7 Db (A7 Z8 CC))))
def fL:a? 326 [A3] [A3,i64,i64] Ql:=k0 [] (A7 jf (A7 aG (A7 Fz (A7 Jo CC))))
def Wl:a? 300 [A1] [A1,i64,i64] K8:=k0 [] (A7 fL CC)
def eX:a? 352 [FZ,i64,.str,i64] [FZ,i64] Qg:=k0 [] (A7 Mv (A7 RT CC))
def Jn:a? 126 [.str] [.str] Dc:=k0 [] (A7 Db (A7 LL CC))
def fA:a? 390 [i64] [.str] MY:=k0 [] (A7 Db (A7 Jn CC))
def eZ:a? 271 [.str,Ks] [.str] GJ:=k0 [] (A7 Db CC)
def R5:a? 204 [Ae] [.str,i64] Fc:=k0 [] (A7 Dy (A7 Db (A7 eZ CC)))
def cA:a? 391 [Ae] [.str] Im:=k0 [] (A7 R5 (A7 Jn CC))
def bx:a? 353 [Bj,i64] [.str] G2:=k0 [(353,[c? 8 [.t 5 .str,.t 6 .str],e? 5 [.t 5 .str,.t 6 .str,7] 0 [.t 5 .str,.t 6 .str]])] (A7 CN (A7 fA (A7 cA CC)))
def cX:a? 327 [A1,i64,i64,i64] [FZ,.str] Lo:=k0 [(327,[c? 8 [g? 3 FZ],c? 4 [g? 2 A3,g? 3 FZ]])] (A7 Fa (A7 G9 (A7 Jp (A7 eX (A7 bx CC)))))
def Ev:a? 206 [.str,i64,i64] [i64,i64] Ay:=k0 [(206,[e? 7 [.t 8 (.int .u64),9] 0 [.t 8 (.int .u64)]])] CC
def RR:a? 133 [.str,i64] [.str,i64,i64] CQ:=k0 [] (A7 Ev (A7 LL CC))
def NU:b? 335 0 Oc [i64] [i64] BQ:=k1 [] (A7 Ev CC)
def Nt:b? 337 0 Oc [i64] [.str] Cy:=k1 [] CC
def WI:b? 336 0 Oc [] [Ks] Cm:=k1 [] (A7 NU (A7 Nt CC))
def R4:a? 307 [.str] [Ae,i64] D7:=k0 [] (A7 NU (A7 WI (A7 Nt (A7 Dy CC))))
def ej:a? 392 [.str] [Bj,i64] JZ:=k0 [(392,[⟨0,8,[],[(1,1,Ae)],[],[],[.t 5 i64,.u 2 Ae,.p 1 [.d i64,.o 2,.d i64],.p 0 [.d Bj]],[(.ret,[.t 3 i64,.p 0 [.d Bj],.x 1,.x 2]),(.exit 0,[.u 2 Ae,.p 1 [.d i64,.o 2,.d i64],.p 0 [.d Bj]])]⟩])] (A7 RR (A7 Ev (A7 R4 CC)))
def NV:b? 462 0 GU [i64] [i64] Cc:=k1 [] (A7 Ev CC)
def WJ:b? 463 0 GU [i64] [(.list i64)] F9:=k1 [(463,[⟨0,3,[(5,i64)],[],[],[],[.t 6 i64,.u 1 i64,.g 5 1,.p 0 [.d GU]],[(.exit 0,[.u 1 i64,.g 5 1,.p 0 [.d GU]])]⟩])] (A7 NV CC)
def Z9:a? 460 [.str] [(.list B5),i64] KY:=k0 [(460,[⟨0,4,[(5,B5)],[],[],[],[.t 6 i64,.u 1 B5,.g 5 1,.p 0 [.d GU]],[(.exit 0,[.u 1 B5,.g 5 1,.p 0 [.d GU]])]⟩])] (A7 NV (A7 WJ (A7 FJ CC)))
def Z7:a? 461 [.str] [EM,i64] Ef:=k0 [(461,[⟨0,8,[],[(1,0,Dw)],[],[],[.t 7 i64,.u 2 Dw,.p 1 [.o 2]],[(.exit 1,[.u 2 Dw,.p 1 [.o 2]])]⟩])] (A7 Ev (A7 GB CC))
def aF:a? 457 [.str] [HX,i64] DE:=k0 [(457,[⟨0,15,[],[(1,3,B9)],[],[],[.t 9 i64,.t 11 i64,.u 2 B9,.p 1 [.d i64,.d i64,.d (.list B5),.o 2,.d EM]],[(.exit 0,[.t 9 i64,.u 2 B9,.p 1 [.d i64,.d i64,.d (.list B5),.o 2,.d EM]])]⟩])] (A7 Ev (A7 Z9 (A7 Z7 (A7 Th CC))))
def aH:a? 453 [Bj] [HX,i64,.bool] PB:=k0 [(453,[f? 4 [5,g? 1 HX] [3,.t 4 .bool,g? 1 HX] 0 [g? 1 HX]])] (A7 CN (A7 aF CC))
def cR:a? 429 [Bj,i64] [FE,i64] Pv:=k0 [] (A7 aH (A7 VJ CC))
def cP:a? 454 [(.list B9),Ae] [(.list B9)] G6:=k0 [(454,[c? 10 [.t 6 .bool,.u 1 B9,.g 5 1],c? 18 [g? 2 B9],hn 2 15 [.x 2] [(.normal,[g? 2 B9]),(1,[g? 2 B9])],hn 2 13 [.x 2] [(.normal,[.t 6 .bool,g? 2 B9]),(1,[.t 6 .bool,g? 2 B9])],⟨0,6,[(5,B9)],[],[],[],[.t 6 .bool,.t 7 i64,.u 1 B9,.g 5 1],[(.exit 0,[.t 6 .bool,.u 1 B9,.g 5 1])]⟩,c? 21 [.u 1 B9,.g 5 1]])] (A7 D5 CC)
def fN:a? 430 [FE,Ae] [FE,i64] Mh:=k0 [(430,[d? 2 [5,g? 2 FE,.x 0] [g? 0 FE,g? 2 FE]])] (A7 Dp (A7 Tg (A7 UT (A7 US (A7 D5 (A7 cP CC))))))
def fM:a? 458 [Bq,Bq] [.bool] FW:=k0 [] CC
def fO:a? 455 [(.list Bq),Bq] [(.list Bq)] Qp:=k0 [(455,[e? 2 [5] 0 [5]])] (A7 fM CC)
def cQ:a? 431 [Bj,(.list B5)] [(.list Bq),i64] Ll:=k0 [(431,[f? 6 [.t 6 (.list Bq),8] [.t 4 (.list Bq),5] 2 [.t 6 (.list Bq)],f? 3 [.t 6 (.list Bq),7] [.t 4 (.list Bq),5] 0 [.t 6 (.list Bq)]])] (A7 G0 (A7 fO CC))
def Y8:a? 393 [Bj,i64] [FE,i64] J2:=k0 [(393,[f? 9 [8,g? 2 FE,g? 1 FE] [5,g? 1 FE,.x 2] 0 [g? 2 FE,g? 1 FE],c? 20 [.u 3 B5,.g 9 3],⟨0,17,[(9,B5)],[],[],[],[.t 10 i64,.u 3 B5,.g 9 3],[(.exit 2,[.u 3 B5,.g 9 3])]⟩])] (A7 CN (A7 cR (A7 fN (A7 cQ CC))))
def cU:a? 394 [Bj,FE,i64] [A3,i64] Lm:=k0 [(394,[f? 8 [11,g? 4 A3,g? 2 A3] [7,g? 2 A3,.x 4] 0 [g? 4 A3,g? 2 A3]])] (A7 VI (A7 CO (A7 Fz CC)))
def fT:a? 354 [FZ,.str,i64,i64] [A1,i64] Qs:=k0 [] (A7 ej (A7 Y8 (A7 cU CC)))
def fU:a? 328 [FZ,.str,i64,i64] [A1,i64] Qt:=k0 [] (A7 fT CC)
def Z6:a? 436 [EW] [EW,i64,i64] O8:=k0 [(436,[e? 5 [g? 0 EW] 0 [g? 0 EW]])] (A7 EQ (A7 LM CC))
def fE:a? 437 [EW,i64] [EW,i64] Mc:=k0 [(437,[c? 10 [.p 0 [.d i64,.o 2,.d i64]],c? 12 [.p 0 [.d i64,.o 2,.d i64]]])] (A7 EQ (A7 GW CC))
def fH:a? 398 [A3] [A3,A6,.bool,i64] Mf:=k0 [] (A7 CO (A7 Z6 (A7 Fa (A7 fE (A7 Jp CC)))))
def fS:a? 357 [A1] [A1,i64] Mj:=k0 [(357,[hn 0 1 [g? 0 A1,g? 1 A1] [(.ret,[3,g? 1 A1,.x 0])]])] (A7 fH (A7 Tj CC))
def iU:a? 399 [(.list i64),i64] [.bool] Na:=k0 [(399,[f? 2 [5] [.t 4 .bool] 0 []])] CC
def eW:a? 358 [FZ,i64] [.str,i64] MX:=k0 [] (A7 Mv (A7 iU CC))
def Ta:a? 73 [] [.str] Ii:=k0 [] (A7 Tc CC)
def Zz:a? 188 [.str] [A6,i64] Ec:=k0 [(188,[f? 14 [7,g? 1 A6,g? 0 A6] [3,g? 0 A6,.x 1] 1 [g? 1 A6,g? 0 A6]])] (A7 Ta (A7 Ev (A7 LL (A7 G9 CC))))
def Kv:a? 118 [.str,i64] [A6,i64] Cv:=k0 [] (A7 Zz (A7 VG CC))
def cI:a? 360 [EM,i64,i64,.str] [A6,i64] Le:=k0 [] (A7 GB (A7 Kv CC))
def cC:a? 459 [Ae,(.list Ae)] [(.list Ae)] LZ:=k0 [] CC
def fB:a? 456 [Bj,i64,i64,i64] [(.list Ae),i64] Qh:=k0 [(456,[f? 7 [.t 10 (.list Ae),11] [.t 8 (.list Ae),9] 0 [.t 10 (.list Ae),11]])] (A7 CN (A7 G0 (A7 D5 (A7 cC CC))))
def cT:a? 438 [Bj,A6,i64] [(.list Ae),i64] Vb:=k0 [] (A7 CN (A7 HZ (A7 fB CC)))
def Td:a? 264 [A6,JH] [A6,i64] Ik:=k0 [] (A7 Te CC)
def Ti:a? 194 [A6,Ae] [A6,i64] Is:=k0 [] (A7 Dy (A7 D5 (A7 HZ (A7 Td CC))))
def fQ:a? 400 [Bj,A6,i64] [A6,i64,i64] Qr:=k0 [(400,[f? 5 [11,g? 1 A6,g? 2 A6] [7,8,g? 2 A6,.x 1] 0 [g? 1 A6,g? 2 A6]])] (A7 cT (A7 Ti CC))
def fP:a? 361 [Bj,A6,i64] [A6,i64] Qq:=k0 [] (A7 fQ CC)
def aC:a? 362 [A3,A6] [A3,i64] Kc:=k0 [(362,[c? 21 [.u 9 B9,.g 10 9],⟨0,18,[(10,B9)],[],[],[],[.t 11 i64,.u 9 B9,.g 10 9],[(.exit 1,[.u 9 B9,.g 10 9])]⟩,c? 14 [.u 6 TS,g? 0 A3,.p 3 [.d i64,.o 6,.d i64],.p 5 [.d i64,.o 6,.d i64],.p 7 [.d i64,.o 6,.d i64]]])] (A7 CO (A7 Ou (A7 EQ (A7 HZ (A7 Jq (A7 GW CC))))))
def Jr:a? 330 [A1,i64] [A1,i64] Ex:=k0 [] (A7 CO (A7 Fa (A7 fS (A7 eW (A7 Ou (A7 cI (A7 fP (A7 aC CC))))))))
def R9:a? 363 [A3,i64] [B5,.bool] IH:=k0 [(363,[d? 2 [.t 5 .bool,g? 1 B5] [g? 1 B5]])] (A7 CO (A7 Dp CC))
def fR:a? 331 [A3] [(.list i64)] Mi:=k0 [(331,[c? 7 [.u 1 i64,.g 3 1],⟨0,3,[(3,i64)],[],[],[],[.t 4 i64,.u 1 i64,.g 3 1],[(.exit 0,[.u 1 i64,.g 3 1])]⟩])] (A7 R9 CC)
def IW:a? 364 [A3,i64] [B5,i64] FQ:=k0 [] (A7 CO (A7 Dp CC))
def Oq:a? 403 [(.list Bq),i64,.bool,I2] [(.list Bq)] GL:=k0 [(403,[c? 6 [.u 1 Bq,.g 9 1],⟨0,3,[(9,Bq)],[],[],[],[.t 10 i64,.u 1 Bq,.g 9 1],[(.exit 0,[.u 1 Bq,.g 9 1])]⟩])] CC
def fC:a? 439 [DR,i64] [.bool] Ma:=k0 [(439,[f? 2 [5] [.t 4 .bool] 0 [],f? 7 [6] [.t 4 .bool] 2 []])] (A7 Kw CC)
def fD:a? 440 [(.list Bq),Bq] [(.list Bq)] Mb:=k0 [(440,[c? 7 [.t 6 .bool,.u 1 Bq,.g 5 1],c? 10 [.u 1 Bq,.g 5 1],⟨0,4,[(5,Bq)],[],[],[],[.t 6 .bool,.t 7 i64,.u 1 Bq,.g 5 1],[(.exit 0,[.t 6 .bool,.u 1 Bq,.g 5 1])]⟩,c? 12 [.u 1 Bq,.g 5 1]])] (A7 UQ CC)
def JI:a? 402 [DR] [DR] Ff:=k0 [(402,[c? 5 [3,g? 0 DR],e? 2 [3,g? 0 DR] 0 [g? 0 DR]])] (A7 fC (A7 fD CC))
def L6:a? 365 [DR,i64] [DR] Hf:=k0 [] (A7 FH (A7 Oq (A7 JI CC)))
def fK:a? 366 [A3,i64] [Ae,.bool] Hi:=k0 [] (A7 IW (A7 G0 CC))
def Y1:a? 404 [JH] [JH] Jt:=k0 [] CC
def Z5:a? 441 [EW,A6] [EW,i64] KX:=k0 [(441,[c? 13 [g? 3 TS]])] (A7 EQ (A7 HZ (A7 GW (A7 LM CC))))
def VL:a? 405 [A3,Ae] [A3,i64] KK:=k0 [] (A7 Fz (A7 Ig (A7 Z5 CC)))
def je:a? 442 [A3,B5,I2,i64] [Ae,.bool] PA:=k0 [(442,[f? 2 [10,g? 3 Ae] [.t 9 .bool,g? 3 Ae] 0 [g? 3 Ae]])] (A7 G0 CC)
def R8:a? 406 [A3,i64,I2] [Ae,.bool] Kg:=k0 [] (A7 IW (A7 je CC))
def UP:a? 407 [DR,i64,I2] [DR] MZ:=k0 [] (A7 FH (A7 Oq (A7 JI CC)))
def UW:a? 367 [A3,B5,Ae] [A3,C9] GN:=k0 [(367,[c? 15 [g? 8 A3],c? 12 [g? 8 A3]])] (A7 Ig (A7 Y1 (A7 Td (A7 Cu (A7 VL (A7 R8 (A7 UP CC)))))))
def UV:a? 332 [A3,i64] [A3,C9] Jb:=k0 [] (A7 IW (A7 Cu (A7 Fz (A7 L6 (A7 fK (A7 UW CC))))))
def fV:a? 303 [A1] [A1,.bool,i64] Mk:=k0 [(303,[hn 0 9 [g? 0 A1,g? 1 A1] [(.ret,[.t 3 .bool,4,g? 1 A1,.x 0])]])] (A7 CO (A7 Jr (A7 fR (A7 UV CC))))
def aB:a? 443 [A3,E2] [i64] Ka:=k0 [(443,[c? 6 [.t 11 .bool],c? 5 [.t 11 .bool],c? 11 [g? 2 E2],c? 18 [.t 60 .bool],c? 17 [.t 60 .bool],d? 13 [4,.x 2] [g? 2 E2],d? 7 [4,.x 2] [g? 2 E2]])] CC
def IV:a? 373 [DR,i64] [Bq,.bool] FN:=k0 [(373,[f? 3 [6,g? 1 Bq] [.t 5 .bool,g? 1 Bq] 0 [g? 1 Bq],d? 2 [.t 5 .bool,g? 1 Bq] [g? 1 Bq]])] (A7 FH CC)
def UU:a? 414 [i64,E2] [Bq,.bool] Ja:=k0 [(414,[c? 7 [.t 20 .bool]])] CC
def Y7:a? 409 [A3,i64,E2] [i64] J1:=k0 [] (A7 CO (A7 Dp (A7 aB (A7 IV (A7 UU CC)))))
def aE:a? 410 [A3,i64] [A3,C9] Kf:=k0 [(410,[hn 2 3 [.x 1,.x 2,.x 3] [(.normal,[g? 3 A3,g? 1 A3,g? 2 C9]),(.ret,[g? 1 A3,g? 2 C9,.x 3])]])] (A7 Dp (A7 Mw (A7 Fz (A7 Cu (A7 Jp (A7 L6 CC))))))
def Z3:a? 444 [DR,i64] [DR] O3:=k0 [] (A7 FH (A7 Oq (A7 JI CC)))
def Y6:a? 445 [A3,i64,I2] [.bool] J0:=k0 [(445,[f? 3 [8] [.t 6 .bool] 0 []])] (A7 Dp (A7 G0 CC))
def cN:a? 411 [A3,i64,i64] [A3,C9] Ir:=k0 [(411,[c? 15 [g? 3 A3],e? 12 [12,g? 3 A3] 0 [g? 3 A3]])] (A7 Z3 (A7 Dp (A7 Mw (A7 L6 (A7 Fz (A7 Cu (A7 Y6 (A7 UP CC))))))))
def R6:a? 446 [(.list B5),i64] [i64,i64] IE:=k0 [] (A7 FJ (A7 KQ CC))
def fG:a? 412 [(.list B5),i64] [(.list B5),i64] Me:=k0 [] (A7 R6 (A7 Pq CC))
def fF:a? 413 [(.list B5),i64,i64] [(.list B5),i64] Md:=k0 [] (A7 R6 (A7 R7 (A7 Pq CC)))
def cD:a? 447 [DR,Bq] [i64] Io:=k0 [(447,[f? 4 [5] [4] 0 []])] (A7 Ot CC)
def Y2:a? 415 [DR,Bq] [DR,.bool,i64] N5:=k0 [] (A7 FH (A7 Tf (A7 IV (A7 Ot (A7 cD (A7 JI CC))))))
def iW:a? 448 [EW,i64] [EW] Nb:=k0 [] (A7 Fa (A7 LM CC))
def aD:a? 416 [A3,i64,E2] [A3,C9] Ke:=k0 [(416,[c? 9 [g? 5 JH]])] (A7 Ig (A7 iW (A7 VL (A7 Cu CC))))
def UR:a? 420 [(.list i64),i64] [(.list i64)] FV:=k0 [(420,[c? 7 [.t 6 .bool,.u 0 i64,.g 5 0],c? 10 [.u 0 i64,.g 5 0],⟨0,4,[(5,i64)],[],[],[],[.t 6 .bool,.t 7 i64,.u 0 i64,.g 5 0],[(.exit 0,[.t 6 .bool,.u 0 i64,.g 5 0])]⟩,c? 12 [.u 0 i64,.g 5 0]])] CC
def Y3:a? 449 [DR] [(.list i64)] Jv:=k0 [(449,[e? 4 [.t 3 (.list i64),4] 0 [.t 3 (.list i64)],c? 3 [.t 3 (.list i64)]])] (A7 FH (A7 UR CC))
def Pp:a? 374 [DR,i64] [(.list i64)] IK:=k0 [(374,[c? 9 [.t 7 (.list i64)],e? 6 [.t 7 (.list i64),8] 0 [.t 7 (.list i64)],c? 14 [.t 7 (.list i64)],e? 11 [.t 7 (.list i64),9] 2 [.t 7 (.list i64)]])] (A7 IV (A7 Kw (A7 UR CC)))
def Z4:A2 (.c0 450 [DR,(.list i64),i64] [(.list i64)] O6):=AFu (P:=Tryz.prog) (F:=450) (ds:=[DR,(.list i64),i64]) (rs:=[(.list i64)]) (f:=Ej) (hs:=gi [(450,[f? 4 [30] [.t 6 (.list i64)] 0 [],e? 15 [.t 12 .bool,49] 4 [.t 12 .bool],f? 11 [43] [.t 6 (.list i64)] 2 []])]) (n:=13) (A7 Pp CC) (λg x=>by kernel_rfl)
def cE:a? 417 [DR,i64] [(.list i64)] La:=k0 [(417,[f? 2 [5] [.t 4 (.list i64)] 0 []])] (A7 Y3 (A7 Z4 CC))
def cM:a? 451 [(.list i64)] [i64] Lj:=k0 [] CC
def iZ:a? 418 [A3,i64] [i64] Nf:=k0 [] (A7 Pp (A7 cM CC))
def jd:a? 370 [A3,i64,E2] [A3,C9] O9:=k0 [(370,[c? 10 [.t 46 .bool],c? 13 [.t 9 (.list B5),10]])] (A7 Y7 (A7 Cu (A7 aE (A7 cN (A7 fG (A7 fF (A7 UU (A7 Y2 (A7 aD (A7 cE (A7 iZ CC)))))))))))
def RU:a? 371 [A1,i64] [.bool] ES:=k0 [] (A7 Dp CC)
def YA:a? 372 [A1,i64] [A1,i64] Ek:=k0 [(372,[d? 12 [5,g? 1 A1,.x 0] [g? 0 A1,g? 1 A1],f? 5 [g? 0 A1,g? 1 A1] [5,g? 1 A1,.x 0] 0 [g? 0 A1,g? 1 A1]])] (A7 CO (A7 Dp (A7 RU (A7 UV (A7 Jr CC)))))
def jg:a? 340 [A1,i64,E2] [A1,C9] PD:=k0 [(340,[d? 10 [g? 2 A1,g? 3 C9,.x 0] [g? 0 A1,g? 2 A1,g? 3 C9],hn 0 1 [g? 0 A1,g? 2 A1,g? 3 C9] [(.ret,[g? 2 A1,g? 3 C9,.x 0])]])] (A7 jd (A7 Jr (A7 Cu (A7 RU (A7 YA CC)))))
def Y9:a? 341 [A3,i64] [i64,I2,.bool] J3:=k0 [(341,[f? 5 [28,g? 1 I2] [4,.t 6 .bool,g? 1 I2] 0 [g? 1 I2]])] (A7 IV (A7 Pp (A7 R9 CC)))
def fJ:a? 375 [A3,i64,I2] [A3,C9] Mg:=k0 [] (A7 IW (A7 Cu (A7 R8 (A7 UW CC))))
def fW:a? 342 [A1,i64,I2] [A1,i64,i64] Ml:=k0 [(342,[d? 8 [7,8,g? 2 A1,.x 0] [9,g? 0 A1,g? 2 A1],hn 0 2 [9,g? 0 A1,g? 2 A1] [(.ret,[7,8,g? 2 A1,.x 0])]])] (A7 fJ (A7 Jr CC))
def jh:a? 322 [A1,i64,E2] [A1,C9] PE:=k0 [(322,[hn 0 1 [g? 0 A1,g? 2 A1,g? 3 C9] [(.ret,[g? 2 A1,g? 3 C9,.x 0])]])] (A7 jg (A7 Y9 (A7 fW (A7 Cu CC))))
def ii:a? 197 [A1,(.list S4)] [A1,(.list C9),(.list Xx)] Ni:=k0 [(197,[⟨0,4,[(8,C9)],[(2,18,i64),(2,19,Xx)],[],[],[.t 9 i64,.u 3 C9,.u 4 i64,.u 5 Xx,.g 8 3,.p 2 [.d A1,.o 4,.o 5,.d .bool]],[(.exit 0,[.u 3 C9,.u 4 i64,.u 5 Xx,.g 8 3,.p 2 [.d A1,.o 4,.o 5,.d .bool]])]⟩]),(268,[c? 5 [.u 4 i64,.p 2 [.d A1,.o 4,.o 5,.d .bool]],c? 19 [.p 2 [.d A1,.o 4,.o 5,.d .bool]]]),(297,[c? 2 [.p 2 [.d A1,.o 4,.o 5,.d .bool]]]),(298,[c? 9 [.u 5 Xx,.p 2 [.d A1,.o 4,.o 5,.d .bool]]]),(302,[e? 4 [9,.u 4 i64,.p 2 [.d A1,.o 4,.o 5,.d .bool]] 0 [.u 4 i64,.p 2 [.d A1,.o 4,.o 5,.d .bool]]])] (A7 cV (A7 aI (A7 Cu (A7 cY (A7 Wl (A7 Hz (A7 Jo (A7 cX (A7 fU (A7 fV (A7 jh CC)))))))))))
def Vu:b? 128 0 BE [i64,.bool] [A1] HM:=k1 [] (A7 CR (A7 ic (A7 U5 (A7 ii CC))))
def WG:b? 75 0 BE [i64,.bool] [A3] Hp:=k1 [] (A7 Vu CC)
def jc:b? 31 0 BE [i64] [i64,Bj] K1:=k1 [] (A7 WG (A7 Hz (A7 Jo CC)))
def bn:b? 77 0 BE [i64] [(.list i64)] LQ:=k1 [(77,[c? 6 [.u 1 i64,.g 5 1],e? 3 [6,.u 1 i64,.g 5 1,g? 0 BE] 0 [.u 1 i64,.g 5 1,g? 0 BE]])] (A7 CR CC)
def FK:a? 66 [BC] [.bool] C6:=k0 [(66,[f? 5 [3,4] [.t 2 .bool] 0 []])] (A7 SD CC)
def Nu:a? 129 [BC,i64] [i64,i64] Ey:=k0 [(129,[c? 3 [5]])] CC
def RW:a? 199 [i64,i64,i64,i64,i64] [.bool] Hl:=k0 [] CC
def RV:a? 270 [Ae,Ae] [i64] D0:=k0 [] CC
def JJ:a? 201 [(.list Ae),Ae] [(.list Ae),.bool] DF:=k0 [(201,[e? 2 [6] 0 [6]])] (A7 RV CC)
def Ha:a? 202 [Bk] [.bool] EL:=k0 [(202,[d? 12 [.t 2 .bool] [],f? 4 [3] [.t 2 .bool] 0 []])] (A7 RW (A7 Dy (A7 D5 (A7 RV CC))))
def fY:a? 130 [(.list Ae),i64,i64,i64,i64,i64] [Bk,i64] Jc:=k0 [(130,[f? 4 [14,g? 0 Bk] [13,g? 0 Bk] 0 [g? 0 Bk],e? 16 [.t 16 .bool,19] 4 [.t 16 .bool],e? 11 [.t 16 .bool,17,g? 1 Bk] 2 [.t 16 .bool,g? 1 Bk]])] (A7 RW (A7 Dy (A7 D5 (A7 JJ (A7 Ha CC)))))
def fX:a? 203 [Bk] [.str] Hk:=k0 [] (A7 Db CC)
def SC:a? 131 [Bk] [.str,i64] Ge:=k0 [(131,[e? 5 [.t 4 .str,5] 0 [.t 4 .str]])] (A7 Ha (A7 fX (A7 Jn (A7 R5 CC))))
def fb:a? 78 [BC,Bj,i64] [BC,i64] Ei:=k0 [(78,[f? 15 [11,g? 2 BC] [7,g? 2 BC] 0 [g? 2 BC],f? 22 [13,.u 4 Dq,.p 3 [.d (.list i64),.d i64,.o 4,.d i64,.d i64],g? 2 BC] [7,g? 2 BC,.x 3,.x 4] 2 [.u 4 Dq,.p 3 [.d (.list i64),.d i64,.o 4,.d i64,.d i64],g? 2 BC]])] (A7 FK (A7 CN (A7 Nu (A7 fY (A7 SC CC)))))
def aL:a? 306 [.str,i64,i64] [i64] DG:=k0 [] (A7 Ev CC)
def aJ:a? 272 [.str] [Bk,i64] Fi:=k0 [(272,[⟨0,11,[],[(1,5,Ae)],[],[],[.t 5 i64,.t 9 i64,.u 2 Ae,.p 1 [.d i64,.d i64,.d i64,.d i64,.d i64,.o 2],.p 0 [.d Bk]],[(.ret,[.t 3 i64,.p 0 [.d Bk],.x 1,.x 2]),(.exit 0,[.t 5 i64,.u 2 Ae,.p 1 [.d i64,.d i64,.d i64,.d i64,.d i64,.o 2],.p 0 [.d Bk]])]⟩])] (A7 RR (A7 aL (A7 R4 (A7 Ha CC))))
def XM:a? 273 [BC,Bk] [i64] FY:=k0 [(273,[f? 2 [5] [4] 0 []])] (A7 Nu CC)
def aM:a? 207 [BC,Dq] [Bk,i64] DH:=k0 [] (A7 aJ (A7 XM CC))
def ZA:a? 208 [Bk,i64] [Bk] FT:=k0 [(208,[c? 8 [.u 3 Ae,.p 2 [.d i64,.d i64,.d i64,.d i64,.d i64,.o 3]],⟨0,5,[],[(2,5,Ae)],[],[],[.t 6 i64,.u 3 Ae,.p 2 [.d i64,.d i64,.d i64,.d i64,.d i64,.o 3]],[(.exit 0,[.u 3 Ae,.p 2 [.d i64,.d i64,.d i64,.d i64,.d i64,.o 3]])]⟩])] CC
def Tk:a? 136 [BC] [(.list Bk),(.list i64),(.list .bool)] F6:=k0 [(136,[e? 14 [11] 4 [11],e? 9 [.t 6 (.list Bk),.t 7 (.list i64),8] 2 [.t 6 (.list Bk),.t 7 (.list i64)],e? 20 [12,13,.u 1 Bk,.u 2 i64,.u 3 .bool,.g 2 1,.g 3 2,.g 4 3] 6 [.u 1 Bk,.u 2 i64,.u 3 .bool,.g 2 1,.g 3 2,.g 4 3],⟨0,4,[(2,Bk),(3,i64),(4,.bool)],[],[],[],[.t 5 i64,.u 1 Bk,.u 2 i64,.u 3 .bool,.g 2 1,.g 3 2,.g 4 3],[(.exit 0,[.u 1 Bk,.u 2 i64,.u 3 .bool,.g 2 1,.g 3 2,.g 4 3])]⟩])] (A7 FK (A7 aM (A7 ZA CC)))
def cZ:a? 205 [(.list Bk),(.list .bool)] [Bk,.bool] Ls:=k0 [(205,[e? 8 [8,g? 1 Bk] 2 [g? 1 Bk],f? 3 [7,g? 1 Bk,g? 0 Bk] [.t 5 .bool,g? 0 Bk,.x 1] 0 [g? 1 Bk,g? 0 Bk]])] (A7 JJ (A7 Ha CC))
def fe:a? 132 [BC,i64] [BC,.bool,i64] Mm:=k0 [(132,[e? 20 [.t 15 .bool,16] 4 [.t 15 .bool],c? 24 [.u 4 Dq,.p 3 [.d (.list i64),.d i64,.o 4,.d i64,.d i64]],⟨0,16,[],[(3,2,Dq)],[],[],[.t 14 i64,.u 4 Dq,.p 3 [.d (.list i64),.d i64,.o 4,.d i64,.d i64]],[(.exit 2,[.u 4 Dq,.p 3 [.d (.list i64),.d i64,.o 4,.d i64,.d i64]])]⟩,f? 7 [10,g? 1 BC] [.t 5 .bool,6,g? 1 BC] 0 [g? 1 BC]])] (A7 FK (A7 Tk (A7 cZ (A7 SC CC))))
def ff:a? 79 [BC,i64] [BC,i64] Jd:=k0 [(79,[hn 0 1 [g? 0 BC,g? 1 BC] [(.ret,[5,g? 1 BC,.x 0])]])] (A7 fe CC)
def Zy:b? 32 0 BE [i64,Bj] [BC] O0:=k1 [(32,[c? 7 [g? 3 BC],c? 11 [g? 3 BC],c? 9 [g? 0 BE,g? 3 BC],e? 3 [9,g? 0 BE,g? 3 BC] 0 [g? 0 BE,g? 3 BC],c? 15 [g? 3 BC],c? 13 [g? 3 BC]])] (A7 bn (A7 VM (A7 CR (A7 fb (A7 ff CC)))))
def eV:a? 27 [i64,i64] [Be] JY:=k0 [(27,[⟨0,3,[],[(1,2,Fx)],[],[],[.t 6 i64,.u 2 Fx,.p 1 [.d i64,.d i64,.o 2]],[(.exit 0,[.u 2 Fx,.p 1 [.d i64,.d i64,.o 2]])]⟩])] (A7 Ta CC)
def Js:a? 84 [Be] [.bool] Ez:=k0 [(84,[f? 4 [3] [.t 2 .bool] 0 []])] (A7 Kv CC)
def aP:a? 72 [Be] [.str,i64] II:=k0 [(72,[e? 7 [.t 5 .str,6] 0 [.t 5 .str]])] (A7 Js (A7 Db (A7 Jn CC)))
def iS:a? 26 [Be] [Dq] KF:=k0 [] (A7 aP CC)
def ck:a? 83 [Be] [.bool] Lu:=k0 [] (A7 Js CC)
def fh:a? 39 [Be,i64] [Fx,.bool] Mn:=k0 [(39,[f? 2 [6,g? 1 Fx] [.t 5 .bool,g? 1 Fx] 0 [g? 1 Fx]])] (A7 Js CC)
def fi:a? 68 [Be,i64] [A6,i64] Mo:=k0 [] (A7 Js (A7 fh (A7 Kv CC)))
def cj:a? 40 [BC,Bj,i64,i64,i64] [i64] Px:=k0 [] (A7 FK (A7 CN CC))
def fZ:a? 86 [BC,i64] [i64,i64,.bool] Qu:=k0 [(86,[e? 4 [7] 0 [7]])] (A7 FK (A7 Nu CC))
def fa:a? 87 [BC] [(.list Bk),(.list i64)] Qv:=k0 [] (A7 Tk CC)
def YC:a? 42 [BC,Bj,i64] [Od] NS:=k0 [(42,[c? 8 [.u 4 Bk,.u 5 i64,.p 3 [.o 4,.o 5,.d Bj]],⟨0,5,[],[(3,0,Bk),(3,1,i64)],[],[],[.t 13 i64,.u 4 Bk,.u 5 i64,.p 3 [.o 4,.o 5,.d Bj]],[(.exit 0,[.u 4 Bk,.u 5 i64,.p 3 [.o 4,.o 5,.d Bj]])]⟩])] (A7 fZ (A7 fa CC))
def Tl:a? 135 [Bj,i64] [.bool] It:=k0 [] CC
def fg:a? 85 [Od,i64] [i64] Qy:=k0 [(85,[c? 6 [5],e? 3 [5,6] 0 [5],c? 8 [5]])] (A7 Tl CC)
def ZB:a? 41 [Od,i64,i64] [.bool] OO:=k0 [(41,[f? 1 [1] [.t 6 .bool] 0 []])] (A7 fg CC)
def aK:a? 263 [Bk,i64] [(.list Ae)] PG:=k0 [(263,[c? 8 [.u 1 Ae,.g 5 1],⟨0,5,[(5,Ae)],[],[],[],[.t 6 i64,.u 1 Ae,.g 5 1],[(.exit 0,[.u 1 Ae,.g 5 1])]⟩])] (A7 Ha CC)
def YB:a? 192 [(.list Bk),i64,i64,i64] [(.list Ae)] NR:=k0 [(192,[c? 10 [.t 9 (.list Ae)],e? 7 [.t 9 (.list Ae),12] 2 [.t 9 (.list Ae)],e? 3 [.t 9 (.list Ae),10] 0 [.t 9 (.list Ae)]])] (A7 aK (A7 JJ CC))
def aO:a? 193 [Bj,i64,i64,i64] [(.list Ae)] PJ:=k0 [(193,[c? 7 [.u 1 Ae,.g 9 1],⟨0,3,[(9,Ae)],[],[],[],[.t 10 i64,.u 1 Ae,.g 9 1],[(.exit 0,[.u 1 Ae,.g 9 1])]⟩])] (A7 D5 CC)
def aN:a? 261 [(.list Bk),i64] [i64] PH:=k0 [(261,[f? 2 [5] [4] 0 []])] CC
def ik:a? 262 [(.list Ae),Ae] [.bool] Nj:=k0 [(262,[f? 2 [5] [.t 4 .bool] 0 []])] CC
def cg:a? 191 [(.list Bk),Bj,(.list Ae),(.list Ae)] [(.list Ae),.bool] Pw:=k0 [(191,[f? 3 [.t 10 (.list Ae),11] [.t 8 (.list Ae),.t 9 .bool] 0 [.t 10 (.list Ae)],f? 9 [12] [.t 8 (.list Ae),.t 9 .bool] 2 []])] (A7 aN (A7 ik (A7 JJ (A7 Tl CC))))
def jj:a? 120 [BC,Bj,i64,i64,i64] [(.list Ae),i64] TL:=k0 [(120,[f? 11 [16] [.t 10 (.list Ae),11] 0 []])] (A7 cj (A7 YC (A7 ZB (A7 YB (A7 aO (A7 cg CC))))))
def fm:a? 121 [A6,(.list Ae)] [A6,i64] Mq:=k0 [(121,[f? 2 [6,g? 0 A6,g? 1 A6] [5,g? 1 A6,.x 0] 0 [g? 0 A6,g? 1 A6]])] (A7 Ti CC)
def fk:a? 69 [A6,BC,Bj,i64] [A6,i64] Qz:=k0 [] (A7 FK (A7 CN (A7 G9 (A7 jj (A7 fm CC)))))
def fj:a? 80 [Be,BC,Bj,i64,i64] [Be,i64] Mp:=k0 [(80,[c? 19 [g? 6 Fx],⟨0,11,[],[(4,2,Fx)],[],[],[.t 13 i64,.u 5 Fx,.p 4 [.d i64,.d i64,.o 5],.p 3 [.d Be]],[(.ret,[.t 11 i64,.p 3 [.d Be],.x 4,.x 5]),(.exit 0,[.u 5 Fx,.p 4 [.d i64,.d i64,.o 5],.p 3 [.d Be]])]⟩])] (A7 ck (A7 FK (A7 CN (A7 fi (A7 fk (A7 G9 CC))))))
def bp:b? 33 0 BE [i64,BC,Bj] [(.list Dq)] LR:=k1 [(33,[⟨2,4,[(9,Dq)],[],[],[],[.x 4],[(.normal,[.u 4 Dq,.g 9 4])]⟩,e? 7 [11,12,.u 4 Dq,.g 9 4,g? 0 BE,g? 3 Be] 0 [.u 4 Dq,.g 9 4,g? 0 BE,g? 3 Be]])] (A7 eV (A7 CR (A7 iS (A7 fj CC))))
def iV:a? 34 [Bj,i64] [Bj,i64] KH:=k0 [] (A7 CN (A7 GV CC))
def WH:b? 81 0 BE [.str] [.str] F8:=k1 [] (A7 CR CC)
def bo:b? 35 0 BE [(.list Dq)] [(.list Dq)] F3:=k1 [] (A7 CR (A7 WH CC))
def WK:a? 18 [(.list Dq),BC,Bj,i64,i64] [Fy,i64] LA:=k0 [] (A7 mw CC)
def WL:a? 54 [Fy] [.bool] HV:=k0 [(54,[f? 5 [3,54] [.t 2 .bool] 0 []])] CC
def jm:a? 56 [(.list Dq),Fy] [A6,.bool] HW:=k0 [(56,[f? 4 [19,g? 1 A6] [.t 5 .bool,g? 1 A6] 0 [g? 1 A6]])] (A7 eU (A7 UN (A7 jZ CC)))
def aQ:a? 107 [(.list i64),i64] [i64] Kh:=k0 [(107,[f? 2 [8] [4] 0 []])] CC
def fo:a? 57 [BC,Bj,Fy] [(.list E4),.bool] Hm:=k0 [(57,[⟨0,7,[(13,E4)],[],[],[],[.t 35 i64,.u 3 E4,.g 13 3],[(.ret,[.t 6 (.list E4),.t 7 .bool,.x 3]),(.exit 0,[.u 3 E4,.g 13 3])]⟩])] (A7 P3 (A7 P4 (A7 aQ (A7 Vs CC))))
def jn:a? 58 [(.list E4),Fy] [.bool] JB:=k0 [(173,[hn 8 1 [29,g? 1 .bool,.y 5 .ready] [(0,[g? 1 .bool,.y 5 .ready]),(.ret,[g? 1 .bool,.y 5 .ret])]]),(174,[f? 2 [8] [4] 0 []])] CC
def Rs:a? 112 [(.list Ae),(.list Ae)] [.bool] LB:=k0 [(112,[f? 4 [13] [.t 4 .bool] 0 []])] CC
def jl:a? 59 [E4,E4,Fy] [.bool] Yl:=k0 [(59,[hn 3 2 [] []]),(109,[hn 6 1 [.x 148] [(.normal,[.t 4 (.list Ae),.x 148])]]),(60,[c? 6 [.u 148 Ae,.g 5 148],⟨0,3,[(5,Ae)],[],[],[],[.t 11 i64,.u 150 Ae,.g 5 150],[(.exit 0,[.u 150 Ae,.g 5 150])]⟩]),(110,[e? 5 [6,5,.u 148 Ae,.g 0 148] 0 [5,.u 148 Ae,.g 0 148]]),(176,[f? 2 [8] [4] 0 []])] (A7 MQ (A7 Rs CC))
def il:a? 60 [E4,Fy] [(.list Ae)] XI:=k0 [(60,[c? 6 [.u 2 Ae,.g 5 2],⟨0,3,[(5,Ae)],[],[],[],[.t 11 i64,.u 2 Ae,.g 5 2],[(.exit 0,[.u 2 Ae,.g 5 2])]⟩])] (A7 MQ CC)
def VN:a? 21 [(.list Dq),BC,Bj,Fy] [A6,i64] Fw:=k0 [(21,[⟨0,13,[(14,Ae)],[],[],[],[.t 62 i64,.p 3 [.d A6],.u 150 Ae,.g 14 150],[(.ret,[.t 9 i64,.p 3 [.d A6],.x 150]),(.exit 1,[.p 3 [.d A6],.u 150 Ae,.g 14 150])]⟩,f? 16 [71,g? 3 A6] [9,g? 3 A6] 3 [g? 3 A6]]),(65,[f? 4 [3,.u 149 Ae,.g 0 149] [.t 2 (.list Ae),.x 149] 0 [.u 149 Ae,.g 0 149],e? 9 [5,3,.u 149 Ae,.g 0 149,.w 4 149] 2 [3,.u 149 Ae,.g 0 149]])] (A7 HU (A7 Jm (A7 WL (A7 jm (A7 fo (A7 jn (A7 jl (A7 il (A7 YD (A7 cq (A7 AE9 CC)))))))))))
def jk:a? 24 [(.list Dq),BC,Bj,Fy,A6] [.bool] TM:=k0 [] (A7 VN CC)
def mu:a? 23 [(.list Dq),BC,Bj,i64] [(.list Fy),(.list i64),i64] OP:=k0 [(23,[c? 12 [.u 2 Fy,.u 3 i64,.g 8 2,.g 9 3],⟨0,8,[(8,Fy),(9,i64)],[],[],[],[.t 27 i64,.u 2 Fy,.u 3 i64,.g 8 2,.g 9 3],[(.exit 1,[.u 2 Fy,.u 3 i64,.g 8 2,.g 9 3])]⟩])] (A7 HU (A7 Jm (A7 WK CC)))
def bj:a? 15 [] [.bool] Ih:=k0 [] (A7 VM (A7 VH (A7 WK (A7 WL (A7 VG (A7 jk CC))))))
def bk:b? 16 0 BE [] [i64,BC,Bj,Bj,(.list Dq)] LP:=k1 [(16,[c? 6 [g? 0 BE,g? 2 Bj],c? 8 [g? 0 BE,g? 1 BC]])] (A7 jc (A7 Zy (A7 bp (A7 CR (A7 iV (A7 bo CC))))))
def UI:a? 7 [(.list (.int .u8)),(.int .u8)] [.bool] IU:=k0 [(7,[f? 11 [16] [.t 4 .bool] 2 [],f? 8 [15] [.t 4 .bool] 0 []]),(9,[c? 2 [.t 0 (.list (.int .u8))]])] (A7 bj (A7 bk (A7 Hz (A7 mu (A7 VN CC)))))
end Go.Proofs.YtdbincbpjobdpaaGreat
