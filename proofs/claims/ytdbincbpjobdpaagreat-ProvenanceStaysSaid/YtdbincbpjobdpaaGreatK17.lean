/- Texts of wip, joined and shortened by wip/tools/pack.py; nothing is assumed. -/
import Derived.Test.YtdbincbpjobdpaaGreatK16
import Derived.Test.YtdbincbpjobdpaaGreatProg
import Derived.KernelRfl
noncomputable section
set_option linter.all false
open Option renaming none->W
open Option renaming none->ε
namespace Go.Proofs.YtdbincbpjobdpaaGreat
open Go Go.Ab Go.Pm
set_option maxRecDepth 100000
def Z7:a? 116 [i64] [.bool] F3:=k0 [] CD
def Np:a? 63 [i64,i64] [i64] EK:=k0 [] (BA Z7 CD)
def jk:a? 171 [(.list i64)] [i64] Kq:=k0 [(171,[f? 3 [8] [2] 0 []])] CD
def Xj:a? 170 [BX,BX] [i64] IP:=k0 [] (BA Np (BA jk CD))
def PA:A4 (.c2 338 BX [i64,i64,i64] [] [.fn (.func 170) [] []] Ct):=RW (hs:=iJ [(338,[e? 1 [10,.u 0 BX,.g 0 0] 0 [.u 0 BX]])]) (n:=13) CD (λl x=>by kernel_rfl)
def Qi:A4 (.c2 320 BX [i64,i64,i64] [] [.fn (.func 170) [] []] E5):=RW (hs:=iJ [(320,[e? 2 [10,11,.u 0 BX,.g 0 0] 0 [10,.u 0 BX,.g 0 0]])]) (n:=13) (BA PA CD) (λl x=>by kernel_rfl)
def NF:A4 (.c2 290 BX [i64,i64] [] [.fn (.func 170) [] []] C5):=RW (hs:=iJ [(290,[e? 1 [8,.u 0 BX,.g 0 0] 0 [.u 0 BX],e? 4 [9,.u 0 BX,.g 0 0] 2 [.u 0 BX,.g 0 0]])]) (n:=13) (BA Xj CD) (λl x=>by kernel_rfl)
def Pp:A4 (.c2 291 BX [i64,i64,i64] [] [.fn (.func 170) [] []] Eb):=uB (P:=Tryz.prog) (F:=291) (te:=BX) (ds:=[i64,i64,i64]) (rs:=[]) (post:=[.fn (.func 170) [] []]) (f:=λg p=>CM g p.1 p.2) (hs:=iJ [(291,[e? 3 [10,11] 0 [10],e? 9 [13,.u 0 BX,.g 0 0] 2 [.u 0 BX],e? 15 [14,15] 4 [14],e? 21 [17,.u 0 BX,.g 0 0] 6 [.u 0 BX],e? 33 [20,21] 8 [20],c? 28 [20,21],c? 40 [.u 0 BX,.g 0 0],c? 42 [.u 0 BX,.g 0 0],c? 44 [.u 0 BX]])]) (n:=13) (BA Xj (BA Qi CD)) (λg l x=>by kernel_rfl)
def Qj:A4 (.c2 251 BX [i64] [] [.fn (.func 170) [] []] E6):=RW (hs:=iJ [(251,[e? 2 [7,8,.u 0 BX,.g 0 0] 0 [7,.u 0 BX,.g 0 0],e? 7 [6,.u 0 BX,.g 0 0] 2 [.u 0 BX],e? 9 [7,8,.u 0 BX,.g 0 0] 4 [7,.u 0 BX,.g 0 0]])]) (n:=13) (BA NF (BA Pp CD)) (λl x=>by kernel_rfl)
def J2:A4 (.c2 169 BX [] [] [.fn (.func 170) [] []] C0):=RW (hs:=iJ []) (n:=13) (BA Qj CD) (λl x=>by kernel_rfl)
def R8:A4 (.cl 252 Af):=AEO (t:=30) (b:=4) h! h! h!
def mI:a? 186 [(.int .u64)] [i64] QT:=k0 [(186,[c? 2 [.t 0 (.int .u64),2],c? 5 [.t 0 (.int .u64),2],c? 8 [.t 0 (.int .u64),2]])] CD
def Z9:a? 115 [(.int .u64)] [i64] TH:=k0 [] (BA mI CD)
def Hl:a? 43 [BH] [.bool] F6:=k0 [(43,[f? 5 [4] [.t 2 .bool] 0 [],f? 13 [5,89] [.t 2 .bool] 2 []])] CD
def ii:a? 88 [Bh] [i64] Ck:=k0 [] CD
def qE:a? 137 [i64,Af] [.bool] OD:=k0 [] CD
def qC:a? 274 [i64] [.bool] IQ:=k0 [] CD
def jj:a? 275 [LC] [.bool] Df:=k0 [] CD
def cU:a? 211 [Jc] [.bool] OB:=k0 [] (BA qC (BA jj CD))
def td:a? 210 [Jc] [.bool] Mk:=k0 [] CD
def oM:a? 209 [Af] [.bool] Gf:=k0 [] CD
def oN:a? 212 [Af] [.bool] TF:=k0 [] CD
def oO:a? 213 [Jc] [.bool] TG:=k0 [] CD
def TC:a? 89 [Af] [.bool] Ge:=k0 [(89,[c? 5 [.t 47 .bool],c? 8 [.t 67 .bool]])] (BA qE (BA cU (BA td (BA oM (BA oN (BA oO CD))))))
def J7:a? 44 [Bh] [.bool] Ha:=k0 [(44,[f? 4 [37] [.t 2 .bool] 0 []])] (BA ii (BA TC CD))
def oP:a? 145 [BH,Bh,i64,i64] [i64] Ps:=k0 [] (BA Hl (BA J7 CD))
def WM:a? 74 [Bh] [i64] OE:=k0 [] (BA J7 (BA ii CD))
def WL:a? 229 [i64,i64] [.bool] OC:=k0 [] (BA Z7 CD)
def kB:a? 248 [i64] [.bool] F3:=k0 [] CD
def VU:a? 166 [(.list i64),i64] [i64,.bool] Jz:=k0 [(166,[c? 6 [7,8],e? 3 [7,8] 0 [7]])] (BA WL (BA kB CD))
def Z6:a? 167 [BH,i64] [i64,i64] KY:=k0 [] CD
def QM:a? 105 [BH,i64] [i64,i64,.bool] Fz:=k0 [(105,[c? 5 [7]])] (BA Hl (BA VU (BA Z6 CD)))
def P1:a? 158 [.str,i64,i64] [i64,i64] Bx:=k0 [(158,[e? 7 [.t 8 (.int .u64),35] 1 [.t 8 (.int .u64)]])] CD
def jl:a? 220 [] [(.arr 15 (.int .u32))] LK:=k0 [(220,[c? 9 [.t 3 (.int .u32)],e? 7 [.t 3 (.int .u32),9] 2 [.t 3 (.int .u32)],e? 3 [4,g? 1 (.arr 15 (.int .u32))] 0 [g? 1 (.arr 15 (.int .u32))]])] CD
def aT:a? 144 [.str] [(.int .u32)] Oh:=k0 [(144,[e? 4 [.t 4 (.int .u32),9] 0 [.t 4 (.int .u32)]])] (BA jl CD)
def Z8:a? 156 [.str,i64] [.str,i64,i64] Dr:=k0 [] (BA P1 (BA aT CD))
def TZ:a? 232 [.str,.str] [.bool] Ej:=k0 [] CD
def Vk:a? 157 [.str,.str] [.bool] FM:=k0 [] (BA TZ CD)
def Ts:b? 314 0 Qm [i64] [i64] B4:=k1 [(314,[c? 6 [g? 0 Qm]])] (BA P1 CD)
def Vb:b? 316 0 Qm [i64] [.str] FJ:=k1 [(316,[c? 2 [g? 0 Qm]])] CD
def iz:b? 315 0 Qm [] [LC] FH:=k1 [] (BA Ts (BA Vb CD))
def qD:a? 288 [.str] [Af,i64] Js:=k0 [] (BA Ts (BA iz (BA Vb (BA TC CD))))
def oU:a? 317 [Bl] [.bool] Md:=k0 [] CD
def Mg:a? 113 [Af] [.bool] BF:=k0 [] CD
def sP:a? 318 [Bl,Af] [.bool] P4:=k0 [] (BA Mg CD)
def qH:a? 319 [Af,Af] [i64] Oe:=k0 [] (BA Np (BA jk CD))
def tk:a? 289 [Bl] [.bool] VJ:=k0 [(289,[f? 4 [18] [.t 2 .bool] 0 []])] (BA oU (BA TC (BA sP (BA qH CD))))
def sO:a? 249 [.str] [Bl,i64] K5:=k0 [(249,[⟨0,8,[],[(4,5,Af)],[],[],[.t 5 i64,.t 32 i64,.u 5 Af,.p 4 [.d i64,.d i64,.d i64,.d i64,.d i64,.o 5],.p 0 [.d Bl]],[(.ret,[.t 3 i64,.p 0 [.d Bl],.x 4,.x 5]),(.exit 0,[.t 5 i64,.u 5 Af,.p 4 [.d i64,.d i64,.d i64,.d i64,.d i64,.o 5],.p 0 [.d Bl]])]⟩])] (BA Z8 (BA Vk (BA P1 (BA qD (BA tk CD)))))
def mF:a? 250 [BH,Bl] [i64] Mj:=k0 [(250,[f? 2 [11] [4] 0 []])] (BA Z6 CD)
def mE:a? 168 [BH,Dv] [Bl,.bool] HA:=k0 [] (BA sO (BA mF CD))
def nM:a? 172 [Bl,i64] [Bl] OA:=k0 [(176,[f? 2 [8] [4] 0 []]),(110,[e? 5 [6,5,.u 3 Af,.g 0 3] 0 [5,.u 3 Af,.g 0 3]])] (BA R8 CD)
def QN:a? 106 [BH] [(.list Bl),(.list i64)] HY:=k0 [(106,[⟨0,5,[(4,BX)],[],[],[],[.t 19 i64,.u 1 BX,.g 4 1],[(.exit 0,[.u 1 BX,.g 4 1])]⟩,⟨0,14,[(2,Bl),(3,i64)],[],[],[],[.t 42 i64,.t 9 i64,.t 10 i64,.u 2 Bl,.g 2 2,.u 3 i64,.g 3 3],[(.exit 2,[.u 2 Bl,.g 2 2,.u 3 i64,.g 3 3])]⟩])] (BA Hl (BA mE (BA J2 (BA nM CD))))
def oR:a? 146 [BH,Bh,i64] [(.list N4)] Pt:=k0 [(146,[hn 3 1 [] []]),(154,[e? 4 [27,.u 2 N4,.p 3 [.o 2],.y 6 .ready] 0 [.u 2 N4,.p 3 [.o 2],.y 6 .ready]])] (BA WM (BA QM (BA QN CD)))
def Wm:a? 152 [N4,i64] [.bool] JU:=k0 [] CD
def mH:b? 222 1 i64 [N4] [.bool] U2:=k1 [] (BA Wm CD)
def oQ:a? 147 [(.list N4),i64] [i64] Mc:=k0 [(147,[hn 0 1 [g? 0 i64] [(.ret,[4,.x 0])]]),(221,[f? 2 [8,g? 0 i64] [4,g? 0 i64] 0 [g? 0 i64]])] (BA mH CD)
def jm:a? 92 [BH,Bh,i64,i64,i64] [(.list Af),i64] HZ:=k0 [(92,[e? 14 [57,17,.m 9 .i64 Af] 0 [17,.m 9 .i64 Af],hn 0 24 [85,.m 9 .i64 Af,g? 11 i64,g? 5 (.list Af),g? 6 i64] [(4,[.m 9 .i64 Af,g? 11 i64,g? 5 (.list Af),g? 6 i64]),(.ret,[.m 9 .i64 Af,g? 11 i64,g? 5 (.list Af),g? 6 i64])],hn 0 43 [137,g? 5 (.list Af),g? 6 i64] [(8,[g? 5 (.list Af),g? 6 i64]),(.ret,[g? 5 (.list Af),g? 6 i64])]]),(154,[hn 0 4 [27,.m 9 .i64 Af,g? 11 i64,g? 5 (.list Af),g? 6 i64,.y 14 .ready] [(0,[.m 9 .i64 Af,g? 11 i64,g? 5 (.list Af),g? 6 i64,.y 14 .ready]),(.ret,[.m 9 .i64 Af,g? 11 i64,g? 5 (.list Af),g? 6 i64,.y 14 .ret])]]),(150,[]),(221,[f? 2 [8] [4] 0 []])] (BA oP (BA oR (BA oQ (BA Mg (BA QM (BA QN (BA Wm (BA Qe CD))))))))
def Sd:A4 (.c2 223 i64 [i64,i64] [] [] ME):=RW (hs:=iJ [(223,[e? 1 [6,.u 0 i64,.g 0 0] 0 [.u 0 i64],e? 4 [7,.u 0 i64,.g 0 0] 2 [.u 0 i64,.g 0 0],hn 4 4 [] [(2,[]),(.normal,[])]])]) (n:=13) (BA WL CD) (λl x=>by kernel_rfl)
def WP:A4 (.c0 224 [] [] (λ_=>none)):=λ_ _ h=>by cases h
def Sc:A4 (.c0 225 [] [] (λ_=>none)):=λ_ _ h=>by cases h
def Uc:A4 (.c0 226 [] [] (λ_=>none)):=λ_ _ h=>by cases h
def Ta:A4 (.c0 227 [] [] (λ_=>none)):=λ_ _ h=>by cases h
def O8:A4 (.c0 228 [] [] (λ_=>none)):=λ_ _ h=>by cases h
def SD:A4 (.c0 230 [] [] (λ_=>none)):=λ_ _ h=>by cases h
def VV:A4 (.c0 231 [] [] (λ_=>none)):=λ_ _ h=>by cases h
def Wu:A4 (.c2 155 i64 [i64,i64,i64] [] [] Qa):=uB (P:=Tryz.prog) (F:=155) (te:=i64) (ds:=[i64,i64,i64]) (rs:=[]) (post:=[]) (f:=λg p=>Oi g p.1 p.2) (hs:=iJ [(155,[hn 0 2 [1,2,3,.t 8 .bool,.t 9 .bool,.u 0 i64,.g 0 0] [(.ret,[.u 0 i64])],c? 8 [3,.u 0 i64,.g 0 0],c? 12 [11,12,.u 0 i64,.g 0 0],hn 4 15 [.x 0] [(.normal,[.u 0 i64,.g 0 0]),(.ret,[.u 0 i64])],hn 4 17 [.x 0] [(1,[1,.u 0 i64,.g 0 0]),(.normal,[1,.u 0 i64,.g 0 0])],c? 25 [1,2,.t 8 .bool,.u 0 i64,.g 0 0]])]) (n:=13) (BA Sd (BA WP (BA Sc (BA Uc (BA Ta (BA O8 (BA SD (BA VV (BA WL CD))))))))) (λg l x=>by kernel_rfl)
def dW:A4 (.c2 94 i64 [] [] [] MD):=RW (hs:=iJ []) (n:=13) (BA Wu (BA Z9 CD)) (λl x=>by kernel_rfl)
def Xk:a? 98 [Bi,Bi] [i64] QR:=k0 [] (BA Np CD)
def mG:a? 102 [D1,D1] [i64] QQ:=k0 [] (BA Np CD)
def Po:A4 (.c2 233 Bi [i64,i64] [] [.fn (.func 98) [] []] Jb):=RW (hs:=iJ [(233,[e? 1 [8,.u 0 Bi,.g 0 0] 0 [.u 0 Bi],e? 4 [9,.u 0 Bi,.g 0 0] 2 [.u 0 Bi,.g 0 0],hn 4 4 [] [(2,[]),(.normal,[])]])]) (n:=13) (BA Xk CD) (λl x=>by kernel_rfl)
def SC:A4 (.c0 234 [] [] (λ_=>none)):=λ_ _ h=>by cases h
def Pn:A4 (.c0 235 [] [] (λ_=>none)):=λ_ _ h=>by cases h
def Qg:A4 (.c0 236 [] [] (λ_=>none)):=λ_ _ h=>by cases h
def QA:A4 (.c0 237 [] [] (λ_=>none)):=λ_ _ h=>by cases h
def MK:A4 (.c0 238 [] [] (λ_=>none)):=λ_ _ h=>by cases h
def O9:A4 (.c0 239 [] [] (λ_=>none)):=λ_ _ h=>by cases h
def RV:A4 (.c0 240 [] [] (λ_=>none)):=λ_ _ h=>by cases h
def Se:A4 (.c2 160 Bi [i64,i64,i64] [] [.fn (.func 98) [] []] MF):=uB (P:=Tryz.prog) (F:=160) (te:=Bi) (ds:=[i64,i64,i64]) (rs:=[]) (post:=[.fn (.func 98) [] []]) (f:=λg p=>K6 g p.1 p.2) (hs:=iJ [(160,[hn 0 2 [1,2,3,.t 10 .bool,.t 11 .bool,.u 0 Bi,.g 0 0] [(.ret,[.u 0 Bi])],c? 8 [3,.u 0 Bi,.g 0 0],c? 12 [13,14,.u 0 Bi,.g 0 0],hn 4 15 [.x 0] [(.normal,[.u 0 Bi,.g 0 0]),(.ret,[.u 0 Bi])],hn 4 17 [.x 0] [(1,[1,.u 0 Bi,.g 0 0]),(.normal,[1,.u 0 Bi,.g 0 0])],c? 25 [1,2,.t 10 .bool,.u 0 Bi,.g 0 0]])]) (n:=13) (BA Po (BA SC (BA Pn (BA Qg (BA QA (BA MK (BA O9 (BA RV (BA Xk CD))))))))) (λg l x=>by kernel_rfl)
def Qf:A4 (.c2 97 Bi [] [] [.fn (.func 98) [] []] Gx):=RW (hs:=iJ []) (n:=13) (BA Se (BA Z9 CD)) (λl x=>by kernel_rfl)
def Qh:A4 (.c2 243 D1 [i64,i64] [] [.fn (.func 102) [] []] E4):=RW (hs:=iJ [(243,[e? 1 [8,.u 0 D1,.g 0 0] 0 [.u 0 D1],e? 4 [9,.u 0 D1,.g 0 0] 2 [.u 0 D1,.g 0 0],hn 4 4 [] [(2,[]),(.normal,[])]])]) (n:=13) (BA mG CD) (λl x=>by kernel_rfl)
def Tb:A4 (.c0 244 [] [] (λ_=>none)):=λ_ _ h=>by cases h
def Us:A4 (.c2 163 D1 [i64] [] [.fn (.func 102) [] []] JX):=RW (hs:=iJ [(163,[e? 2 [7,8,.u 0 D1,.g 0 0] 0 [7,.u 0 D1,.g 0 0],e? 7 [6,.u 0 D1,.g 0 0] 2 [.u 0 D1],e? 9 [7,8,.u 0 D1,.g 0 0] 4 [7,.u 0 D1,.g 0 0],c? 15 [.u 0 D1,.g 0 0]])]) (n:=13) (BA Qh (BA Tb CD)) (λl x=>by kernel_rfl)
def Pl:A4 (.c2 101 D1 [] [] [.fn (.func 102) [] []] Ea):=RW (hs:=iJ []) (n:=13) (BA Us CD) (λl x=>by kernel_rfl)
def Sb:a? 55 [i64,(.list i64)] [.bool] Fv:=k0 [(55,[f? 4 [5] [.t 4 .bool] 0 []])] CD
def Vi:a? 17 [i64,(.list i64)] [BH,i64] Il:=k0 [] (BA Sb CD)
def Ve:a? 28 [] [Bh] G6:=k0 [] CD
def jq:a? 164 [i64] [.bool] IQ:=k0 [] CD
def tf:a? 245 [] [.str] Xv:=k0 [] (BA Tc CD)
def ik:a? 246 [.str,i64,i64] [i64] HP:=k0 [] (BA P1 CD)
def vY:a? 247 [.str] [A8,.bool] Ww:=k0 [(247,[hn 2 9 [.x 0,.x 1] [(.normal,[g? 1 A8,g? 0 A8]),(.ret,[.t 3 .bool,g? 0 A8,.x 1])],f? 3 [13,g? 1 A8,g? 0 A8] [.t 3 .bool,g? 0 A8,.x 1] 0 [g? 1 A8,g? 0 A8]])] (BA ik CD)
def sN:a? 139 [A8] [.bool] Wj:=k0 [] (BA jq CD)
def ti:a? 140 [A8] [.bool] U5:=k0 [(140,[f? 2 [7] [.t 2 .bool] 0 []])] CD
def jA:b? 142 0 YX [LC] [] Kf:=k1 [(142,[c? 3 [4]])] (BA mX (BA Tc CD))
def XM:a? 91 [A8] [.str,i64] NI:=k0 [(91,[e? 8 [29,g? 1 YX] 1 [g? 1 YX]])] (BA sN (BA ti (BA mX (BA jA (BA Tc (BA aT CD))))))
def sM:a? 165 [.str] [A8,i64] P3:=k0 [] (BA tf (BA ik (BA aT (BA vY (BA XM CD)))))
def fT:a? 53 [i64] [A8] DR:=k0 [] CD
def Uh:a? 104 [.str,i64] [A8,i64] Gg:=k0 [] (BA jq (BA sM (BA fT CD)))
def nN:a? 159 [.str] [GB] Rb:=k0 [] (BA P1 (BA Uh CD))
def TD:a? 103 [Bi] [.bool] K4:=k0 [(103,[f? 4 [36] [.t 2 .bool] 0 []])] (BA Uh CD)
def qG:a? 95 [.str] [Bi,i64] IT:=k0 [(95,[⟨0,13,[],[(1,2,GB)],[],[],[.t 5 i64,.t 50 i64,.u 2 GB,.p 1 [.d i64,.d i64,.o 2],.p 0 [.d Bi]],[(.ret,[.t 3 i64,.p 0 [.d Bi],.x 1,.x 2]),(.exit 0,[.t 5 i64,.u 2 GB,.p 1 [.d i64,.d i64,.o 2],.p 0 [.d Bi]])]⟩])] (BA Z8 (BA Vk (BA P1 (BA nN (BA TD CD)))))
def sK:a? 96 [Bi] [.bool] Wi:=k0 [] (BA TD CD)
def Ug:a? 48 [(.list Dv)] [(.list Bi)] Io:=k0 [(48,[⟨0,4,[(4,Bi)],[],[],[],[.t 12 i64,.m 0 .i64 .bool,.u 1 Bi,.g 4 1],[(.exit 0,[.m 0 .i64 .bool,.u 1 Bi,.g 4 1])]⟩])] (BA qG (BA sK (BA Qf CD)))
def oS:a? 242 [GB,i64] [i64] Pu:=k0 [] CD
def sL:a? 162 [Bi,i64] [i64,.bool] Si:=k0 [(241,[c? 6 [9,10],e? 3 [9,10] 0 [9]])] (BA oS CD)
def jn:a? 100 [Bi,i64] [GB,.bool] U3:=k0 [] (BA TD (BA sL CD))
def oL:a? 49 [(.list Dv),i64,i64] [(.list D1)] TE:=k0 [(49,[hn 3 2 [] []]),(161,[⟨0,1,[],[(2,0,D1)],[],[],[.t 3 i64,.u 5 D1,.p 2 [.o 5],.y 4 .ready],[(.exit 0,[.u 5 D1,.p 2 [.o 5],.y 4 .ready])]⟩])] (BA Ug (BA jn (BA Pl CD)))
def kA:b? 51 1 D1 [Bi] [.bool] Tk:=k1 [] CD
def jp:a? 52 [Bi,i64] [A8,i64] Ra:=k0 [] (BA TD (BA jn (BA Uh CD)))
def mK:a? 90 [BH,Bh] [i64] Qb:=k0 [] (BA Hl (BA J7 CD))
def qB:a? 187 [A8,Jc] [A8,i64] Uy:=k0 [] (BA cU CD)
def tj:a? 117 [A8,Af] [A8,i64] VI:=k0 [] (BA TC (BA Mg (BA XM (BA qB CD))))
def dX:a? 64 [A8,(.list Af)] [A8,i64] If:=k0 [(64,[f? 2 [12,g? 0 A8,g? 1 A8] [5,g? 1 A8,.x 0] 0 [g? 0 A8,g? 1 A8]])] (BA tj CD)
def qI:a? 46 [A8,BH,Bh,i64] [A8,i64] J0:=k0 [] (BA mK (BA XM (BA jm (BA dX CD))))
def qF:a? 47 [BH,Bh,i64,i64,i64] [(.list i64),i64,i64,i64] IR:=k0 [(47,[]),(154,[⟨0,4,[],[(4,0,i64)],[],[],[.t 27 i64,.u 9 i64,.p 4 [.o 9],.y 8 .ready],[(.exit 0,[.u 9 i64,.p 4 [.o 9],.y 8 .ready])]⟩])] (BA jm (BA WM (BA QM (BA QN (BA dW CD)))))
def nP:a? 14 [(.list Dv),BH,Bh,i64,i64] [A8,GC,i64] Cc:=k0 [(14,[f? 10 [61,g? 4 A8,g? 5 GC] [12,g? 4 A8,g? 5 GC] 1 [g? 4 A8,g? 5 GC]]),(50,[f? 2 [8,g? 6 D1] [4,g? 6 D1] 0 [g? 6 D1]])] (BA Hl (BA J7 (BA Ug (BA oL (BA kA (BA jp (BA qI (BA qF (BA fT CD)))))))))
def Vd:a? 29 [i64] [A8] DR:=k0 [] CD
def WN:b? 19 0 BJ [i64] [i64] Hd:=k1 [] CD
def CN:b? 19 0 BJ [i64] [i64] Ak:=k1 [] (BA WN CD)
def Vf:a? 293 [i64] [Ec,i64] Ki:=k0 [] CD
def Vg:a? 294 [i64] [ES,i64] Nt:=k0 [] CD
def jI:a? 266 [i64,i64] [A5,i64] Nw:=k0 [] (BA Vf (BA Vg (BA Ve CD)))
def aW:a? 295 [i64] [(.list .str)] PF:=k0 [(295,[⟨0,3,[(3,.str)],[],[],[],[.t 4 i64,.u 0 .str,.g 3 0],[(.exit 0,[.u 0 .str,.g 3 0])]⟩])] CD
def jB:a? 267 [i64] [Fj,i64] Kg:=k0 [] (BA aW CD)
def jJ:a? 196 [i64,i64] [A3,i64] Nx:=k0 [] (BA jI (BA jB CD))
def Xr:b? 333 0 BJ [] [.str] It:=k1 [(333,[c? 3 [3,g? 0 BJ],e? 6 [5,.u 1 (.int .u8),.g 4 1,g? 0 BJ] 0 [.u 1 (.int .u8),.g 4 1,g? 0 BJ]])] (BA CN CD)
def Yh:b? 334 0 BJ [] [i64] HQ:=k1 [] (BA CN CD)
def Wn:b? 305 0 BJ [i64] [FF] IB:=k1 [(305,[c? 5 [.t 15 .bool],c? 4 [.t 15 .bool],c? 8 [g? 0 BJ,g? 3 FF],c? 11 [g? 0 BJ,g? 3 FF],c? 6 [g? 0 BJ,g? 3 FF],c? 13 [g? 0 BJ,g? 3 FF]])] (BA CN (BA Xr (BA Yh CD)))
def Xt:b? 269 0 BJ [i64,i64,.bool] [TN] Iu:=k1 [(269,[c? 3 [.t 11 .bool],d? 12 [g? 0 BJ,g? 1 TN] [g? 0 BJ,g? 1 TN]])] (BA CN (BA Wn CD))
def VT:b? 198 0 BJ [i64,i64,.bool] [(.list TN)] HC:=k1 [(198,[e? 3 [10,.u 1 TN,.g 9 1,g? 0 BJ] 0 [.u 1 TN,.g 9 1,g? 0 BJ]])] (BA CN (BA Xt CD))
def Gj:a? 37 [Bh] [i64] Ck:=k0 [] CD
def QO:a? 265 [LC] [.bool] Df:=k0 [] CD
def Tx:a? 195 [Jc] [.bool] I6:=k0 [] (BA QO CD)
def cr:a? 123 [Af] [Af,.bool] Lo:=k0 [(123,[c? 4 [.t 13 .bool],c? 8 [.t 5 .bool,g? 2 Af],c? 13 [.t 67 .bool],c? 12 [.t 67 .bool],c? 17 [.t 91 .bool]])] (BA Tx CD)
def aX:a? 124 [i64,i64] [.bool] Gp:=k0 [] CD
def D3:a? 71 [Af] [.bool] Cs:=k0 [] (BA cr (BA aX CD))
def CT:a? 36 [Bh] [.bool] B5:=k0 [(36,[f? 4 [3] [.t 2 .bool] 0 []])] (BA Gj (BA D3 CD))
def Rl:a? 259 [A8] [.bool] Hu:=k0 [] CD
def Tu:a? 260 [A8] [.bool] I4:=k0 [(260,[f? 2 [3] [.t 2 .bool] 0 []])] (BA QO CD)
def cj:a? 376 [A8] [.bool] Ll:=k0 [] (BA Rl (BA Tu CD))
def EV:a? 345 [Ec] [.bool] Dj:=k0 [(345,[f? 11 [6] [.t 2 .bool] 2 [],f? 5 [4] [.t 2 .bool] 0 []])] (BA cj CD)
def Tz:a? 432 [Bq] [.bool] HI:=k0 [] CD
def Uk:a? 433 [Bq,Bq] [.bool] Ff:=k0 [] CD
def LH:a? 419 [Bq,Bq] [.bool] EG:=k0 [] CD
def O6:a? 434 [DU,i64,JQ] [i64] EH:=k0 [(434,[f? 2 [7] [6] 0 []])] CD
def FT:a? 395 [DU] [.bool] D7:=k0 [(395,[f? 9 [4] [.t 2 .bool] 2 [],f? 4 [3] [.t 2 .bool] 0 [],f? 20 [7] [.t 2 .bool] 6 [],f? 14 [5] [.t 2 .bool] 4 []])] (BA Tz (BA Uk (BA LH (BA O6 CD))))
def dE:a? 408 [B3] [.bool] JB:=k0 [(408,[f? 6 [3] [.t 2 .bool] 0 [],f? 11 [4] [.t 2 .bool] 2 []])] CD
def FU:a? 368 [(.list B3)] [.bool] C6:=k0 [(368,[f? 4 [3] [.t 2 .bool] 0 []])] (BA dE CD)
def jF:a? 435 [i64] [.bool] G7:=k0 [] CD
def GQ:a? 396 [ES] [.bool] D8:=k0 [(396,[f? 4 [3] [.t 2 .bool] 0 []])] (BA jF CD)
def Pk:a? 397 [(.list B7),i64] [.bool] Dx:=k0 [(397,[f? 2 [5] [.t 4 .bool] 0 []])] CD
def dJ:a? 355 [A5] [.bool] JD:=k0 [] (BA CT (BA EV (BA FT (BA FU (BA GQ (BA Pk CD))))))
def KB:a? 356 [A5,i64] [B7,.bool] E9:=k0 [(356,[f? 2 [6,g? 1 B7] [.t 5 .bool,g? 1 B7] 0 [g? 1 B7]])] CD
def CU:a? 329 [A5] [.bool] Bd:=k0 [(329,[f? 4 [3] [.t 2 .bool] 0 [],f? 9 [4] [.t 2 .bool] 2 [],f? 18 [8] [.t 2 .bool] 4 [],f? 23 [9] [.t 2 .bool] 6 []])] (BA dJ (BA KB CD))
def Ko:a? 369 [(.list B3),i64] [i64] Ep:=k0 [(369,[f? 2 [5] [4] 0 []])] CD
def T0:a? 339 [(.list B3),i64] [(.list B3),i64] GG:=k0 [(339,[⟨0,11,[(6,B3)],[],[],[],[.t 7 i64,.u 0 B3,.g 6 0],[(.exit 1,[.u 0 B3,.g 6 0])]⟩])] (BA FU (BA Ko CD))
def dF:a? 321 [A5] [A5,i64,i64] Lx:=k0 [] (BA CU (BA T0 CD))
def dP:a? 296 [A3] [A3,i64,i64] L6:=k0 [] (BA dF CD)
def Cv:a? 304 [i64] [DA] BM:=k0 [] CD
def au:a? 301 [i64] [DA] ED:=k0 [] (BA Cv CD)
def Gk:a? 346 [Ec,i64] [i64] Fg:=k0 [(346,[f? 2 [5] [4] 0 []])] CD
def Fk:a? 324 [Ec,i64] [i64] EI:=k0 [] (BA EV (BA Gk CD))
def I1:a? 343 [Ec,i64] [A8,.bool] GA:=k0 [] (BA Fk CD)
def IM:a? 11 [Bh] [i64] El:=k0 [] (BA CT (BA Gj CD))
def J9:a? 76 [Bh,i64] [Bh,i64] EP:=k0 [] (BA CT (BA Gj CD))
def KA:a? 344 [A5,i64] [A5] GI:=k0 [(344,[c? 3 [g? 0 A5]])] (BA IM (BA J9 CD))
def dG:a? 323 [A5,i64] [A5,A8,i64] Ly:=k0 [] (BA CU (BA I1 (BA KA CD)))
def Hr:a? 189 [A8] [i64] D6:=k0 [] (BA Rl (BA Tu CD))
def Dg:a? 125 [.str,i64,i64] [.str] An:=k0 [(125,[e? 4 [.t 0 .str,7] 0 [.t 0 .str]])] CD
def Tv:a? 127 [i64] [.str] HF:=k0 [] CD
def Le:a? 190 [.str] [(.int .u32)] FK:=k0 [(190,[c? 10 [.t 3 (.int .u32)],e? 7 [.t 3 (.int .u32),5] 2 [.t 3 (.int .u32)],e? 3 [.t 3 (.int .u32),4] 0 [.t 3 (.int .u32)]])] CD
def HO:a? 119 [A8] [.str,i64] DF:=k0 [(119,[c? 11 [7],e? 7 [.t 5 .str,6] 0 [.t 5 .str]])] (BA Hr (BA Dg (BA Tv (BA Le CD))))
def cq:a? 452 [Fj,Dk] [.bool] Ln:=k0 [(452,[c? 7 [.t 59 .bool],d? 13 [.t 4 .bool,.x 2] [g? 2 Dk],hn 2 11 [.x 2] [(.normal,[g? 2 Dk]),(.ret,[.t 4 .bool,.x 2])],hn 2 9 [.x 2] [(.normal,[g? 2 Dk]),(.ret,[.t 4 .bool,.x 2])],hn 2 8 [.x 2] [(.normal,[g? 2 Dk]),(.ret,[.t 4 .bool,.x 2])]])] CD
def ck:a? 421 [Fj] [.bool] Lm:=k0 [(421,[f? 5 [4] [.t 2 .bool] 0 [],f? 10 [5] [.t 2 .bool] 2 [],f? 15 [6] [.t 2 .bool] 4 []])] (BA cq CD)
def NC:a? 377 [Fj,i64] [i64] Gn:=k0 [] (BA ck CD)
def Rm:a? 422 [(.list i64),i64] [(.list i64)] FW:=k0 [(422,[c? 6 [.u 0 i64,.g 5 0],⟨0,3,[(5,i64)],[],[],[],[.t 6 i64,.u 0 i64,.g 5 0],[(.exit 0,[.u 0 i64,.g 5 0])]⟩])] CD
def fW:a? 380 [(.list i64),i64] [(.list i64)] Fe:=k0 [(380,[c? 7 [.t 6 .bool,.u 0 i64,.g 5 0],c? 10 [.u 0 i64,.g 5 0],⟨0,4,[(5,i64)],[],[],[],[.t 6 .bool,.t 7 i64,.u 0 i64,.g 5 0],[(.exit 0,[.t 6 .bool,.u 0 i64,.g 5 0])]⟩,c? 12 [.u 0 i64,.g 5 0]])] CD
def cp:a? 347 [Fj,i64,.str] [Fj,i64] QC:=k0 [(347,[c? 16 [.u 8 Dk,.u 9 Dk,.g 10 8,.p 7 [.o 4,.d i64,.o 5,.d .bool,.o 9]],⟨0,13,[(10,Dk)],[(7,4,Dk)],[],[],[.t 11 i64,.u 8 Dk,.u 4 .str,.u 5 i64,.u 9 Dk,.g 10 8,.p 7 [.o 4,.d i64,.o 5,.d .bool,.o 9],.p 2 Q?,.p 3 Q?],[(.exit 0,[.u 8 Dk,.u 4 .str,.u 5 i64,.u 9 Dk,.g 10 8,.p 7 [.o 4,.d i64,.o 5,.d .bool,.o 9],.p 2 Q?,.p 3 Q?])]⟩,c? 29 [.t 12 .bool,.u 4 .str,.p 7 i?,.p 2 e!,.p 3 e!],c? 26 [.t 12 .bool,.u 4 .str,.p 2 e!,.p 3 e!,.p 7 i?],c? 24 [.t 12 .bool,.u 4 .str,.p 2 e!,.p 3 e!,.p 7 i?],⟨0,20,[],[],[5],[],[.t 12 .bool,.t 13 i64,.u 4 .str,.u 6 Dk,.u 4 .str,.u 6 Dk,.u 4 .str,.u 9 Dk,.p 2 e!,.p 3 e!,.p 7 i?],[(.exit 2,[.t 12 .bool,.u 4 .str,.u 6 Dk,.u 9 Dk,.p 2 e!,.p 3 e!,.p 7 i?])]⟩,c? 32 [.u 4 .str,.p 7 i?,.p 2 e!,.p 3 e!],c? 45 [.p 7 i?],c? 43 [.p 7 i?],c? 39 [.u 4 .str,.p 7 i?,.p 2 e!,.p 3 e!],e? 34 [14,.u 4 .str,.u 6 Dk,.u 4 .str,.u 6 Dk,.u 4 .str,.u 9 Dk,.p 2 e!,.p 3 e!,.p 7 i?] 5 [.u 4 .str,.u 6 Dk,.u 9 Dk,.p 2 e!,.p 3 e!,.p 7 i?]])] (BA NC (BA Rm (BA fW CD)))
def Lf:a? 423 [Ec,i64,Tn] [Ec] Ik:=k0 [] CD
def dA:a? 381 [Ec,i64,i64] [Ec,i64] QD:=k0 [(381,[c? 14 [g? 2 Tn],c? 12 [g? 2 Tn]])] (BA EV (BA Gk (BA Lf CD)))
def Dt:a? 386 [(.list B3),i64] [i64] Cd:=k0 [] (BA Ko CD)
def D9:a? 200 [Af] [.bool] BF:=k0 [] CD
def O7:a? 359 [A5,i64] [i64] Er:=k0 [] (BA CU (BA I1 (BA KB CD)))
def SU:a? 25 [Bh,Af] [Bh,i64,i64] Gq:=k0 [] (BA CT (BA Gj (BA D3 CD)))
def HE:a? 387 [Bh,i64] [Af,i64] FL:=k0 [] (BA CT (BA Gj CD))
def ND:a? 425 [(.list B3),i64] [(.list B3)] Gs:=k0 [(425,[c? 6 [.u 0 B3,.g 5 0],⟨0,3,[(5,B3)],[],[],[],[.t 6 i64,.u 0 B3,.g 5 0],[(.exit 0,[.u 0 B3,.g 5 0])]⟩])] CD
def SX:a? 427 [B3] [B3] Ia:=k0 [(427,[c? 2 [g? 0 B3]])] CD
def P9:a? 426 [(.list B3),i64,B3] [(.list B3)] Kj:=k0 [] CD
def Un:a? 388 [(.list B3),Af] [(.list B3),i64] Eo:=k0 [(388,[c? 24 [.u 2 i64,.g 8 2],⟨0,21,[(8,i64)],[],[],[],[.t 9 i64,.u 2 i64,.g 8 2],[(.exit 2,[.u 2 i64,.g 8 2])]⟩,d? 19 [.t 4 (.list B3),5,.x 1] [g? 1 B3],hn 2 17 [.x 1] [(.normal,[g? 1 B3]),(.ret,[.t 4 (.list B3),5,.x 1])]])] (BA FU (BA D3 (BA Ko (BA ND (BA SX (BA P9 CD))))))
def jG:a? 428 [ES,i64,D1] [ES] Nu:=k0 [] CD
def Um:a? 389 [ES,Af] [ES,i64] Hz:=k0 [] (BA GQ (BA D3 (BA jG CD)))
def GD:a? 351 [A5,Af] [A5,i64,i64] EY:=k0 [(351,[d? 5 [5,6,g? 2 A5,.x 1] [g? 1 Af,g? 2 A5],c? 10 [g? 1 Af]])] (BA CU (BA Dt (BA D9 (BA O7 (BA SU (BA HE (BA Un (BA Um CD))))))))
def Zb:a? 348 [A5,i64,i64] [A5,i64] KK:=k0 [(348,[d? 7 [7,g? 1 A5,.x 2] [g? 2 Ec,g? 1 A5]])] (BA CU (BA IM (BA Fk (BA dA (BA GD CD)))))
def T4:a? 325 [A3,A5,A8] [A3,i64] L9:=k0 [] (BA HO (BA cp (BA Zb CD)))
def dR:a? 299 [A3,i64] [A3,i64] L8:=k0 [] (BA dG (BA Fk (BA T4 CD)))
def dC:a? 382 [Ec] [(.list B7)] Lu:=k0 [(382,[c? 9 [.u 1 B7,.g 3 1],⟨0,5,[(3,B7)],[],[],[],[.t 4 i64,.u 1 B7,.g 3 1],[(.exit 0,[.u 1 B7,.g 3 1])]⟩])] (BA EV (BA Gk CD))
def ju:a? 349 [A5] [Hp,i64] PS:=k0 [(349,[c? 9 [.u 3 B7,.p 2 l?],c? 14 [.u 3 B7,.p 2 l?],e? 11 [46,.u 3 B7,.p 2 l?] 2 [.u 3 B7,.p 2 l?],⟨0,5,[],[(2,3,B7)],[],[],[.t 5 i64,.u 3 B7,.p 2 l?],[(.exit 0,[.u 3 B7,.p 2 l?])]⟩])] (BA CU (BA KB (BA dC CD)))
def T1:a? 383 [Hp] [.bool] HJ:=k0 [(383,[f? 4 [3] [.t 2 .bool] 0 []])] (BA FU (BA Pk (BA GQ CD)))
def Za:a? 424 [.str,(.list i64)] [.str] H4:=k0 [(424,[e? 2 [.t 0 .str,5] 0 [.t 0 .str]])] (BA Dg CD)
def ag:a? 384 [(.list B3)] [.str,i64] Kv:=k0 [(384,[e? 5 [.t 4 .str,5] 0 [.t 4 .str]])] (BA FU (BA Dg (BA Za CD)))
def ae:a? 385 [ES] [.str,i64] IY:=k0 [(385,[e? 5 [.t 4 .str,5] 0 [.t 4 .str]])] (BA GQ (BA Dg CD))
def an:a? 350 [Hp] [.str,i64] Gt:=k0 [(350,[e? 9 [.t 6 .str,7] 0 [.t 6 .str]])] (BA T1 (BA ag (BA Dg (BA ae CD))))
def fo:a? 326 [A5] [A5,i64,i64] Q4:=k0 [] (BA ju (BA an (BA GD (BA J9 CD))))
def XN:a? 300 [A3] [A3,i64,i64] LU:=k0 [] (BA fo CD)
def fV:a? 352 [Fj,i64,.str,i64] [Fj,i64] Qz:=k0 [] (BA NC (BA Rm CD))
def J8:a? 126 [.str] [.str] Dh:=k0 [] (BA Dg (BA Le CD))
def fZ:a? 390 [i64] [.str] Mn:=k0 [] (BA Dg (BA J8 CD))
def fX:a? 271 [.str,LC] [.str] GZ:=k0 [] (BA Dg CD)
def SS:a? 204 [Af] [.str,i64] Fo:=k0 [] (BA D3 (BA Dg (BA fX CD)))
def cw:a? 391 [Af] [.str] I7:=k0 [] (BA SS (BA J8 CD))
def cu:a? 353 [Bh,i64] [.str] HG:=k0 [(353,[c? 8 [.t 5 .str,.t 6 .str],e? 5 [.t 5 .str,.t 6 .str,7] 0 [.t 5 .str,.t 6 .str]])] (BA CT (BA fZ (BA cw CD)))
def dQ:a? 327 [A3,i64,i64,i64] [Fj,.str] L7:=k0 [(327,[c? 8 [g? 3 Fj],c? 4 [g? 2 A5,g? 3 Fj]])] (BA Fk (BA HO (BA KA (BA fV (BA cu CD)))))
def E8:a? 206 [.str,i64,i64] [i64,i64] Az:=k0 [(206,[e? 7 [.t 8 (.int .u64),9] 0 [.t 8 (.int .u64)]])] CD
def Rk:a? 133 [.str,i64] [.str,i64,i64] CV:=k0 [] (BA E8 (BA Le CD))
def Nl:b? 335 0 Ou [i64] [i64] BT:=k1 [] (BA E8 CD)
def N7:b? 337 0 Ou [i64] [.str] Cz:=k1 [] CD
def Wq:b? 336 0 Ou [] [LC] Co:=k1 [] (BA Nl (BA N7 CD))
def SP:a? 307 [.str] [Af,i64] EC:=k0 [] (BA Nl (BA Wq (BA N7 (BA D3 CD))))
def fY:a? 392 [.str] [Bh,i64] Ju:=k0 [(392,[⟨0,8,[],[(1,1,Af)],[],[],[.t 5 i64,.u 2 Af,.p 1 [.d i64,.o 2,.d i64],.p 0 [.d Bh]],[(.ret,[.t 3 i64,.p 0 [.d Bh],.x 1,.x 2]),(.exit 0,[.u 2 Af,.p 1 [.d i64,.o 2,.d i64],.p 0 [.d Bh]])]⟩])] (BA Rk (BA E8 (BA SP CD)))
def Nn:b? 462 0 Gi [i64] [i64] Cf:=k1 [] (BA E8 CD)
def Wr:b? 463 0 Gi [i64] [(.list i64)] GM:=k1 [(463,[⟨0,3,[(5,i64)],[],[],[],[.t 6 i64,.u 1 i64,.g 5 1,.p 0 [.d Gi]],[(.exit 0,[.u 1 i64,.g 5 1,.p 0 [.d Gi]])]⟩])] (BA Nn CD)
def af:a? 460 [.str] [(.list B3),i64] Ku:=k0 [(460,[⟨0,4,[(5,B3)],[],[],[],[.t 6 i64,.u 1 B3,.g 5 1,.p 0 [.d Gi]],[(.exit 0,[.u 1 B3,.g 5 1,.p 0 [.d Gi]])]⟩])] (BA Nn (BA Wr (BA FU CD)))
def ac:a? 461 [.str] [ES,i64] En:=k0 [(461,[⟨0,8,[],[(1,0,D1)],[],[],[.t 7 i64,.u 2 D1,.p 1 [.o 2]],[(.exit 1,[.u 2 D1,.p 1 [.o 2]])]⟩])] (BA E8 (BA GQ CD))
def am:a? 457 [.str] [Hp,i64] DG:=k0 [(457,[⟨0,15,[],[(1,3,B7)],[],[],[.t 9 i64,.t 11 i64,.u 2 B7,.p 1 [.d i64,.d i64,.d (.list B3),.o 2,.d ES]],[(.exit 0,[.t 9 i64,.u 2 B7,.p 1 [.d i64,.d i64,.d (.list B3),.o 2,.d ES]])]⟩])] (BA E8 (BA af (BA ac (BA T1 CD))))
def aq:a? 453 [Bh] [Hp,i64,.bool] PR:=k0 [(453,[f? 4 [5,g? 1 Hp] [3,.t 4 .bool,g? 1 Hp] 0 [g? 1 Hp]])] (BA CT (BA am CD))
def dM:a? 429 [Bh,i64] [FQ,i64] QE:=k0 [] (BA aq (BA Vg CD))
def dK:a? 454 [(.list B7),Af] [(.list B7)] HK:=k0 [(454,[c? 10 [.t 6 .bool,.u 1 B7,.g 5 1],c? 18 [g? 2 B7],hn 2 15 [.x 2] [(.normal,[g? 2 B7]),(1,[g? 2 B7])],hn 2 13 [.x 2] [(.normal,[.t 6 .bool,g? 2 B7]),(1,[.t 6 .bool,g? 2 B7])],⟨0,6,[(5,B7)],[],[],[],[.t 6 .bool,.t 7 i64,.u 1 B7,.g 5 1],[(.exit 0,[.t 6 .bool,.u 1 B7,.g 5 1])]⟩,c? 21 [.u 1 B7,.g 5 1]])] (BA D9 CD)
def fu:a? 430 [FQ,Af] [FQ,i64] Mw:=k0 [(430,[d? 2 [5,g? 2 FQ,.x 0] [g? 0 FQ,g? 2 FQ]])] (BA Dt (BA T0 (BA Un (BA Um (BA D9 (BA dK CD))))))
def fq:a? 458 [Bq,Bq] [.bool] Ff:=k0 [] CD
def fw:a? 455 [(.list Bq),Bq] [(.list Bq)] Q8:=k0 [(455,[e? 2 [5] 0 [5]])] (BA fq CD)
def dL:a? 431 [Bh,(.list B3)] [(.list Bq),i64] L4:=k0 [(431,[f? 6 [.t 6 (.list Bq),8] [.t 4 (.list Bq),5] 2 [.t 6 (.list Bq)],f? 3 [.t 6 (.list Bq),7] [.t 4 (.list Bq),5] 0 [.t 6 (.list Bq)]])] (BA HE (BA fw CD))
def Ze:a? 393 [Bh,i64] [FQ,i64] KQ:=k0 [(393,[f? 9 [8,g? 2 FQ,g? 1 FQ] [5,g? 1 FQ,.x 2] 0 [g? 2 FQ,g? 1 FQ],c? 20 [.u 3 B3,.g 9 3],⟨0,17,[(9,B3)],[],[],[],[.t 10 i64,.u 3 B3,.g 9 3],[(.exit 2,[.u 3 B3,.g 9 3])]⟩])] (BA CT (BA dM (BA fu (BA dL CD))))
def dO:a? 394 [Bh,FQ,i64] [A5,i64] L5:=k0 [(394,[f? 8 [11,g? 4 A5,g? 2 A5] [7,g? 2 A5,.x 4] 0 [g? 4 A5,g? 2 A5]])] (BA Vf (BA CU (BA GD CD)))
def gC:a? 354 [Fj,.str,i64,i64] [A3,i64] RE:=k0 [] (BA fY (BA Ze (BA dO CD)))
def gD:a? 328 [Fj,.str,i64,i64] [A3,i64] RF:=k0 [] (BA gC CD)
def ab:a? 436 [Ec] [Ec,i64,i64] PO:=k0 [(436,[e? 5 [g? 0 Ec] 0 [g? 0 Ec]])] (BA EV (BA Lf CD))
def fg:a? 437 [Ec,i64] [Ec,i64] Mr:=k0 [(437,[c? 10 [.p 0 [.d i64,.o 2,.d i64]],c? 12 [.p 0 [.d i64,.o 2,.d i64]]])] (BA EV (BA Gk CD))
def fj:a? 398 [A5] [A5,A8,.bool,i64] Mu:=k0 [] (BA CU (BA ab (BA Fk (BA fg (BA KA CD)))))
def gB:a? 357 [A3] [A3,i64] My:=k0 [(357,[hn 0 1 [g? 0 A3,g? 1 A3] [(.ret,[3,g? 1 A3,.x 0])]])] (BA fj (BA T4 CD))
def jC:a? 399 [(.list i64),i64] [.bool] Nr:=k0 [(399,[f? 2 [5] [.t 4 .bool] 0 []])] CD
def fU:a? 358 [Fj,i64] [.str,i64] Mm:=k0 [] (BA NC (BA jC CD))
def Tt:a? 73 [] [.str] I3:=k0 [] (BA Tv CD)
def aV:a? 188 [.str] [A8,i64] Ek:=k0 [(188,[f? 14 [7,g? 1 A8,g? 0 A8] [3,g? 0 A8,.x 1] 1 [g? 1 A8,g? 0 A8]])] (BA Tt (BA E8 (BA Le (BA HO CD))))
def LG:a? 118 [.str,i64] [A8,i64] Cw:=k0 [] (BA aV (BA Vd CD))
def dD:a? 360 [ES,i64,i64,.str] [A8,i64] Lw:=k0 [] (BA GQ (BA LG CD))
def cy:a? 459 [Af,(.list Af)] [(.list Af)] Lq:=k0 [] CD
def fb:a? 456 [Bh,i64,i64,i64] [(.list Af),i64] Q1:=k0 [(456,[f? 7 [.t 10 (.list Af),11] [.t 8 (.list Af),9] 0 [.t 10 (.list Af),11]])] (BA CT (BA HE (BA D9 (BA cy CD))))
def dN:a? 438 [Bh,A8,i64] [(.list Af),i64] Vw:=k0 [] (BA CT (BA Hr (BA fb CD)))
def Tw:a? 264 [A8,Jc] [A8,i64] I5:=k0 [] (BA Tx CD)
def T2:a? 194 [A8,Af] [A8,i64] JE:=k0 [] (BA D3 (BA D9 (BA Hr (BA Tw CD))))
def fy:a? 400 [Bh,A8,i64] [A8,i64,i64] RD:=k0 [(400,[f? 5 [11,g? 1 A8,g? 2 A8] [7,8,g? 2 A8,.x 1] 0 [g? 1 A8,g? 2 A8]])] (BA dN (BA T2 CD))
def fx:a? 361 [Bh,A8,i64] [A8,i64] Q9:=k0 [] (BA fy CD)
def ai:a? 362 [A5,A8] [A5,i64] Ky:=k0 [(362,[c? 21 [.u 9 B7,.g 10 9],⟨0,18,[(10,B7)],[],[],[],[.t 11 i64,.u 9 B7,.g 10 9],[(.exit 1,[.u 9 B7,.g 10 9])]⟩,c? 14 [.u 6 Tn,g? 0 A5,.p 3 [.d i64,.o 6,.d i64],.p 5 [.d i64,.o 6,.d i64],.p 7 [.d i64,.o 6,.d i64]]])] (BA CU (BA O7 (BA EV (BA Hr (BA KB (BA Gk CD))))))
def KC:a? 330 [A3,i64] [A3,i64] FA:=k0 [] (BA CU (BA Fk (BA gB (BA fU (BA O7 (BA dD (BA fx (BA ai CD))))))))
def SZ:a? 363 [A5,i64] [B3,.bool] Ic:=k0 [(363,[d? 2 [.t 5 .bool,g? 1 B3] [g? 1 B3]])] (BA CU (BA Dt CD))
def gA:a? 331 [A5] [(.list i64)] Mx:=k0 [(331,[c? 7 [.u 1 i64,.g 3 1],⟨0,3,[(3,i64)],[],[],[],[.t 4 i64,.u 1 i64,.g 3 1],[(.exit 0,[.u 1 i64,.g 3 1])]⟩])] (BA SZ CD)
def Is:a? 364 [A5,i64] [B3,i64] FZ:=k0 [] (BA CU (BA Dt CD))
def O5:a? 403 [(.list Bq),i64,.bool,JQ] [(.list Bq)] Gb:=k0 [(403,[c? 6 [.u 1 Bq,.g 9 1],⟨0,3,[(9,Bq)],[],[],[],[.t 10 i64,.u 1 Bq,.g 9 1],[(.exit 0,[.u 1 Bq,.g 9 1])]⟩])] CD
def fe:a? 439 [DU,i64] [.bool] Mp:=k0 [(439,[f? 2 [5] [.t 4 .bool] 0 [],f? 7 [6] [.t 4 .bool] 2 []])] (BA LH CD)
def ff:a? 440 [(.list Bq),Bq] [(.list Bq)] Mq:=k0 [(440,[c? 7 [.t 6 .bool,.u 1 Bq,.g 5 1],c? 10 [.u 1 Bq,.g 5 1],⟨0,4,[(5,Bq)],[],[],[],[.t 6 .bool,.t 7 i64,.u 1 Bq,.g 5 1],[(.exit 0,[.t 6 .bool,.u 1 Bq,.g 5 1])]⟩,c? 12 [.u 1 Bq,.g 5 1]])] (BA Uk CD)
def Jd:a? 402 [DU] [DU] Fp:=k0 [(402,[c? 5 [3,g? 0 DU],e? 2 [3,g? 0 DU] 0 [g? 0 DU]])] (BA fe (BA ff CD))
def MJ:a? 365 [DU,i64] [DU] Hy:=k0 [] (BA FT (BA O5 (BA Jd CD)))
def fm:a? 366 [A5,i64] [Af,.bool] H5:=k0 [] (BA Is (BA HE CD))
def ZX:a? 404 [Jc] [Jc] KE:=k0 [] CD
def aa:a? 441 [Ec,A8] [Ec,i64] Kt:=k0 [(441,[c? 13 [g? 3 Tn]])] (BA EV (BA Hr (BA Gk (BA Lf CD))))
def Vh:a? 405 [A5,Af] [A5,i64] Kk:=k0 [] (BA GD (BA I1 (BA aa CD)))
def jt:a? 442 [A5,B3,JQ,i64] [Af,.bool] PQ:=k0 [(442,[f? 2 [10,g? 3 Af] [.t 9 .bool,g? 3 Af] 0 [g? 3 Af]])] (BA HE CD)
def SY:a? 406 [A5,i64,JQ] [Af,.bool] K1:=k0 [] (BA Is (BA jt CD))
def Uj:a? 407 [DU,i64,JQ] [DU] Mo:=k0 [] (BA FT (BA O5 (BA Jd CD)))
def Ur:a? 367 [A5,B3,Af] [A5,DA] Gc:=k0 [(367,[c? 15 [g? 8 A5],c? 12 [g? 8 A5]])] (BA I1 (BA ZX (BA Tw (BA Cv (BA Vh (BA SY (BA Uj CD)))))))
def Up:a? 332 [A5,i64] [A5,DA] Jw:=k0 [] (BA Is (BA Cv (BA GD (BA MJ (BA fm (BA Ur CD))))))
def gE:a? 303 [A3] [A3,.bool,i64] Mz:=k0 [(303,[hn 0 9 [g? 0 A3,g? 1 A3] [(.ret,[.t 3 .bool,4,g? 1 A3,.x 0])]])] (BA CU (BA KC (BA gA (BA Up CD))))
def ah:a? 443 [A5,FF] [i64] Kw:=k0 [(443,[c? 6 [.t 11 .bool],c? 5 [.t 11 .bool],c? 11 [g? 2 FF],c? 18 [.t 60 .bool],c? 17 [.t 60 .bool],d? 13 [4,.x 2] [g? 2 FF],d? 7 [4,.x 2] [g? 2 FF]])] CD
def Ir:a? 373 [DU,i64] [Bq,.bool] FX:=k0 [(373,[f? 3 [6,g? 1 Bq] [.t 5 .bool,g? 1 Bq] 0 [g? 1 Bq],d? 2 [.t 5 .bool,g? 1 Bq] [g? 1 Bq]])] (BA FT CD)
def Uo:a? 414 [i64,FF] [Bq,.bool] Jv:=k0 [(414,[c? 7 [.t 20 .bool]])] CD
def Zd:a? 409 [A5,i64,FF] [i64] KO:=k0 [] (BA CU (BA Dt (BA ah (BA Ir (BA Uo CD)))))
def ak:a? 410 [A5,i64] [A5,DA] K0:=k0 [(410,[hn 2 3 [.x 1,.x 2,.x 3] [(.normal,[g? 3 A5,g? 1 A5,g? 2 DA]),(.ret,[g? 1 A5,g? 2 DA,.x 3])]])] (BA Dt (BA ND (BA GD (BA Cv (BA KA (BA MJ CD))))))
def aY:a? 444 [DU,i64] [DU] PJ:=k0 [] (BA FT (BA O5 (BA Jd CD)))
def Zc:a? 445 [A5,i64,JQ] [.bool] KM:=k0 [(445,[f? 3 [8] [.t 6 .bool] 0 []])] (BA Dt (BA HE CD))
def dI:a? 411 [A5,i64,i64] [A5,DA] JC:=k0 [(411,[c? 15 [g? 3 A5],e? 12 [12,g? 3 A5] 0 [g? 3 A5]])] (BA aY (BA Dt (BA ND (BA MJ (BA GD (BA Cv (BA Zc (BA Uj CD))))))))
def SV:a? 446 [(.list B3),i64] [i64,i64] IZ:=k0 [] (BA FU (BA Ko CD))
def fi:a? 412 [(.list B3),i64] [(.list B3),i64] Mt:=k0 [] (BA SV (BA P9 CD))
def fh:a? 413 [(.list B3),i64,i64] [(.list B3),i64] Ms:=k0 [] (BA SV (BA SX (BA P9 CD)))
def cz:a? 447 [DU,Bq] [i64] I8:=k0 [(447,[f? 4 [5] [4] 0 []])] (BA O6 CD)
def ZY:a? 415 [DU,Bq] [DU,.bool,i64] OJ:=k0 [] (BA FT (BA Tz (BA Ir (BA O6 (BA cz (BA Jd CD))))))
def jE:a? 448 [Ec,i64] [Ec] Ns:=k0 [] (BA Fk (BA Lf CD))
def aj:a? 416 [A5,i64,FF] [A5,DA] Kz:=k0 [(416,[c? 9 [g? 5 Jc]])] (BA I1 (BA jE (BA Vh (BA Cv CD))))
def Ul:a? 420 [(.list i64),i64] [(.list i64)] Fe:=k0 [(420,[c? 7 [.t 6 .bool,.u 0 i64,.g 5 0],c? 10 [.u 0 i64,.g 5 0],⟨0,4,[(5,i64)],[],[],[],[.t 6 .bool,.t 7 i64,.u 0 i64,.g 5 0],[(.exit 0,[.t 6 .bool,.u 0 i64,.g 5 0])]⟩,c? 12 [.u 0 i64,.g 5 0]])] CD
def ZZ:a? 449 [DU] [(.list i64)] KF:=k0 [(449,[e? 4 [.t 3 (.list i64),4] 0 [.t 3 (.list i64)],c? 3 [.t 3 (.list i64)]])] (BA FT (BA Ul CD))
def P8:a? 374 [DU,i64] [(.list i64)] Ij:=k0 [(374,[c? 9 [.t 7 (.list i64)],e? 6 [.t 7 (.list i64),8] 0 [.t 7 (.list i64)],c? 14 [.t 7 (.list i64)],e? 11 [.t 7 (.list i64),9] 2 [.t 7 (.list i64)]])] (BA Ir (BA LH (BA Ul CD)))
def aZ:A4 (.c0 450 [DU,(.list i64),i64] [(.list i64)] PM):=AGk (P:=Tryz.prog) (F:=450) (ds:=[DU,(.list i64),i64]) (rs:=[(.list i64)]) (f:=Eu) (hs:=iJ [(450,[f? 4 [30] [.t 6 (.list i64)] 0 [],e? 15 [.t 12 .bool,49] 4 [.t 12 .bool],f? 11 [43] [.t 6 (.list i64)] 2 []])]) (n:=13) (BA P8 CD) (λg x=>by kernel_rfl)
def c7:a? 417 [DU,i64] [(.list i64)] Lr:=k0 [(417,[f? 2 [5] [.t 4 (.list i64)] 0 []])] (BA ZZ (BA aZ CD))
def dH:a? 451 [(.list i64)] [i64] L3:=k0 [] CD
def jH:a? 418 [A5,i64] [i64] Nv:=k0 [] (BA P8 (BA dH CD))
def js:a? 370 [A5,i64,FF] [A5,DA] PP:=k0 [(370,[c? 10 [.t 46 .bool],c? 13 [.t 9 (.list B3),10]])] (BA Zd (BA Cv (BA ak (BA dI (BA fi (BA fh (BA Uo (BA ZY (BA aj (BA c7 (BA jH CD)))))))))))
def Rn:a? 371 [A3,i64] [.bool] EX:=k0 [] (BA Dt CD)
def Yi:a? 372 [A3,i64] [A3,i64] Ew:=k0 [(372,[d? 12 [5,g? 1 A3,.x 0] [g? 0 A3,g? 1 A3],f? 5 [g? 0 A3,g? 1 A3] [5,g? 1 A3,.x 0] 0 [g? 0 A3,g? 1 A3]])] (BA CU (BA Dt (BA Rn (BA Up (BA KC CD)))))
def jv:a? 340 [A3,i64,FF] [A3,DA] PU:=k0 [(340,[d? 10 [g? 2 A3,g? 3 DA,.x 0] [g? 0 A3,g? 2 A3,g? 3 DA],hn 0 1 [g? 0 A3,g? 2 A3,g? 3 DA] [(.ret,[g? 2 A3,g? 3 DA,.x 0])]])] (BA js (BA KC (BA Cv (BA Rn (BA Yi CD)))))
def Zf:a? 341 [A5,i64] [i64,JQ,.bool] KR:=k0 [(341,[f? 5 [28,g? 1 JQ] [4,.t 6 .bool,g? 1 JQ] 0 [g? 1 JQ]])] (BA Ir (BA P8 (BA SZ CD)))
def fk:a? 375 [A5,i64,JQ] [A5,DA] Mv:=k0 [] (BA Is (BA Cv (BA SY (BA Ur CD))))
def gF:a? 342 [A3,i64,JQ] [A3,i64,i64] M0:=k0 [(342,[d? 8 [7,8,g? 2 A3,.x 0] [9,g? 0 A3,g? 2 A3],hn 0 2 [9,g? 0 A3,g? 2 A3] [(.ret,[7,8,g? 2 A3,.x 0])]])] (BA fk (BA KC CD))
def jw:a? 322 [A3,i64,FF] [A3,DA] PV:=k0 [(322,[hn 0 1 [g? 0 A3,g? 2 A3,g? 3 DA] [(.ret,[g? 2 A3,g? 3 DA,.x 0])]])] (BA jv (BA Zf (BA gF (BA Cv CD))))
def jK:a? 197 [A3,(.list TN)] [A3,(.list DA),(.list YW)] Ny:=k0 [(197,[⟨0,4,[(8,DA)],[(2,18,i64),(2,19,YW)],[],[],[.t 9 i64,.u 3 DA,.u 4 i64,.u 5 YW,.g 8 3,.p 2 Q!],[(.exit 0,[.u 3 DA,.u 4 i64,.u 5 YW,.g 8 3,.p 2 Q!])]⟩]),(268,[c? 5 [.u 4 i64,.p 2 Q!],c? 19 [.p 2 Q!]]),(297,[c? 2 [.p 2 Q!]]),(298,[c? 9 [.u 5 YW,.p 2 Q!]]),(302,[e? 4 [9,.u 4 i64,.p 2 Q!] 0 [.u 4 i64,.p 2 Q!]])] (BA dP (BA au (BA Cv (BA dR (BA XN (BA IM (BA J9 (BA dQ (BA gD (BA gE (BA jw CD)))))))))))
def WO:b? 128 0 BJ [i64,.bool] [A3] He:=k1 [] (BA CN (BA jJ (BA VT (BA jK CD))))
def Wo:b? 75 0 BJ [i64,.bool] [A5] IC:=k1 [] (BA WO CD)
def jr:b? 31 0 BJ [i64] [i64,Bh] Fm:=k1 [] (BA Wo (BA IM (BA J9 CD)))
def cY:b? 77 0 BJ [i64] [(.list i64)] Lj:=k1 [(77,[c? 6 [.u 1 i64,.g 5 1],e? 3 [6,.u 1 i64,.g 5 1,g? 0 BJ] 0 [.u 1 i64,.g 5 1,g? 0 BJ]])] (BA CN CD)
def FV:a? 66 [BH] [.bool] C7:=k0 [(66,[f? 5 [3,4] [.t 2 .bool] 0 []])] (BA Sb CD)
def N8:a? 129 [BH,i64] [i64,i64] FC:=k0 [(129,[c? 3 [5]])] CD
def Rp:a? 199 [i64,i64,i64,i64,i64] [.bool] H8:=k0 [] CD
def Ro:a? 270 [Af,Af] [i64] D5:=k0 [] CD
def Je:a? 201 [(.list Af),Af] [(.list Af),.bool] DH:=k0 [(201,[e? 2 [6] 0 [6]])] (BA Ro CD)
def Hs:a? 202 [Bl] [.bool] EQ:=k0 [(202,[d? 12 [.t 2 .bool] [],f? 4 [3] [.t 2 .bool] 0 []])] (BA Rp (BA D3 (BA D9 (BA Ro CD))))
def gH:a? 130 [(.list Af),i64,i64,i64,i64,i64] [Bl,i64] Jx:=k0 [(130,[f? 4 [14,g? 0 Bl] [13,g? 0 Bl] 0 [g? 0 Bl],e? 16 [.t 16 .bool,19] 4 [.t 16 .bool],e? 11 [.t 16 .bool,17,g? 1 Bl] 2 [.t 16 .bool,g? 1 Bl]])] (BA Rp (BA D3 (BA D9 (BA Je (BA Hs CD)))))
def gG:a? 203 [Bl] [.str] H7:=k0 [] (BA Dg CD)
def Sa:a? 131 [Bl] [.str,i64] Gu:=k0 [(131,[e? 5 [.t 4 .str,5] 0 [.t 4 .str]])] (BA Hs (BA gG (BA J8 (BA SS CD))))
def gK:a? 78 [BH,Bh,i64] [BH,i64] Es:=k0 [(78,[f? 15 [11,g? 2 BH] [7,g? 2 BH] 0 [g? 2 BH],f? 22 [13,.u 4 Dv,.p 3 o?,g? 2 BH] [7,g? 2 BH,.x 3,.x 4] 2 [.u 4 Dv,.p 3 o?,g? 2 BH]])] (BA FV (BA CT (BA N8 (BA gH (BA Sa CD)))))
def ay:a? 306 [.str,i64,i64] [i64] DM:=k0 [] (BA E8 CD)
def av:a? 272 [.str] [Bl,i64] Fu:=k0 [(272,[⟨0,11,[],[(1,5,Af)],[],[],[.t 5 i64,.t 9 i64,.u 2 Af,.p 1 [.d i64,.d i64,.d i64,.d i64,.d i64,.o 2],.p 0 [.d Bl]],[(.ret,[.t 3 i64,.p 0 [.d Bl],.x 1,.x 2]),(.exit 0,[.t 5 i64,.u 2 Af,.p 1 [.d i64,.d i64,.d i64,.d i64,.d i64,.o 2],.p 0 [.d Bl]])]⟩])] (BA Rk (BA ay (BA SP (BA Hs CD))))
def Xu:a? 273 [BH,Bl] [i64] Fi:=k0 [(273,[f? 2 [5] [4] 0 []])] (BA N8 CD)
def az:a? 207 [BH,Dv] [Bl,i64] DO:=k0 [] (BA av (BA Xu CD))
def Zg:a? 208 [Bl,i64] [Bl] Fa:=k0 [(208,[c? 8 [.u 3 Af,.p 2 [.d i64,.d i64,.d i64,.d i64,.d i64,.o 3]],⟨0,5,[],[(2,5,Af)],[],[],[.t 6 i64,.u 3 Af,.p 2 [.d i64,.d i64,.d i64,.d i64,.d i64,.o 3]],[(.exit 0,[.u 3 Af,.p 2 [.d i64,.d i64,.d i64,.d i64,.d i64,.o 3]])]⟩])] CD
def T5:a? 136 [BH] [(.list Bl),(.list i64),(.list .bool)] GJ:=k0 [(136,[e? 14 [11] 4 [11],e? 9 [.t 6 (.list Bl),.t 7 (.list i64),8] 2 [.t 6 (.list Bl),.t 7 (.list i64)],e? 20 [12,13,.u 1 Bl,.u 2 i64,.u 3 .bool,.g 2 1,.g 3 2,.g 4 3] 6 [.u 1 Bl,.u 2 i64,.u 3 .bool,.g 2 1,.g 3 2,.g 4 3],⟨0,4,[(2,Bl),(3,i64),(4,.bool)],[],[],[],[.t 5 i64,.u 1 Bl,.u 2 i64,.u 3 .bool,.g 2 1,.g 3 2,.g 4 3],[(.exit 0,[.u 1 Bl,.u 2 i64,.u 3 .bool,.g 2 1,.g 3 2,.g 4 3])]⟩])] (BA FV (BA az (BA Zg CD)))
def dS:a? 205 [(.list Bl),(.list .bool)] [Bl,.bool] MA:=k0 [(205,[e? 8 [8,g? 1 Bl] 2 [g? 1 Bl],f? 3 [7,g? 1 Bl,g? 0 Bl] [.t 5 .bool,g? 0 Bl,.x 1] 0 [g? 1 Bl,g? 0 Bl]])] (BA Je (BA Hs CD))
def gL:a? 132 [BH,i64] [BH,.bool,i64] M1:=k0 [(132,[e? 20 [.t 15 .bool,16] 4 [.t 15 .bool],c? 24 [.u 4 Dv,.p 3 o?],⟨0,16,[],[(3,2,Dv)],[],[],[.t 14 i64,.u 4 Dv,.p 3 o?],[(.exit 2,[.u 4 Dv,.p 3 o?])]⟩,f? 7 [10,g? 1 BH] [.t 5 .bool,6,g? 1 BH] 0 [g? 1 BH]])] (BA FV (BA T5 (BA dS (BA Sa CD))))
def gM:a? 79 [BH,i64] [BH,i64] Jy:=k0 [(79,[hn 0 1 [g? 0 BH,g? 1 BH] [(.ret,[5,g? 1 BH,.x 0])]])] (BA gL CD)
def aU:b? 32 0 BJ [i64,Bh] [BH] PD:=k1 [(32,[c? 7 [g? 3 BH],c? 11 [g? 3 BH],c? 9 [g? 0 BJ,g? 3 BH],e? 3 [9,g? 0 BJ,g? 3 BH] 0 [g? 0 BJ,g? 3 BH],c? 15 [g? 3 BH],c? 13 [g? 3 BH]])] (BA cY (BA Vi (BA CN (BA gK (BA gM CD)))))
def Ui:a? 27 [i64,i64] [Bi] Fc:=k0 [(27,[⟨0,3,[],[(1,2,GB)],[],[],[.t 6 i64,.u 2 GB,.p 1 [.d i64,.d i64,.o 2]],[(.exit 0,[.u 2 GB,.p 1 [.d i64,.d i64,.o 2]])]⟩])] (BA Tt CD)
def KD:a? 84 [Bi] [.bool] FE:=k0 [(84,[f? 4 [3] [.t 2 .bool] 0 []])] (BA LG CD)
def bC:a? 72 [Bi] [.str,i64] Ie:=k0 [(72,[e? 7 [.t 5 .str,6] 0 [.t 5 .str]])] (BA KD (BA Dg (BA J8 CD)))
def Vc:a? 26 [Bi] [Dv] Ii:=k0 [] (BA bC CD)
def dV:a? 83 [Bi] [.bool] MB:=k0 [] (BA KD CD)
def gO:a? 39 [Bi,i64] [GB,.bool] M2:=k0 [(39,[f? 2 [6,g? 1 GB] [.t 5 .bool,g? 1 GB] 0 [g? 1 GB]])] (BA KD CD)
def gP:a? 68 [Bi,i64] [A8,i64] M3:=k0 [] (BA KD (BA gO (BA LG CD)))
def dU:a? 40 [BH,Bh,i64,i64,i64] [i64] QG:=k0 [] (BA FV (BA CT CD))
def gI:a? 86 [BH,i64] [i64,i64,.bool] RG:=k0 [(86,[e? 4 [7] 0 [7]])] (BA FV (BA N8 CD))
def gJ:a? 87 [BH] [(.list Bl),(.list i64)] RH:=k0 [] (BA T5 CD)
def Yk:a? 42 [BH,Bh,i64] [Ov] Nj:=k0 [(42,[c? 8 [.u 4 Bl,.u 5 i64,.p 3 [.o 4,.o 5,.d Bh]],⟨0,5,[],[(3,0,Bl),(3,1,i64)],[],[],[.t 13 i64,.u 4 Bl,.u 5 i64,.p 3 [.o 4,.o 5,.d Bh]],[(.exit 0,[.u 4 Bl,.u 5 i64,.p 3 [.o 4,.o 5,.d Bh]])]⟩])] (BA gI (BA gJ CD))
def T6:a? 135 [Bh,i64] [.bool] JF:=k0 [] CD
def gN:a? 85 [Ov,i64] [i64] RK:=k0 [(85,[c? 6 [5],e? 3 [5,6] 0 [5],c? 8 [5]])] (BA T6 CD)
def Zh:a? 41 [Ov,i64,i64] [.bool] Oc:=k0 [(41,[f? 1 [1] [.t 6 .bool] 0 []])] (BA gN CD)
def aw:a? 263 [Bl,i64] [(.list Af)] PX:=k0 [(263,[c? 8 [.u 1 Af,.g 5 1],⟨0,5,[(5,Af)],[],[],[],[.t 6 i64,.u 1 Af,.g 5 1],[(.exit 0,[.u 1 Af,.g 5 1])]⟩])] (BA Hs CD)
def Yj:a? 192 [(.list Bl),i64,i64,i64] [(.list Af)] Ni:=k0 [(192,[c? 10 [.t 9 (.list Af)],e? 7 [.t 9 (.list Af),12] 2 [.t 9 (.list Af)],e? 3 [.t 9 (.list Af),10] 0 [.t 9 (.list Af)]])] (BA aw (BA Je CD))
def bB:a? 193 [Bh,i64,i64,i64] [(.list Af)] PZ:=k0 [(193,[c? 7 [.u 1 Af,.g 9 1],⟨0,3,[(9,Af)],[],[],[],[.t 10 i64,.u 1 Af,.g 9 1],[(.exit 0,[.u 1 Af,.g 9 1])]⟩])] (BA D9 CD)
def bA:a? 261 [(.list Bl),i64] [i64] PY:=k0 [(261,[f? 2 [5] [4] 0 []])] CD
def jL:a? 262 [(.list Af),Af] [.bool] Nz:=k0 [(262,[f? 2 [5] [.t 4 .bool] 0 []])] CD
def dT:a? 191 [(.list Bl),Bh,(.list Af),(.list Af)] [(.list Af),.bool] QF:=k0 [(191,[f? 3 [.t 10 (.list Af),11] [.t 8 (.list Af),.t 9 .bool] 0 [.t 10 (.list Af)],f? 9 [12] [.t 8 (.list Af),.t 9 .bool] 2 []])] (BA bA (BA jL (BA Je (BA T6 CD))))
def jx:a? 120 [BH,Bh,i64,i64,i64] [(.list Af),i64] Ti:=k0 [(120,[f? 11 [16] [.t 10 (.list Af),11] 0 []])] (BA dU (BA Yk (BA Zh (BA Yj (BA bB (BA dT CD))))))
def gS:a? 121 [A8,(.list Af)] [A8,i64] M5:=k0 [(121,[f? 2 [6,g? 0 A8,g? 1 A8] [5,g? 1 A8,.x 0] 0 [g? 0 A8,g? 1 A8]])] (BA T2 CD)
def gR:a? 69 [A8,BH,Bh,i64] [A8,i64] RN:=k0 [] (BA FV (BA CT (BA HO (BA jx (BA gS CD)))))
def gQ:a? 80 [Bi,BH,Bh,i64,i64] [Bi,i64] M4:=k0 [(80,[c? 19 [g? 6 GB],⟨0,11,[],[(4,2,GB)],[],[],[.t 13 i64,.u 5 GB,.p 4 [.d i64,.d i64,.o 5],.p 3 [.d Bi]],[(.ret,[.t 11 i64,.p 3 [.d Bi],.x 4,.x 5]),(.exit 0,[.u 5 GB,.p 4 [.d i64,.d i64,.o 5],.p 3 [.d Bi]])]⟩])] (BA dV (BA FV (BA CT (BA gP (BA gR (BA HO CD))))))
def cg:b? 33 0 BJ [i64,BH,Bh] [(.list Dv)] Lk:=k1 [(33,[⟨2,4,[(9,Dv)],[],[],[],[.x 4],[(.normal,[.u 4 Dv,.g 9 4])]⟩,e? 7 [11,12,.u 4 Dv,.g 9 4,g? 0 BJ,g? 3 Bi] 0 [.u 4 Dv,.g 9 4,g? 0 BJ,g? 3 Bi]])] (BA Ui (BA CN (BA Vc (BA gQ CD))))
def jD:a? 34 [Bh,i64] [Bh,i64] Kh:=k0 [] (BA CT (BA Gj CD))
def Wp:b? 81 0 BJ [.str] [.str] GL:=k1 [] (BA CN CD)
def cZ:b? 35 0 BJ [(.list Dv)] [(.list Dv)] GF:=k1 [] (BA CN (BA Wp CD))
def Ws:a? 18 [(.list Dv),BH,Bh,i64,i64] [GC,i64] LW:=k0 [] (BA nP CD)
def Wt:a? 54 [GC] [.bool] JW:=k0 [(54,[f? 5 [3,54] [.t 2 .bool] 0 []])] CD
def j8:a? 56 [(.list Dv),GC] [A8,.bool] Hn:=k0 [(56,[f? 4 [19,g? 1 A8] [.t 5 .bool,g? 1 A8] 0 [g? 1 A8]])] (BA fT (BA Ug (BA jp CD)))
def bD:a? 107 [(.list i64),i64] [i64] K3:=k0 [(107,[f? 2 [8] [4] 0 []])] CD
def gT:a? 57 [BH,Bh,GC] [(.list FG),.bool] H9:=k0 [(57,[⟨0,7,[(13,FG)],[],[],[],[.t 35 i64,.u 3 FG,.g 13 3],[(.ret,[.t 6 (.list FG),.t 7 .bool,.x 3]),(.exit 0,[.u 3 FG,.g 13 3])]⟩])] (BA QM (BA QN (BA bD (BA WM CD))))
def j9:a? 58 [(.list FG),GC] [.bool] Ho:=k0 [(173,[hn 8 1 [29,g? 1 .bool,.y 5 .ready] [(0,[g? 1 .bool,.y 5 .ready]),(.ret,[g? 1 .bool,.y 5 .ret])]]),(174,[f? 2 [8] [4] 0 []])] CD
def R9:a? 112 [(.list Af),(.list Af)] [.bool] Fw:=k0 [(112,[f? 4 [13] [.t 4 .bool] 0 []])] CD
def jz:a? 59 [FG,FG,GC] [.bool] Pc:=k0 [(59,[hn 3 2 [] []]),(109,[hn 6 1 [.x 148] [(.normal,[.t 4 (.list Af),.x 148])]]),(60,[c? 6 [.u 148 Af,.g 5 148],⟨0,3,[(5,Af)],[],[],[],[.t 11 i64,.u 150 Af,.g 5 150],[(.exit 0,[.u 150 Af,.g 5 150])]⟩]),(110,[e? 5 [6,5,.u 148 Af,.g 0 148] 0 [5,.u 148 Af,.g 0 148]]),(176,[f? 2 [8] [4] 0 []])] (BA Mg (BA R9 CD))
def jM:a? 60 [FG,GC] [(.list Af)] N0:=k0 [(60,[c? 6 [.u 2 Af,.g 5 2],⟨0,3,[(5,Af)],[],[],[],[.t 11 i64,.u 2 Af,.g 5 2],[(.exit 0,[.u 2 Af,.g 5 2])]⟩])] (BA Mg CD)
def Vj:a? 21 [(.list Dv),BH,Bh,GC] [A8,i64] EZ:=k0 [(21,[⟨0,13,[(14,Af)],[],[],[],[.t 62 i64,.p 3 [.d A8],.u 150 Af,.g 14 150],[(.ret,[.t 9 i64,.p 3 [.d A8],.x 150]),(.exit 1,[.p 3 [.d A8],.u 150 Af,.g 14 150])]⟩,f? 16 [71,g? 3 A8] [9,g? 3 A8] 3 [g? 3 A8]]),(65,[f? 4 [3,.u 149 Af,.g 0 149] [.t 2 (.list Af),.x 149] 0 [.u 149 Af,.g 0 149],e? 9 [5,3,.u 149 Af,.g 0 149,.w 4 149] 2 [3,.u 149 Af,.g 0 149]])] (BA Hl (BA J7 (BA Wt (BA j8 (BA gT (BA j9 (BA jz (BA jM (BA Yl (BA dX (BA AFt CD)))))))))))
def jy:a? 24 [(.list Dv),BH,Bh,GC,A8] [.bool] Tj:=k0 [] (BA Vj CD)
def nO:a? 23 [(.list Dv),BH,Bh,i64] [(.list GC),(.list i64),i64] Od:=k0 [(23,[c? 12 [.u 2 GC,.u 3 i64,.g 8 2,.g 9 3],⟨0,8,[(8,GC),(9,i64)],[],[],[],[.t 27 i64,.u 2 GC,.u 3 i64,.g 8 2,.g 9 3],[(.exit 1,[.u 2 GC,.u 3 i64,.g 8 2,.g 9 3])]⟩])] (BA Hl (BA J7 (BA Ws CD)))
def cV:a? 15 [] [.bool] I2:=k0 [] (BA Vi (BA Ve (BA Ws (BA Wt (BA Vd (BA jy CD))))))
def cX:b? 16 0 BJ [] [i64,BH,Bh,Bh,(.list Dv)] Li:=k1 [(16,[c? 6 [g? 0 BJ,g? 2 Bh],c? 8 [g? 0 BJ,g? 1 BH]])] (BA jr (BA aU (BA cg (BA CN (BA jD (BA cZ CD))))))
def Ub:a? 6 [(.list (.int .u8)),(.int .u8)] [.bool] GR:=k0 [(9,[c? 2 [.t 0 (.list (.int .u8))]]),(6,[e? 8 [13,g? 4 Bh] 0 [g? 4 Bh],⟨0,14,[],[],[148],[],[.t 18 i64],[(.ret,[.t 4 .bool]),(.exit 2,[])]⟩])] (BA cV (BA cX (BA IM (BA CN (BA SU (BA Ui (BA Vc (BA nO (BA Vj CD)))))))))
end Go.Proofs.YtdbincbpjobdpaaGreat
