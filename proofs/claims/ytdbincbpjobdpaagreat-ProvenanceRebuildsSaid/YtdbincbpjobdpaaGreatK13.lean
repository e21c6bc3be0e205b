import Derived.Test.YtdbincbpjobdpaaGreatK12
import Derived.Test.YtdbincbpjobdpaaGreatProg
import Derived.KernelRfl
noncomputable section
set_option linter.all false
open Option renaming none->D
open Option renaming none->ε
namespace Go.Proofs.YtdbincbpjobdpaaGreat
open Go Go.Ab Go.Pm
set_option maxRecDepth 100000
def aP:a? 116 [i64] [.bool] Fw:=k0 [] CA
def N8:a? 63 [i64,i64] [i64] EF:=k0 [] (A8 aP CA)
def kN:a? 171 [(.list i64)] [i64] Ky:=k0 [(171,[f? 3 [8] [2] 0 []])] CA
def X2:a? 170 [Bc,Bc] [i64] IN:=k0 [] (A8 N8 (A8 kN CA))
def PU:A5 (.c2 338 Bc [i64,i64,i64] [] [.fn (.func 170) [] []] Cz):=Rq (hs:=iy [(338,[e? 1 [10,.u 0 Bc,.g 0 0] 0 [.u 0 Bc]])]) (n:=13) CA (λl x=>by kernel_rfl)
def Qx:A5 (.c2 320 Bc [i64,i64,i64] [] [.fn (.func 170) [] []] E2):=Rq (hs:=iy [(320,[e? 2 [10,11,.u 0 Bc,.g 0 0] 0 [10,.u 0 Bc,.g 0 0]])]) (n:=13) (A8 PU CA) (λl x=>by kernel_rfl)
def NY:A5 (.c2 290 Bc [i64,i64] [] [.fn (.func 170) [] []] DB):=Rq (hs:=iy [(290,[e? 1 [8,.u 0 Bc,.g 0 0] 0 [.u 0 Bc],e? 4 [9,.u 0 Bc,.g 0 0] 2 [.u 0 Bc,.g 0 0]])]) (n:=13) (A8 X2 CA) (λl x=>by kernel_rfl)
def P6:A5 (.c2 291 Bc [i64,i64,i64] [] [.fn (.func 170) [] []] Ea):=uQ (P:=Tryz.prog) (F:=291) (te:=Bc) (ds:=[i64,i64,i64]) (rs:=[]) (post:=[.fn (.func 170) [] []]) (f:=λg p=>CN g p.1 p.2) (hs:=iy [(291,[e? 3 [10,11] 0 [10],e? 9 [13,.u 0 Bc,.g 0 0] 2 [.u 0 Bc],e? 15 [14,15] 4 [14],e? 21 [17,.u 0 Bc,.g 0 0] 6 [.u 0 Bc],e? 33 [20,21] 8 [20],c? 28 [20,21],c? 40 [.u 0 Bc,.g 0 0],c? 42 [.u 0 Bc,.g 0 0],c? 44 [.u 0 Bc]])]) (n:=13) (A8 X2 (A8 Qx CA)) (λg l x=>by kernel_rfl)
def Qy:A5 (.c2 251 Bc [i64] [] [.fn (.func 170) [] []] E4):=Rq (hs:=iy [(251,[e? 2 [7,8,.u 0 Bc,.g 0 0] 0 [7,.u 0 Bc,.g 0 0],e? 7 [6,.u 0 Bc,.g 0 0] 2 [.u 0 Bc],e? 9 [7,8,.u 0 Bc,.g 0 0] 4 [7,.u 0 Bc,.g 0 0]])]) (n:=13) (A8 NY (A8 P6 CA)) (λl x=>by kernel_rfl)
def KA:A5 (.c2 169 Bc [] [] [.fn (.func 170) [] []] C7):=Rq (hs:=iy []) (n:=13) (A8 Qy CA) (λl x=>by kernel_rfl)
def Sg:A5 (.cl 252 Af):=AEd (t:=30) (b:=4) h! h! h!
def mr:a? 186 [(.int .u64)] [i64] Qm:=k0 [(186,[c? 2 [.t 0 (.int .u64),2],c? 5 [.t 0 (.int .u64),2],c? 8 [.t 0 (.int .u64),2]])] CA
def aR:a? 115 [(.int .u64)] [i64] Tg:=k0 [] (A8 mr CA)
def Hm:a? 43 [BC] [.bool] Fz:=k0 [(43,[f? 5 [4] [.t 2 .bool] 0 [],f? 13 [5,89] [.t 2 .bool] 2 []])] CA
def jP:a? 88 [Bk] [i64] Cm:=k0 [] CA
def qW:a? 137 [i64,Af] [.bool] OV:=k0 [] CA
def qU:a? 274 [i64] [.bool] IP:=k0 [] CA
def kM:a? 275 [LQ] [.bool] Df:=k0 [] CA
def dJ:a? 211 [Jh] [.bool] OT:=k0 [] (A8 qU (A8 kM CA))
def uH:a? 210 [Jh] [.bool] M3:=k0 [] CA
def oo:a? 209 [Af] [.bool] Ga:=k0 [] CA
def ot:a? 212 [Af] [.bool] Te:=k0 [] CA
def ou:a? 213 [Jh] [.bool] Tf:=k0 [] CA
def Tb:a? 89 [Af] [.bool] GZ:=k0 [(89,[c? 5 [.t 47 .bool],c? 8 [.t 67 .bool]])] (A8 qW (A8 dJ (A8 uH (A8 oo (A8 ot (A8 ou CA))))))
def KE:a? 44 [Bk] [.bool] Ha:=k0 [(44,[f? 4 [37] [.t 2 .bool] 0 []])] (A8 jP (A8 Tb CA))
def ov:a? 145 [BC,Bk,i64,i64] [i64] P9:=k0 [] (A8 Hm (A8 KE CA))
def Wg:a? 74 [Bk] [i64] OW:=k0 [] (A8 KE (A8 jP CA))
def Wf:a? 229 [i64,i64] [.bool] OU:=k0 [] (A8 aP CA)
def kg:a? 248 [i64] [.bool] Fw:=k0 [] CA
def Vq:a? 166 [(.list i64),i64] [i64,.bool] J6:=k0 [(166,[c? 6 [7,8],e? 3 [7,8] 0 [7]])] (A8 Wf (A8 kg CA))
def aO:a? 167 [BC,i64] [i64,i64] Ki:=k0 [] CA
def Qf:a? 105 [BC,i64] [i64,i64,.bool] Fv:=k0 [(105,[c? 5 [7]])] (A8 Hm (A8 Vq (A8 aO CA)))
def QJ:a? 158 [.str,i64,i64] [i64,i64] B0:=k0 [(158,[e? 7 [.t 8 (.int .u64),35] 1 [.t 8 (.int .u64)]])] CA
def kO:a? 220 [] [(.arr 15 (.int .u32))] LZ:=k0 [(220,[c? 9 [.t 3 (.int .u32)],e? 7 [.t 3 (.int .u32),9] 2 [.t 3 (.int .u32)],e? 3 [4,g? 1 (.arr 15 (.int .u32))] 0 [g? 1 (.arr 15 (.int .u32))]])] CA
def au:a? 144 [.str] [(.int .u32)] O5:=k0 [(144,[e? 4 [.t 4 (.int .u32),9] 0 [.t 4 (.int .u32)]])] (A8 kO CA)
def aQ:a? 156 [.str,i64] [.str,i64,i64] Dr:=k0 [] (A8 QJ (A8 au CA))
def Tu:a? 232 [.str,.str] [.bool] Ek:=k0 [] CA
def V3:a? 157 [.str,.str] [.bool] FH:=k0 [] (A8 Tu CA)
def UE:b? 314 0 Q2 [i64] [i64] CC:=k1 [(314,[c? 6 [g? 0 Q2]])] (A8 QJ CA)
def Vx:b? 316 0 Q2 [i64] [.str] FE:=k1 [(316,[c? 2 [g? 0 Q2]])] CA
def jY:b? 315 0 Q2 [] [LQ] FC:=k1 [] (A8 UE (A8 Vx CA))
def qV:a? 288 [.str] [Af,i64] Jy:=k0 [] (A8 UE (A8 jY (A8 Vx (A8 Tb CA))))
def o6:a? 317 [Bo] [.bool] Mw:=k0 [] CA
def Mz:a? 113 [Af] [.bool] BE:=k0 [] CA
def su:a? 318 [Bo,Af] [.bool] QM:=k0 [] (A8 Mz CA)
def qZ:a? 319 [Af,Af] [i64] O0:=k0 [] (A8 N8 (A8 kN CA))
def uL:a? 289 [Bo] [.bool] Vi:=k0 [(289,[f? 4 [18] [.t 2 .bool] 0 []])] (A8 o6 (A8 Tb (A8 su (A8 qZ CA))))
def sq:a? 249 [.str] [Bo,i64] LH:=k0 [(249,[⟨0,8,[],[(4,5,Af)],[],[],[.t 5 i64,.t 32 i64,.u 5 Af,.p 4 [.d i64,.d i64,.d i64,.d i64,.d i64,.o 5],.p 0 [.d Bo]],[(.ret,[.t 3 i64,.p 0 [.d Bo],.x 4,.x 5]),(.exit 0,[.t 5 i64,.u 5 Af,.p 4 [.d i64,.d i64,.d i64,.d i64,.d i64,.o 5],.p 0 [.d Bo]])]⟩])] (A8 aQ (A8 V3 (A8 QJ (A8 qV (A8 uL CA)))))
def ml:a? 250 [BC,Bo] [i64] M2:=k0 [(250,[f? 2 [11] [4] 0 []])] (A8 aO CA)
def mj:a? 168 [BC,DE] [Bo,.bool] G7:=k0 [] (A8 sq (A8 ml CA))
def nu:a? 172 [Bo,i64] [Bo] OS:=k0 [(176,[f? 2 [8] [4] 0 []]),(110,[e? 5 [6,5,.u 3 Af,.g 0 3] 0 [5,.u 3 Af,.g 0 3]])] (A8 Sg CA)
def Qg:a? 106 [BC] [(.list Bo),(.list i64)] HY:=k0 [(106,[⟨0,5,[(4,Bc)],[],[],[],[.t 19 i64,.u 1 Bc,.g 4 1],[(.exit 0,[.u 1 Bc,.g 4 1])]⟩,⟨0,14,[(2,Bo),(3,i64)],[],[],[],[.t 42 i64,.t 9 i64,.t 10 i64,.u 2 Bo,.g 2 2,.u 3 i64,.g 3 3],[(.exit 2,[.u 2 Bo,.g 2 2,.u 3 i64,.g 3 3])]⟩])] (A8 Hm (A8 mj (A8 KA (A8 nu CA))))
def oy:a? 146 [BC,Bk,i64] [(.list OM)] QA:=k0 [(146,[hn 3 1 [] []]),(154,[e? 4 [27,.u 2 OM,.p 3 [.o 2],.y 6 .ready] 0 [.u 2 OM,.p 3 [.o 2],.y 6 .ready]])] (A8 Wg (A8 Qf (A8 Qg CA)))
def W7:a? 152 [OM,i64] [.bool] JY:=k0 [] CA
def mq:b? 222 1 i64 [OM] [.bool] VT:=k1 [] (A8 W7 CA)
def ox:a? 147 [(.list OM),i64] [i64] Mv:=k0 [(147,[hn 0 1 [g? 0 i64] [(.ret,[4,.x 0])]]),(221,[f? 2 [8,g? 0 i64] [4,g? 0 i64] 0 [g? 0 i64]])] (A8 mq CA)
def kP:a? 92 [BC,Bk,i64,i64,i64] [(.list Af),i64] HZ:=k0 [(92,[e? 14 [57,17,.m 9 .i64 Af] 0 [17,.m 9 .i64 Af],hn 0 24 [85,.m 9 .i64 Af,g? 11 i64,g? 5 (.list Af),g? 6 i64] [(4,[.m 9 .i64 Af,g? 11 i64,g? 5 (.list Af),g? 6 i64]),(.ret,[.m 9 .i64 Af,g? 11 i64,g? 5 (.list Af),g? 6 i64])],hn 0 43 [137,g? 5 (.list Af),g? 6 i64] [(8,[g? 5 (.list Af),g? 6 i64]),(.ret,[g? 5 (.list Af),g? 6 i64])]]),(154,[hn 0 4 [27,.m 9 .i64 Af,g? 11 i64,g? 5 (.list Af),g? 6 i64,.y 14 .ready] [(0,[.m 9 .i64 Af,g? 11 i64,g? 5 (.list Af),g? 6 i64,.y 14 .ready]),(.ret,[.m 9 .i64 Af,g? 11 i64,g? 5 (.list Af),g? 6 i64,.y 14 .ret])]]),(150,[]),(221,[f? 2 [8] [4] 0 []])] (A8 ov (A8 oy (A8 ox (A8 Mz (A8 Qf (A8 Qg (A8 W7 (A8 Qt CA))))))))
def S5:A5 (.c2 223 i64 [i64,i64] [] [] MY):=Rq (hs:=iy [(223,[e? 1 [6,.u 0 i64,.g 0 0] 0 [.u 0 i64],e? 4 [7,.u 0 i64,.g 0 0] 2 [.u 0 i64,.g 0 0],hn 4 4 [] [(2,[]),(.normal,[])]])]) (n:=13) (A8 Wf CA) (λl x=>by kernel_rfl)
def Wk:A5 (.c0 224 [] [] (λ_=>none)):=λ_ _ h=>by cases h
def S4:A5 (.c0 225 [] [] (λ_=>none)):=λ_ _ h=>by cases h
def Uy:A5 (.c0 226 [] [] (λ_=>none)):=λ_ _ h=>by cases h
def Tv:A5 (.c0 227 [] [] (λ_=>none)):=λ_ _ h=>by cases h
def PR:A5 (.c0 228 [] [] (λ_=>none)):=λ_ _ h=>by cases h
def Sj:A5 (.c0 230 [] [] (λ_=>none)):=λ_ _ h=>by cases h
def Vr:A5 (.c0 231 [] [] (λ_=>none)):=λ_ _ h=>by cases h
def XH:A5 (.c2 155 i64 [i64,i64,i64] [] [] Qr):=uQ (P:=Tryz.prog) (F:=155) (te:=i64) (ds:=[i64,i64,i64]) (rs:=[]) (post:=[]) (f:=λg p=>O7 g p.1 p.2) (hs:=iy [(155,[hn 0 2 [1,2,3,.t 8 .bool,.t 9 .bool,.u 0 i64,.g 0 0] [(.ret,[.u 0 i64])],c? 8 [3,.u 0 i64,.g 0 0],c? 12 [11,12,.u 0 i64,.g 0 0],hn 4 15 [.x 0] [(.normal,[.u 0 i64,.g 0 0]),(.ret,[.u 0 i64])],hn 4 17 [.x 0] [(1,[1,.u 0 i64,.g 0 0]),(.normal,[1,.u 0 i64,.g 0 0])],c? 25 [1,2,.t 8 .bool,.u 0 i64,.g 0 0]])]) (n:=13) (A8 S5 (A8 Wk (A8 S4 (A8 Uy (A8 Tv (A8 PR (A8 Sj (A8 Vr (A8 Wf CA))))))))) (λg l x=>by kernel_rfl)
def eC:A5 (.c2 94 i64 [] [] [] MW):=Rq (hs:=iy []) (n:=13) (A8 XH (A8 aR CA)) (λl x=>by kernel_rfl)
def X3:a? 98 [BV,BV] [i64] Qk:=k0 [] (A8 N8 CA)
def mm:a? 102 [Da,Da] [i64] Qj:=k0 [] (A8 N8 CA)
def P5:A5 (.c2 233 BV [i64,i64] [] [.fn (.func 98) [] []] Jg):=Rq (hs:=iy [(233,[e? 1 [8,.u 0 BV,.g 0 0] 0 [.u 0 BV],e? 4 [9,.u 0 BV,.g 0 0] 2 [.u 0 BV,.g 0 0],hn 4 4 [] [(2,[]),(.normal,[])]])]) (n:=13) (A8 X3 CA) (λl x=>by kernel_rfl)
def Si:A5 (.c0 234 [] [] (λ_=>none)):=λ_ _ h=>by cases h
def P4:A5 (.c0 235 [] [] (λ_=>none)):=λ_ _ h=>by cases h
def Qv:A5 (.c0 236 [] [] (λ_=>none)):=λ_ _ h=>by cases h
def QS:A5 (.c0 237 [] [] (λ_=>none)):=λ_ _ h=>by cases h
def Mf:A5 (.c0 238 [] [] (λ_=>none)):=λ_ _ h=>by cases h
def PS:A5 (.c0 239 [] [] (λ_=>none)):=λ_ _ h=>by cases h
def Rp:A5 (.c0 240 [] [] (λ_=>none)):=λ_ _ h=>by cases h
def S6:A5 (.c2 160 BV [i64,i64,i64] [] [.fn (.func 98) [] []] MZ):=uQ (P:=Tryz.prog) (F:=160) (te:=BV) (ds:=[i64,i64,i64]) (rs:=[]) (post:=[.fn (.func 98) [] []]) (f:=λg p=>LJ g p.1 p.2) (hs:=iy [(160,[hn 0 2 [1,2,3,.t 10 .bool,.t 11 .bool,.u 0 BV,.g 0 0] [(.ret,[.u 0 BV])],c? 8 [3,.u 0 BV,.g 0 0],c? 12 [13,14,.u 0 BV,.g 0 0],hn 4 15 [.x 0] [(.normal,[.u 0 BV,.g 0 0]),(.ret,[.u 0 BV])],hn 4 17 [.x 0] [(1,[1,.u 0 BV,.g 0 0]),(.normal,[1,.u 0 BV,.g 0 0])],c? 25 [1,2,.t 10 .bool,.u 0 BV,.g 0 0]])]) (n:=13) (A8 P5 (A8 Si (A8 P4 (A8 Qv (A8 QS (A8 Mf (A8 PS (A8 Rp (A8 X3 CA))))))))) (λg l x=>by kernel_rfl)
def Qu:A5 (.c2 97 BV [] [] [.fn (.func 98) [] []] Gt):=Rq (hs:=iy []) (n:=13) (A8 S6 (A8 aR CA)) (λl x=>by kernel_rfl)
def Qw:A5 (.c2 243 Da [i64,i64] [] [.fn (.func 102) [] []] Ez):=Rq (hs:=iy [(243,[e? 1 [8,.u 0 Da,.g 0 0] 0 [.u 0 Da],e? 4 [9,.u 0 Da,.g 0 0] 2 [.u 0 Da,.g 0 0],hn 4 4 [] [(2,[]),(.normal,[])]])]) (n:=13) (A8 mm CA) (λl x=>by kernel_rfl)
def Tw:A5 (.c0 244 [] [] (λ_=>none)):=λ_ _ h=>by cases h
def VH:A5 (.c2 163 Da [i64] [] [.fn (.func 102) [] []] Jb):=Rq (hs:=iy [(163,[e? 2 [7,8,.u 0 Da,.g 0 0] 0 [7,.u 0 Da,.g 0 0],e? 7 [6,.u 0 Da,.g 0 0] 2 [.u 0 Da],e? 9 [7,8,.u 0 Da,.g 0 0] 4 [7,.u 0 Da,.g 0 0],c? 15 [.u 0 Da,.g 0 0]])]) (n:=13) (A8 Qw (A8 Tw CA)) (λl x=>by kernel_rfl)
def P3:A5 (.c2 101 Da [] [] [.fn (.func 102) [] []] EZ):=Rq (hs:=iy []) (n:=13) (A8 VH CA) (λl x=>by kernel_rfl)
def S2:a? 55 [i64,(.list i64)] [.bool] Fo:=k0 [(55,[f? 4 [5] [.t 4 .bool] 0 []])] CA
def V2:a? 17 [i64,(.list i64)] [BC,i64] Il:=k0 [] (A8 S2 CA)
def Vy:a? 28 [] [Bk] G3:=k0 [] CA
def kS:a? 164 [i64] [.bool] IP:=k0 [] CA
def uI:a? 245 [] [.str] YD:=k0 [] (A8 Tx CA)
def jQ:a? 246 [.str,i64,i64] [i64] HO:=k0 [] (A8 QJ CA)
def vo:a? 247 [.str] [A4,.bool] XJ:=k0 [(247,[hn 2 9 [.x 0,.x 1] [(.normal,[g? 1 A4,g? 0 A4]),(.ret,[.t 3 .bool,g? 0 A4,.x 1])],f? 3 [13,g? 1 A4,g? 0 A4] [.t 3 .bool,g? 0 A4,.x 1] 0 [g? 1 A4,g? 0 A4]])] (A8 jQ CA)
def so:a? 139 [A4] [.bool] W6:=k0 [] (A8 kS CA)
def uJ:a? 140 [A4] [.bool] VW:=k0 [(140,[f? 2 [7] [.t 2 .bool] 0 []])] CA
def jZ:b? 142 0 Yp [LQ] [] Kn:=k1 [(142,[c? 3 [4]])] (A8 nJ (A8 Tx CA))
def Xg:a? 91 [A4] [.str,i64] Nb:=k0 [(91,[e? 8 [29,g? 1 Yp] 1 [g? 1 Yp]])] (A8 so (A8 uJ (A8 nJ (A8 jZ (A8 Tx (A8 au CA))))))
def sm:a? 165 [.str] [A4,i64] QL:=k0 [] (A8 uI (A8 jQ (A8 au (A8 vo (A8 Xg CA)))))
def gB:a? 53 [i64] [A4] Cu:=k0 [] CA
def U3:a? 104 [.str,i64] [A4,i64] Gb:=k0 [] (A8 kS (A8 sm (A8 gB CA)))
def nv:a? 159 [.str] [Et] Rv:=k0 [] (A8 QJ (A8 U3 CA))
def Tc:a? 103 [BV] [.bool] LG:=k0 [(103,[f? 4 [36] [.t 2 .bool] 0 []])] (A8 U3 CA)
def qY:a? 95 [.str] [BV,i64] IR:=k0 [(95,[⟨0,13,[],[(1,2,Et)],[],[],[.t 5 i64,.t 50 i64,.u 2 Et,.p 1 W!,.p 0 [.d BV]],[(.ret,[.t 3 i64,.p 0 [.d BV],.x 1,.x 2]),(.exit 0,[.t 5 i64,.u 2 Et,.p 1 W!,.p 0 [.d BV]])]⟩])] (A8 aQ (A8 V3 (A8 QJ (A8 nv (A8 Tc CA)))))
def si:a? 96 [BV] [.bool] W5:=k0 [] (A8 Tc CA)
def U2:a? 48 [(.list DE)] [(.list BV)] Ip:=k0 [(48,[⟨0,4,[(4,BV)],[],[],[],[.t 12 i64,.m 0 .i64 .bool,.u 1 BV,.g 4 1],[(.exit 0,[.m 0 .i64 .bool,.u 1 BV,.g 4 1])]⟩])] (A8 qY (A8 si (A8 Qu CA)))
def oz:a? 242 [Et,i64] [i64] QB:=k0 [] CA
def sj:a? 162 [BV,i64] [i64,.bool] TA:=k0 [(241,[c? 6 [9,10],e? 3 [9,10] 0 [9]])] (A8 oz CA)
def kQ:a? 100 [BV,i64] [Et,.bool] VU:=k0 [] (A8 Tc (A8 sj CA))
def om:a? 49 [(.list DE),i64,i64] [(.list Da)] Td:=k0 [(49,[hn 3 2 [] []]),(161,[⟨0,1,[],[(2,0,Da)],[],[],[.t 3 i64,.u 5 Da,.p 2 [.o 5],.y 4 .ready],[(.exit 0,[.u 5 Da,.p 2 [.o 5],.y 4 .ready])]⟩])] (A8 U2 (A8 kQ (A8 P3 CA)))
def kf:b? 51 1 Da [BV] [.bool] T5:=k1 [] CA
def kR:a? 52 [BV,i64] [A4,i64] Ru:=k0 [] (A8 Tc (A8 kQ (A8 U3 CA)))
def mu:a? 90 [BC,Bk] [i64] Qs:=k0 [] (A8 Hm (A8 KE CA))
def qT:a? 187 [A4,Jh] [A4,i64] VO:=k0 [] (A8 dJ CA)
def uK:a? 117 [A4,Af] [A4,i64] Vh:=k0 [] (A8 Tb (A8 Mz (A8 Xg (A8 qT CA))))
def eD:a? 64 [A4,(.list Af)] [A4,i64] Ie:=k0 [(64,[f? 2 [12,g? 0 A4,g? 1 A4] [5,g? 1 A4,.x 0] 0 [g? 0 A4,g? 1 A4]])] (A8 uK CA)
def qa:a? 46 [A4,BC,Bk,i64] [A4,i64] J7:=k0 [] (A8 mu (A8 Xg (A8 kP (A8 eD CA))))
def qX:a? 47 [BC,Bk,i64,i64,i64] [(.list i64),i64,i64,i64] IQ:=k0 [(47,[]),(154,[⟨0,4,[],[(4,0,i64)],[],[],[.t 27 i64,.u 9 i64,.p 4 [.o 9],.y 8 .ready],[(.exit 0,[.u 9 i64,.p 4 [.o 9],.y 8 .ready])]⟩])] (A8 kP (A8 Wg (A8 Qf (A8 Qg (A8 eC CA)))))
def ny:a? 14 [(.list DE),BC,Bk,i64,i64] [A4,Eb,i64] CV:=k0 [(14,[f? 10 [61,g? 4 A4,g? 5 Eb] [12,g? 4 A4,g? 5 Eb] 1 [g? 4 A4,g? 5 Eb]]),(50,[f? 2 [8,g? 6 Da] [4,g? 6 Da] 0 [g? 6 Da]])] (A8 Hm (A8 KE (A8 U2 (A8 om (A8 kf (A8 kR (A8 qa (A8 qX (A8 gB CA)))))))))
def QP:a? 29 [i64] [A4] Cu:=k0 [] CA
def Wi:b? 19 0 BH [i64] [i64] Hd:=k1 [] CA
def CY:b? 19 0 BH [i64] [i64] Aj:=k1 [] (A8 Wi CA)
def Vz:a? 293 [i64] [Ec,i64] Kr:=k0 [] CA
def V0:a? 294 [i64] [ES,i64] OC:=k0 [] CA
def jk:a? 266 [i64,i64] [BA,i64] OF:=k0 [] (A8 Vz (A8 V0 (A8 Vy CA)))
def ay:a? 295 [i64] [(.list .str)] PY:=k0 [(295,[⟨0,3,[(3,.str)],[],[],[],[.t 4 i64,.u 0 .str,.g 3 0],[(.exit 0,[.u 0 .str,.g 3 0])]⟩])] CA
def jc:a? 267 [i64] [Fc,i64] Kp:=k0 [] (A8 ay CA)
def jl:a? 196 [i64,i64] [A7,i64] OG:=k0 [] (A8 jk (A8 jc CA))
def YA:b? 333 0 BH [] [.str] Iv:=k1 [(333,[c? 3 [3,g? 0 BH],e? 6 [5,.u 1 (.int .u8),.g 4 1,g? 0 BH] 0 [.u 1 (.int .u8),.g 4 1,g? 0 BH]])] (A8 CY CA)
def Yz:b? 334 0 BH [] [i64] HP:=k1 [] (A8 CY CA)
def W8:b? 305 0 BH [i64] [E9] ID:=k1 [(305,[c? 5 [.t 15 .bool],c? 4 [.t 15 .bool],c? 8 [g? 0 BH,g? 3 E9],c? 11 [g? 0 BH,g? 3 E9],c? 6 [g? 0 BH,g? 3 E9],c? 13 [g? 0 BH,g? 3 E9]])] (A8 CY (A8 YA (A8 Yz CA)))
def YB:b? 269 0 BH [i64,i64,.bool] [Tl] Iw:=k1 [(269,[c? 3 [.t 11 .bool],d? 12 [g? 0 BH,g? 1 Tl] [g? 0 BH,g? 1 Tl]])] (A8 CY (A8 W8 CA))
def Vp:b? 198 0 BH [i64,i64,.bool] [(.list Tl)] G9:=k1 [(198,[e? 3 [10,.u 1 Tl,.g 9 1,g? 0 BH] 0 [.u 1 Tl,.g 9 1,g? 0 BH]])] (A8 CY (A8 YB CA))
def Ge:a? 37 [Bk] [i64] Cm:=k0 [] CA
def Qh:a? 265 [LQ] [.bool] Df:=k0 [] CA
def UK:a? 195 [Jh] [.bool] JA:=k0 [] (A8 Qh CA)
def dT:a? 123 [Af] [Af,.bool] L9:=k0 [(123,[c? 4 [.t 13 .bool],c? 8 [.t 5 .bool,g? 2 Af],c? 13 [.t 67 .bool],c? 12 [.t 67 .bool],c? 17 [.t 91 .bool]])] (A8 UK CA)
def az:a? 124 [i64,i64] [.bool] Gk:=k0 [] CA
def Dz:a? 71 [Af] [.bool] Cw:=k0 [] (A8 dT (A8 az CA))
def CG:a? 36 [Bk] [.bool] B6:=k0 [(36,[f? 4 [3] [.t 2 .bool] 0 []])] (A8 Ge (A8 Dz CA))
def R5:a? 259 [A4] [.bool] Hu:=k0 [] CA
def UH:a? 260 [A4] [.bool] I8:=k0 [(260,[f? 2 [3] [.t 2 .bool] 0 []])] (A8 Qh CA)
def dP:a? 376 [A4] [.bool] L6:=k0 [] (A8 R5 (A8 UH CA))
def EU:a? 345 [Ec] [.bool] Dk:=k0 [(345,[f? 11 [6] [.t 2 .bool] 2 [],f? 5 [4] [.t 2 .bool] 0 []])] (A8 dP CA)
def UL:a? 432 [Bs] [.bool] HH:=k0 [] CA
def U5:a? 433 [Bs,Bs] [.bool] FZ:=k0 [] CA
def LW:a? 419 [Bs,Bs] [.bool] EB:=k0 [] CA
def PP:a? 434 [DX,i64,JU] [i64] EC:=k0 [(434,[f? 2 [7] [6] 0 []])] CA
def FM:a? 395 [DX] [.bool] D2:=k0 [(395,[f? 9 [4] [.t 2 .bool] 2 [],f? 4 [3] [.t 2 .bool] 0 [],f? 20 [7] [.t 2 .bool] 6 [],f? 14 [5] [.t 2 .bool] 4 []])] (A8 UL (A8 U5 (A8 LW (A8 PP CA))))
def dc:a? 408 [B9] [.bool] MH:=k0 [(408,[f? 6 [3] [.t 2 .bool] 0 [],f? 11 [4] [.t 2 .bool] 2 []])] CA
def FN:a? 368 [(.list B9)] [.bool] D4:=k0 [(368,[f? 4 [3] [.t 2 .bool] 0 []])] (A8 dc CA)
def jg:a? 435 [i64] [.bool] G4:=k0 [] CA
def GM:a? 396 [ES] [.bool] D3:=k0 [(396,[f? 4 [3] [.t 2 .bool] 0 []])] (A8 jg CA)
def P2:a? 397 [(.list CE),i64] [.bool] FU:=k0 [(397,[f? 2 [5] [.t 4 .bool] 0 []])] CA
def dj:a? 355 [BA] [.bool] ML:=k0 [] (A8 CG (A8 EU (A8 FM (A8 FN (A8 GM (A8 P2 CA))))))
def KJ:a? 356 [BA,i64] [CE,.bool] E6:=k0 [(356,[f? 2 [6,g? 1 CE] [.t 5 .bool,g? 1 CE] 0 [g? 1 CE]])] CA
def CU:a? 329 [BA] [.bool] Br:=k0 [(329,[f? 4 [3] [.t 2 .bool] 0 [],f? 9 [4] [.t 2 .bool] 2 [],f? 18 [8] [.t 2 .bool] 4 [],f? 23 [9] [.t 2 .bool] 6 []])] (A8 dj (A8 KJ CA))
def Kw:a? 369 [(.list B9),i64] [i64] Ep:=k0 [(369,[f? 2 [5] [4] 0 []])] CA
def UM:a? 339 [(.list B9),i64] [(.list B9),i64] JE:=k0 [(339,[⟨0,11,[(6,B9)],[],[],[],[.t 7 i64,.u 0 B9,.g 6 0],[(.exit 1,[.u 0 B9,.g 6 0])]⟩])] (A8 FN (A8 Kw CA))
def dd:a? 321 [BA] [BA,i64,i64] MI:=k0 [] (A8 CU (A8 UM CA))
def du:a? 296 [A7] [A7,i64,i64] MO:=k0 [] (A8 dd CA)
def C3:a? 304 [i64] [DF] BM:=k0 [] CA
def bS:a? 301 [i64] [DF] D8:=k0 [] (A8 C3 CA)
def Gf:a? 346 [Ec,i64] [i64] Fa:=k0 [(346,[f? 2 [5] [4] 0 []])] CA
def Ff:a? 324 [Ec,i64] [i64] ED:=k0 [] (A8 EU (A8 Gf CA))
def I5:a? 343 [Ec,i64] [A4,.bool] F6:=k0 [] (A8 Ff CA)
def IL:a? 11 [Bk] [i64] Em:=k0 [] (A8 CG (A8 Ge CA))
def KG:a? 76 [Bk,i64] [Bk,i64] EO:=k0 [] (A8 CG (A8 Ge CA))
def KH:a? 344 [BA,i64] [BA] GD:=k0 [(344,[c? 3 [g? 0 BA]])] (A8 IL (A8 KG CA))
def de:a? 323 [BA,i64] [BA,A4,i64] MJ:=k0 [] (A8 CU (A8 I5 (A8 KH CA)))
def Hr:a? 189 [A4] [i64] D1:=k0 [] (A8 R5 (A8 UH CA))
def Dh:a? 125 [.str,i64,i64] [.str] An:=k0 [(125,[e? 4 [.t 0 .str,7] 0 [.t 0 .str]])] CA
def UI:a? 127 [i64] [.str] HE:=k0 [] CA
def Lv:a? 190 [.str] [(.int .u32)] FF:=k0 [(190,[c? 10 [.t 3 (.int .u32)],e? 7 [.t 3 (.int .u32),5] 2 [.t 3 (.int .u32)],e? 3 [.t 3 (.int .u32),4] 0 [.t 3 (.int .u32)]])] CA
def HN:a? 119 [A4] [.str,i64] DN:=k0 [(119,[c? 11 [7],e? 7 [.t 5 .str,6] 0 [.t 5 .str]])] (A8 Hr (A8 Dh (A8 UI (A8 Lv CA))))
def dS:a? 452 [Fc,Dl] [.bool] L8:=k0 [(452,[c? 7 [.t 59 .bool],d? 13 [.t 4 .bool,.x 2] [g? 2 Dl],hn 2 11 [.x 2] [(.normal,[g? 2 Dl]),(.ret,[.t 4 .bool,.x 2])],hn 2 9 [.x 2] [(.normal,[g? 2 Dl]),(.ret,[.t 4 .bool,.x 2])],hn 2 8 [.x 2] [(.normal,[g? 2 Dl]),(.ret,[.t 4 .bool,.x 2])]])] CA
def dQ:a? 421 [Fc] [.bool] L7:=k0 [(421,[f? 5 [4] [.t 2 .bool] 0 [],f? 10 [5] [.t 2 .bool] 2 [],f? 15 [6] [.t 2 .bool] 4 []])] (A8 dS CA)
def NV:a? 377 [Fc,i64] [i64] Gj:=k0 [] (A8 dQ CA)
def R6:a? 422 [(.list i64),i64] [(.list i64)] FO:=k0 [(422,[c? 6 [.u 0 i64,.g 5 0],⟨0,3,[(5,i64)],[],[],[],[.t 6 i64,.u 0 i64,.g 5 0],[(.exit 0,[.u 0 i64,.g 5 0])]⟩])] CA
def gF:a? 380 [(.list i64),i64] [(.list i64)] FY:=k0 [(380,[c? 7 [.t 6 .bool,.u 0 i64,.g 5 0],c? 10 [.u 0 i64,.g 5 0],⟨0,4,[(5,i64)],[],[],[],[.t 6 .bool,.t 7 i64,.u 0 i64,.g 5 0],[(.exit 0,[.t 6 .bool,.u 0 i64,.g 5 0])]⟩,c? 12 [.u 0 i64,.g 5 0]])] CA
def dR:a? 347 [Fc,i64,.str] [Fc,i64] QU:=k0 [(347,[c? 16 [.u 8 Dl,.u 9 Dl,.g 10 8,.p 7 [.o 4,.d i64,.o 5,.d .bool,.o 9]],⟨0,13,[(10,Dl)],[(7,4,Dl)],[],[],[.t 11 i64,.u 8 Dl,.u 4 .str,.u 5 i64,.u 9 Dl,.g 10 8,.p 7 [.o 4,.d i64,.o 5,.d .bool,.o 9],.p 2 Q?,.p 3 Q?],[(.exit 0,[.u 8 Dl,.u 4 .str,.u 5 i64,.u 9 Dl,.g 10 8,.p 7 [.o 4,.d i64,.o 5,.d .bool,.o 9],.p 2 Q?,.p 3 Q?])]⟩,c? 29 [.t 12 .bool,.u 4 .str,.p 7 i?,.p 2 e!,.p 3 e!],c? 26 [.t 12 .bool,.u 4 .str,.p 2 e!,.p 3 e!,.p 7 i?],c? 24 [.t 12 .bool,.u 4 .str,.p 2 e!,.p 3 e!,.p 7 i?],⟨0,20,[],[],[5],[],[.t 12 .bool,.t 13 i64,.u 4 .str,.u 6 Dl,.u 4 .str,.u 6 Dl,.u 4 .str,.u 9 Dl,.p 2 e!,.p 3 e!,.p 7 i?],[(.exit 2,[.t 12 .bool,.u 4 .str,.u 6 Dl,.u 9 Dl,.p 2 e!,.p 3 e!,.p 7 i?])]⟩,c? 32 [.u 4 .str,.p 7 i?,.p 2 e!,.p 3 e!],c? 45 [.p 7 i?],c? 43 [.p 7 i?],c? 39 [.u 4 .str,.p 7 i?,.p 2 e!,.p 3 e!],e? 34 [14,.u 4 .str,.u 6 Dl,.u 4 .str,.u 6 Dl,.u 4 .str,.u 9 Dl,.p 2 e!,.p 3 e!,.p 7 i?] 5 [.u 4 .str,.u 6 Dl,.u 9 Dl,.p 2 e!,.p 3 e!,.p 7 i?]])] (A8 NV (A8 R6 (A8 gF CA)))
def Lw:a? 423 [Ec,i64,UA] [Ec] Ij:=k0 [] CA
def dZ:a? 381 [Ec,i64,i64] [Ec,i64] QV:=k0 [(381,[c? 14 [g? 2 UA],c? 12 [g? 2 UA]])] (A8 EU (A8 Gf (A8 Lw CA)))
def Dt:a? 386 [(.list B9),i64] [i64] Cf:=k0 [] (A8 Kw CA)
def D5:a? 200 [Af] [.bool] BE:=k0 [] CA
def PQ:a? 359 [BA,i64] [i64] Er:=k0 [] (A8 CU (A8 I5 (A8 KJ CA)))
def bA:a? 25 [Bk,Af] [Bk,i64,i64] K0:=k0 [] (A8 CG (A8 Ge (A8 Dz CA)))
def HD:a? 387 [Bk,i64] [Af,i64] FG:=k0 [] (A8 CG (A8 Ge CA))
def NW:a? 425 [(.list B9),i64] [(.list B9)] Gm:=k0 [(425,[c? 6 [.u 0 B9,.g 5 0],⟨0,3,[(5,B9)],[],[],[],[.t 6 i64,.u 0 B9,.g 5 0],[(.exit 0,[.u 0 B9,.g 5 0])]⟩])] CA
def Sy:a? 427 [B9] [B9] Ia:=k0 [(427,[c? 2 [g? 0 B9]])] CA
def QR:a? 426 [(.list B9),i64,B9] [(.list B9)] Ik:=k0 [] CA
def U8:a? 388 [(.list B9),Af] [(.list B9),i64] GX:=k0 [(388,[c? 24 [.u 2 i64,.g 8 2],⟨0,21,[(8,i64)],[],[],[],[.t 9 i64,.u 2 i64,.g 8 2],[(.exit 2,[.u 2 i64,.g 8 2])]⟩,d? 19 [.t 4 (.list B9),5,.x 1] [g? 1 B9],hn 2 17 [.x 1] [(.normal,[g? 1 B9]),(.ret,[.t 4 (.list B9),5,.x 1])]])] (A8 FN (A8 Dz (A8 Kw (A8 NW (A8 Sy (A8 QR CA))))))
def jh:a? 428 [ES,i64,Da] [ES] OD:=k0 [] CA
def U7:a? 389 [ES,Af] [ES,i64] Hy:=k0 [] (A8 GM (A8 Dz (A8 jh CA)))
def GA:a? 351 [BA,Af] [BA,i64,i64] EY:=k0 [(351,[d? 5 [5,6,g? 2 BA,.x 1] [g? 1 Af,g? 2 BA],c? 10 [g? 1 Af]])] (A8 CU (A8 Dt (A8 D5 (A8 PQ (A8 bA (A8 HD (A8 U8 (A8 U7 CA))))))))
def Zs:a? 348 [BA,i64,i64] [BA,i64] KW:=k0 [(348,[d? 7 [7,g? 1 BA,.x 2] [g? 2 Ec,g? 1 BA]])] (A8 CU (A8 IL (A8 Ff (A8 dZ (A8 GA CA)))))
def UP:a? 325 [A7,BA,A4] [A7,i64] MR:=k0 [] (A8 HN (A8 dR (A8 Zs CA)))
def dw:a? 299 [A7,i64] [A7,i64] MQ:=k0 [] (A8 de (A8 Ff (A8 UP CA)))
def da:a? 382 [Ec] [(.list CE)] MD:=k0 [(382,[c? 9 [.u 1 CE,.g 3 1],⟨0,5,[(3,CE)],[],[],[],[.t 4 i64,.u 1 CE,.g 3 1],[(.exit 0,[.u 1 CE,.g 3 1])]⟩])] (A8 EU (A8 Gf CA))
def kW:a? 349 [BA] [Hq,i64] Pk:=k0 [(349,[c? 9 [.u 3 CE,.p 2 l?],c? 14 [.u 3 CE,.p 2 l?],e? 11 [46,.u 3 CE,.p 2 l?] 2 [.u 3 CE,.p 2 l?],⟨0,5,[],[(2,3,CE)],[],[],[.t 5 i64,.u 3 CE,.p 2 l?],[(.exit 0,[.u 3 CE,.p 2 l?])]⟩])] (A8 CU (A8 KJ (A8 da CA)))
def UN:a? 383 [Hq] [.bool] HI:=k0 [(383,[f? 4 [3] [.t 2 .bool] 0 []])] (A8 FN (A8 P2 (A8 GM CA)))
def Zr:a? 424 [.str,(.list i64)] [.str] Hz:=k0 [(424,[e? 2 [.t 0 .str,5] 0 [.t 0 .str]])] (A8 Dh CA)
def bJ:a? 384 [(.list B9)] [.str,i64] K4:=k0 [(384,[e? 5 [.t 4 .str,5] 0 [.t 4 .str]])] (A8 FN (A8 Dh (A8 Zr CA)))
def bH:a? 385 [ES] [.str,i64] IX:=k0 [(385,[e? 5 [.t 4 .str,5] 0 [.t 4 .str]])] (A8 GM (A8 Dh CA))
def bQ:a? 350 [Hq] [.str,i64] Gn:=k0 [(350,[e? 9 [.t 6 .str,7] 0 [.t 6 .str]])] (A8 UN (A8 bJ (A8 Dh (A8 bH CA))))
def gS:a? 326 [BA] [BA,i64,i64] RR:=k0 [] (A8 kW (A8 bQ (A8 GA (A8 KG CA))))
def Xh:a? 300 [A7] [A7,i64,i64] Lh:=k0 [] (A8 gS CA)
def gE:a? 352 [Fc,i64,.str,i64] [Fc,i64] RM:=k0 [] (A8 NV (A8 R6 CA))
def KF:a? 126 [.str] [.str] Di:=k0 [] (A8 Dh (A8 Lv CA))
def gI:a? 390 [i64] [.str] M6:=k0 [] (A8 Dh (A8 KF CA))
def gG:a? 271 [.str,LQ] [.str] GU:=k0 [] (A8 Dh CA)
def Sw:a? 204 [Af] [.str,i64] Fh:=k0 [] (A8 Dz (A8 Dh (A8 gG CA)))
def dV:a? 391 [Af] [.str] JB:=k0 [] (A8 Sw (A8 KF CA))
def dU:a? 353 [Bk,i64] [.str] HF:=k0 [(353,[c? 8 [.t 5 .str,.t 6 .str],e? 5 [.t 5 .str,.t 6 .str,7] 0 [.t 5 .str,.t 6 .str]])] (A8 CG (A8 gI (A8 dV CA)))
def dv:a? 327 [A7,i64,i64,i64] [Fc,.str] MP:=k0 [(327,[c? 8 [g? 3 Fc],c? 4 [g? 2 BA,g? 3 Fc]])] (A8 Ff (A8 HN (A8 KH (A8 gE (A8 dU CA)))))
def EL:a? 206 [.str,i64,i64] [i64,i64] A1:=k0 [(206,[e? 7 [.t 8 (.int .u64),9] 0 [.t 8 (.int .u64)]])] CA
def Md:a? 133 [.str,i64] [.str,i64,i64] Bl:=k0 [] (A8 EL (A8 Lv CA))
def N5:b? 335 0 PE [i64] [i64] BT:=k1 [] (A8 EL CA)
def OP:b? 337 0 PE [i64] [.str] C5:=k1 [] CA
def XB:b? 336 0 PE [] [LQ] Cs:=k1 [] (A8 N5 (A8 OP CA))
def Sv:a? 307 [.str] [Af,i64] D7:=k0 [] (A8 N5 (A8 XB (A8 OP (A8 Dz CA))))
def gH:a? 392 [.str] [Bk,i64] J0:=k0 [(392,[⟨0,8,[],[(1,1,Af)],[],[],[.t 5 i64,.u 2 Af,.p 1 [.d i64,.o 2,.d i64],.p 0 [.d Bk]],[(.ret,[.t 3 i64,.p 0 [.d Bk],.x 1,.x 2]),(.exit 0,[.u 2 Af,.p 1 [.d i64,.o 2,.d i64],.p 0 [.d Bk]])]⟩])] (A8 Md (A8 EL (A8 Sv CA)))
def N6:b? 462 0 Gd [i64] [i64] Ch:=k1 [] (A8 EL CA)
def XC:b? 463 0 Gd [i64] [(.list i64)] GJ:=k1 [(463,[⟨0,3,[(5,i64)],[],[],[],[.t 6 i64,.u 1 i64,.g 5 1,.p 0 [.d Gd]],[(.exit 0,[.u 1 i64,.g 5 1,.p 0 [.d Gd]])]⟩])] (A8 N6 CA)
def bI:a? 460 [.str] [(.list B9),i64] K3:=k0 [(460,[⟨0,4,[(5,B9)],[],[],[],[.t 6 i64,.u 1 B9,.g 5 1,.p 0 [.d Gd]],[(.exit 0,[.u 1 B9,.g 5 1,.p 0 [.d Gd]])]⟩])] (A8 N6 (A8 XC (A8 FN CA)))
def bF:a? 461 [.str] [ES,i64] Eo:=k0 [(461,[⟨0,8,[],[(1,0,Da)],[],[],[.t 7 i64,.u 2 Da,.p 1 [.o 2]],[(.exit 1,[.u 2 Da,.p 1 [.o 2]])]⟩])] (A8 EL (A8 GM CA))
def bP:a? 457 [.str] [Hq,i64] DO:=k0 [(457,[⟨0,15,[],[(1,3,CE)],[],[],[.t 9 i64,.t 11 i64,.u 2 CE,.p 1 [.d i64,.d i64,.d (.list B9),.o 2,.d ES]],[(.exit 0,[.t 9 i64,.u 2 CE,.p 1 [.d i64,.d i64,.d (.list B9),.o 2,.d ES]])]⟩])] (A8 EL (A8 bI (A8 bF (A8 UN CA))))
def bR:a? 453 [Bk] [Hq,i64,.bool] Pj:=k0 [(453,[f? 4 [5,g? 1 Hq] [3,.t 4 .bool,g? 1 Hq] 0 [g? 1 Hq]])] (A8 CG (A8 bP CA))
def dp:a? 429 [Bk,i64] [FL,i64] QW:=k0 [] (A8 bR (A8 V0 CA))
def dm:a? 454 [(.list CE),Af] [(.list CE)] HJ:=k0 [(454,[c? 10 [.t 6 .bool,.u 1 CE,.g 5 1],c? 18 [g? 2 CE],hn 2 15 [.x 2] [(.normal,[g? 2 CE]),(1,[g? 2 CE])],hn 2 13 [.x 2] [(.normal,[.t 6 .bool,g? 2 CE]),(1,[.t 6 .bool,g? 2 CE])],⟨0,6,[(5,CE)],[],[],[],[.t 6 .bool,.t 7 i64,.u 1 CE,.g 5 1],[(.exit 0,[.t 6 .bool,.u 1 CE,.g 5 1])]⟩,c? 21 [.u 1 CE,.g 5 1]])] (A8 D5 CA)
def gU:a? 430 [FL,Af] [FL,i64] NG:=k0 [(430,[d? 2 [5,g? 2 FL,.x 0] [g? 0 FL,g? 2 FL]])] (A8 Dt (A8 UM (A8 U8 (A8 U7 (A8 D5 (A8 dm CA))))))
def gT:a? 458 [Bs,Bs] [.bool] FZ:=k0 [] CA
def gV:a? 455 [(.list Bs),Bs] [(.list Bs)] RV:=k0 [(455,[e? 2 [5] 0 [5]])] (A8 gT CA)
def dn:a? 431 [Bk,(.list B9)] [(.list Bs),i64] MM:=k0 [(431,[f? 6 [.t 6 (.list Bs),8] [.t 4 (.list Bs),5] 2 [.t 6 (.list Bs)],f? 3 [.t 6 (.list Bs),7] [.t 4 (.list Bs),5] 0 [.t 6 (.list Bs)]])] (A8 HD (A8 gV CA))
def Zv:a? 393 [Bk,i64] [FL,i64] KZ:=k0 [(393,[f? 9 [8,g? 2 FL,g? 1 FL] [5,g? 1 FL,.x 2] 0 [g? 2 FL,g? 1 FL],c? 20 [.u 3 B9,.g 9 3],⟨0,17,[(9,B9)],[],[],[],[.t 10 i64,.u 3 B9,.g 9 3],[(.exit 2,[.u 3 B9,.g 9 3])]⟩])] (A8 CG (A8 dp (A8 gU (A8 dn CA))))
def dt:a? 394 [Bk,FL,i64] [BA,i64] MN:=k0 [(394,[f? 8 [11,g? 4 BA,g? 2 BA] [7,g? 2 BA,.x 4] 0 [g? 4 BA,g? 2 BA]])] (A8 Vz (A8 CU (A8 GA CA)))
def ga:a? 354 [Fc,.str,i64,i64] [A7,i64] RY:=k0 [] (A8 gH (A8 Zv (A8 dt CA)))
def gb:a? 328 [Fc,.str,i64,i64] [A7,i64] RZ:=k0 [] (A8 ga CA)
def bE:a? 436 [Ec] [Ec,i64,i64] Pf:=k0 [(436,[e? 5 [g? 0 Ec] 0 [g? 0 Ec]])] (A8 EU (A8 Lw CA))
def gM:a? 437 [Ec,i64] [Ec,i64] NA:=k0 [(437,[c? 10 [.p 0 [.d i64,.o 2,.d i64]],c? 12 [.p 0 [.d i64,.o 2,.d i64]]])] (A8 EU (A8 Gf CA))
def gP:a? 398 [BA] [BA,A4,.bool,i64] ND:=k0 [] (A8 CU (A8 bE (A8 Ff (A8 gM (A8 KH CA)))))
def gZ:a? 357 [A7] [A7,i64] NI:=k0 [(357,[hn 0 1 [g? 0 A7,g? 1 A7] [(.ret,[3,g? 1 A7,.x 0])]])] (A8 gP (A8 UP CA))
def jd:a? 399 [(.list i64),i64] [.bool] OA:=k0 [(399,[f? 2 [5] [.t 4 .bool] 0 []])] CA
def gD:a? 358 [Fc,i64] [.str,i64] M5:=k0 [] (A8 NV (A8 jd CA))
def UG:a? 73 [] [.str] I7:=k0 [] (A8 UI CA)
def aw:a? 188 [.str] [A4,i64] El:=k0 [(188,[f? 14 [7,g? 1 A4,g? 0 A4] [3,g? 0 A4,.x 1] 1 [g? 1 A4,g? 0 A4]])] (A8 UG (A8 EL (A8 Lv (A8 HN CA))))
def IK:a? 118 [.str,i64] [A4,i64] Co:=k0 [] (A8 aw (A8 QP CA))
def db:a? 360 [ES,i64,i64,.str] [A4,i64] MF:=k0 [] (A8 GM (A8 IK CA))
def dW:a? 459 [Af,(.list Af)] [(.list Af)] MA:=k0 [] CA
def gJ:a? 456 [Bk,i64,i64,i64] [(.list Af),i64] RN:=k0 [(456,[f? 7 [.t 10 (.list Af),11] [.t 8 (.list Af),9] 0 [.t 10 (.list Af),11]])] (A8 CG (A8 HD (A8 D5 (A8 dW CA))))
def dr:a? 438 [Bk,A4,i64] [(.list Af),i64] WG:=k0 [] (A8 CG (A8 Hr (A8 gJ CA)))
def UJ:a? 264 [A4,Jh] [A4,i64] I9:=k0 [] (A8 UK CA)
def UO:a? 194 [A4,Af] [A4,i64] JG:=k0 [] (A8 Dz (A8 D5 (A8 Hr (A8 UJ CA))))
def gX:a? 400 [Bk,A4,i64] [A4,i64,i64] RX:=k0 [(400,[f? 5 [11,g? 1 A4,g? 2 A4] [7,8,g? 2 A4,.x 1] 0 [g? 1 A4,g? 2 A4]])] (A8 dr (A8 UO CA))
def gW:a? 361 [Bk,A4,i64] [A4,i64] RW:=k0 [] (A8 gX CA)
def bL:a? 362 [BA,A4] [BA,i64] K7:=k0 [(362,[c? 21 [.u 9 CE,.g 10 9],⟨0,18,[(10,CE)],[],[],[],[.t 11 i64,.u 9 CE,.g 10 9],[(.exit 1,[.u 9 CE,.g 10 9])]⟩,c? 14 [.u 6 UA,g? 0 BA,.p 3 [.d i64,.o 6,.d i64],.p 5 [.d i64,.o 6,.d i64],.p 7 [.d i64,.o 6,.d i64]]])] (A8 CU (A8 PQ (A8 EU (A8 Hr (A8 KJ (A8 Gf CA))))))
def KK:a? 330 [A7,i64] [A7,i64] E7:=k0 [] (A8 CU (A8 Ff (A8 gZ (A8 gD (A8 PQ (A8 db (A8 gW (A8 bL CA))))))))
def S0:a? 363 [BA,i64] [B9,.bool] Ib:=k0 [(363,[d? 2 [.t 5 .bool,g? 1 B9] [g? 1 B9]])] (A8 CU (A8 Dt CA))
def gY:a? 331 [BA] [(.list i64)] NH:=k0 [(331,[c? 7 [.u 1 i64,.g 3 1],⟨0,3,[(3,i64)],[],[],[],[.t 4 i64,.u 1 i64,.g 3 1],[(.exit 0,[.u 1 i64,.g 3 1])]⟩])] (A8 S0 CA)
def Iu:a? 364 [BA,i64] [B9,i64] FV:=k0 [] (A8 CU (A8 Dt CA))
def PO:a? 403 [(.list Bs),i64,.bool,JU] [(.list Bs)] GW:=k0 [(403,[c? 6 [.u 1 Bs,.g 9 1],⟨0,3,[(9,Bs)],[],[],[],[.t 10 i64,.u 1 Bs,.g 9 1],[(.exit 0,[.u 1 Bs,.g 9 1])]⟩])] CA
def gK:a? 439 [DX,i64] [.bool] M8:=k0 [(439,[f? 2 [5] [.t 4 .bool] 0 [],f? 7 [6] [.t 4 .bool] 2 []])] (A8 LW CA)
def gL:a? 440 [(.list Bs),Bs] [(.list Bs)] M9:=k0 [(440,[c? 7 [.t 6 .bool,.u 1 Bs,.g 5 1],c? 10 [.u 1 Bs,.g 5 1],⟨0,4,[(5,Bs)],[],[],[],[.t 6 .bool,.t 7 i64,.u 1 Bs,.g 5 1],[(.exit 0,[.t 6 .bool,.u 1 Bs,.g 5 1])]⟩,c? 12 [.u 1 Bs,.g 5 1]])] (A8 U5 CA)
def Ji:a? 402 [DX] [DX] Fj:=k0 [(402,[c? 5 [3,g? 0 DX],e? 2 [3,g? 0 DX] 0 [g? 0 DX]])] (A8 gK (A8 gL CA))
def Me:a? 365 [DX,i64] [DX] Hw:=k0 [] (A8 FM (A8 PO (A8 Ji CA)))
def gR:a? 366 [BA,i64] [Af,.bool] H4:=k0 [] (A8 Iu (A8 HD CA))
def Zo:a? 404 [Jh] [Jh] KO:=k0 [] CA
def bD:a? 441 [Ec,A4] [Ec,i64] K2:=k0 [(441,[c? 13 [g? 3 UA]])] (A8 EU (A8 Hr (A8 Gf (A8 Lw CA))))
def V1:a? 405 [BA,Af] [BA,i64] Ks:=k0 [] (A8 GA (A8 I5 (A8 bD CA)))
def kV:a? 442 [BA,B9,JU,i64] [Af,.bool] Ph:=k0 [(442,[f? 2 [10,g? 3 Af] [.t 9 .bool,g? 3 Af] 0 [g? 3 Af]])] (A8 HD CA)
def Sz:a? 406 [BA,i64,JU] [Af,.bool] LA:=k0 [] (A8 Iu (A8 kV CA))
def U4:a? 407 [DX,i64,JU] [DX] M7:=k0 [] (A8 FM (A8 PO (A8 Ji CA)))
def VD:a? 367 [BA,B9,Af] [BA,DF] GY:=k0 [(367,[c? 15 [g? 8 BA],c? 12 [g? 8 BA]])] (A8 I5 (A8 Zo (A8 UJ (A8 C3 (A8 V1 (A8 Sz (A8 U4 CA)))))))
def VC:a? 332 [BA,i64] [BA,DF] J2:=k0 [] (A8 Iu (A8 C3 (A8 GA (A8 Me (A8 gR (A8 VD CA))))))
def gd:a? 303 [A7] [A7,.bool,i64] NJ:=k0 [(303,[hn 0 9 [g? 0 A7,g? 1 A7] [(.ret,[.t 3 .bool,4,g? 1 A7,.x 0])]])] (A8 CU (A8 KK (A8 gY (A8 VC CA))))
def bK:a? 443 [BA,E9] [i64] K5:=k0 [(443,[c? 6 [.t 11 .bool],c? 5 [.t 11 .bool],c? 11 [g? 2 E9],c? 18 [.t 60 .bool],c? 17 [.t 60 .bool],d? 13 [4,.x 2] [g? 2 E9],d? 7 [4,.x 2] [g? 2 E9]])] CA
def It:a? 373 [DX,i64] [Bs,.bool] FT:=k0 [(373,[f? 3 [6,g? 1 Bs] [.t 5 .bool,g? 1 Bs] 0 [g? 1 Bs],d? 2 [.t 5 .bool,g? 1 Bs] [g? 1 Bs]])] (A8 FM CA)
def U9:a? 414 [i64,E9] [Bs,.bool] J1:=k0 [(414,[c? 7 [.t 20 .bool]])] CA
def Zu:a? 409 [BA,i64,E9] [i64] KY:=k0 [] (A8 CU (A8 Dt (A8 bK (A8 It (A8 U9 CA)))))
def bO:a? 410 [BA,i64] [BA,DF] K9:=k0 [(410,[hn 2 3 [.x 1,.x 2,.x 3] [(.normal,[g? 3 BA,g? 1 BA,g? 2 DF]),(.ret,[g? 1 BA,g? 2 DF,.x 3])]])] (A8 Dt (A8 NW (A8 GA (A8 C3 (A8 KH (A8 Me CA))))))
def bB:a? 444 [DX,i64] [DX] Pa:=k0 [] (A8 FM (A8 PO (A8 Ji CA)))
def Zt:a? 445 [BA,i64,JU] [.bool] KX:=k0 [(445,[f? 3 [8] [.t 6 .bool] 0 []])] (A8 Dt (A8 HD CA))
def di:a? 411 [BA,i64,i64] [BA,DF] JF:=k0 [(411,[c? 15 [g? 3 BA],e? 12 [12,g? 3 BA] 0 [g? 3 BA]])] (A8 bB (A8 Dt (A8 NW (A8 Me (A8 GA (A8 C3 (A8 Zt (A8 U4 CA))))))))
def Sx:a? 446 [(.list B9),i64] [i64,i64] IY:=k0 [] (A8 FN (A8 Kw CA))
def gO:a? 412 [(.list B9),i64] [(.list B9),i64] NC:=k0 [] (A8 Sx (A8 QR CA))
def gN:a? 413 [(.list B9),i64,i64] [(.list B9),i64] NB:=k0 [] (A8 Sx (A8 Sy (A8 QR CA)))
def dX:a? 447 [DX,Bs] [i64] JC:=k0 [(447,[f? 4 [5] [4] 0 []])] (A8 PP CA)
def Zp:a? 415 [DX,Bs] [DX,.bool,i64] Ob:=k0 [] (A8 FM (A8 UL (A8 It (A8 PP (A8 dX (A8 Ji CA))))))
def jf:a? 448 [Ec,i64] [Ec] OB:=k0 [] (A8 Ff (A8 Lw CA))
def bM:a? 416 [BA,i64,E9] [BA,DF] K8:=k0 [(416,[c? 9 [g? 5 Jh]])] (A8 I5 (A8 jf (A8 V1 (A8 C3 CA))))
def U6:a? 420 [(.list i64),i64] [(.list i64)] FY:=k0 [(420,[c? 7 [.t 6 .bool,.u 0 i64,.g 5 0],c? 10 [.u 0 i64,.g 5 0],⟨0,4,[(5,i64)],[],[],[],[.t 6 .bool,.t 7 i64,.u 0 i64,.g 5 0],[(.exit 0,[.t 6 .bool,.u 0 i64,.g 5 0])]⟩,c? 12 [.u 0 i64,.g 5 0]])] CA
def Zq:a? 449 [DX] [(.list i64)] KR:=k0 [(449,[e? 4 [.t 3 (.list i64),4] 0 [.t 3 (.list i64)],c? 3 [.t 3 (.list i64)]])] (A8 FM (A8 U6 CA))
def QQ:a? 374 [DX,i64] [(.list i64)] Ii:=k0 [(374,[c? 9 [.t 7 (.list i64)],e? 6 [.t 7 (.list i64),8] 0 [.t 7 (.list i64)],c? 14 [.t 7 (.list i64)],e? 11 [.t 7 (.list i64),9] 2 [.t 7 (.list i64)]])] (A8 It (A8 LW (A8 U6 CA)))
def bC:A5 (.c0 450 [DX,(.list i64),i64] [(.list i64)] Pd):=AG0 (P:=Tryz.prog) (F:=450) (ds:=[DX,(.list i64),i64]) (rs:=[(.list i64)]) (f:=Eu) (hs:=iy [(450,[f? 4 [30] [.t 6 (.list i64)] 0 [],e? 15 [.t 12 .bool,49] 4 [.t 12 .bool],f? 11 [43] [.t 6 (.list i64)] 2 []])]) (n:=13) (A8 QQ CA) (λg x=>by kernel_rfl)
def dY:a? 417 [DX,i64] [(.list i64)] MB:=k0 [(417,[f? 2 [5] [.t 4 (.list i64)] 0 []])] (A8 Zq (A8 bC CA))
def dh:a? 451 [(.list i64)] [i64] MK:=k0 [] CA
def jj:a? 418 [BA,i64] [i64] OE:=k0 [] (A8 QQ (A8 dh CA))
def kU:a? 370 [BA,i64,E9] [BA,DF] Pg:=k0 [(370,[c? 10 [.t 46 .bool],c? 13 [.t 9 (.list B9),10]])] (A8 Zu (A8 C3 (A8 bO (A8 di (A8 gO (A8 gN (A8 U9 (A8 Zp (A8 bM (A8 dY (A8 jj CA)))))))))))
def R7:a? 371 [A7,i64] [.bool] EX:=k0 [] (A8 Dt CA)
def Y0:a? 372 [A7,i64] [A7,i64] Ev:=k0 [(372,[d? 12 [5,g? 1 A7,.x 0] [g? 0 A7,g? 1 A7],f? 5 [g? 0 A7,g? 1 A7] [5,g? 1 A7,.x 0] 0 [g? 0 A7,g? 1 A7]])] (A8 CU (A8 Dt (A8 R7 (A8 VC (A8 KK CA)))))
def kX:a? 340 [A7,i64,E9] [A7,DF] Pl:=k0 [(340,[d? 10 [g? 2 A7,g? 3 DF,.x 0] [g? 0 A7,g? 2 A7,g? 3 DF],hn 0 1 [g? 0 A7,g? 2 A7,g? 3 DF] [(.ret,[g? 2 A7,g? 3 DF,.x 0])]])] (A8 kU (A8 KK (A8 C3 (A8 R7 (A8 Y0 CA)))))
def Zw:a? 341 [BA,i64] [i64,JU,.bool] Ka:=k0 [(341,[f? 5 [28,g? 1 JU] [4,.t 6 .bool,g? 1 JU] 0 [g? 1 JU]])] (A8 It (A8 QQ (A8 S0 CA)))
def gQ:a? 375 [BA,i64,JU] [BA,DF] NF:=k0 [] (A8 Iu (A8 C3 (A8 Sz (A8 VD CA))))
def gf:a? 342 [A7,i64,JU] [A7,i64,i64] NK:=k0 [(342,[d? 8 [7,8,g? 2 A7,.x 0] [9,g? 0 A7,g? 2 A7],hn 0 2 [9,g? 0 A7,g? 2 A7] [(.ret,[7,8,g? 2 A7,.x 0])]])] (A8 gQ (A8 KK CA))
def kY:a? 322 [A7,i64,E9] [A7,DF] Pn:=k0 [(322,[hn 0 1 [g? 0 A7,g? 2 A7,g? 3 DF] [(.ret,[g? 2 A7,g? 3 DF,.x 0])]])] (A8 kX (A8 Zw (A8 gf (A8 C3 CA))))
def jm:a? 197 [A7,(.list Tl)] [A7,(.list DF),(.list Yo)] OH:=k0 [(197,[⟨0,4,[(8,DF)],[(2,18,i64),(2,19,Yo)],[],[],[.t 9 i64,.u 3 DF,.u 4 i64,.u 5 Yo,.g 8 3,.p 2 Q!],[(.exit 0,[.u 3 DF,.u 4 i64,.u 5 Yo,.g 8 3,.p 2 Q!])]⟩]),(268,[c? 5 [.u 4 i64,.p 2 Q!],c? 19 [.p 2 Q!]]),(297,[c? 2 [.p 2 Q!]]),(298,[c? 9 [.u 5 Yo,.p 2 Q!]]),(302,[e? 4 [9,.u 4 i64,.p 2 Q!] 0 [.u 4 i64,.p 2 Q!]])] (A8 du (A8 bS (A8 C3 (A8 dw (A8 Xh (A8 IL (A8 KG (A8 dv (A8 gb (A8 gd (A8 kY CA)))))))))))
def Wj:b? 128 0 BH [i64,.bool] [A7] He:=k1 [] (A8 CY (A8 jl (A8 Vp (A8 jm CA))))
def W9:b? 75 0 BH [i64,.bool] [BA] IE:=k1 [] (A8 Wj CA)
def kT:b? 31 0 BH [i64] [i64,Bk] La:=k1 [] (A8 W9 (A8 IL (A8 KG CA)))
def dM:b? 77 0 BH [i64] [(.list i64)] L4:=k1 [(77,[c? 6 [.u 1 i64,.g 5 1],e? 3 [6,.u 1 i64,.g 5 1,g? 0 BH] 0 [.u 1 i64,.g 5 1,g? 0 BH]])] (A8 CY CA)
def EV:a? 66 [BC] [.bool] Cy:=k0 [(66,[f? 5 [3,4] [.t 2 .bool] 0 []])] (A8 S2 CA)
def OQ:a? 129 [BC,i64] [i64,i64] E8:=k0 [(129,[c? 3 [5]])] CA
def R9:a? 199 [i64,i64,i64,i64,i64] [.bool] H7:=k0 [] CA
def R8:a? 270 [Af,Af] [i64] DA:=k0 [] CA
def Jj:a? 201 [(.list Af),Af] [(.list Af),.bool] Cg:=k0 [(201,[e? 2 [6] 0 [6]])] (A8 R8 CA)
def Hs:a? 202 [Bo] [.bool] EP:=k0 [(202,[d? 12 [.t 2 .bool] [],f? 4 [3] [.t 2 .bool] 0 []])] (A8 R9 (A8 Dz (A8 D5 (A8 R8 CA))))
def gh:a? 130 [(.list Af),i64,i64,i64,i64,i64] [Bo,i64] J3:=k0 [(130,[f? 4 [14,g? 0 Bo] [13,g? 0 Bo] 0 [g? 0 Bo],e? 16 [.t 16 .bool,19] 4 [.t 16 .bool],e? 11 [.t 16 .bool,17,g? 1 Bo] 2 [.t 16 .bool,g? 1 Bo]])] (A8 R9 (A8 Dz (A8 D5 (A8 Jj (A8 Hs CA)))))
def gg:a? 203 [Bo] [.str] H6:=k0 [] (A8 Dh CA)
def S1:a? 131 [Bo] [.str,i64] Gp:=k0 [(131,[e? 5 [.t 4 .str,5] 0 [.t 4 .str]])] (A8 Hs (A8 gg (A8 KF (A8 Sw CA))))
def gl:a? 78 [BC,Bk,i64] [BC,i64] Es:=k0 [(78,[f? 15 [11,g? 2 BC] [7,g? 2 BC] 0 [g? 2 BC],f? 22 [13,.u 4 DE,.p 3 o?,g? 2 BC] [7,g? 2 BC,.x 3,.x 4] 2 [.u 4 DE,.p 3 o?,g? 2 BC]])] (A8 EV (A8 CG (A8 OQ (A8 gh (A8 S1 CA)))))
def bV:a? 306 [.str,i64,i64] [i64] Bg:=k0 [] (A8 EL CA)
def bT:a? 272 [.str] [Bo,i64] Fm:=k0 [(272,[⟨0,11,[],[(1,5,Af)],[],[],[.t 5 i64,.t 9 i64,.u 2 Af,.p 1 [.d i64,.d i64,.d i64,.d i64,.d i64,.o 2],.p 0 [.d Bo]],[(.ret,[.t 3 i64,.p 0 [.d Bo],.x 1,.x 2]),(.exit 0,[.t 5 i64,.u 2 Af,.p 1 [.d i64,.d i64,.d i64,.d i64,.d i64,.o 2],.p 0 [.d Bo]])]⟩])] (A8 Md (A8 bV (A8 Sv (A8 Hs CA))))
def YC:a? 273 [BC,Bo] [i64] Fb:=k0 [(273,[f? 2 [5] [4] 0 []])] (A8 OQ CA)
def bW:a? 207 [BC,DE] [Bo,i64] DQ:=k0 [] (A8 bT (A8 YC CA))
def Zx:a? 208 [Bo,i64] [Bo] FW:=k0 [(208,[c? 8 [.u 3 Af,.p 2 [.d i64,.d i64,.d i64,.d i64,.d i64,.o 3]],⟨0,5,[],[(2,5,Af)],[],[],[.t 6 i64,.u 3 Af,.p 2 [.d i64,.d i64,.d i64,.d i64,.d i64,.o 3]],[(.exit 0,[.u 3 Af,.p 2 [.d i64,.d i64,.d i64,.d i64,.d i64,.o 3]])]⟩])] CA
def UQ:a? 136 [BC] [(.list Bo),(.list i64),(.list .bool)] GF:=k0 [(136,[e? 14 [11] 4 [11],e? 9 [.t 6 (.list Bo),.t 7 (.list i64),8] 2 [.t 6 (.list Bo),.t 7 (.list i64)],e? 20 [12,13,.u 1 Bo,.u 2 i64,.u 3 .bool,.g 2 1,.g 3 2,.g 4 3] 6 [.u 1 Bo,.u 2 i64,.u 3 .bool,.g 2 1,.g 3 2,.g 4 3],⟨0,4,[(2,Bo),(3,i64),(4,.bool)],[],[],[],[.t 5 i64,.u 1 Bo,.u 2 i64,.u 3 .bool,.g 2 1,.g 3 2,.g 4 3],[(.exit 0,[.u 1 Bo,.u 2 i64,.u 3 .bool,.g 2 1,.g 3 2,.g 4 3])]⟩])] (A8 EV (A8 bW (A8 Zx CA)))
def dx:a? 205 [(.list Bo),(.list .bool)] [Bo,.bool] MS:=k0 [(205,[e? 8 [8,g? 1 Bo] 2 [g? 1 Bo],f? 3 [7,g? 1 Bo,g? 0 Bo] [.t 5 .bool,g? 0 Bo,.x 1] 0 [g? 1 Bo,g? 0 Bo]])] (A8 Jj (A8 Hs CA))
def gq:a? 132 [BC,i64] [BC,.bool,i64] NM:=k0 [(132,[e? 20 [.t 15 .bool,16] 4 [.t 15 .bool],c? 24 [.u 4 DE,.p 3 o?],⟨0,16,[],[(3,2,DE)],[],[],[.t 14 i64,.u 4 DE,.p 3 o?],[(.exit 2,[.u 4 DE,.p 3 o?])]⟩,f? 7 [10,g? 1 BC] [.t 5 .bool,6,g? 1 BC] 0 [g? 1 BC]])] (A8 EV (A8 UQ (A8 dx (A8 S1 CA))))
def gr:a? 79 [BC,i64] [BC,i64] J4:=k0 [(79,[hn 0 1 [g? 0 BC,g? 1 BC] [(.ret,[5,g? 1 BC,.x 0])]])] (A8 gq CA)
def av:b? 32 0 BH [i64,Bk] [BC] PX:=k1 [(32,[c? 7 [g? 3 BC],c? 11 [g? 3 BC],c? 9 [g? 0 BH,g? 3 BC],e? 3 [9,g? 0 BH,g? 3 BC] 0 [g? 0 BH,g? 3 BC],c? 15 [g? 3 BC],c? 13 [g? 3 BC]])] (A8 dM (A8 V2 (A8 CY (A8 gl (A8 gr CA)))))
def gC:a? 27 [i64,i64] [BV] Jz:=k0 [(27,[⟨0,3,[],[(1,2,Et)],[],[],[.t 6 i64,.u 2 Et,.p 1 W!],[(.exit 0,[.u 2 Et,.p 1 W!])]⟩])] (A8 UG CA)
def Ht:a? 84 [BV] [.bool] EQ:=k0 [(84,[f? 4 [3] [.t 2 .bool] 0 []])] (A8 IK CA)
def ba:a? 72 [BV] [.str,i64] Ic:=k0 [(72,[e? 7 [.t 5 .str,6] 0 [.t 5 .str]])] (A8 Ht (A8 Dh (A8 KF CA)))
def ja:a? 26 [BV] [DE] Ko:=k0 [] (A8 ba CA)
def US:a? 83 [BV] [.bool] JJ:=k0 [] (A8 Ht CA)
def VE:a? 39 [BV,i64] [Et,.bool] H9:=k0 [(39,[f? 2 [6,g? 1 Et] [.t 5 .bool,g? 1 Et] 0 [g? 1 Et]])] (A8 Ht CA)
def VF:a? 68 [BV,i64] [A4,i64] J5:=k0 [] (A8 Ht (A8 VE (A8 IK CA)))
def dz:a? 40 [BC,Bk,i64,i64,i64] [i64] JI:=k0 [] (A8 EV (A8 CG CA))
def gi:a? 86 [BC,i64] [i64,i64,.bool] Ra:=k0 [(86,[e? 4 [7] 0 [7]])] (A8 EV (A8 OQ CA))
def gj:a? 87 [BC] [(.list Bo),(.list i64)] Rb:=k0 [] (A8 UQ CA)
def RG:a? 42 [BC,Bk,i64] [PF] Jt:=k0 [(42,[c? 8 [.u 4 Bo,.u 5 i64,.p 3 [.o 4,.o 5,.d Bk]],⟨0,5,[],[(3,0,Bo),(3,1,i64)],[],[],[.t 13 i64,.u 4 Bo,.u 5 i64,.p 3 [.o 4,.o 5,.d Bk]],[(.exit 0,[.u 4 Bo,.u 5 i64,.p 3 [.o 4,.o 5,.d Bk]])]⟩])] (A8 gi (A8 gj CA))
def UR:a? 135 [Bk,i64] [.bool] JH:=k0 [] CA
def gv:a? 85 [PF,i64] [i64] Re:=k0 [(85,[c? 6 [5],e? 3 [5,6] 0 [5],c? 8 [5]])] (A8 UR CA)
def Zy:a? 41 [PF,i64,i64] [.bool] Ke:=k0 [(41,[f? 1 [1] [.t 6 .bool] 0 []])] (A8 gv CA)
def bU:a? 263 [Bo,i64] [(.list Af)] Pp:=k0 [(263,[c? 8 [.u 1 Af,.g 5 1],⟨0,5,[(5,Af)],[],[],[],[.t 6 i64,.u 1 Af,.g 5 1],[(.exit 0,[.u 1 Af,.g 5 1])]⟩])] (A8 Hs CA)
def Y1:a? 192 [(.list Bo),i64,i64,i64] [(.list Af)] Js:=k0 [(192,[c? 10 [.t 9 (.list Af)],e? 7 [.t 9 (.list Af),12] 2 [.t 9 (.list Af)],e? 3 [.t 9 (.list Af),10] 0 [.t 9 (.list Af)]])] (A8 bU (A8 Jj CA))
def bY:a? 193 [Bk,i64,i64,i64] [(.list Af)] Pr:=k0 [(193,[c? 7 [.u 1 Af,.g 9 1],⟨0,3,[(9,Af)],[],[],[],[.t 10 i64,.u 1 Af,.g 9 1],[(.exit 0,[.u 1 Af,.g 9 1])]⟩])] (A8 D5 CA)
def bX:a? 261 [(.list Bo),i64] [i64] LD:=k0 [(261,[f? 2 [5] [4] 0 []])] CA
def jp:a? 262 [(.list Af),Af] [.bool] Im:=k0 [(262,[f? 2 [5] [.t 4 .bool] 0 []])] CA
def dy:a? 191 [(.list Bo),Bk,(.list Af),(.list Af)] [(.list Af),.bool] MU:=k0 [(191,[f? 3 [.t 10 (.list Af),11] [.t 8 (.list Af),.t 9 .bool] 0 [.t 10 (.list Af)],f? 9 [12] [.t 8 (.list Af),.t 9 .bool] 2 []])] (A8 bX (A8 jp (A8 Jj (A8 UR CA))))
def XD:a? 120 [BC,Bk,i64,i64,i64] [(.list Af),i64] Fp:=k0 [(120,[f? 11 [16] [.t 10 (.list Af),11] 0 []])] (A8 dz (A8 RG (A8 Zy (A8 Y1 (A8 bY (A8 dy CA))))))
def gy:a? 121 [A4,(.list Af)] [A4,i64] NO:=k0 [(121,[f? 2 [6,g? 0 A4,g? 1 A4] [5,g? 1 A4,.x 0] 0 [g? 0 A4,g? 1 A4]])] (A8 UO CA)
def VG:a? 69 [A4,BC,Bk,i64] [A4,i64] IA:=k0 [] (A8 EV (A8 CG (A8 HN (A8 XD (A8 gy CA)))))
def gw:a? 80 [BV,BC,Bk,i64,i64] [BV,i64] NN:=k0 [(80,[c? 19 [g? 6 Et],⟨0,11,[],[(4,2,Et)],[],[],[.t 13 i64,.u 5 Et,.p 4 [.d i64,.d i64,.o 5],.p 3 [.d BV]],[(.ret,[.t 11 i64,.p 3 [.d BV],.x 4,.x 5]),(.exit 0,[.u 5 Et,.p 4 [.d i64,.d i64,.o 5],.p 3 [.d BV]])]⟩])] (A8 US (A8 EV (A8 CG (A8 VF (A8 VG (A8 HN CA))))))
def dO:b? 33 0 BH [i64,BC,Bk] [(.list DE)] L5:=k1 [(33,[⟨2,4,[(9,DE)],[],[],[],[.x 4],[(.normal,[.u 4 DE,.g 9 4])]⟩,e? 7 [11,12,.u 4 DE,.g 9 4,g? 0 BH,g? 3 BV] 0 [.u 4 DE,.g 9 4,g? 0 BH,g? 3 BV]])] (A8 gC (A8 CY (A8 ja (A8 gw CA))))
def je:a? 34 [Bk,i64] [Bk,i64] Kq:=k0 [] (A8 CG (A8 Ge CA))
def XA:b? 81 0 BH [.str] [.str] GI:=k1 [] (A8 CY CA)
def dN:b? 35 0 BH [(.list DE)] [(.list DE)] GB:=k1 [] (A8 CY (A8 XA CA))
def bc:a? 134 [.str,i64,i64] [i64] Bg:=k0 [] (A8 EL CA)
def bZ:a? 82 [.str] [BV,i64] Fq:=k0 [(82,[⟨0,11,[],[(1,2,Et)],[],[],[.t 5 i64,.t 9 i64,.u 2 Et,.p 1 W!,.p 0 [.d BV]],[(.ret,[.t 3 i64,.p 0 [.d BV],.x 1,.x 2]),(.exit 0,[.t 5 i64,.u 2 Et,.p 1 W!,.p 0 [.d BV]])]⟩])] (A8 Md (A8 bc (A8 IK (A8 Ht CA))))
def S3:a? 38 [(.list DE)] [(.list BV)] Gq:=k0 [(38,[e? 7 [.t 5 .bool,6] 2 [.t 5 .bool],e? 14 [9] 4 [9],e? 3 [.t 3 (.list BV),4] 0 [.t 3 (.list BV)]])] (A8 bZ (A8 US CA))
def XF:a? 18 [(.list DE),BC,Bk,i64,i64] [Eb,i64] Lm:=k0 [] (A8 ny CA)
def XG:a? 54 [Eb] [.bool] Ja:=k0 [(54,[f? 5 [3,54] [.t 2 .bool] 0 []])] CA
def ka:a? 56 [(.list DE),Eb] [A4,.bool] Ho:=k0 [(56,[f? 4 [19,g? 1 A4] [.t 5 .bool,g? 1 A4] 0 [g? 1 A4]])] (A8 gB (A8 U2 (A8 kR CA)))
def bd:a? 107 [(.list i64),i64] [i64] Pv:=k0 [(107,[f? 2 [8] [4] 0 []])] CA
def hY:a? 57 [BC,Bk,Eb] [(.list FA),.bool] IB:=k0 [(57,[⟨0,7,[(13,FA)],[],[],[],[.t 35 i64,.u 3 FA,.g 13 3],[(.ret,[.t 6 (.list FA),.t 7 .bool,.x 3]),(.exit 0,[.u 3 FA,.g 13 3])]⟩])] (A8 Qf (A8 Qg (A8 bd (A8 Wg CA))))
def ke:a? 58 [(.list FA),Eb] [.bool] Hp:=k0 [(173,[hn 8 1 [29,g? 1 .bool,.y 5 .ready] [(0,[g? 1 .bool,.y 5 .ready]),(.ret,[g? 1 .bool,.y 5 .ret])]]),(174,[f? 2 [8] [4] 0 []])] CA
def Sh:a? 112 [(.list Af),(.list Af)] [.bool] Fs:=k0 [(112,[f? 4 [13] [.t 4 .bool] 0 []])] CA
def kZ:a? 59 [FA,FA,Eb] [.bool] Pu:=k0 [(59,[hn 3 2 [] []]),(109,[hn 6 1 [.x 148] [(.normal,[.t 4 (.list Af),.x 148])]]),(60,[c? 6 [.u 148 Af,.g 5 148],⟨0,3,[(5,Af)],[],[],[],[.t 11 i64,.u 150 Af,.g 5 150],[(.exit 0,[.u 150 Af,.g 5 150])]⟩]),(110,[e? 5 [6,5,.u 148 Af,.g 0 148] 0 [5,.u 148 Af,.g 0 148]]),(176,[f? 2 [8] [4] 0 []])] (A8 Mz (A8 Sh CA))
def jr:a? 60 [FA,Eb] [(.list Af)] OI:=k0 [(60,[c? 6 [.u 2 Af,.g 5 2],⟨0,3,[(5,Af)],[],[],[],[.t 11 i64,.u 2 Af,.g 5 2],[(.exit 0,[.u 2 Af,.g 5 2])]⟩])] (A8 Mz CA)
def jq:a? 21 [(.list DE),BC,Bk,Eb] [A4,i64] F7:=k0 [(21,[⟨0,13,[(14,Af)],[],[],[],[.t 62 i64,.p 3 [.d A4],.u 150 Af,.g 14 150],[(.ret,[.t 9 i64,.p 3 [.d A4],.x 150]),(.exit 1,[.p 3 [.d A4],.u 150 Af,.g 14 150])]⟩,f? 16 [71,g? 3 A4] [9,g? 3 A4] 3 [g? 3 A4]]),(65,[f? 4 [3,.u 149 Af,.g 0 149] [.t 2 (.list Af),.x 149] 0 [.u 149 Af,.g 0 149],e? 9 [5,3,.u 149 Af,.g 0 149,.w 4 149] 2 [3,.u 149 Af,.g 0 149]])] (A8 Hm (A8 KE (A8 XG (A8 ka (A8 hY (A8 ke (A8 kZ (A8 jr (A8 Y2 (A8 eD (A8 AF9 CA)))))))))))
def XE:a? 24 [(.list DE),BC,Bk,Eb,A4] [.bool] Ll:=k0 [] (A8 jq CA)
def nw:a? 23 [(.list DE),BC,Bk,i64] [(.list Eb),(.list i64),i64] Oz:=k0 [(23,[c? 12 [.u 2 Eb,.u 3 i64,.g 8 2,.g 9 3],⟨0,8,[(8,Eb),(9,i64)],[],[],[],[.t 27 i64,.u 2 Eb,.u 3 i64,.g 8 2,.g 9 3],[(.exit 1,[.u 2 Eb,.u 3 i64,.g 8 2,.g 9 3])]⟩])] (A8 Hm (A8 KE (A8 XF CA)))
def dK:a? 15 [] [.bool] I6:=k0 [] (A8 V2 (A8 Vy (A8 XF (A8 XG (A8 QP (A8 XE CA))))))
def dL:b? 16 0 BH [] [i64,BC,Bk,Bk,(.list DE)] L3:=k1 [(16,[c? 6 [g? 0 BH,g? 2 Bk],c? 8 [g? 0 BH,g? 1 BC]])] (A8 kT (A8 av (A8 dO (A8 CY (A8 je (A8 dN CA))))))
def gz:a? 67 [(.list DE),i64] [BV,.bool] NP:=k0 [(67,[f? 3 [7,g? 0 BV] [.t 5 .bool,g? 0 BV] 0 [g? 0 BV]])] (A8 S3 CA)
def jn:a? 122 [(.list i64),i64] [(.list i64)] Sm:=k0 [(122,[e? 2 [5] 0 [5]])] CA
def gu:a? 70 [BC,Bk,i64,i64,i64] [(.list i64),i64,i64,i64] H8:=k0 [(70,[c? 7 [11,12],c? 15 [.t 21 .bool],c? 17 [.t 10 (.list i64)],e? 9 [.t 10 (.list i64),17] 0 [.t 10 (.list i64)]])] (A8 XD (A8 RG (A8 jn CA)))
def Zz:a? 22 [(.list DE),BC,Bk,i64,i64] [A4,Eb,i64] Kf:=k0 [(22,[⟨0,9,[],[],[4],[],[.t 14 i64,.p 2 [.d A4],.p 3 [.d Eb]],[(.ret,[.t 12 i64,.p 2 [.d A4],.p 3 [.d Eb]]),(.exit 0,[.p 2 [.d A4],.p 3 [.d Eb]])]⟩]),(12,[e? 9 [12] 2 [12],⟨0,4,[(8,Da)],[],[],[],[.t 9 i64,.u 4 Da,.g 8 4],[(.exit 0,[.u 4 Da,.g 8 4])]⟩])] (A8 EV (A8 CG (A8 QP (A8 gz (A8 VF (A8 VG (A8 gu (A8 S3 (A8 VE (A8 AF7 CA))))))))))
def Sf:a? 5 [(.list (.int .u8)),(.int .u8)] [.bool] Hn:=k0 [(5,[f? 11 [15,16,17] [.t 4 .bool] 0 []]),(9,[c? 2 [.t 0 (.list (.int .u8))]])] (A8 dK (A8 dL (A8 IL (A8 nw (A8 Zz (A8 XE CA))))))
end Go.Proofs.YtdbincbpjobdpaaGreat
