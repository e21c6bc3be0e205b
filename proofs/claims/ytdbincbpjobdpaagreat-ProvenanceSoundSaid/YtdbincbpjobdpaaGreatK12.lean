/- Parts of the proof; nothing is assumed. -/
import Derived.Test.YtdbincbpjobdpaaGreatK11
import Derived.Test.YtdbincbpjobdpaaGreatProg
import Derived.KernelRfl
noncomputable section
set_option linter.all false
open Option renaming none->D
open Option renaming none->ε
namespace Go.Proofs.YtdbincbpjobdpaaGreat
open Go Go.Ab Go.Pm
set_option maxRecDepth 100000
def aN:a? 116 [i64] [.bool] Fy:=k0 [] CC
def OA:a? 63 [i64,i64] [i64] EJ:=k0 [] (A9 aN CC)
def kP:a? 171 [(.list i64)] [i64] Kx:=k0 [(171,[f? 3 [8] [2] 0 []])] CC
def X4:a? 170 [Bc,Bc] [i64] IN:=k0 [] (A9 OA (A9 kP CC))
def PX:A6 (.c2 338 Bc [i64,i64,i64] [] [.fn (.func 170) [] []] Cw):=Rt (hs:=iz [(338,[e? 1 [10,.u 0 Bc,.g 0 0] 0 [.u 0 Bc]])]) (n:=13) CC (λl x=>by kernel_rfl)
def Q3:A6 (.c2 320 Bc [i64,i64,i64] [] [.fn (.func 170) [] []] E5):=Rt (hs:=iz [(320,[e? 2 [10,11,.u 0 Bc,.g 0 0] 0 [10,.u 0 Bc,.g 0 0]])]) (n:=13) (A9 PX CC) (λl x=>by kernel_rfl)
def Na:A6 (.c2 290 Bc [i64,i64] [] [.fn (.func 170) [] []] DA):=Rt (hs:=iz [(290,[e? 1 [8,.u 0 Bc,.g 0 0] 0 [.u 0 Bc],e? 4 [9,.u 0 Bc,.g 0 0] 2 [.u 0 Bc,.g 0 0]])]) (n:=13) (A9 X4 CC) (λl x=>by kernel_rfl)
def P9:A6 (.c2 291 Bc [i64,i64,i64] [] [.fn (.func 170) [] []] Ee):=uR (P:=Tryz.prog) (F:=291) (te:=Bc) (ds:=[i64,i64,i64]) (rs:=[]) (post:=[.fn (.func 170) [] []]) (f:=λg p=>CO g p.1 p.2) (hs:=iz [(291,[e? 3 [10,11] 0 [10],e? 9 [13,.u 0 Bc,.g 0 0] 2 [.u 0 Bc],e? 15 [14,15] 4 [14],e? 21 [17,.u 0 Bc,.g 0 0] 6 [.u 0 Bc],e? 33 [20,21] 8 [20],c? 28 [20,21],c? 40 [.u 0 Bc,.g 0 0],c? 42 [.u 0 Bc,.g 0 0],c? 44 [.u 0 Bc]])]) (n:=13) (A9 X4 (A9 Q3 CC)) (λg l x=>by kernel_rfl)
def Q4:A6 (.c2 251 Bc [i64] [] [.fn (.func 170) [] []] E6):=Rt (hs:=iz [(251,[e? 2 [7,8,.u 0 Bc,.g 0 0] 0 [7,.u 0 Bc,.g 0 0],e? 7 [6,.u 0 Bc,.g 0 0] 2 [.u 0 Bc],e? 9 [7,8,.u 0 Bc,.g 0 0] 4 [7,.u 0 Bc,.g 0 0]])]) (n:=13) (A9 Na (A9 P9 CC)) (λl x=>by kernel_rfl)
def KA:A6 (.c2 169 Bc [] [] [.fn (.func 170) [] []] C7):=Rt (hs:=iz []) (n:=13) (A9 Q4 CC) (λl x=>by kernel_rfl)
def Sh:A6 (.cl 252 Ag):=AEe (t:=30) (b:=4) h! h! h!
def mw:a? 186 [(.int .u64)] [i64] Qr:=k0 [(186,[c? 2 [.t 0 (.int .u64),2],c? 5 [.t 0 (.int .u64),2],c? 8 [.t 0 (.int .u64),2]])] CC
def aP:a? 115 [(.int .u64)] [i64] Ti:=k0 [] (A9 mw CC)
def JY:a? 43 [BG] [.bool] Gk:=k0 [(43,[f? 5 [4] [.t 2 .bool] 0 [],f? 13 [5,89] [.t 2 .bool] 2 []])] CC
def jQ:a? 88 [Bl] [i64] Cm:=k0 [] CC
def qZ:a? 137 [i64,Ag] [.bool] OY:=k0 [] CC
def qX:a? 274 [i64] [.bool] IP:=k0 [] CC
def kO:a? 275 [LP] [.bool] Dg:=k0 [] CC
def dG:a? 211 [Ji] [.bool] OW:=k0 [] (A9 qX (A9 kO CC))
def uI:a? 210 [Ji] [.bool] M1:=k0 [] CC
def oo:a? 209 [Ag] [.bool] Gc:=k0 [] CC
def ot:a? 212 [Ag] [.bool] Tg:=k0 [] CC
def ou:a? 213 [Ji] [.bool] Th:=k0 [] CC
def Tc:a? 89 [Ag] [.bool] Gb:=k0 [(89,[c? 5 [.t 47 .bool],c? 8 [.t 67 .bool]])] (A9 qZ (A9 dG (A9 uI (A9 oo (A9 ot (A9 ou CC))))))
def Mx:a? 44 [Bl] [.bool] Ip:=k0 [(44,[f? 4 [37] [.t 2 .bool] 0 []])] (A9 jQ (A9 Tc CC))
def ov:a? 145 [BG,Bl,i64,i64] [i64] QD:=k0 [] (A9 JY (A9 Mx CC))
def Wi:a? 74 [Bl] [i64] OZ:=k0 [] (A9 Mx (A9 jQ CC))
def Wg:a? 229 [i64,i64] [.bool] OX:=k0 [] (A9 aN CC)
def kp:a? 248 [i64] [.bool] Fy:=k0 [] CC
def Vs:a? 166 [(.list i64),i64] [i64,.bool] J6:=k0 [(166,[c? 6 [7,8],e? 3 [7,8] 0 [7]])] (A9 Wg (A9 kp CC))
def aM:a? 167 [BG,i64] [i64,i64] Kg:=k0 [] CC
def Qk:a? 105 [BG,i64] [i64,i64,.bool] Ej:=k0 [(105,[c? 5 [7]])] (A9 JY (A9 Vs (A9 aM CC)))
def QL:a? 158 [.str,i64,i64] [i64,i64] B0:=k0 [(158,[e? 7 [.t 8 (.int .u64),35] 1 [.t 8 (.int .u64)]])] CC
def kQ:a? 220 [] [(.arr 15 (.int .u32))] LV:=k0 [(220,[c? 9 [.t 3 (.int .u32)],e? 7 [.t 3 (.int .u32),9] 2 [.t 3 (.int .u32)],e? 3 [4,g? 1 (.arr 15 (.int .u32))] 0 [g? 1 (.arr 15 (.int .u32))]])] CC
def am:a? 144 [.str] [(.int .u32)] O9:=k0 [(144,[e? 4 [.t 4 (.int .u32),9] 0 [.t 4 (.int .u32)]])] (A9 kQ CC)
def aO:a? 156 [.str,i64] [.str,i64,i64] Dq:=k0 [] (A9 QL (A9 am CC))
def Tx:a? 232 [.str,.str] [.bool] El:=k0 [] CC
def V5:a? 157 [.str,.str] [.bool] FL:=k0 [] (A9 Tx CC)
def UJ:b? 314 0 Q6 [i64] [i64] CD:=k1 [(314,[c? 6 [g? 0 Q6]])] (A9 QL CC)
def Vz:b? 316 0 Q6 [i64] [.str] FH:=k1 [(316,[c? 2 [g? 0 Q6]])] CC
def jZ:b? 315 0 Q6 [] [LP] FG:=k1 [] (A9 UJ (A9 Vz CC))
def qY:a? 288 [.str] [Ag,i64] Jy:=k0 [] (A9 UJ (A9 jZ (A9 Vz (A9 Tc CC))))
def o6:a? 317 [Bp] [.bool] Mt:=k0 [] CC
def Mw:a? 113 [Ag] [.bool] BE:=k0 [] CC
def tA:a? 318 [Bp,Ag] [.bool] QQ:=k0 [] (A9 Mw CC)
def qd:a? 319 [Ag,Ag] [i64] O4:=k0 [] (A9 OA (A9 kP CC))
def uM:a? 289 [Bp] [.bool] Vj:=k0 [(289,[f? 4 [18] [.t 2 .bool] 0 []])] (A9 o6 (A9 Tc (A9 tA (A9 qd CC))))
def sy:a? 249 [.str] [Bp,i64] LG:=k0 [(249,[⟨0,8,[],[(4,5,Ag)],[],[],[.t 5 i64,.t 32 i64,.u 5 Ag,.p 4 [.d i64,.d i64,.d i64,.d i64,.d i64,.o 5],.p 0 [.d Bp]],[(.ret,[.t 3 i64,.p 0 [.d Bp],.x 4,.x 5]),(.exit 0,[.t 5 i64,.u 5 Ag,.p 4 [.d i64,.d i64,.d i64,.d i64,.d i64,.o 5],.p 0 [.d Bp]])]⟩])] (A9 aO (A9 V5 (A9 QL (A9 qY (A9 uM CC)))))
def mr:a? 250 [BG,Bp] [i64] M0:=k0 [(250,[f? 2 [11] [4] 0 []])] (A9 aM CC)
def mq:a? 168 [BG,DY] [Bp,.bool] HB:=k0 [] (A9 sy (A9 mr CC))
def nw:a? 172 [Bp,i64] [Bp] OV:=k0 [(176,[f? 2 [8] [4] 0 []]),(110,[e? 5 [6,5,.u 3 Ag,.g 0 3] 0 [5,.u 3 Ag,.g 0 3]])] (A9 Sh CC)
def Ql:a? 106 [BG] [(.list Bp),(.list i64)] Ha:=k0 [(106,[⟨0,5,[(4,Bc)],[],[],[],[.t 19 i64,.u 1 Bc,.g 4 1],[(.exit 0,[.u 1 Bc,.g 4 1])]⟩,⟨0,14,[(2,Bp),(3,i64)],[],[],[],[.t 42 i64,.t 9 i64,.t 10 i64,.u 2 Bp,.g 2 2,.u 3 i64,.g 3 3],[(.exit 2,[.u 2 Bp,.g 2 2,.u 3 i64,.g 3 3])]⟩])] (A9 JY (A9 mq (A9 KA (A9 nw CC))))
def oy:a? 146 [BG,Bl,i64] [(.list OP)] QE:=k0 [(146,[hn 3 1 [] []]),(154,[e? 4 [27,.u 2 OP,.p 3 [.o 2],.y 6 .ready] 0 [.u 2 OP,.p 3 [.o 2],.y 6 .ready]])] (A9 Wi (A9 Qk (A9 Ql CC)))
def XC:a? 152 [OP,i64] [.bool] Ja:=k0 [] CC
def mu:b? 222 1 i64 [OP] [.bool] VV:=k1 [] (A9 XC CC)
def ox:a? 147 [(.list OP),i64] [i64] Ms:=k0 [(147,[hn 0 1 [g? 0 i64] [(.ret,[4,.x 0])]]),(221,[f? 2 [8,g? 0 i64] [4,g? 0 i64] 0 [g? 0 i64]])] (A9 mu CC)
def kR:a? 92 [BG,Bl,i64,i64,i64] [(.list Ag),i64] Hd:=k0 [(92,[e? 14 [57,17,.m 9 .i64 Ag] 0 [17,.m 9 .i64 Ag],hn 0 24 [85,.m 9 .i64 Ag,g? 11 i64,g? 5 (.list Ag),g? 6 i64] [(4,[.m 9 .i64 Ag,g? 11 i64,g? 5 (.list Ag),g? 6 i64]),(.ret,[.m 9 .i64 Ag,g? 11 i64,g? 5 (.list Ag),g? 6 i64])],hn 0 43 [137,g? 5 (.list Ag),g? 6 i64] [(8,[g? 5 (.list Ag),g? 6 i64]),(.ret,[g? 5 (.list Ag),g? 6 i64])]]),(154,[hn 0 4 [27,.m 9 .i64 Ag,g? 11 i64,g? 5 (.list Ag),g? 6 i64,.y 14 .ready] [(0,[.m 9 .i64 Ag,g? 11 i64,g? 5 (.list Ag),g? 6 i64,.y 14 .ready]),(.ret,[.m 9 .i64 Ag,g? 11 i64,g? 5 (.list Ag),g? 6 i64,.y 14 .ret])]]),(150,[]),(221,[f? 2 [8] [4] 0 []])] (A9 ov (A9 oy (A9 ox (A9 Mw (A9 Qk (A9 Ql (A9 XC (A9 Qy CC))))))))
def S6:A6 (.c2 223 i64 [i64,i64] [] [] MV):=Rt (hs:=iz [(223,[e? 1 [6,.u 0 i64,.g 0 0] 0 [.u 0 i64],e? 4 [7,.u 0 i64,.g 0 0] 2 [.u 0 i64,.g 0 0],hn 4 4 [] [(2,[]),(.normal,[])]])]) (n:=13) (A9 Wg CC) (λl x=>by kernel_rfl)
def Wl:A6 (.c0 224 [] [] (λ_=>D)):=λ_ _ h=>by cases h
def S5:A6 (.c0 225 [] [] (λ_=>D)):=λ_ _ h=>by cases h
def U0:A6 (.c0 226 [] [] (λ_=>D)):=λ_ _ h=>by cases h
def Tz:A6 (.c0 227 [] [] (λ_=>D)):=λ_ _ h=>by cases h
def PV:A6 (.c0 228 [] [] (λ_=>D)):=λ_ _ h=>by cases h
def Sk:A6 (.c0 230 [] [] (λ_=>D)):=λ_ _ h=>by cases h
def Vt:A6 (.c0 231 [] [] (λ_=>D)):=λ_ _ h=>by cases h
def XL:A6 (.c2 155 i64 [i64,i64,i64] [] [] Qw):=uR (P:=Tryz.prog) (F:=155) (te:=i64) (ds:=[i64,i64,i64]) (rs:=[]) (post:=[]) (f:=λg p=>PB g p.1 p.2) (hs:=iz [(155,[hn 0 2 [1,2,3,.t 8 .bool,.t 9 .bool,.u 0 i64,.g 0 0] [(.ret,[.u 0 i64])],c? 8 [3,.u 0 i64,.g 0 0],c? 12 [11,12,.u 0 i64,.g 0 0],hn 4 15 [.x 0] [(.normal,[.u 0 i64,.g 0 0]),(.ret,[.u 0 i64])],hn 4 17 [.x 0] [(1,[1,.u 0 i64,.g 0 0]),(.normal,[1,.u 0 i64,.g 0 0])],c? 25 [1,2,.t 8 .bool,.u 0 i64,.g 0 0]])]) (n:=13) (A9 S6 (A9 Wl (A9 S5 (A9 U0 (A9 Tz (A9 PV (A9 Sk (A9 Vt (A9 Wg CC))))))))) (λg l x=>by kernel_rfl)
def dx:A6 (.c2 94 i64 [] [] [] MS):=Rt (hs:=iz []) (n:=13) (A9 XL (A9 aP CC)) (λl x=>by kernel_rfl)
def X5:a? 98 [BX,BX] [i64] Qp:=k0 [] (A9 OA CC)
def ms:a? 102 [Db,Db] [i64] Qo:=k0 [] (A9 OA CC)
def P8:A6 (.c2 233 BX [i64,i64] [] [.fn (.func 98) [] []] Jh):=Rt (hs:=iz [(233,[e? 1 [8,.u 0 BX,.g 0 0] 0 [.u 0 BX],e? 4 [9,.u 0 BX,.g 0 0] 2 [.u 0 BX,.g 0 0],hn 4 4 [] [(2,[]),(.normal,[])]])]) (n:=13) (A9 X5 CC) (λl x=>by kernel_rfl)
def Sj:A6 (.c0 234 [] [] (λ_=>D)):=λ_ _ h=>by cases h
def P7:A6 (.c0 235 [] [] (λ_=>D)):=λ_ _ h=>by cases h
def Q1:A6 (.c0 236 [] [] (λ_=>D)):=λ_ _ h=>by cases h
def QX:A6 (.c0 237 [] [] (λ_=>D)):=λ_ _ h=>by cases h
def Mc:A6 (.c0 238 [] [] (λ_=>D)):=λ_ _ h=>by cases h
def PW:A6 (.c0 239 [] [] (λ_=>D)):=λ_ _ h=>by cases h
def Rs:A6 (.c0 240 [] [] (λ_=>D)):=λ_ _ h=>by cases h
def S7:A6 (.c2 160 BX [i64,i64,i64] [] [.fn (.func 98) [] []] MW):=uR (P:=Tryz.prog) (F:=160) (te:=BX) (ds:=[i64,i64,i64]) (rs:=[]) (post:=[.fn (.func 98) [] []]) (f:=λg p=>LH g p.1 p.2) (hs:=iz [(160,[hn 0 2 [1,2,3,.t 10 .bool,.t 11 .bool,.u 0 BX,.g 0 0] [(.ret,[.u 0 BX])],c? 8 [3,.u 0 BX,.g 0 0],c? 12 [13,14,.u 0 BX,.g 0 0],hn 4 15 [.x 0] [(.normal,[.u 0 BX,.g 0 0]),(.ret,[.u 0 BX])],hn 4 17 [.x 0] [(1,[1,.u 0 BX,.g 0 0]),(.normal,[1,.u 0 BX,.g 0 0])],c? 25 [1,2,.t 10 .bool,.u 0 BX,.g 0 0]])]) (n:=13) (A9 P8 (A9 Sj (A9 P7 (A9 Q1 (A9 QX (A9 Mc (A9 PW (A9 Rs (A9 X5 CC))))))))) (λg l x=>by kernel_rfl)
def Qz:A6 (.c2 97 BX [] [] [.fn (.func 98) [] []] Gx):=Rt (hs:=iz []) (n:=13) (A9 S7 (A9 aP CC)) (λl x=>by kernel_rfl)
def Q2:A6 (.c2 243 Db [i64,i64] [] [.fn (.func 102) [] []] E4):=Rt (hs:=iz [(243,[e? 1 [8,.u 0 Db,.g 0 0] 0 [.u 0 Db],e? 4 [9,.u 0 Db,.g 0 0] 2 [.u 0 Db,.g 0 0],hn 4 4 [] [(2,[]),(.normal,[])]])]) (n:=13) (A9 ms CC) (λl x=>by kernel_rfl)
def T0:A6 (.c0 244 [] [] (λ_=>D)):=λ_ _ h=>by cases h
def VJ:A6 (.c2 163 Db [i64] [] [.fn (.func 102) [] []] Jc):=Rt (hs:=iz [(163,[e? 2 [7,8,.u 0 Db,.g 0 0] 0 [7,.u 0 Db,.g 0 0],e? 7 [6,.u 0 Db,.g 0 0] 2 [.u 0 Db],e? 9 [7,8,.u 0 Db,.g 0 0] 4 [7,.u 0 Db,.g 0 0],c? 15 [.u 0 Db,.g 0 0]])]) (n:=13) (A9 Q2 (A9 T0 CC)) (λl x=>by kernel_rfl)
def P6:A6 (.c2 101 Db [] [] [.fn (.func 102) [] []] Ed):=Rt (hs:=iz []) (n:=13) (A9 VJ CC) (λl x=>by kernel_rfl)
def S3:a? 55 [i64,(.list i64)] [.bool] Fs:=k0 [(55,[f? 4 [5] [.t 4 .bool] 0 []])] CC
def QW:a? 17 [i64,(.list i64)] [BG,i64] G8:=k0 [] (A9 S3 CC)
def V0:a? 28 [] [Bl] G6:=k0 [] CC
def kU:a? 164 [i64] [.bool] IP:=k0 [] CC
def uJ:a? 245 [] [.str] YE:=k0 [] (A9 T1 CC)
def jR:a? 246 [.str,i64,i64] [i64] HQ:=k0 [] (A9 QL CC)
def vp:a? 247 [.str] [A4,.bool] XN:=k0 [(247,[hn 2 9 [.x 0,.x 1] [(.normal,[g? 1 A4,g? 0 A4]),(.ret,[.t 3 .bool,g? 0 A4,.x 1])],f? 3 [13,g? 1 A4,g? 0 A4] [.t 3 .bool,g? 0 A4,.x 1] 0 [g? 1 A4,g? 0 A4]])] (A9 jR CC)
def su:a? 139 [A4] [.bool] W7:=k0 [] (A9 kU CC)
def uK:a? 140 [A4] [.bool] VX:=k0 [(140,[f? 2 [7] [.t 2 .bool] 0 []])] CC
def ja:b? 142 0 Yn [LP] [] Km:=k1 [(142,[c? 3 [4]])] (A9 nM (A9 T1 CC))
def Xj:a? 91 [A4] [.str,i64] Nd:=k0 [(91,[e? 8 [29,g? 1 Yn] 1 [g? 1 Yn]])] (A9 su (A9 uK (A9 nM (A9 ja (A9 T1 (A9 am CC))))))
def sq:a? 165 [.str] [A4,i64] QP:=k0 [] (A9 uJ (A9 jR (A9 am (A9 vp (A9 Xj CC)))))
def gA:a? 53 [i64] [A4] C6:=k0 [] CC
def U5:a? 104 [.str,i64] [A4,i64] Gd:=k0 [] (A9 kU (A9 sq (A9 gA CC)))
def ny:a? 159 [.str] [Ev] Rw:=k0 [] (A9 QL (A9 U5 CC))
def Td:a? 103 [BX] [.bool] LF:=k0 [(103,[f? 4 [36] [.t 2 .bool] 0 []])] (A9 U5 CC)
def qb:a? 95 [.str] [BX,i64] IR:=k0 [(95,[⟨0,13,[],[(1,2,Ev)],[],[],[.t 5 i64,.t 50 i64,.u 2 Ev,.p 1 W!,.p 0 [.d BX]],[(.ret,[.t 3 i64,.p 0 [.d BX],.x 1,.x 2]),(.exit 0,[.t 5 i64,.u 2 Ev,.p 1 W!,.p 0 [.d BX]])]⟩])] (A9 aO (A9 V5 (A9 QL (A9 ny (A9 Td CC)))))
def sm:a? 96 [BX] [.bool] W6:=k0 [] (A9 Td CC)
def U4:a? 48 [(.list DY)] [(.list BX)] Kh:=k0 [(48,[⟨0,4,[(4,BX)],[],[],[],[.t 12 i64,.m 0 .i64 .bool,.u 1 BX,.g 4 1],[(.exit 0,[.m 0 .i64 .bool,.u 1 BX,.g 4 1])]⟩])] (A9 qb (A9 sm (A9 Qz CC)))
def oz:a? 242 [Ev,i64] [i64] QF:=k0 [] CC
def so:a? 162 [BX,i64] [i64,.bool] TB:=k0 [(241,[c? 6 [9,10],e? 3 [9,10] 0 [9]])] (A9 oz CC)
def kS:a? 100 [BX,i64] [Ev,.bool] Rv:=k0 [] (A9 Td (A9 so CC))
def om:a? 49 [(.list DY),i64,i64] [(.list Db)] Tf:=k0 [(49,[hn 3 2 [] []]),(161,[⟨0,1,[],[(2,0,Db)],[],[],[.t 3 i64,.u 5 Db,.p 2 [.o 5],.y 4 .ready],[(.exit 0,[.u 5 Db,.p 2 [.o 5],.y 4 .ready])]⟩])] (A9 U4 (A9 kS (A9 P6 CC)))
def kj:b? 51 1 Db [BX] [.bool] UA:=k1 [] CC
def kT:a? 52 [BX,i64] [A4,i64] Pa:=k0 [] (A9 Td (A9 kS (A9 U5 CC)))
def mz:a? 90 [BG,Bl] [i64] Qx:=k0 [] (A9 JY (A9 Mx CC))
def qW:a? 187 [A4,Ji] [A4,i64] VQ:=k0 [] (A9 dG CC)
def uL:a? 117 [A4,Ag] [A4,i64] Vi:=k0 [] (A9 Tc (A9 Mw (A9 Xj (A9 qW CC))))
def dy:a? 64 [A4,(.list Ag)] [A4,i64] Ie:=k0 [(64,[f? 2 [12,g? 0 A4,g? 1 A4] [5,g? 1 A4,.x 0] 0 [g? 0 A4,g? 1 A4]])] (A9 uL CC)
def qe:a? 46 [A4,BG,Bl,i64] [A4,i64] J7:=k0 [] (A9 mz (A9 Xj (A9 kR (A9 dy CC))))
def qa:a? 47 [BG,Bl,i64,i64,i64] [(.list i64),i64,i64,i64] IQ:=k0 [(47,[]),(154,[⟨0,4,[],[(4,0,i64)],[],[],[.t 27 i64,.u 9 i64,.p 4 [.o 9],.y 8 .ready],[(.exit 0,[.u 9 i64,.p 4 [.o 9],.y 8 .ready])]⟩])] (A9 kR (A9 Wi (A9 Qk (A9 Ql (A9 dx CC)))))
def nz:a? 14 [(.list DY),BG,Bl,i64,i64] [A4,Fh,i64] H9:=k0 [(14,[f? 10 [61,g? 4 A4,g? 5 Fh] [12,g? 4 A4,g? 5 Fh] 1 [g? 4 A4,g? 5 Fh]]),(50,[f? 2 [8,g? 6 Db] [4,g? 6 Db] 0 [g? 6 Db]])] (A9 JY (A9 Mx (A9 U4 (A9 om (A9 kj (A9 kT (A9 qe (A9 qa (A9 gA CC)))))))))
def QT:a? 29 [i64] [A4] C6:=k0 [] CC
def Wj:b? 19 0 BB [i64] [i64] He:=k1 [] CC
def B8:b? 19 0 BB [i64] [i64] Af:=k1 [] (A9 Wj CC)
def V1:a? 293 [i64] [Ef,i64] Kq:=k0 [] CC
def V2:a? 294 [i64] [EV,i64] OF:=k0 [] CC
def jm:a? 266 [i64,i64] [BA,i64] OI:=k0 [] (A9 V1 (A9 V2 (A9 V0 CC)))
def au:a? 295 [i64] [(.list .str)] Pc:=k0 [(295,[⟨0,3,[(3,.str)],[],[],[],[.t 4 i64,.u 0 .str,.g 3 0],[(.exit 0,[.u 0 .str,.g 3 0])]⟩])] CC
def je:a? 267 [i64] [Fg,i64] Ko:=k0 [] (A9 au CC)
def jn:a? 196 [i64,i64] [A8,i64] OJ:=k0 [] (A9 jm (A9 je CC))
def YB:b? 333 0 BB [] [.str] Iv:=k1 [(333,[c? 3 [3,g? 0 BB],e? 6 [5,.u 1 (.int .u8),.g 4 1,g? 0 BB] 0 [.u 1 (.int .u8),.g 4 1,g? 0 BB]])] (A9 B8 CC)
def Yy:b? 334 0 BB [] [i64] HS:=k1 [] (A9 B8 CC)
def XD:b? 305 0 BB [i64] [FE] IB:=k1 [(305,[c? 5 [.t 15 .bool],c? 4 [.t 15 .bool],c? 8 [g? 0 BB,g? 3 FE],c? 11 [g? 0 BB,g? 3 FE],c? 6 [g? 0 BB,g? 3 FE],c? 13 [g? 0 BB,g? 3 FE]])] (A9 B8 (A9 YB (A9 Yy CC)))
def YC:b? 269 0 BB [i64,i64,.bool] [Tn] Iw:=k1 [(269,[c? 3 [.t 11 .bool],d? 12 [g? 0 BB,g? 1 Tn] [g? 0 BB,g? 1 Tn]])] (A9 B8 (A9 XD CC))
def Vr:b? 198 0 BB [i64,i64,.bool] [(.list Tn)] HC:=k1 [(198,[e? 3 [10,.u 1 Tn,.g 9 1,g? 0 BB] 0 [.u 1 Tn,.g 9 1,g? 0 BB]])] (A9 B8 (A9 YC CC))
def Gi:a? 37 [Bl] [i64] Cm:=k0 [] CC
def Qm:a? 265 [LP] [.bool] Dg:=k0 [] CC
def UO:a? 195 [Ji] [.bool] JA:=k0 [] (A9 Qm CC)
def dQ:a? 123 [Ag] [Ag,.bool] L6:=k0 [(123,[c? 4 [.t 13 .bool],c? 8 [.t 5 .bool,g? 2 Ag],c? 13 [.t 67 .bool],c? 12 [.t 67 .bool],c? 17 [.t 91 .bool]])] (A9 UO CC)
def av:a? 124 [i64,i64] [.bool] Gp:=k0 [] CC
def Dz:a? 71 [Ag] [.bool] Cu:=k0 [] (A9 dQ (A9 av CC))
def CL:a? 36 [Bl] [.bool] B7:=k0 [(36,[f? 4 [3] [.t 2 .bool] 0 []])] (A9 Gi (A9 Dz CC))
def R6:a? 259 [A4] [.bool] Hs:=k0 [] CC
def UL:a? 260 [A4] [.bool] I8:=k0 [(260,[f? 2 [3] [.t 2 .bool] 0 []])] (A9 Qm CC)
def dM:a? 376 [A4] [.bool] L3:=k0 [] (A9 R6 (A9 UL CC))
def EY:a? 345 [Ef] [.bool] Dl:=k0 [(345,[f? 11 [6] [.t 2 .bool] 2 [],f? 5 [4] [.t 2 .bool] 0 []])] (A9 dM CC)
def UP:a? 432 [Bu] [.bool] HK:=k0 [] CC
def U7:a? 433 [Bu,Bu] [.bool] Fc:=k0 [] CC
def LR:a? 419 [Bu,Bu] [.bool] ED:=k0 [] CC
def PS:a? 434 [DX,i64,JU] [i64] EE:=k0 [(434,[f? 2 [7] [6] 0 []])] CC
def FQ:a? 395 [DX] [.bool] D2:=k0 [(395,[f? 9 [4] [.t 2 .bool] 2 [],f? 4 [3] [.t 2 .bool] 0 [],f? 20 [7] [.t 2 .bool] 6 [],f? 14 [5] [.t 2 .bool] 4 []])] (A9 UP (A9 U7 (A9 LR (A9 PS CC))))
def dZ:a? 408 [CA] [.bool] ME:=k0 [(408,[f? 6 [3] [.t 2 .bool] 0 [],f? 11 [4] [.t 2 .bool] 2 []])] CC
def FT:a? 368 [(.list CA)] [.bool] D4:=k0 [(368,[f? 4 [3] [.t 2 .bool] 0 []])] (A9 dZ CC)
def jj:a? 435 [i64] [.bool] G7:=k0 [] CC
def GN:a? 396 [EV] [.bool] D3:=k0 [(396,[f? 4 [3] [.t 2 .bool] 0 []])] (A9 jj CC)
def P5:a? 397 [(.list CK),i64] [.bool] FX:=k0 [(397,[f? 2 [5] [.t 4 .bool] 0 []])] CC
def de:a? 355 [BA] [.bool] MI:=k0 [] (A9 CL (A9 EY (A9 FQ (A9 FT (A9 GN (A9 P5 CC))))))
def KH:a? 356 [BA,i64] [CK,.bool] E8:=k0 [(356,[f? 2 [6,g? 1 CK] [.t 5 .bool,g? 1 CK] 0 [g? 1 CK]])] CC
def CV:a? 329 [BA] [.bool] Br:=k0 [(329,[f? 4 [3] [.t 2 .bool] 0 [],f? 9 [4] [.t 2 .bool] 2 [],f? 18 [8] [.t 2 .bool] 4 [],f? 23 [9] [.t 2 .bool] 6 []])] (A9 de (A9 KH CC))
def Kv:a? 369 [(.list CA),i64] [i64] Er:=k0 [(369,[f? 2 [5] [4] 0 []])] CC
def UQ:a? 339 [(.list CA),i64] [(.list CA),i64] JE:=k0 [(339,[⟨0,11,[(6,CA)],[],[],[],[.t 7 i64,.u 0 CA,.g 6 0],[(.exit 1,[.u 0 CA,.g 6 0])]⟩])] (A9 FT (A9 Kv CC))
def da:a? 321 [BA] [BA,i64,i64] MF:=k0 [] (A9 CV (A9 UQ CC))
def dp:a? 296 [A8] [A8,i64,i64] ML:=k0 [] (A9 da CC)
def C0:a? 304 [i64] [DF] BN:=k0 [] CC
def bP:a? 301 [i64] [DF] EA:=k0 [] (A9 C0 CC)
def Gj:a? 346 [Ef,i64] [i64] Fe:=k0 [(346,[f? 2 [5] [4] 0 []])] CC
def Fj:a? 324 [Ef,i64] [i64] EF:=k0 [] (A9 EY (A9 Gj CC))
def I5:a? 343 [Ef,i64] [A4,.bool] F7:=k0 [] (A9 Fj CC)
def IK:a? 11 [Bl] [i64] En:=k0 [] (A9 CL (A9 Gi CC))
def KF:a? 76 [Bl,i64] [Bl,i64] ER:=k0 [] (A9 CL (A9 Gi CC))
def KG:a? 344 [BA,i64] [BA] GD:=k0 [(344,[c? 3 [g? 0 BA]])] (A9 IK (A9 KF CC))
def db:a? 323 [BA,i64] [BA,A4,i64] MG:=k0 [] (A9 CV (A9 I5 (A9 KG CC)))
def Hp:a? 189 [A4] [i64] D1:=k0 [] (A9 R6 (A9 UL CC))
def Di:a? 125 [.str,i64,i64] [.str] Ao:=k0 [(125,[e? 4 [.t 0 .str,7] 0 [.t 0 .str]])] CC
def UM:a? 127 [i64] [.str] HH:=k0 [] CC
def Lr:a? 190 [.str] [(.int .u32)] FJ:=k0 [(190,[c? 10 [.t 3 (.int .u32)],e? 7 [.t 3 (.int .u32),5] 2 [.t 3 (.int .u32)],e? 3 [.t 3 (.int .u32),4] 0 [.t 3 (.int .u32)]])] CC
def HP:a? 119 [A4] [.str,i64] DQ:=k0 [(119,[c? 11 [7],e? 7 [.t 5 .str,6] 0 [.t 5 .str]])] (A9 Hp (A9 Di (A9 UM (A9 Lr CC))))
def dP:a? 452 [Fg,Dm] [.bool] L5:=k0 [(452,[c? 7 [.t 59 .bool],d? 13 [.t 4 .bool,.x 2] [g? 2 Dm],hn 2 11 [.x 2] [(.normal,[g? 2 Dm]),(.ret,[.t 4 .bool,.x 2])],hn 2 9 [.x 2] [(.normal,[g? 2 Dm]),(.ret,[.t 4 .bool,.x 2])],hn 2 8 [.x 2] [(.normal,[g? 2 Dm]),(.ret,[.t 4 .bool,.x 2])]])] CC
def dN:a? 421 [Fg] [.bool] L4:=k0 [(421,[f? 5 [4] [.t 2 .bool] 0 [],f? 10 [5] [.t 2 .bool] 2 [],f? 15 [6] [.t 2 .bool] 4 []])] (A9 dP CC)
def NY:a? 377 [Fg,i64] [i64] Gn:=k0 [] (A9 dN CC)
def R7:a? 422 [(.list i64),i64] [(.list i64)] FU:=k0 [(422,[c? 6 [.u 0 i64,.g 5 0],⟨0,3,[(5,i64)],[],[],[],[.t 6 i64,.u 0 i64,.g 5 0],[(.exit 0,[.u 0 i64,.g 5 0])]⟩])] CC
def gE:a? 380 [(.list i64),i64] [(.list i64)] Fb:=k0 [(380,[c? 7 [.t 6 .bool,.u 0 i64,.g 5 0],c? 10 [.u 0 i64,.g 5 0],⟨0,4,[(5,i64)],[],[],[],[.t 6 .bool,.t 7 i64,.u 0 i64,.g 5 0],[(.exit 0,[.t 6 .bool,.u 0 i64,.g 5 0])]⟩,c? 12 [.u 0 i64,.g 5 0]])] CC
def dO:a? 347 [Fg,i64,.str] [Fg,i64] QZ:=k0 [(347,[c? 16 [.u 8 Dm,.u 9 Dm,.g 10 8,.p 7 [.o 4,.d i64,.o 5,.d .bool,.o 9]],⟨0,13,[(10,Dm)],[(7,4,Dm)],[],[],[.t 11 i64,.u 8 Dm,.u 4 .str,.u 5 i64,.u 9 Dm,.g 10 8,.p 7 [.o 4,.d i64,.o 5,.d .bool,.o 9],.p 2 Q?,.p 3 Q?],[(.exit 0,[.u 8 Dm,.u 4 .str,.u 5 i64,.u 9 Dm,.g 10 8,.p 7 [.o 4,.d i64,.o 5,.d .bool,.o 9],.p 2 Q?,.p 3 Q?])]⟩,c? 29 [.t 12 .bool,.u 4 .str,.p 7 i?,.p 2 e!,.p 3 e!],c? 26 [.t 12 .bool,.u 4 .str,.p 2 e!,.p 3 e!,.p 7 i?],c? 24 [.t 12 .bool,.u 4 .str,.p 2 e!,.p 3 e!,.p 7 i?],⟨0,20,[],[],[5],[],[.t 12 .bool,.t 13 i64,.u 4 .str,.u 6 Dm,.u 4 .str,.u 6 Dm,.u 4 .str,.u 9 Dm,.p 2 e!,.p 3 e!,.p 7 i?],[(.exit 2,[.t 12 .bool,.u 4 .str,.u 6 Dm,.u 9 Dm,.p 2 e!,.p 3 e!,.p 7 i?])]⟩,c? 32 [.u 4 .str,.p 7 i?,.p 2 e!,.p 3 e!],c? 45 [.p 7 i?],c? 43 [.p 7 i?],c? 39 [.u 4 .str,.p 7 i?,.p 2 e!,.p 3 e!],e? 34 [14,.u 4 .str,.u 6 Dm,.u 4 .str,.u 6 Dm,.u 4 .str,.u 9 Dm,.p 2 e!,.p 3 e!,.p 7 i?] 5 [.u 4 .str,.u 6 Dm,.u 9 Dm,.p 2 e!,.p 3 e!,.p 7 i?]])] (A9 NY (A9 R7 (A9 gE CC)))
def Ls:a? 423 [Ef,i64,UE] [Ef] Ik:=k0 [] CC
def dW:a? 381 [Ef,i64,i64] [Ef,i64] Qa:=k0 [(381,[c? 14 [g? 2 UE],c? 12 [g? 2 UE]])] (A9 EY (A9 Gj (A9 Ls CC)))
def Dt:a? 386 [(.list CA),i64] [i64] Ce:=k0 [] (A9 Kv CC)
def D6:a? 200 [Ag] [.bool] BE:=k0 [] CC
def PU:a? 359 [BA,i64] [i64] Es:=k0 [] (A9 CV (A9 I5 (A9 KH CC)))
def aw:a? 25 [Bl,Ag] [Bl,i64,i64] Kz:=k0 [] (A9 CL (A9 Gi (A9 Dz CC)))
def HG:a? 387 [Bl,i64] [Ag,i64] FK:=k0 [] (A9 CL (A9 Gi CC))
def NZ:a? 425 [(.list CA),i64] [(.list CA)] Gr:=k0 [(425,[c? 6 [.u 0 CA,.g 5 0],⟨0,3,[(5,CA)],[],[],[],[.t 6 i64,.u 0 CA,.g 5 0],[(.exit 0,[.u 0 CA,.g 5 0])]⟩])] CC
def Sz:a? 427 [CA] [CA] Ia:=k0 [(427,[c? 2 [g? 0 CA]])] CC
def QV:a? 426 [(.list CA),i64,CA] [(.list CA)] Il:=k0 [] CC
def VC:a? 388 [(.list CA),Ag] [(.list CA),i64] GY:=k0 [(388,[c? 24 [.u 2 i64,.g 8 2],⟨0,21,[(8,i64)],[],[],[],[.t 9 i64,.u 2 i64,.g 8 2],[(.exit 2,[.u 2 i64,.g 8 2])]⟩,d? 19 [.t 4 (.list CA),5,.x 1] [g? 1 CA],hn 2 17 [.x 1] [(.normal,[g? 1 CA]),(.ret,[.t 4 (.list CA),5,.x 1])]])] (A9 FT (A9 Dz (A9 Kv (A9 NZ (A9 Sz (A9 QV CC))))))
def jk:a? 428 [EV,i64,Db] [EV] OG:=k0 [] CC
def U9:a? 389 [EV,Ag] [EV,i64] Hu:=k0 [] (A9 GN (A9 Dz (A9 jk CC)))
def GA:a? 351 [BA,Ag] [BA,i64,i64] Ec:=k0 [(351,[d? 5 [5,6,g? 2 BA,.x 1] [g? 1 Ag,g? 2 BA],c? 10 [g? 1 Ag]])] (A9 CV (A9 Dt (A9 D6 (A9 PU (A9 aw (A9 HG (A9 VC (A9 U9 CC))))))))
def Zr:a? 348 [BA,i64,i64] [BA,i64] KU:=k0 [(348,[d? 7 [7,g? 1 BA,.x 2] [g? 2 Ef,g? 1 BA]])] (A9 CV (A9 IK (A9 Fj (A9 dW (A9 GA CC)))))
def UT:a? 325 [A8,BA,A4] [A8,i64] MO:=k0 [] (A9 HP (A9 dO (A9 Zr CC)))
def dt:a? 299 [A8,i64] [A8,i64] MN:=k0 [] (A9 db (A9 Fj (A9 UT CC)))
def dX:a? 382 [Ef] [(.list CK)] MA:=k0 [(382,[c? 9 [.u 1 CK,.g 3 1],⟨0,5,[(3,CK)],[],[],[],[.t 4 i64,.u 1 CK,.g 3 1],[(.exit 0,[.u 1 CK,.g 3 1])]⟩])] (A9 EY (A9 Gj CC))
def kY:a? 349 [BA] [Ho,i64] Pp:=k0 [(349,[c? 9 [.u 3 CK,.p 2 l?],c? 14 [.u 3 CK,.p 2 l?],e? 11 [46,.u 3 CK,.p 2 l?] 2 [.u 3 CK,.p 2 l?],⟨0,5,[],[(2,3,CK)],[],[],[.t 5 i64,.u 3 CK,.p 2 l?],[(.exit 0,[.u 3 CK,.p 2 l?])]⟩])] (A9 CV (A9 KH (A9 dX CC)))
def UR:a? 383 [Ho] [.bool] HM:=k0 [(383,[f? 4 [3] [.t 2 .bool] 0 []])] (A9 FT (A9 P5 (A9 GN CC)))
def Zq:a? 424 [.str,(.list i64)] [.str] Hw:=k0 [(424,[e? 2 [.t 0 .str,5] 0 [.t 0 .str]])] (A9 Di CC)
def bF:a? 384 [(.list CA)] [.str,i64] K3:=k0 [(384,[e? 5 [.t 4 .str,5] 0 [.t 4 .str]])] (A9 FT (A9 Di (A9 Zq CC)))
def bD:a? 385 [EV] [.str,i64] IX:=k0 [(385,[e? 5 [.t 4 .str,5] 0 [.t 4 .str]])] (A9 GN (A9 Di CC))
def bM:a? 350 [Ho] [.str,i64] Gs:=k0 [(350,[e? 9 [.t 6 .str,7] 0 [.t 6 .str]])] (A9 UR (A9 bF (A9 Di (A9 bD CC))))
def gR:a? 326 [BA] [BA,i64,i64] RU:=k0 [] (A9 kY (A9 bM (A9 GA (A9 KF CC))))
def Xk:a? 300 [A8] [A8,i64,i64] Lf:=k0 [] (A9 gR CC)
def gD:a? 352 [Fg,i64,.str,i64] [Fg,i64] RP:=k0 [] (A9 NY (A9 R7 CC))
def KE:a? 126 [.str] [.str] Dj:=k0 [] (A9 Di (A9 Lr CC))
def gH:a? 390 [i64] [.str] M4:=k0 [] (A9 Di (A9 KE CC))
def gF:a? 271 [.str,LP] [.str] GV:=k0 [] (A9 Di CC)
def Sx:a? 204 [Ag] [.str,i64] Fk:=k0 [] (A9 Dz (A9 Di (A9 gF CC)))
def dS:a? 391 [Ag] [.str] JB:=k0 [] (A9 Sx (A9 KE CC))
def dR:a? 353 [Bl,i64] [.str] HI:=k0 [(353,[c? 8 [.t 5 .str,.t 6 .str],e? 5 [.t 5 .str,.t 6 .str,7] 0 [.t 5 .str,.t 6 .str]])] (A9 CL (A9 gH (A9 dS CC)))
def dr:a? 327 [A8,i64,i64,i64] [Fg,.str] MM:=k0 [(327,[c? 8 [g? 3 Fg],c? 4 [g? 2 BA,g? 3 Fg]])] (A9 Fj (A9 HP (A9 KG (A9 gD (A9 dR CC)))))
def EP:a? 206 [.str,i64,i64] [i64,i64] A2:=k0 [(206,[e? 7 [.t 8 (.int .u64),9] 0 [.t 8 (.int .u64)]])] CC
def Ma:a? 133 [.str,i64] [.str,i64,i64] Bk:=k0 [] (A9 EP (A9 Lr CC))
def N7:b? 335 0 PG [i64] [i64] BW:=k1 [] (A9 EP CC)
def OS:b? 337 0 PG [i64] [.str] C3:=k1 [] CC
def XG:b? 336 0 PG [] [LP] Cr:=k1 [] (A9 N7 (A9 OS CC))
def Sw:a? 307 [.str] [Ag,i64] D9:=k0 [] (A9 N7 (A9 XG (A9 OS (A9 Dz CC))))
def gG:a? 392 [.str] [Bl,i64] J0:=k0 [(392,[⟨0,8,[],[(1,1,Ag)],[],[],[.t 5 i64,.u 2 Ag,.p 1 [.d i64,.o 2,.d i64],.p 0 [.d Bl]],[(.ret,[.t 3 i64,.p 0 [.d Bl],.x 1,.x 2]),(.exit 0,[.u 2 Ag,.p 1 [.d i64,.o 2,.d i64],.p 0 [.d Bl]])]⟩])] (A9 Ma (A9 EP (A9 Sw CC)))
def N8:b? 462 0 Gg [i64] [i64] Cg:=k1 [] (A9 EP CC)
def XH:b? 463 0 Gg [i64] [(.list i64)] GJ:=k1 [(463,[⟨0,3,[(5,i64)],[],[],[],[.t 6 i64,.u 1 i64,.g 5 1,.p 0 [.d Gg]],[(.exit 0,[.u 1 i64,.g 5 1,.p 0 [.d Gg]])]⟩])] (A9 N8 CC)
def bE:a? 460 [.str] [(.list CA),i64] K2:=k0 [(460,[⟨0,4,[(5,CA)],[],[],[],[.t 6 i64,.u 1 CA,.g 5 1,.p 0 [.d Gg]],[(.exit 0,[.u 1 CA,.g 5 1,.p 0 [.d Gg]])]⟩])] (A9 N8 (A9 XH (A9 FT CC)))
def bC:a? 461 [.str] [EV,i64] Ep:=k0 [(461,[⟨0,8,[],[(1,0,Db)],[],[],[.t 7 i64,.u 2 Db,.p 1 [.o 2]],[(.exit 1,[.u 2 Db,.p 1 [.o 2]])]⟩])] (A9 EP (A9 GN CC))
def bL:a? 457 [.str] [Ho,i64] DR:=k0 [(457,[⟨0,15,[],[(1,3,CK)],[],[],[.t 9 i64,.t 11 i64,.u 2 CK,.p 1 [.d i64,.d i64,.d (.list CA),.o 2,.d EV]],[(.exit 0,[.t 9 i64,.u 2 CK,.p 1 [.d i64,.d i64,.d (.list CA),.o 2,.d EV]])]⟩])] (A9 EP (A9 bE (A9 bC (A9 UR CC))))
def bO:a? 453 [Bl] [Ho,i64,.bool] Po:=k0 [(453,[f? 4 [5,g? 1 Ho] [3,.t 4 .bool,g? 1 Ho] 0 [g? 1 Ho]])] (A9 CL (A9 bL CC))
def dj:a? 429 [Bl,i64] [FO,i64] Qb:=k0 [] (A9 bO (A9 V2 CC))
def dh:a? 454 [(.list CK),Ag] [(.list CK)] HN:=k0 [(454,[c? 10 [.t 6 .bool,.u 1 CK,.g 5 1],c? 18 [g? 2 CK],hn 2 15 [.x 2] [(.normal,[g? 2 CK]),(1,[g? 2 CK])],hn 2 13 [.x 2] [(.normal,[.t 6 .bool,g? 2 CK]),(1,[.t 6 .bool,g? 2 CK])],⟨0,6,[(5,CK)],[],[],[],[.t 6 .bool,.t 7 i64,.u 1 CK,.g 5 1],[(.exit 0,[.t 6 .bool,.u 1 CK,.g 5 1])]⟩,c? 21 [.u 1 CK,.g 5 1]])] (A9 D6 CC)
def gT:a? 430 [FO,Ag] [FO,i64] ND:=k0 [(430,[d? 2 [5,g? 2 FO,.x 0] [g? 0 FO,g? 2 FO]])] (A9 Dt (A9 UQ (A9 VC (A9 U9 (A9 D6 (A9 dh CC))))))
def gS:a? 458 [Bu,Bu] [.bool] Fc:=k0 [] CC
def gU:a? 455 [(.list Bu),Bu] [(.list Bu)] RY:=k0 [(455,[e? 2 [5] 0 [5]])] (A9 gS CC)
def di:a? 431 [Bl,(.list CA)] [(.list Bu),i64] MJ:=k0 [(431,[f? 6 [.t 6 (.list Bu),8] [.t 4 (.list Bu),5] 2 [.t 6 (.list Bu)],f? 3 [.t 6 (.list Bu),7] [.t 4 (.list Bu),5] 0 [.t 6 (.list Bu)]])] (A9 HG (A9 gU CC))
def Zu:a? 393 [Bl,i64] [FO,i64] KX:=k0 [(393,[f? 9 [8,g? 2 FO,g? 1 FO] [5,g? 1 FO,.x 2] 0 [g? 2 FO,g? 1 FO],c? 20 [.u 3 CA,.g 9 3],⟨0,17,[(9,CA)],[],[],[],[.t 10 i64,.u 3 CA,.g 9 3],[(.exit 2,[.u 3 CA,.g 9 3])]⟩])] (A9 CL (A9 dj (A9 gT (A9 di CC))))
def dn:a? 394 [Bl,FO,i64] [BA,i64] MK:=k0 [(394,[f? 8 [11,g? 4 BA,g? 2 BA] [7,g? 2 BA,.x 4] 0 [g? 4 BA,g? 2 BA]])] (A9 V1 (A9 CV (A9 GA CC)))
def gZ:a? 354 [Fg,.str,i64,i64] [A8,i64] Rb:=k0 [] (A9 gG (A9 Zu (A9 dn CC)))
def ga:a? 328 [Fg,.str,i64,i64] [A8,i64] Rc:=k0 [] (A9 gZ CC)
def bB:a? 436 [Ef] [Ef,i64,i64] Pk:=k0 [(436,[e? 5 [g? 0 Ef] 0 [g? 0 Ef]])] (A9 EY (A9 Ls CC))
def gL:a? 437 [Ef,i64] [Ef,i64] M8:=k0 [(437,[c? 10 [.p 0 [.d i64,.o 2,.d i64]],c? 12 [.p 0 [.d i64,.o 2,.d i64]]])] (A9 EY (A9 Gj CC))
def gO:a? 398 [BA] [BA,A4,.bool,i64] NB:=k0 [] (A9 CV (A9 bB (A9 Fj (A9 gL (A9 KG CC)))))
def gY:a? 357 [A8] [A8,i64] NG:=k0 [(357,[hn 0 1 [g? 0 A8,g? 1 A8] [(.ret,[3,g? 1 A8,.x 0])]])] (A9 gO (A9 UT CC))
def jf:a? 399 [(.list i64),i64] [.bool] OD:=k0 [(399,[f? 2 [5] [.t 4 .bool] 0 []])] CC
def gC:a? 358 [Fg,i64] [.str,i64] M3:=k0 [] (A9 NY (A9 jf CC))
def UK:a? 73 [] [.str] I7:=k0 [] (A9 UM CC)
def aq:a? 188 [.str] [A4,i64] Em:=k0 [(188,[f? 14 [7,g? 1 A4,g? 0 A4] [3,g? 0 A4,.x 1] 1 [g? 1 A4,g? 0 A4]])] (A9 UK (A9 EP (A9 Lr (A9 HP CC))))
def IJ:a? 118 [.str,i64] [A4,i64] Co:=k0 [] (A9 aq (A9 QT CC))
def dY:a? 360 [EV,i64,i64,.str] [A4,i64] MC:=k0 [] (A9 GN (A9 IJ CC))
def dT:a? 459 [Ag,(.list Ag)] [(.list Ag)] L7:=k0 [] CC
def gI:a? 456 [Bl,i64,i64,i64] [(.list Ag),i64] RQ:=k0 [(456,[f? 7 [.t 10 (.list Ag),11] [.t 8 (.list Ag),9] 0 [.t 10 (.list Ag),11]])] (A9 CL (A9 HG (A9 D6 (A9 dT CC))))
def dm:a? 438 [Bl,A4,i64] [(.list Ag),i64] WI:=k0 [] (A9 CL (A9 Hp (A9 gI CC)))
def UN:a? 264 [A4,Ji] [A4,i64] I9:=k0 [] (A9 UO CC)
def US:a? 194 [A4,Ag] [A4,i64] JG:=k0 [] (A9 Dz (A9 D6 (A9 Hp (A9 UN CC))))
def gW:a? 400 [Bl,A4,i64] [A4,i64,i64] Ra:=k0 [(400,[f? 5 [11,g? 1 A4,g? 2 A4] [7,8,g? 2 A4,.x 1] 0 [g? 1 A4,g? 2 A4]])] (A9 dm (A9 US CC))
def gV:a? 361 [Bl,A4,i64] [A4,i64] RZ:=k0 [] (A9 gW CC)
def bI:a? 362 [BA,A4] [BA,i64] K6:=k0 [(362,[c? 21 [.u 9 CK,.g 10 9],⟨0,18,[(10,CK)],[],[],[],[.t 11 i64,.u 9 CK,.g 10 9],[(.exit 1,[.u 9 CK,.g 10 9])]⟩,c? 14 [.u 6 UE,g? 0 BA,.p 3 [.d i64,.o 6,.d i64],.p 5 [.d i64,.o 6,.d i64],.p 7 [.d i64,.o 6,.d i64]]])] (A9 CV (A9 PU (A9 EY (A9 Hp (A9 KH (A9 Gj CC))))))
def KJ:a? 330 [A8,i64] [A8,i64] E9:=k0 [] (A9 CV (A9 Fj (A9 gY (A9 gC (A9 PU (A9 dY (A9 gV (A9 bI CC))))))))
def S1:a? 363 [BA,i64] [CA,.bool] Ib:=k0 [(363,[d? 2 [.t 5 .bool,g? 1 CA] [g? 1 CA]])] (A9 CV (A9 Dt CC))
def gX:a? 331 [BA] [(.list i64)] NF:=k0 [(331,[c? 7 [.u 1 i64,.g 3 1],⟨0,3,[(3,i64)],[],[],[],[.t 4 i64,.u 1 i64,.g 3 1],[(.exit 0,[.u 1 i64,.g 3 1])]⟩])] (A9 S1 CC)
def Iu:a? 364 [BA,i64] [CA,i64] FY:=k0 [] (A9 CV (A9 Dt CC))
def PR:a? 403 [(.list Bu),i64,.bool,JU] [(.list Bu)] GX:=k0 [(403,[c? 6 [.u 1 Bu,.g 9 1],⟨0,3,[(9,Bu)],[],[],[],[.t 10 i64,.u 1 Bu,.g 9 1],[(.exit 0,[.u 1 Bu,.g 9 1])]⟩])] CC
def gJ:a? 439 [DX,i64] [.bool] M6:=k0 [(439,[f? 2 [5] [.t 4 .bool] 0 [],f? 7 [6] [.t 4 .bool] 2 []])] (A9 LR CC)
def gK:a? 440 [(.list Bu),Bu] [(.list Bu)] M7:=k0 [(440,[c? 7 [.t 6 .bool,.u 1 Bu,.g 5 1],c? 10 [.u 1 Bu,.g 5 1],⟨0,4,[(5,Bu)],[],[],[],[.t 6 .bool,.t 7 i64,.u 1 Bu,.g 5 1],[(.exit 0,[.t 6 .bool,.u 1 Bu,.g 5 1])]⟩,c? 12 [.u 1 Bu,.g 5 1]])] (A9 U7 CC)
def Jj:a? 402 [DX] [DX] Fm:=k0 [(402,[c? 5 [3,g? 0 DX],e? 2 [3,g? 0 DX] 0 [g? 0 DX]])] (A9 gJ (A9 gK CC))
def Mb:a? 365 [DX,i64] [DX] Ht:=k0 [] (A9 FQ (A9 PR (A9 Jj CC)))
def gQ:a? 366 [BA,i64] [Ag,.bool] Hy:=k0 [] (A9 Iu (A9 HG CC))
def Zn:a? 404 [Ji] [Ji] KK:=k0 [] CC
def bA:a? 441 [Ef,A4] [Ef,i64] K1:=k0 [(441,[c? 13 [g? 3 UE]])] (A9 EY (A9 Hp (A9 Gj (A9 Ls CC))))
def V3:a? 405 [BA,Ag] [BA,i64] Kr:=k0 [] (A9 GA (A9 I5 (A9 bA CC)))
def kX:a? 442 [BA,CA,JU,i64] [Ag,.bool] Pn:=k0 [(442,[f? 2 [10,g? 3 Ag] [.t 9 .bool,g? 3 Ag] 0 [g? 3 Ag]])] (A9 HG CC)
def S0:a? 406 [BA,i64,JU] [Ag,.bool] K9:=k0 [] (A9 Iu (A9 kX CC))
def U6:a? 407 [DX,i64,JU] [DX] M5:=k0 [] (A9 FQ (A9 PR (A9 Jj CC)))
def VF:a? 367 [BA,CA,Ag] [BA,DF] GZ:=k0 [(367,[c? 15 [g? 8 BA],c? 12 [g? 8 BA]])] (A9 I5 (A9 Zn (A9 UN (A9 C0 (A9 V3 (A9 S0 (A9 U6 CC)))))))
def VE:a? 332 [BA,i64] [BA,DF] J2:=k0 [] (A9 Iu (A9 C0 (A9 GA (A9 Mb (A9 gQ (A9 VF CC))))))
def gb:a? 303 [A8] [A8,.bool,i64] NH:=k0 [(303,[hn 0 9 [g? 0 A8,g? 1 A8] [(.ret,[.t 3 .bool,4,g? 1 A8,.x 0])]])] (A9 CV (A9 KJ (A9 gX (A9 VE CC))))
def bH:a? 443 [BA,FE] [i64] K4:=k0 [(443,[c? 6 [.t 11 .bool],c? 5 [.t 11 .bool],c? 11 [g? 2 FE],c? 18 [.t 60 .bool],c? 17 [.t 60 .bool],d? 13 [4,.x 2] [g? 2 FE],d? 7 [4,.x 2] [g? 2 FE]])] CC
def It:a? 373 [DX,i64] [Bu,.bool] FW:=k0 [(373,[f? 3 [6,g? 1 Bu] [.t 5 .bool,g? 1 Bu] 0 [g? 1 Bu],d? 2 [.t 5 .bool,g? 1 Bu] [g? 1 Bu]])] (A9 FQ CC)
def VD:a? 414 [i64,FE] [Bu,.bool] J1:=k0 [(414,[c? 7 [.t 20 .bool]])] CC
def Zt:a? 409 [BA,i64,FE] [i64] KW:=k0 [] (A9 CV (A9 Dt (A9 bH (A9 It (A9 VD CC)))))
def bK:a? 410 [BA,i64] [BA,DF] K8:=k0 [(410,[hn 2 3 [.x 1,.x 2,.x 3] [(.normal,[g? 3 BA,g? 1 BA,g? 2 DF]),(.ret,[g? 1 BA,g? 2 DF,.x 3])]])] (A9 Dt (A9 NZ (A9 GA (A9 C0 (A9 KG (A9 Mb CC))))))
def ay:a? 444 [DX,i64] [DX] Pe:=k0 [] (A9 FQ (A9 PR (A9 Jj CC)))
def Zs:a? 445 [BA,i64,JU] [.bool] KV:=k0 [(445,[f? 3 [8] [.t 6 .bool] 0 []])] (A9 Dt (A9 HG CC))
def dd:a? 411 [BA,i64,i64] [BA,DF] JF:=k0 [(411,[c? 15 [g? 3 BA],e? 12 [12,g? 3 BA] 0 [g? 3 BA]])] (A9 ay (A9 Dt (A9 NZ (A9 Mb (A9 GA (A9 C0 (A9 Zs (A9 U6 CC))))))))
def Sy:a? 446 [(.list CA),i64] [i64,i64] IY:=k0 [] (A9 FT (A9 Kv CC))
def gN:a? 412 [(.list CA),i64] [(.list CA),i64] NA:=k0 [] (A9 Sy (A9 QV CC))
def gM:a? 413 [(.list CA),i64,i64] [(.list CA),i64] M9:=k0 [] (A9 Sy (A9 Sz (A9 QV CC)))
def dU:a? 447 [DX,Bu] [i64] JC:=k0 [(447,[f? 4 [5] [4] 0 []])] (A9 PS CC)
def Zo:a? 415 [DX,Bu] [DX,.bool,i64] Of:=k0 [] (A9 FQ (A9 UP (A9 It (A9 PS (A9 dU (A9 Jj CC))))))
def jh:a? 448 [Ef,i64] [Ef] OE:=k0 [] (A9 Fj (A9 Ls CC))
def bJ:a? 416 [BA,i64,FE] [BA,DF] K7:=k0 [(416,[c? 9 [g? 5 Ji]])] (A9 I5 (A9 jh (A9 V3 (A9 C0 CC))))
def U8:a? 420 [(.list i64),i64] [(.list i64)] Fb:=k0 [(420,[c? 7 [.t 6 .bool,.u 0 i64,.g 5 0],c? 10 [.u 0 i64,.g 5 0],⟨0,4,[(5,i64)],[],[],[],[.t 6 .bool,.t 7 i64,.u 0 i64,.g 5 0],[(.exit 0,[.t 6 .bool,.u 0 i64,.g 5 0])]⟩,c? 12 [.u 0 i64,.g 5 0]])] CC
def Zp:a? 449 [DX] [(.list i64)] KO:=k0 [(449,[e? 4 [.t 3 (.list i64),4] 0 [.t 3 (.list i64)],c? 3 [.t 3 (.list i64)]])] (A9 FQ (A9 U8 CC))
def QU:a? 374 [DX,i64] [(.list i64)] Ij:=k0 [(374,[c? 9 [.t 7 (.list i64)],e? 6 [.t 7 (.list i64),8] 0 [.t 7 (.list i64)],c? 14 [.t 7 (.list i64)],e? 11 [.t 7 (.list i64),9] 2 [.t 7 (.list i64)]])] (A9 It (A9 LR (A9 U8 CC)))
def az:A6 (.c0 450 [DX,(.list i64),i64] [(.list i64)] Ph):=AG0 (P:=Tryz.prog) (F:=450) (ds:=[DX,(.list i64),i64]) (rs:=[(.list i64)]) (f:=Ew) (hs:=iz [(450,[f? 4 [30] [.t 6 (.list i64)] 0 [],e? 15 [.t 12 .bool,49] 4 [.t 12 .bool],f? 11 [43] [.t 6 (.list i64)] 2 []])]) (n:=13) (A9 QU CC) (λg x=>by kernel_rfl)
def dV:a? 417 [DX,i64] [(.list i64)] L8:=k0 [(417,[f? 2 [5] [.t 4 (.list i64)] 0 []])] (A9 Zp (A9 az CC))
def dc:a? 451 [(.list i64)] [i64] MH:=k0 [] CC
def jl:a? 418 [BA,i64] [i64] OH:=k0 [] (A9 QU (A9 dc CC))
def kW:a? 370 [BA,i64,FE] [BA,DF] Pl:=k0 [(370,[c? 10 [.t 46 .bool],c? 13 [.t 9 (.list CA),10]])] (A9 Zt (A9 C0 (A9 bK (A9 dd (A9 gN (A9 gM (A9 VD (A9 Zo (A9 bJ (A9 dV (A9 jl CC)))))))))))
def R8:a? 371 [A8,i64] [.bool] Eb:=k0 [] (A9 Dt CC)
def Yz:a? 372 [A8,i64] [A8,i64] Ex:=k0 [(372,[d? 12 [5,g? 1 A8,.x 0] [g? 0 A8,g? 1 A8],f? 5 [g? 0 A8,g? 1 A8] [5,g? 1 A8,.x 0] 0 [g? 0 A8,g? 1 A8]])] (A9 CV (A9 Dt (A9 R8 (A9 VE (A9 KJ CC)))))
def kZ:a? 340 [A8,i64,FE] [A8,DF] Pq:=k0 [(340,[d? 10 [g? 2 A8,g? 3 DF,.x 0] [g? 0 A8,g? 2 A8,g? 3 DF],hn 0 1 [g? 0 A8,g? 2 A8,g? 3 DF] [(.ret,[g? 2 A8,g? 3 DF,.x 0])]])] (A9 kW (A9 KJ (A9 C0 (A9 R8 (A9 Yz CC)))))
def Zv:a? 341 [BA,i64] [i64,JU,.bool] KY:=k0 [(341,[f? 5 [28,g? 1 JU] [4,.t 6 .bool,g? 1 JU] 0 [g? 1 JU]])] (A9 It (A9 QU (A9 S1 CC)))
def gP:a? 375 [BA,i64,JU] [BA,DF] NC:=k0 [] (A9 Iu (A9 C0 (A9 S0 (A9 VF CC))))
def gd:a? 342 [A8,i64,JU] [A8,i64,i64] NI:=k0 [(342,[d? 8 [7,8,g? 2 A8,.x 0] [9,g? 0 A8,g? 2 A8],hn 0 2 [9,g? 0 A8,g? 2 A8] [(.ret,[7,8,g? 2 A8,.x 0])]])] (A9 gP (A9 KJ CC))
def ka:a? 322 [A8,i64,FE] [A8,DF] Pr:=k0 [(322,[hn 0 1 [g? 0 A8,g? 2 A8,g? 3 DF] [(.ret,[g? 2 A8,g? 3 DF,.x 0])]])] (A9 kZ (A9 Zv (A9 gd (A9 C0 CC))))
def jp:a? 197 [A8,(.list Tn)] [A8,(.list DF),(.list Ym)] OK:=k0 [(197,[⟨0,4,[(8,DF)],[(2,18,i64),(2,19,Ym)],[],[],[.t 9 i64,.u 3 DF,.u 4 i64,.u 5 Ym,.g 8 3,.p 2 Q!],[(.exit 0,[.u 3 DF,.u 4 i64,.u 5 Ym,.g 8 3,.p 2 Q!])]⟩]),(268,[c? 5 [.u 4 i64,.p 2 Q!],c? 19 [.p 2 Q!]]),(297,[c? 2 [.p 2 Q!]]),(298,[c? 9 [.u 5 Ym,.p 2 Q!]]),(302,[e? 4 [9,.u 4 i64,.p 2 Q!] 0 [.u 4 i64,.p 2 Q!]])] (A9 dp (A9 bP (A9 C0 (A9 dt (A9 Xk (A9 IK (A9 KF (A9 dr (A9 ga (A9 gb (A9 ka CC)))))))))))
def Wk:b? 128 0 BB [i64,.bool] [A8] Hf:=k1 [] (A9 B8 (A9 jn (A9 Vr (A9 jp CC))))
def XE:b? 75 0 BB [i64,.bool] [BA] IC:=k1 [] (A9 Wk CC)
def kV:b? 31 0 BB [i64] [i64,Bl] LY:=k1 [] (A9 XE (A9 IK (A9 KF CC)))
def dJ:b? 77 0 BB [i64] [(.list i64)] Lx:=k1 [(77,[c? 6 [.u 1 i64,.g 5 1],e? 3 [6,.u 1 i64,.g 5 1,g? 0 BB] 0 [.u 1 i64,.g 5 1,g? 0 BB]])] (A9 B8 CC)
def EZ:a? 66 [BG] [.bool] Cv:=k0 [(66,[f? 5 [3,4] [.t 2 .bool] 0 []])] (A9 S3 CC)
def OT:a? 129 [BG,i64] [i64,i64] FA:=k0 [(129,[c? 3 [5]])] CC
def SC:a? 199 [i64,i64,i64,i64,i64] [.bool] H5:=k0 [] CC
def R9:a? 270 [Ag,Ag] [i64] C9:=k0 [] CC
def Jk:a? 201 [(.list Ag),Ag] [(.list Ag),.bool] Cf:=k0 [(201,[e? 2 [6] 0 [6]])] (A9 R9 CC)
def Hq:a? 202 [Bp] [.bool] ES:=k0 [(202,[d? 12 [.t 2 .bool] [],f? 4 [3] [.t 2 .bool] 0 []])] (A9 SC (A9 Dz (A9 D6 (A9 R9 CC))))
def gg:a? 130 [(.list Ag),i64,i64,i64,i64,i64] [Bp,i64] J3:=k0 [(130,[f? 4 [14,g? 0 Bp] [13,g? 0 Bp] 0 [g? 0 Bp],e? 16 [.t 16 .bool,19] 4 [.t 16 .bool],e? 11 [.t 16 .bool,17,g? 1 Bp] 2 [.t 16 .bool,g? 1 Bp]])] (A9 SC (A9 Dz (A9 D6 (A9 Jk (A9 Hq CC)))))
def gf:a? 203 [Bp] [.str] H4:=k0 [] (A9 Di CC)
def S2:a? 131 [Bp] [.str,i64] Gt:=k0 [(131,[e? 5 [.t 4 .str,5] 0 [.t 4 .str]])] (A9 Hq (A9 gf (A9 KE (A9 Sx CC))))
def gj:a? 78 [BG,Bl,i64] [BG,i64] Et:=k0 [(78,[f? 15 [11,g? 2 BG] [7,g? 2 BG] 0 [g? 2 BG],f? 22 [13,.u 4 DY,.p 3 o?,g? 2 BG] [7,g? 2 BG,.x 3,.x 4] 2 [.u 4 DY,.p 3 o?,g? 2 BG]])] (A9 EZ (A9 CL (A9 OT (A9 gg (A9 S2 CC)))))
def bS:a? 306 [.str,i64,i64] [i64] Bg:=k0 [] (A9 EP CC)
def bQ:a? 272 [.str] [Bp,i64] Fq:=k0 [(272,[⟨0,11,[],[(1,5,Ag)],[],[],[.t 5 i64,.t 9 i64,.u 2 Ag,.p 1 [.d i64,.d i64,.d i64,.d i64,.d i64,.o 2],.p 0 [.d Bp]],[(.ret,[.t 3 i64,.p 0 [.d Bp],.x 1,.x 2]),(.exit 0,[.t 5 i64,.u 2 Ag,.p 1 [.d i64,.d i64,.d i64,.d i64,.d i64,.o 2],.p 0 [.d Bp]])]⟩])] (A9 Ma (A9 bS (A9 Sw (A9 Hq CC))))
def YD:a? 273 [BG,Bp] [i64] Ff:=k0 [(273,[f? 2 [5] [4] 0 []])] (A9 OT CC)
def bT:a? 207 [BG,DY] [Bp,i64] DT:=k0 [] (A9 bQ (A9 YD CC))
def Zw:a? 208 [Bp,i64] [Bp] FZ:=k0 [(208,[c? 8 [.u 3 Ag,.p 2 [.d i64,.d i64,.d i64,.d i64,.d i64,.o 3]],⟨0,5,[],[(2,5,Ag)],[],[],[.t 6 i64,.u 3 Ag,.p 2 [.d i64,.d i64,.d i64,.d i64,.d i64,.o 3]],[(.exit 0,[.u 3 Ag,.p 2 [.d i64,.d i64,.d i64,.d i64,.d i64,.o 3]])]⟩])] CC
def UU:a? 136 [BG] [(.list Bp),(.list i64),(.list .bool)] GF:=k0 [(136,[e? 14 [11] 4 [11],e? 9 [.t 6 (.list Bp),.t 7 (.list i64),8] 2 [.t 6 (.list Bp),.t 7 (.list i64)],e? 20 [12,13,.u 1 Bp,.u 2 i64,.u 3 .bool,.g 2 1,.g 3 2,.g 4 3] 6 [.u 1 Bp,.u 2 i64,.u 3 .bool,.g 2 1,.g 3 2,.g 4 3],⟨0,4,[(2,Bp),(3,i64),(4,.bool)],[],[],[],[.t 5 i64,.u 1 Bp,.u 2 i64,.u 3 .bool,.g 2 1,.g 3 2,.g 4 3],[(.exit 0,[.u 1 Bp,.u 2 i64,.u 3 .bool,.g 2 1,.g 3 2,.g 4 3])]⟩])] (A9 EZ (A9 bT (A9 Zw CC)))
def du:a? 205 [(.list Bp),(.list .bool)] [Bp,.bool] MP:=k0 [(205,[e? 8 [8,g? 1 Bp] 2 [g? 1 Bp],f? 3 [7,g? 1 Bp,g? 0 Bp] [.t 5 .bool,g? 0 Bp,.x 1] 0 [g? 1 Bp,g? 0 Bp]])] (A9 Jk (A9 Hq CC))
def gl:a? 132 [BG,i64] [BG,.bool,i64] NJ:=k0 [(132,[e? 20 [.t 15 .bool,16] 4 [.t 15 .bool],c? 24 [.u 4 DY,.p 3 o?],⟨0,16,[],[(3,2,DY)],[],[],[.t 14 i64,.u 4 DY,.p 3 o?],[(.exit 2,[.u 4 DY,.p 3 o?])]⟩,f? 7 [10,g? 1 BG] [.t 5 .bool,6,g? 1 BG] 0 [g? 1 BG]])] (A9 EZ (A9 UU (A9 du (A9 S2 CC))))
def gq:a? 79 [BG,i64] [BG,i64] J4:=k0 [(79,[hn 0 1 [g? 0 BG,g? 1 BG] [(.ret,[5,g? 1 BG,.x 0])]])] (A9 gl CC)
def an:b? 32 0 BB [i64,Bl] [BG] Pb:=k1 [(32,[c? 7 [g? 3 BG],c? 11 [g? 3 BG],c? 9 [g? 0 BB,g? 3 BG],e? 3 [9,g? 0 BB,g? 3 BG] 0 [g? 0 BB,g? 3 BG],c? 15 [g? 3 BG],c? 13 [g? 3 BG]])] (A9 dJ (A9 QW (A9 B8 (A9 gj (A9 gq CC)))))
def gB:a? 27 [i64,i64] [BX] Jz:=k0 [(27,[⟨0,3,[],[(1,2,Ev)],[],[],[.t 6 i64,.u 2 Ev,.p 1 W!],[(.exit 0,[.u 2 Ev,.p 1 W!])]⟩])] (A9 UK CC)
def Hr:a? 84 [BX] [.bool] ET:=k0 [(84,[f? 4 [3] [.t 2 .bool] 0 []])] (A9 IJ CC)
def bX:a? 72 [BX] [.str,i64] Ic:=k0 [(72,[e? 7 [.t 5 .str,6] 0 [.t 5 .str]])] (A9 Hr (A9 Di (A9 KE CC)))
def jd:a? 26 [BX] [DY] Kn:=k0 [] (A9 bX CC)
def UW:a? 83 [BX] [.bool] JJ:=k0 [] (A9 Hr CC)
def VG:a? 39 [BX,i64] [Ev,.bool] H7:=k0 [(39,[f? 2 [6,g? 1 Ev] [.t 5 .bool,g? 1 Ev] 0 [g? 1 Ev]])] (A9 Hr CC)
def VH:a? 68 [BX,i64] [A4,i64] J5:=k0 [] (A9 Hr (A9 VG (A9 IJ CC)))
def dw:a? 40 [BG,Bl,i64,i64,i64] [i64] JI:=k0 [] (A9 EZ (A9 CL CC))
def gh:a? 86 [BG,i64] [i64,i64,.bool] Re:=k0 [(86,[e? 4 [7] 0 [7]])] (A9 EZ (A9 OT CC))
def gi:a? 87 [BG] [(.list Bp),(.list i64)] Rf:=k0 [] (A9 UU CC)
def RK:a? 42 [BG,Bl,i64] [PH] Ju:=k0 [(42,[c? 8 [.u 4 Bp,.u 5 i64,.p 3 [.o 4,.o 5,.d Bl]],⟨0,5,[],[(3,0,Bp),(3,1,i64)],[],[],[.t 13 i64,.u 4 Bp,.u 5 i64,.p 3 [.o 4,.o 5,.d Bl]],[(.exit 0,[.u 4 Bp,.u 5 i64,.p 3 [.o 4,.o 5,.d Bl]])]⟩])] (A9 gh (A9 gi CC))
def UV:a? 135 [Bl,i64] [.bool] JH:=k0 [] CC
def gu:a? 85 [PH,i64] [i64] Rh:=k0 [(85,[c? 6 [5],e? 3 [5,6] 0 [5],c? 8 [5]])] (A9 UV CC)
def Zx:a? 41 [PH,i64,i64] [.bool] Kb:=k0 [(41,[f? 1 [1] [.t 6 .bool] 0 []])] (A9 gu CC)
def bR:a? 263 [Bp,i64] [(.list Ag)] Pt:=k0 [(263,[c? 8 [.u 1 Ag,.g 5 1],⟨0,5,[(5,Ag)],[],[],[],[.t 6 i64,.u 1 Ag,.g 5 1],[(.exit 0,[.u 1 Ag,.g 5 1])]⟩])] (A9 Hq CC)
def Y0:a? 192 [(.list Bp),i64,i64,i64] [(.list Ag)] Jt:=k0 [(192,[c? 10 [.t 9 (.list Ag)],e? 7 [.t 9 (.list Ag),12] 2 [.t 9 (.list Ag)],e? 3 [.t 9 (.list Ag),10] 0 [.t 9 (.list Ag)]])] (A9 bR (A9 Jk CC))
def bV:a? 193 [Bl,i64,i64,i64] [(.list Ag)] Pv:=k0 [(193,[c? 7 [.u 1 Ag,.g 9 1],⟨0,3,[(9,Ag)],[],[],[],[.t 10 i64,.u 1 Ag,.g 9 1],[(.exit 0,[.u 1 Ag,.g 9 1])]⟩])] (A9 D6 CC)
def bU:a? 261 [(.list Bp),i64] [i64] LC:=k0 [(261,[f? 2 [5] [4] 0 []])] CC
def jr:a? 262 [(.list Ag),Ag] [.bool] Im:=k0 [(262,[f? 2 [5] [.t 4 .bool] 0 []])] CC
def dv:a? 191 [(.list Bp),Bl,(.list Ag),(.list Ag)] [(.list Ag),.bool] MQ:=k0 [(191,[f? 3 [.t 10 (.list Ag),11] [.t 8 (.list Ag),.t 9 .bool] 0 [.t 10 (.list Ag)],f? 9 [12] [.t 8 (.list Ag),.t 9 .bool] 2 []])] (A9 bU (A9 jr (A9 Jk (A9 UV CC))))
def XI:a? 120 [BG,Bl,i64,i64,i64] [(.list Ag),i64] Ft:=k0 [(120,[f? 11 [16] [.t 10 (.list Ag),11] 0 []])] (A9 dw (A9 RK (A9 Zx (A9 Y0 (A9 bV (A9 dv CC))))))
def gw:a? 121 [A4,(.list Ag)] [A4,i64] NM:=k0 [(121,[f? 2 [6,g? 0 A4,g? 1 A4] [5,g? 1 A4,.x 0] 0 [g? 0 A4,g? 1 A4]])] (A9 US CC)
def VI:a? 69 [A4,BG,Bl,i64] [A4,i64] H8:=k0 [] (A9 EZ (A9 CL (A9 HP (A9 XI (A9 gw CC)))))
def gv:a? 80 [BX,BG,Bl,i64,i64] [BX,i64] NK:=k0 [(80,[c? 19 [g? 6 Ev],⟨0,11,[],[(4,2,Ev)],[],[],[.t 13 i64,.u 5 Ev,.p 4 [.d i64,.d i64,.o 5],.p 3 [.d BX]],[(.ret,[.t 11 i64,.p 3 [.d BX],.x 4,.x 5]),(.exit 0,[.u 5 Ev,.p 4 [.d i64,.d i64,.o 5],.p 3 [.d BX]])]⟩])] (A9 UW (A9 EZ (A9 CL (A9 VH (A9 VI (A9 HP CC))))))
def dL:b? 33 0 BB [i64,BG,Bl] [(.list DY)] Ly:=k1 [(33,[⟨2,4,[(9,DY)],[],[],[],[.x 4],[(.normal,[.u 4 DY,.g 9 4])]⟩,e? 7 [11,12,.u 4 DY,.g 9 4,g? 0 BB,g? 3 BX] 0 [.u 4 DY,.g 9 4,g? 0 BB,g? 3 BX]])] (A9 gB (A9 B8 (A9 jd (A9 gv CC))))
def jg:a? 34 [Bl,i64] [Bl,i64] Kp:=k0 [] (A9 CL (A9 Gi CC))
def XF:b? 81 0 BB [.str] [.str] GI:=k1 [] (A9 B8 CC)
def dK:b? 35 0 BB [(.list DY)] [(.list DY)] GB:=k1 [] (A9 B8 (A9 XF CC))
def bY:a? 134 [.str,i64,i64] [i64] Bg:=k0 [] (A9 EP CC)
def bW:a? 82 [.str] [BX,i64] Fu:=k0 [(82,[⟨0,11,[],[(1,2,Ev)],[],[],[.t 5 i64,.t 9 i64,.u 2 Ev,.p 1 W!,.p 0 [.d BX]],[(.ret,[.t 3 i64,.p 0 [.d BX],.x 1,.x 2]),(.exit 0,[.t 5 i64,.u 2 Ev,.p 1 W!,.p 0 [.d BX]])]⟩])] (A9 Ma (A9 bY (A9 IJ (A9 Hr CC))))
def S4:a? 38 [(.list DY)] [(.list BX)] Gu:=k0 [(38,[e? 7 [.t 5 .bool,6] 2 [.t 5 .bool],e? 14 [9] 4 [9],e? 3 [.t 3 (.list BX),4] 0 [.t 3 (.list BX)]])] (A9 bW (A9 UW CC))
def XJ:a? 18 [(.list DY),BG,Bl,i64,i64] [Fh,i64] Lj:=k0 [] (A9 nz CC)
def XK:a? 54 [Fh] [.bool] Ga:=k0 [(54,[f? 5 [3,54] [.t 2 .bool] 0 []])] CC
def kg:a? 56 [(.list DY),Fh] [A4,.bool] Hm:=k0 [(56,[f? 4 [19,g? 1 A4] [.t 5 .bool,g? 1 A4] 0 [g? 1 A4]])] (A9 gA (A9 U4 (A9 kT CC)))
def bZ:a? 107 [(.list i64),i64] [i64] Pz:=k0 [(107,[f? 2 [8] [4] 0 []])] CC
def gz:a? 57 [BG,Bl,Fh] [(.list FF),.bool] Eu:=k0 [(57,[⟨0,7,[(13,FF)],[],[],[],[.t 35 i64,.u 3 FF,.g 13 3],[(.ret,[.t 6 (.list FF),.t 7 .bool,.x 3]),(.exit 0,[.u 3 FF,.g 13 3])]⟩])] (A9 Qk (A9 Ql (A9 bZ (A9 Wi CC))))
def kh:a? 58 [(.list FF),Fh] [.bool] Hn:=k0 [(173,[hn 8 1 [29,g? 1 .bool,.y 5 .ready] [(0,[g? 1 .bool,.y 5 .ready]),(.ret,[g? 1 .bool,.y 5 .ret])]]),(174,[f? 2 [8] [4] 0 []])] CC
def Si:a? 112 [(.list Ag),(.list Ag)] [.bool] Fv:=k0 [(112,[f? 4 [13] [.t 4 .bool] 0 []])] CC
def kf:a? 59 [FF,FF,Fh] [.bool] Py:=k0 [(59,[hn 3 2 [] []]),(109,[hn 6 1 [.x 148] [(.normal,[.t 4 (.list Ag),.x 148])]]),(60,[c? 6 [.u 148 Ag,.g 5 148],⟨0,3,[(5,Ag)],[],[],[],[.t 11 i64,.u 150 Ag,.g 5 150],[(.exit 0,[.u 150 Ag,.g 5 150])]⟩]),(110,[e? 5 [6,5,.u 148 Ag,.g 0 148] 0 [5,.u 148 Ag,.g 0 148]]),(176,[f? 2 [8] [4] 0 []])] (A9 Mw (A9 Si CC))
def js:a? 60 [FF,Fh] [(.list Ag)] OL:=k0 [(60,[c? 6 [.u 2 Ag,.g 5 2],⟨0,3,[(5,Ag)],[],[],[],[.t 11 i64,.u 2 Ag,.g 5 2],[(.exit 0,[.u 2 Ag,.g 5 2])]⟩])] (A9 Mw CC)
def V4:a? 21 [(.list DY),BG,Bl,Fh] [A4,i64] Dr:=k0 [(21,[⟨0,13,[(14,Ag)],[],[],[],[.t 62 i64,.p 3 [.d A4],.u 150 Ag,.g 14 150],[(.ret,[.t 9 i64,.p 3 [.d A4],.x 150]),(.exit 1,[.p 3 [.d A4],.u 150 Ag,.g 14 150])]⟩,f? 16 [71,g? 3 A4] [9,g? 3 A4] 3 [g? 3 A4]]),(65,[f? 4 [3,.u 149 Ag,.g 0 149] [.t 2 (.list Ag),.x 149] 0 [.u 149 Ag,.g 0 149],e? 9 [5,3,.u 149 Ag,.g 0 149,.w 4 149] 2 [3,.u 149 Ag,.g 0 149]])] (A9 JY (A9 Mx (A9 XK (A9 kg (A9 gz (A9 kh (A9 kf (A9 js (A9 Y1 (A9 dy (A9 AGA CC)))))))))))
def ke:a? 24 [(.list DY),BG,Bl,Fh,A4] [.bool] T9:=k0 [] (A9 V4 CC)
def dH:a? 15 [] [.bool] I6:=k0 [] (A9 QW (A9 V0 (A9 XJ (A9 XK (A9 QT (A9 ke CC))))))
def dI:b? 16 0 BB [] [i64,BG,Bl,Bl,(.list DY)] Lw:=k1 [(16,[c? 6 [g? 0 BB,g? 2 Bl],c? 8 [g? 0 BB,g? 1 BG]])] (A9 kV (A9 an (A9 dL (A9 B8 (A9 jg (A9 dK CC))))))
def gy:a? 67 [(.list DY),i64] [BX,.bool] NN:=k0 [(67,[f? 3 [7,g? 0 BX] [.t 5 .bool,g? 0 BX] 0 [g? 0 BX]])] (A9 S4 CC)
def jq:a? 122 [(.list i64),i64] [(.list i64)] Sn:=k0 [(122,[e? 2 [5] 0 [5]])] CC
def gr:a? 70 [BG,Bl,i64,i64,i64] [(.list i64),i64,i64,i64] H6:=k0 [(70,[c? 7 [11,12],c? 15 [.t 21 .bool],c? 17 [.t 10 (.list i64)],e? 9 [.t 10 (.list i64),17] 0 [.t 10 (.list i64)]])] (A9 XI (A9 RK (A9 jq CC)))
def Zy:a? 22 [(.list DY),BG,Bl,i64,i64] [A4,Fh,i64] Kc:=k0 [(22,[⟨0,9,[],[],[4],[],[.t 14 i64,.p 2 [.d A4],.p 3 [.d Fh]],[(.ret,[.t 12 i64,.p 2 [.d A4],.p 3 [.d Fh]]),(.exit 0,[.p 2 [.d A4],.p 3 [.d Fh]])]⟩]),(12,[e? 9 [12] 2 [12],⟨0,4,[(8,Db)],[],[],[],[.t 9 i64,.u 4 Db,.g 8 4],[(.exit 0,[.u 4 Db,.g 8 4])]⟩])] (A9 EZ (A9 CL (A9 QT (A9 gy (A9 VH (A9 VI (A9 gr (A9 S4 (A9 VG (A9 AF8 CC))))))))))
def jc:b? 20 0 BB [Fh] [Fh] OC:=k1 [(20,[⟨6,16,[],[],[3],[],[.t 60 .bool],[(.normal,[.t 60 .bool])]⟩])] (A9 B8 CC)
def Uz:a? 4 [(.list (.int .u8))] [.bool] Is:=k0 [(4,[f? 7 [11,g? 0 BB] [.t 2 .bool,.x 0] 0 [g? 0 BB]]),(9,[c? 2 [.t 0 (.list (.int .u8))]])] (A9 dH (A9 dI (A9 QW (A9 B8 (A9 IK (A9 XJ (A9 jc (A9 V4 (A9 Zy CC)))))))))
end Go.Proofs.YtdbincbpjobdpaaGreat
