/- Texts of wip, joined and shortened by wip/tools/pack.py; nothing is assumed. -/
import Derived.Test.YtdbincbpjobdpaaGreatK15
import Derived.Test.YtdbincbpjobdpaaGreatProg
import Derived.KernelRfl
noncomputable section
set_option linter.all false
namespace Go.Proofs.YtdbincbpjobdpaaGreat
open Go Go.Ab Go.Pm
set_option maxRecDepth 100000
def ZF:a? 116 [i64] [.bool] Fp:=k0 [] CK
def NP:a? 63 [i64,i64] [i64] EJ:=k0 [] (A7 ZF CK)
def iQ:a? 171 [(.list i64)] [i64] KB:=k0 [(171,[f? 3 [8] [2] 0 []])] CK
def Wm:a? 170 [BU,BU] [i64] Hr:=k0 [] (A7 NP (A7 iQ CK))
def Og:A5 (.c2 338 BU [i64,i64,i64] [] [.fn (.func 170) [] []] Cp):=Qz (hs:=fu [(338,[e? 1 [10,.u 0 BU,.g 0 0] 0 [.u 0 BU]])]) (n:=13) CK (λl x=>by kernel_rfl)
def QA:A5 (.c2 320 BU [i64,i64,i64] [] [.fn (.func 170) [] []] Eu):=Qz (hs:=fu [(320,[e? 2 [10,11,.u 0 BU,.g 0 0] 0 [10,.u 0 BU,.g 0 0]])]) (n:=13) (A7 Og CK) (λl x=>by kernel_rfl)
def Mq:A5 (.c2 290 BU [i64,i64] [] [.fn (.func 170) [] []] C2):=Qz (hs:=fu [(290,[e? 1 [8,.u 0 BU,.g 0 0] 0 [.u 0 BU],e? 4 [9,.u 0 BU,.g 0 0] 2 [.u 0 BU,.g 0 0]])]) (n:=13) (A7 Wm CK) (λl x=>by kernel_rfl)
def PJ:A5 (.c2 291 BU [i64,i64,i64] [] [.fn (.func 170) [] []] EU):=rR (P:=Tryz.prog) (F:=291) (te:=BU) (ds:=[i64,i64,i64]) (rs:=[]) (post:=[.fn (.func 170) [] []]) (f:=λg p=>CG g p.1 p.2) (hs:=fu [(291,[e? 3 [10,11] 0 [10],e? 9 [13,.u 0 BU,.g 0 0] 2 [.u 0 BU],e? 15 [14,15] 4 [14],e? 21 [17,.u 0 BU,.g 0 0] 6 [.u 0 BU],e? 33 [20,21] 8 [20],c? 28 [20,21],c? 40 [.u 0 BU,.g 0 0],c? 42 [.u 0 BU,.g 0 0],c? 44 [.u 0 BU]])]) (n:=13) (A7 Wm (A7 QA CK)) (λg l x=>by kernel_rfl)
def QB:A5 (.c2 251 BU [i64] [] [.fn (.func 170) [] []] Ev):=Qz (hs:=fu [(251,[e? 2 [7,8,.u 0 BU,.g 0 0] 0 [7,.u 0 BU,.g 0 0],e? 7 [6,.u 0 BU,.g 0 0] 2 [.u 0 BU],e? 9 [7,8,.u 0 BU,.g 0 0] 4 [7,.u 0 BU,.g 0 0]])]) (n:=13) (A7 Mq (A7 PJ CK)) (λl x=>by kernel_rfl)
def JV:A5 (.c2 169 BU [] [] [.fn (.func 170) [] []] Cz):=Qz (hs:=fu []) (n:=13) (A7 QB CK) (λl x=>by kernel_rfl)
def Ri:A5 (.cl 252 Aj):=ACa (t:=30) (b:=4) (by kernel_rfl) (by kernel_rfl) (by kernel_rfl)
def kP:a? 186 [(.int .u64)] [i64] Px:=k0 [(186,[c? 2 [.t 0 (.int .u64),2],c? 5 [.t 0 (.int .u64),2],c? 8 [.t 0 (.int .u64),2]])] CK
def ZH:a? 115 [(.int .u64)] [i64] WV:=k0 [] (A7 kP CK)
def Kn:a? 43 [BG] [.bool] HO:=k0 [(43,[f? 5 [4] [.t 2 .bool] 0 [],f? 13 [5,89] [.t 2 .bool] 2 []])] CK
def gO:a? 88 [Bo] [i64] Ci:=k0 [] CK
def oO:a? 137 [i64,Aj] [.bool] Nn:=k0 [] CK
def oM:a? 274 [i64] [.bool] GJ:=k0 [] CK
def iP:a? 275 [Kh] [.bool] DY:=k0 [] CK
def bK:a? 211 [I5] [.bool] Nl:=k0 [] (A7 oM (A7 iP CK))
def rH:a? 210 [I5] [.bool] MK:=k0 [] CK
def mY:a? 209 [Aj] [.bool] GR:=k0 [] CK
def mZ:a? 212 [Aj] [.bool] Sh:=k0 [] CK
def ma:a? 213 [I5] [.bool] Si:=k0 [] CK
def Se:a? 89 [Aj] [.bool] GQ:=k0 [(89,[c? 5 [.t 47 .bool],c? 8 [.t 67 .bool]])] (A7 oO (A7 bK (A7 rH (A7 mY (A7 mZ (A7 ma CK))))))
def Pr:a? 44 [Bo] [.bool] Jx:=k0 [(44,[f? 4 [37] [.t 2 .bool] 0 []])] (A7 gO (A7 Se CK))
def mb:a? 145 [BG,Bo,i64,i64] [i64] PM:=k0 [] (A7 Kn (A7 Pr CK))
def VZ:a? 74 [Bo] [i64] Np:=k0 [] (A7 Pr (A7 gO CK))
def VY:a? 229 [i64,i64] [.bool] QQ:=k0 [] (A7 ZF CK)
def ik:a? 248 [i64] [.bool] Fp:=k0 [] CK
def Us:a? 166 [(.list i64),i64] [i64,.bool] JT:=k0 [(166,[c? 6 [7,8],e? 3 [7,8] 0 [7]])] (A7 VY (A7 ik CK))
def ZD:a? 167 [BG,i64] [i64,i64] Ju:=k0 [] CK
def T5:a? 105 [BG,i64] [i64,i64,.bool] GP:=k0 [(105,[c? 5 [7]])] (A7 Kn (A7 Us (A7 ZD CK)))
def PY:a? 158 [.str,i64,i64] [i64,i64] By:=k0 [(158,[e? 7 [.t 8 (.int .u64),35] 1 [.t 8 (.int .u64)]])] CK
def iR:a? 220 [] [(.arr 15 (.int .u32))] Kq:=k0 [(220,[c? 9 [.t 3 (.int .u32)],e? 7 [.t 3 (.int .u32),9] 2 [.t 3 (.int .u32)],e? 3 [4,g? 1 (.arr 15 (.int .u32))] 0 [g? 1 (.arr 15 (.int .u32))]])] CK
def Zc:a? 144 [.str] [(.int .u32)] OJ:=k0 [(144,[e? 4 [.t 4 (.int .u32),9] 0 [.t 4 (.int .u32)]])] (A7 iR CK)
def ZG:a? 156 [.str,i64] [.str,i64,i64] DM:=k0 [] (A7 PY (A7 Zc CK))
def Sz:a? 232 [.str,.str] [.bool] Eb:=k0 [] CK
def U6:a? 157 [.str,.str] [.bool] E8:=k0 [] (A7 Sz CK)
def TH:b? 314 0 QD [i64] [i64] B6:=k1 [(314,[c? 6 [g? 0 QD]])] (A7 PY CK)
def Uz:b? 316 0 QD [i64] [.str] E5:=k1 [(316,[c? 2 [g? 0 QD]])] CK
def gX:b? 315 0 QD [] [Kh] E4:=k1 [] (A7 TH (A7 Uz CK))
def oN:a? 288 [.str] [Aj,i64] JM:=k0 [] (A7 TH (A7 gX (A7 Uz (A7 Se CK))))
def mj:a? 317 [Bh] [.bool] MF:=k0 [] CK
def T7:a? 113 [Aj] [.bool] BJ:=k0 [] CK
def qP:a? 318 [Bh,Aj] [.bool] Pa:=k0 [] (A7 T7 CK)
def oS:a? 319 [Aj,Aj] [i64] OD:=k0 [] (A7 NP (A7 iQ CK))
def rM:a? 289 [Bh] [.bool] Ui:=k0 [(289,[f? 4 [18] [.t 2 .bool] 0 []])] (A7 mj (A7 Se (A7 qP (A7 oS CK))))
def qO:a? 249 [.str] [Bh,i64] KV:=k0 [(249,[⟨0,8,[],[(4,5,Aj)],[],[],[.t 5 i64,.t 32 i64,.u 5 Aj,.p 4 [.d i64,.d i64,.d i64,.d i64,.d i64,.o 5],.p 0 [.d Bh]],[(.ret,[.t 3 i64,.p 0 [.d Bh],.x 4,.x 5]),(.exit 0,[.t 5 i64,.u 5 Aj,.p 4 [.d i64,.d i64,.d i64,.d i64,.d i64,.o 5],.p 0 [.d Bh]])]⟩])] (A7 ZG (A7 U6 (A7 PY (A7 oN (A7 rM CK)))))
def kM:a? 250 [BG,Bh] [i64] MJ:=k0 [(250,[f? 2 [11] [4] 0 []])] (A7 ZD CK)
def kL:a? 168 [BG,D8] [Bh,.bool] Gq:=k0 [] (A7 qO (A7 kM CK))
def lX:a? 172 [Bh,i64] [Bh] Nk:=k0 [(176,[f? 2 [8] [4] 0 []]),(110,[e? 5 [6,5,.u 3 Aj,.g 0 3] 0 [5,.u 3 Aj,.g 0 3]])] (A7 Ri CK)
def T6:a? 106 [BG] [(.list Bh),(.list i64)] II:=k0 [(106,[⟨0,5,[(4,BU)],[],[],[],[.t 19 i64,.u 1 BU,.g 4 1],[(.exit 0,[.u 1 BU,.g 4 1])]⟩,⟨0,14,[(2,Bh),(3,i64)],[],[],[],[.t 42 i64,.t 9 i64,.t 10 i64,.u 2 Bh,.g 2 2,.u 3 i64,.g 3 3],[(.exit 2,[.u 2 Bh,.g 2 2,.u 3 i64,.g 3 3])]⟩])] (A7 Kn (A7 kL (A7 JV (A7 lX CK))))
def mf:a? 146 [BG,Bo,i64] [(.list Nc)] PN:=k0 [(146,[hn 3 1 [] []]),(154,[e? 4 [27,.u 2 Nc,.p 3 [.o 2],.y 6 .ready] 0 [.u 2 Nc,.p 3 [.o 2],.y 6 .ready]])] (A7 VZ (A7 T5 (A7 T6 CK)))
def Vv:a? 152 [Nc,i64] [.bool] I0:=k0 [] CK
def kO:b? 222 1 i64 [Nc] [.bool] UT:=k1 [] (A7 Vv CK)
def mc:a? 147 [(.list Nc),i64] [i64] ME:=k0 [(147,[hn 0 1 [g? 0 i64] [(.ret,[4,.x 0])]]),(221,[f? 2 [8,g? 0 i64] [4,g? 0 i64] 0 [g? 0 i64]])] (A7 kO CK)
def iS:a? 92 [BG,Bo,i64,i64,i64] [(.list Aj),i64] Hs:=k0 [(92,[e? 14 [57,17,.m 9 .i64 Aj] 0 [17,.m 9 .i64 Aj],hn 0 24 [85,.m 9 .i64 Aj,g? 11 i64,g? 5 (.list Aj),g? 6 i64] [(4,[.m 9 .i64 Aj,g? 11 i64,g? 5 (.list Aj),g? 6 i64]),(.ret,[.m 9 .i64 Aj,g? 11 i64,g? 5 (.list Aj),g? 6 i64])],hn 0 43 [137,g? 5 (.list Aj),g? 6 i64] [(8,[g? 5 (.list Aj),g? 6 i64]),(.ret,[g? 5 (.list Aj),g? 6 i64])]]),(154,[hn 0 4 [27,.m 9 .i64 Aj,g? 11 i64,g? 5 (.list Aj),g? 6 i64,.y 14 .ready] [(0,[.m 9 .i64 Aj,g? 11 i64,g? 5 (.list Aj),g? 6 i64,.y 14 .ready]),(.ret,[.m 9 .i64 Aj,g? 11 i64,g? 5 (.list Aj),g? 6 i64,.y 14 .ret])]]),(150,[]),(221,[f? 2 [8] [4] 0 []])] (A7 mb (A7 mf (A7 mc (A7 T7 (A7 T5 (A7 T6 (A7 Vv (A7 P6 CK))))))))
def R0:A5 (.c2 223 i64 [i64,i64] [] [] Lj):=Qz (hs:=fu [(223,[e? 1 [6,.u 0 i64,.g 0 0] 0 [.u 0 i64],e? 4 [7,.u 0 i64,.g 0 0] 2 [.u 0 i64,.g 0 0],hn 4 4 [] [(2,[]),(.normal,[])]])]) (n:=13) (A7 VY CK) (λl x=>by kernel_rfl)
def Vc:A5 (.c0 224 [] [] (λ_=>none)):=λ_ _ h=>by cases h
def Rz:A5 (.c0 225 [] [] (λ_=>none)):=λ_ _ h=>by cases h
def T0:A5 (.c0 226 [] [] (λ_=>none)):=λ_ _ h=>by cases h
def S1:A5 (.c0 227 [] [] (λ_=>none)):=λ_ _ h=>by cases h
def Oe:A5 (.c0 228 [] [] (λ_=>none)):=λ_ _ h=>by cases h
def Rk:A5 (.c0 230 [] [] (λ_=>none)):=λ_ _ h=>by cases h
def Ut:A5 (.c0 231 [] [] (λ_=>none)):=λ_ _ h=>by cases h
def V1:A5 (.c2 155 i64 [i64,i64,i64] [] [] P4):=rR (P:=Tryz.prog) (F:=155) (te:=i64) (ds:=[i64,i64,i64]) (rs:=[]) (post:=[]) (f:=λg p=>OL g p.1 p.2) (hs:=fu [(155,[hn 0 2 [1,2,3,.t 8 .bool,.t 9 .bool,.u 0 i64,.g 0 0] [(.ret,[.u 0 i64])],c? 8 [3,.u 0 i64,.g 0 0],c? 12 [11,12,.u 0 i64,.g 0 0],hn 4 15 [.x 0] [(.normal,[.u 0 i64,.g 0 0]),(.ret,[.u 0 i64])],hn 4 17 [.x 0] [(1,[1,.u 0 i64,.g 0 0]),(.normal,[1,.u 0 i64,.g 0 0])],c? 25 [1,2,.t 8 .bool,.u 0 i64,.g 0 0]])]) (n:=13) (A7 R0 (A7 Vc (A7 Rz (A7 T0 (A7 S1 (A7 Oe (A7 Rk (A7 Ut (A7 VY CK))))))))) (λg l x=>by kernel_rfl)
def cC:A5 (.c2 94 i64 [] [] [] Pl):=Qz (hs:=fu []) (n:=13) (A7 V1 (A7 ZH CK)) (λl x=>by kernel_rfl)
def Wn:a? 98 [BS,BS] [i64] Pv:=k0 [] (A7 NP CK)
def kN:a? 102 [DT,DT] [i64] Pu:=k0 [] (A7 NP CK)
def PH:A5 (.c2 233 BS [i64,i64] [] [.fn (.func 98) [] []] I4):=Qz (hs:=fu [(233,[e? 1 [8,.u 0 BS,.g 0 0] 0 [.u 0 BS],e? 4 [9,.u 0 BS,.g 0 0] 2 [.u 0 BS,.g 0 0],hn 4 4 [] [(2,[]),(.normal,[])]])]) (n:=13) (A7 Wn CK) (λl x=>by kernel_rfl)
def Rj:A5 (.c0 234 [] [] (λ_=>none)):=λ_ _ h=>by cases h
def PG:A5 (.c0 235 [] [] (λ_=>none)):=λ_ _ h=>by cases h
def P8:A5 (.c0 236 [] [] (λ_=>none)):=λ_ _ h=>by cases h
def Pe:A5 (.c0 237 [] [] (λ_=>none)):=λ_ _ h=>by cases h
def Lr:A5 (.c0 238 [] [] (λ_=>none)):=λ_ _ h=>by cases h
def Of:A5 (.c0 239 [] [] (λ_=>none)):=λ_ _ h=>by cases h
def Qy:A5 (.c0 240 [] [] (λ_=>none)):=λ_ _ h=>by cases h
def R1:A5 (.c2 160 BS [i64,i64,i64] [] [.fn (.func 98) [] []] Lk):=rR (P:=Tryz.prog) (F:=160) (te:=BS) (ds:=[i64,i64,i64]) (rs:=[]) (post:=[.fn (.func 98) [] []]) (f:=λg p=>KW g p.1 p.2) (hs:=fu [(160,[hn 0 2 [1,2,3,.t 10 .bool,.t 11 .bool,.u 0 BS,.g 0 0] [(.ret,[.u 0 BS])],c? 8 [3,.u 0 BS,.g 0 0],c? 12 [13,14,.u 0 BS,.g 0 0],hn 4 15 [.x 0] [(.normal,[.u 0 BS,.g 0 0]),(.ret,[.u 0 BS])],hn 4 17 [.x 0] [(1,[1,.u 0 BS,.g 0 0]),(.normal,[1,.u 0 BS,.g 0 0])],c? 25 [1,2,.t 10 .bool,.u 0 BS,.g 0 0]])]) (n:=13) (A7 PH (A7 Rj (A7 PG (A7 P8 (A7 Pe (A7 Lr (A7 Of (A7 Qy (A7 Wn CK))))))))) (λg l x=>by kernel_rfl)
def P7:A5 (.c2 97 BS [] [] [.fn (.func 98) [] []] Ge):=Qz (hs:=fu []) (n:=13) (A7 R1 (A7 ZH CK)) (λl x=>by kernel_rfl)
def P9:A5 (.c2 243 DT [i64,i64] [] [.fn (.func 102) [] []] Et):=Qz (hs:=fu [(243,[e? 1 [8,.u 0 DT,.g 0 0] 0 [.u 0 DT],e? 4 [9,.u 0 DT,.g 0 0] 2 [.u 0 DT,.g 0 0],hn 4 4 [] [(2,[]),(.normal,[])]])]) (n:=13) (A7 kN CK) (λl x=>by kernel_rfl)
def S2:A5 (.c0 244 [] [] (λ_=>none)):=λ_ _ h=>by cases h
def UL:A5 (.c2 163 DT [i64] [] [.fn (.func 102) [] []] I2):=Qz (hs:=fu [(163,[e? 2 [7,8,.u 0 DT,.g 0 0] 0 [7,.u 0 DT,.g 0 0],e? 7 [6,.u 0 DT,.g 0 0] 2 [.u 0 DT],e? 9 [7,8,.u 0 DT,.g 0 0] 4 [7,.u 0 DT,.g 0 0],c? 15 [.u 0 DT,.g 0 0]])]) (n:=13) (A7 P9 (A7 S2 CK)) (λl x=>by kernel_rfl)
def PF:A5 (.c2 101 DT [] [] [.fn (.func 102) [] []] ET):=Qz (hs:=fu []) (n:=13) (A7 UL CK) (λl x=>by kernel_rfl)
def Ry:a? 55 [i64,(.list i64)] [.bool] Fk:=k0 [(55,[f? 4 [5] [.t 4 .bool] 0 []])] CK
def U5:a? 17 [i64,(.list i64)] [BG,i64] IH:=k0 [] (A7 Ry CK)
def U1:a? 28 [] [Bo] Fw:=k0 [] CK
def iU:a? 164 [i64] [.bool] GJ:=k0 [] CK
def rJ:a? 245 [] [.str] UX:=k0 [] (A7 S3 CK)
def gP:a? 246 [.str,i64,i64] [i64] FQ:=k0 [] (A7 PY CK)
def tS:a? 247 [.str] [BH,.bool] QR:=k0 [(247,[hn 2 9 [.x 0,.x 1] [(.normal,[g? 1 BH,g? 0 BH]),(.ret,[.t 3 .bool,g? 0 BH,.x 1])],f? 3 [13,g? 1 BH,g? 0 BH] [.t 3 .bool,g? 0 BH,.x 1] 0 [g? 1 BH,g? 0 BH]])] (A7 gP CK)
def qN:a? 139 [BH] [.bool] R6:=k0 [] (A7 iU CK)
def rK:a? 140 [BH] [.bool] Oj:=k0 [(140,[f? 2 [7] [.t 2 .bool] 0 []])] CK
def gY:b? 142 0 Xk [Kh] [] J2:=k1 [(142,[c? 3 [4]])] (A7 km (A7 S3 CK))
def WM:a? 91 [BH] [.str,i64] I8:=k0 [(91,[e? 8 [29,g? 1 Xk] 1 [g? 1 Xk]])] (A7 qN (A7 rK (A7 km (A7 gY (A7 S3 (A7 Zc CK))))))
def qM:a? 165 [.str] [BH,i64] KU:=k0 [] (A7 rJ (A7 gP (A7 Zc (A7 tS (A7 WM CK)))))
def mi:a? 53 [i64] [BH] D6:=k0 [] CK
def T9:a? 104 [.str,i64] [BH,i64] Ea:=k0 [] (A7 iU (A7 qM (A7 mi CK)))
def lY:a? 159 [.str] [El] KZ:=k0 [] (A7 PY (A7 T9 CK))
def Sf:a? 103 [BS] [.bool] Hh:=k0 [(103,[f? 4 [36] [.t 2 .bool] 0 []])] (A7 T9 CK)
def oQ:a? 95 [.str] [BS,i64] Fq:=k0 [(95,[⟨0,13,[],[(1,2,El)],[],[],[.t 5 i64,.t 50 i64,.u 2 El,.p 1 [.d i64,.d i64,.o 2],.p 0 [.d BS]],[(.ret,[.t 3 i64,.p 0 [.d BS],.x 1,.x 2]),(.exit 0,[.t 5 i64,.u 2 El,.p 1 [.d i64,.d i64,.o 2],.p 0 [.d BS]])]⟩])] (A7 ZG (A7 U6 (A7 PY (A7 lY (A7 Sf CK)))))
def qK:a? 96 [BS] [.bool] Vr:=k0 [] (A7 Sf CK)
def ZE:a? 48 [(.list D8)] [(.list BS)] MD:=k0 [(48,[⟨0,4,[(4,BS)],[],[],[],[.t 12 i64,.m 0 .i64 .bool,.u 1 BS,.g 4 1],[(.exit 0,[.m 0 .i64 .bool,.u 1 BS,.g 4 1])]⟩])] (A7 oQ (A7 qK (A7 P7 CK)))
def mg:a? 242 [El,i64] [i64] PO:=k0 [] CK
def qL:a? 162 [BS,i64] [i64,.bool] R5:=k0 [(241,[c? 6 [9,10],e? 3 [9,10] 0 [9]])] (A7 mg CK)
def iT:a? 100 [BS,i64] [El,.bool] UV:=k0 [] (A7 Sf (A7 qL CK))
def mX:a? 49 [(.list D8),i64,i64] [(.list DT)] Sg:=k0 [(49,[hn 3 2 [] []]),(161,[⟨0,1,[],[(2,0,DT)],[],[],[.t 3 i64,.u 5 DT,.p 2 [.o 5],.y 4 .ready],[(.exit 0,[.u 5 DT,.p 2 [.o 5],.y 4 .ready])]⟩])] (A7 ZE (A7 iT (A7 PF CK)))
def ii:b? 51 1 DT [BS] [.bool] TA:=k1 [] CK
def rI:a? 52 [BS,i64] [BH,i64] W6:=k0 [] (A7 Sf (A7 iT (A7 T9 CK)))
def kR:a? 90 [BG,Bo] [i64] P5:=k0 [] (A7 Kn (A7 Pr CK))
def oL:a? 187 [BH,I5] [BH,i64] UQ:=k0 [] (A7 bK CK)
def rL:a? 117 [BH,Aj] [BH,i64] Uh:=k0 [] (A7 Se (A7 T7 (A7 WM (A7 oL CK))))
def oU:a? 64 [BH,(.list Aj)] [BH,i64] Uj:=k0 [(64,[f? 2 [12,g? 0 BH,g? 1 BH] [5,g? 1 BH,.x 0] 0 [g? 0 BH,g? 1 BH]])] (A7 rL CK)
def oT:a? 46 [BH,BG,Bo,i64] [BH,i64] JU:=k0 [] (A7 kR (A7 WM (A7 iS (A7 oU CK))))
def oP:a? 47 [BG,Bo,i64,i64,i64] [(.list i64),i64,i64,i64] No:=k0 [(47,[]),(154,[⟨0,4,[],[(4,0,i64)],[],[],[.t 27 i64,.u 9 i64,.p 4 [.o 9],.y 8 .ready],[(.exit 0,[.u 9 i64,.p 4 [.o 9],.y 8 .ready])]⟩])] (A7 iS (A7 VZ (A7 T5 (A7 T6 (A7 cC CK)))))
def S0:a? 14 [(.list D8),BG,Bo,i64,i64] [BH,dT,i64] FO:=k0 [(14,[f? 10 [61,g? 4 BH,g? 5 dT] [12,g? 4 BH,g? 5 dT] 1 [g? 4 BH,g? 5 dT]]),(50,[f? 2 [8,g? 6 DT] [4,g? 6 DT] 0 [g? 6 DT]])] (A7 Kn (A7 Pr (A7 ZE (A7 mX (A7 ii (A7 rI (A7 oT (A7 oP (A7 mi CK)))))))))
def U0:a? 29 [i64] [BH] D6:=k0 [] CK
def oR:a? 30 [(.list D8),BG,Bo,i64] [i64] Qn:=k0 [(30,[f? 2 [9] [8] 0 []])] (A7 VZ (A7 S0 CK))
def bL:a? 8 [] [.bool] IY:=k0 [] (A7 U5 (A7 U1 (A7 S0 (A7 U0 (A7 oR CK)))))
def Va:b? 19 0 BB [i64] [i64] HB:=k1 [] CK
def CR:b? 19 0 BB [i64] [i64] Ai:=k1 [] (A7 Va CK)
def U2:a? 293 [i64] [EV,i64] J6:=k0 [] CK
def U3:a? 294 [i64] [EO,i64] NT:=k0 [] CK
def gj:a? 266 [i64,i64] [A4,i64] NW:=k0 [] (A7 U2 (A7 U3 (A7 U1 CK)))
def Zf:a? 295 [i64] [(.list .str)] Om:=k0 [(295,[⟨0,3,[(3,.str)],[],[],[],[.t 4 i64,.u 0 .str,.g 3 0],[(.exit 0,[.u 0 .str,.g 3 0])]⟩])] CK
def ga:a? 267 [i64] [FY,i64] J4:=k0 [] (A7 Zf CK)
def gl:a? 196 [i64,i64] [A3,i64] NY:=k0 [] (A7 gj (A7 ga CK))
def Wx:b? 333 0 BB [] [.str] IN:=k1 [(333,[c? 3 [3,g? 0 BB],e? 6 [5,.u 1 (.int .u8),.g 4 1,g? 0 BB] 0 [.u 1 (.int .u8),.g 4 1,g? 0 BB]])] (A7 CR CK)
def Xt:b? 334 0 BB [] [i64] G5:=k1 [] (A7 CR CK)
def Vw:b? 305 0 BB [i64] [E2] Hd:=k1 [(305,[c? 5 [.t 15 .bool],c? 4 [.t 15 .bool],c? 8 [g? 0 BB,g? 3 E2],c? 11 [g? 0 BB,g? 3 E2],c? 6 [g? 0 BB,g? 3 E2],c? 13 [g? 0 BB,g? 3 E2]])] (A7 CR (A7 Wx (A7 Xt CK)))
def Wy:b? 269 0 BB [i64,i64,.bool] [Sn] IP:=k1 [(269,[c? 3 [.t 11 .bool],d? 12 [g? 0 BB,g? 1 Sn] [g? 0 BB,g? 1 Sn]])] (A7 CR (A7 Vw CK))
def Ur:b? 198 0 BB [i64,i64,.bool] [(.list Sn)] Gr:=k1 [(198,[e? 3 [10,.u 1 Sn,.g 9 1,g? 0 BB] 0 [.u 1 Sn,.g 9 1,g? 0 BB]])] (A7 CR (A7 Wy CK))
def GU:a? 37 [Bo] [i64] Ci:=k0 [] CK
def Ps:a? 265 [Kh] [.bool] DY:=k0 [] CK
def TM:a? 195 [I5] [.bool] Ic:=k0 [] (A7 Ps CK)
def bV:a? 123 [Aj] [Aj,.bool] LJ:=k0 [(123,[c? 4 [.t 13 .bool],c? 8 [.t 5 .bool,g? 2 Aj],c? 13 [.t 67 .bool],c? 12 [.t 67 .bool],c? 17 [.t 91 .bool]])] (A7 TM CK)
def Zg:a? 124 [i64,i64] [.bool] GZ:=k0 [] CK
def Dv:a? 71 [Aj] [.bool] Co:=k0 [] (A7 bV (A7 Zg CK))
def CO:a? 36 [Bo] [.bool] B7:=k0 [(36,[f? 4 [3] [.t 2 .bool] 0 []])] (A7 GU (A7 Dv CK))
def RF:a? 259 [BH] [.bool] HP:=k0 [] CK
def TJ:a? 260 [BH] [.bool] Ia:=k0 [(260,[f? 2 [3] [.t 2 .bool] 0 []])] (A7 Ps CK)
def bR:a? 376 [BH] [.bool] LF:=k0 [] (A7 RF (A7 TJ CK))
def EP:a? 345 [EV] [.bool] Dc:=k0 [(345,[f? 11 [6] [.t 2 .bool] 2 [],f? 5 [4] [.t 2 .bool] 0 []])] (A7 bR CK)
def TN:a? 432 [Bp] [.bool] Gz:=k0 [] CK
def UB:a? 433 [Bp,Bp] [.bool] FV:=k0 [] CK
def Ko:a? 419 [Bp,Bp] [.bool] EE:=k0 [] CK
def Oc:a? 434 [DH,i64,Iu] [i64] EF:=k0 [(434,[f? 2 [7] [6] 0 []])] CK
def FE:a? 395 [DH] [.bool] D0:=k0 [(395,[f? 9 [4] [.t 2 .bool] 2 [],f? 4 [3] [.t 2 .bool] 0 [],f? 20 [7] [.t 2 .bool] 6 [],f? 14 [5] [.t 2 .bool] 4 []])] (A7 TN (A7 UB (A7 Ko (A7 Oc CK))))
def bf:a? 408 [B5] [.bool] LR:=k0 [(408,[f? 6 [3] [.t 2 .bool] 0 [],f? 11 [4] [.t 2 .bool] 2 []])] CK
def FF:a? 368 [(.list B5)] [.bool] D2:=k0 [(368,[f? 4 [3] [.t 2 .bool] 0 []])] (A7 bf CK)
def gg:a? 435 [i64] [.bool] Gm:=k0 [] CK
def GB:a? 396 [EO] [.bool] D1:=k0 [(396,[f? 4 [3] [.t 2 .bool] 0 []])] (A7 gg CK)
def PE:a? 397 [(.list B9),i64] [.bool] FL:=k0 [(397,[f? 2 [5] [.t 4 .bool] 0 []])] CK
def bk:a? 355 [A4] [.bool] LY:=k0 [] (A7 CO (A7 EP (A7 FE (A7 FF (A7 GB (A7 PE CK))))))
def Ja:a? 356 [A4,i64] [B9,.bool] Ey:=k0 [(356,[f? 2 [6,g? 1 B9] [.t 5 .bool,g? 1 B9] 0 [g? 1 B9]])] CK
def CQ:a? 329 [A4] [.bool] Bk:=k0 [(329,[f? 4 [3] [.t 2 .bool] 0 [],f? 9 [4] [.t 2 .bool] 2 [],f? 18 [8] [.t 2 .bool] 4 [],f? 23 [9] [.t 2 .bool] 6 []])] (A7 bk (A7 Ja CK))
def J9:a? 369 [(.list B5),i64] [i64] Eg:=k0 [(369,[f? 2 [5] [4] 0 []])] CK
def TO:a? 339 [(.list B5),i64] [(.list B5),i64] Ih:=k0 [(339,[⟨0,11,[(6,B5)],[],[],[],[.t 7 i64,.u 0 B5,.g 6 0],[(.exit 1,[.u 0 B5,.g 6 0])]⟩])] (A7 FF (A7 J9 CK))
def bg:a? 321 [A4] [A4,i64,i64] LU:=k0 [] (A7 CQ (A7 TO CK))
def bu:a? 296 [A3] [A3,i64,i64] Lb:=k0 [] (A7 bg CK)
def Cr:a? 304 [i64] [C7] BF:=k0 [] CK
def Zx:a? 301 [i64] [C7] EB:=k0 [] (A7 Cr CK)
def GV:a? 346 [EV,i64] [i64] FW:=k0 [(346,[f? 2 [5] [4] 0 []])] CK
def Fc:a? 324 [EV,i64] [i64] EG:=k0 [] (A7 EP (A7 GV CK))
def IX:a? 343 [EV,i64] [BH,.bool] Fx:=k0 [] (A7 Fc CK)
def Hp:a? 11 [Bo] [i64] Ed:=k0 [] (A7 CO (A7 GU CK))
def JY:a? 76 [Bo,i64] [Bo,i64] EL:=k0 [] (A7 CO (A7 GU CK))
def JZ:a? 344 [A4,i64] [A4] F4:=k0 [(344,[c? 3 [g? 0 A4]])] (A7 Hp (A7 JY CK))
def bh:a? 323 [A4,i64] [A4,BH,i64] LV:=k0 [] (A7 CQ (A7 IX (A7 JZ CK)))
def HK:a? 189 [BH] [i64] Dz:=k0 [] (A7 RF (A7 TJ CK))
def DZ:a? 125 [.str,i64,i64] [.str] Al:=k0 [(125,[e? 4 [.t 0 .str,7] 0 [.t 0 .str]])] CK
def TK:a? 127 [i64] [.str] Gw:=k0 [] CK
def K7:a? 190 [.str] [(.int .u32)] E6:=k0 [(190,[c? 10 [.t 3 (.int .u32)],e? 7 [.t 3 (.int .u32),5] 2 [.t 3 (.int .u32)],e? 3 [.t 3 (.int .u32),4] 0 [.t 3 (.int .u32)]])] CK
def G4:a? 119 [BH] [.str,i64] C9:=k0 [(119,[c? 11 [7],e? 7 [.t 5 .str,6] 0 [.t 5 .str]])] (A7 HK (A7 DZ (A7 TK (A7 K7 CK))))
def bU:a? 452 [FY,De] [.bool] LH:=k0 [(452,[c? 7 [.t 59 .bool],d? 13 [.t 4 .bool,.x 2] [g? 2 De],hn 2 11 [.x 2] [(.normal,[g? 2 De]),(.ret,[.t 4 .bool,.x 2])],hn 2 9 [.x 2] [(.normal,[g? 2 De]),(.ret,[.t 4 .bool,.x 2])],hn 2 8 [.x 2] [(.normal,[g? 2 De]),(.ret,[.t 4 .bool,.x 2])]])] CK
def bS:a? 421 [FY] [.bool] LG:=k0 [(421,[f? 5 [4] [.t 2 .bool] 0 [],f? 10 [5] [.t 2 .bool] 2 [],f? 15 [6] [.t 2 .bool] 4 []])] (A7 bU CK)
def Mo:a? 377 [FY,i64] [i64] GY:=k0 [] (A7 bS CK)
def RG:a? 422 [(.list i64),i64] [(.list i64)] FH:=k0 [(422,[c? 6 [.u 0 i64,.g 5 0],⟨0,3,[(5,i64)],[],[],[],[.t 6 i64,.u 0 i64,.g 5 0],[(.exit 0,[.u 0 i64,.g 5 0])]⟩])] CK
def dt:a? 380 [(.list i64),i64] [(.list i64)] FU:=k0 [(380,[c? 7 [.t 6 .bool,.u 0 i64,.g 5 0],c? 10 [.u 0 i64,.g 5 0],⟨0,4,[(5,i64)],[],[],[],[.t 6 .bool,.t 7 i64,.u 0 i64,.g 5 0],[(.exit 0,[.t 6 .bool,.u 0 i64,.g 5 0])]⟩,c? 12 [.u 0 i64,.g 5 0]])] CK
def bT:a? 347 [FY,i64,.str] [FY,i64] Pg:=k0 [(347,[c? 16 [.u 8 De,.u 9 De,.g 10 8,.p 7 [.o 4,.d i64,.o 5,.d .bool,.o 9]],⟨0,13,[(10,De)],[(7,4,De)],[],[],[.t 11 i64,.u 8 De,.u 4 .str,.u 5 i64,.u 9 De,.g 10 8,.p 7 [.o 4,.d i64,.o 5,.d .bool,.o 9],.p 2 [.o 4,.d i64,.o 5,.d .bool,.o 6],.p 3 [.o 4,.d i64,.o 5,.d .bool,.o 6]],[(.exit 0,[.u 8 De,.u 4 .str,.u 5 i64,.u 9 De,.g 10 8,.p 7 [.o 4,.d i64,.o 5,.d .bool,.o 9],.p 2 [.o 4,.d i64,.o 5,.d .bool,.o 6],.p 3 [.o 4,.d i64,.o 5,.d .bool,.o 6]])]⟩,c? 29 [.t 12 .bool,.u 4 .str,.p 7 [.o 4,.d i64,.d (.list i64),.d .bool,.o 9],.p 2 [.o 4,.d i64,.d (.list i64),.d .bool,.o 6],.p 3 [.o 4,.d i64,.d (.list i64),.d .bool,.o 6]],c? 26 [.t 12 .bool,.u 4 .str,.p 2 [.o 4,.d i64,.d (.list i64),.d .bool,.o 6],.p 3 [.o 4,.d i64,.d (.list i64),.d .bool,.o 6],.p 7 [.o 4,.d i64,.d (.list i64),.d .bool,.o 9]],c? 24 [.t 12 .bool,.u 4 .str,.p 2 [.o 4,.d i64,.d (.list i64),.d .bool,.o 6],.p 3 [.o 4,.d i64,.d (.list i64),.d .bool,.o 6],.p 7 [.o 4,.d i64,.d (.list i64),.d .bool,.o 9]],⟨0,20,[],[],[5],[],[.t 12 .bool,.t 13 i64,.u 4 .str,.u 6 De,.u 4 .str,.u 6 De,.u 4 .str,.u 9 De,.p 2 [.o 4,.d i64,.d (.list i64),.d .bool,.o 6],.p 3 [.o 4,.d i64,.d (.list i64),.d .bool,.o 6],.p 7 [.o 4,.d i64,.d (.list i64),.d .bool,.o 9]],[(.exit 2,[.t 12 .bool,.u 4 .str,.u 6 De,.u 9 De,.p 2 [.o 4,.d i64,.d (.list i64),.d .bool,.o 6],.p 3 [.o 4,.d i64,.d (.list i64),.d .bool,.o 6],.p 7 [.o 4,.d i64,.d (.list i64),.d .bool,.o 9]])]⟩,c? 32 [.u 4 .str,.p 7 [.o 4,.d i64,.d (.list i64),.d .bool,.o 9],.p 2 [.o 4,.d i64,.d (.list i64),.d .bool,.o 6],.p 3 [.o 4,.d i64,.d (.list i64),.d .bool,.o 6]],c? 45 [.p 7 [.o 4,.d i64,.d (.list i64),.d .bool,.o 9]],c? 43 [.p 7 [.o 4,.d i64,.d (.list i64),.d .bool,.o 9]],c? 39 [.u 4 .str,.p 7 [.o 4,.d i64,.d (.list i64),.d .bool,.o 9],.p 2 [.o 4,.d i64,.d (.list i64),.d .bool,.o 6],.p 3 [.o 4,.d i64,.d (.list i64),.d .bool,.o 6]],e? 34 [14,.u 4 .str,.u 6 De,.u 4 .str,.u 6 De,.u 4 .str,.u 9 De,.p 2 [.o 4,.d i64,.d (.list i64),.d .bool,.o 6],.p 3 [.o 4,.d i64,.d (.list i64),.d .bool,.o 6],.p 7 [.o 4,.d i64,.d (.list i64),.d .bool,.o 9]] 5 [.u 4 .str,.u 6 De,.u 9 De,.p 2 [.o 4,.d i64,.d (.list i64),.d .bool,.o 6],.p 3 [.o 4,.d i64,.d (.list i64),.d .bool,.o 6],.p 7 [.o 4,.d i64,.d (.list i64),.d .bool,.o 9]]])] (A7 Mo (A7 RG (A7 dt CK)))
def K8:a? 423 [EV,i64,TE] [EV] IF:=k0 [] CK
def bc:a? 381 [EV,i64,i64] [EV,i64] Ph:=k0 [(381,[c? 14 [g? 2 TE],c? 12 [g? 2 TE]])] (A7 EP (A7 GV (A7 K8 CK)))
def Dm:a? 386 [(.list B5),i64] [i64] Ca:=k0 [] (A7 J9 CK)
def D3:a? 200 [Aj] [.bool] BJ:=k0 [] CK
def Od:a? 359 [A4,i64] [i64] Eh:=k0 [] (A7 CQ (A7 IX (A7 Ja CK)))
def Zh:a? 25 [Bo,Aj] [Bo,i64,i64] KD:=k0 [] (A7 CO (A7 GU (A7 Dv CK)))
def Gv:a? 387 [Bo,i64] [Aj,i64] E7:=k0 [] (A7 CO (A7 GU CK))
def Mp:a? 425 [(.list B5),i64] [(.list B5)] Gb:=k0 [(425,[c? 6 [.u 0 B5,.g 5 0],⟨0,3,[(5,B5)],[],[],[],[.t 6 i64,.u 0 B5,.g 5 0],[(.exit 0,[.u 0 B5,.g 5 0])]⟩])] CK
def Ru:a? 427 [B5] [B5] H6:=k0 [(427,[c? 2 [g? 0 B5]])] CK
def Pd:a? 426 [(.list B5),i64,B5] [(.list B5)] IG:=k0 [] CK
def UG:a? 388 [(.list B5),Aj] [(.list B5),i64] GN:=k0 [(388,[c? 24 [.u 2 i64,.g 8 2],⟨0,21,[(8,i64)],[],[],[],[.t 9 i64,.u 2 i64,.g 8 2],[(.exit 2,[.u 2 i64,.g 8 2])]⟩,d? 19 [.t 4 (.list B5),5,.x 1] [g? 1 B5],hn 2 17 [.x 1] [(.normal,[g? 1 B5]),(.ret,[.t 4 (.list B5),5,.x 1])]])] (A7 FF (A7 Dv (A7 J9 (A7 Mp (A7 Ru (A7 Pd CK))))))
def gh:a? 428 [EO,i64,DT] [EO] NU:=k0 [] CK
def UE:a? 389 [EO,Aj] [EO,i64] HS:=k0 [] (A7 GB (A7 Dv (A7 gh CK)))
def Fz:a? 351 [A4,Aj] [A4,i64,i64] ES:=k0 [(351,[d? 5 [5,6,g? 2 A4,.x 1] [g? 1 Aj,g? 2 A4],c? 10 [g? 1 Aj]])] (A7 CQ (A7 Dm (A7 D3 (A7 Od (A7 Zh (A7 Gv (A7 UG (A7 UE CK))))))))
def Yl:a? 348 [A4,i64,i64] [A4,i64] Ji:=k0 [(348,[d? 7 [7,g? 1 A4,.x 2] [g? 2 EV,g? 1 A4]])] (A7 CQ (A7 Hp (A7 Fc (A7 bc (A7 Fz CK)))))
def TS:a? 325 [A3,A4,BH] [A3,i64] Le:=k0 [] (A7 G4 (A7 bT (A7 Yl CK)))
def bw:a? 299 [A3,i64] [A3,i64] Ld:=k0 [] (A7 bh (A7 Fc (A7 TS CK)))
def bd:a? 382 [EV] [(.list B9)] LN:=k0 [(382,[c? 9 [.u 1 B9,.g 3 1],⟨0,5,[(3,B9)],[],[],[],[.t 4 i64,.u 1 B9,.g 3 1],[(.exit 0,[.u 1 B9,.g 3 1])]⟩])] (A7 EP (A7 GV CK))
def iY:a? 349 [A4] [HI,i64] O0:=k0 [(349,[c? 9 [.u 3 B9,.p 2 [.d i64,.d i64,.d (.list B5),.o 3,.d EO]],c? 14 [.u 3 B9,.p 2 [.d i64,.d i64,.d (.list B5),.o 3,.d EO]],e? 11 [46,.u 3 B9,.p 2 [.d i64,.d i64,.d (.list B5),.o 3,.d EO]] 2 [.u 3 B9,.p 2 [.d i64,.d i64,.d (.list B5),.o 3,.d EO]],⟨0,5,[],[(2,3,B9)],[],[],[.t 5 i64,.u 3 B9,.p 2 [.d i64,.d i64,.d (.list B5),.o 3,.d EO]],[(.exit 0,[.u 3 B9,.p 2 [.d i64,.d i64,.d (.list B5),.o 3,.d EO]])]⟩])] (A7 CQ (A7 Ja (A7 bd CK)))
def TQ:a? 383 [HI] [.bool] G0:=k0 [(383,[f? 4 [3] [.t 2 .bool] 0 []])] (A7 FF (A7 PE (A7 GB CK)))
def Yk:a? 424 [.str,(.list i64)] [.str] HT:=k0 [(424,[e? 2 [.t 0 .str,5] 0 [.t 0 .str]])] (A7 DZ CK)
def Zp:a? 384 [(.list B5)] [.str,i64] KH:=k0 [(384,[e? 5 [.t 4 .str,5] 0 [.t 4 .str]])] (A7 FF (A7 DZ (A7 Yk CK)))
def Zn:a? 385 [EO] [.str,i64] Hz:=k0 [(385,[e? 5 [.t 4 .str,5] 0 [.t 4 .str]])] (A7 GB (A7 DZ CK))
def Zv:a? 350 [HI] [.str,i64] Gc:=k0 [(350,[e? 9 [.t 6 .str,7] 0 [.t 6 .str]])] (A7 TQ (A7 Zp (A7 DZ (A7 Zn CK))))
def eK:a? 326 [A4] [A4,i64,i64] QX:=k0 [] (A7 iY (A7 Zv (A7 Fz (A7 JY CK))))
def WN:a? 300 [A3] [A3,i64,i64] Kz:=k0 [] (A7 eK CK)
def dr:a? 352 [FY,i64,.str,i64] [FY,i64] QS:=k0 [] (A7 Mo (A7 RG CK))
def JX:a? 126 [.str] [.str] Da:=k0 [] (A7 DZ (A7 K7 CK))
def dw:a? 390 [i64] [.str] MO:=k0 [] (A7 DZ (A7 JX CK))
def du:a? 271 [.str,Kh] [.str] GK:=k0 [] (A7 DZ CK)
def Rs:a? 204 [Aj] [.str,i64] Fe:=k0 [] (A7 Dv (A7 DZ (A7 du CK)))
def bX:a? 391 [Aj] [.str] Ie:=k0 [] (A7 Rs (A7 JX CK))
def bW:a? 353 [Bo,i64] [.str] Gx:=k0 [(353,[c? 8 [.t 5 .str,.t 6 .str],e? 5 [.t 5 .str,.t 6 .str,7] 0 [.t 5 .str,.t 6 .str]])] (A7 CO (A7 dw (A7 bX CK)))
def bv:a? 327 [A3,i64,i64,i64] [FY,.str] Lc:=k0 [(327,[c? 8 [g? 3 FY],c? 4 [g? 2 A4,g? 3 FY]])] (A7 Fc (A7 G4 (A7 JZ (A7 dr (A7 bW CK)))))
def EK:a? 206 [.str,i64,i64] [i64,i64] Az:=k0 [(206,[e? 7 [.t 8 (.int .u64),9] 0 [.t 8 (.int .u64)]])] CK
def Lo:a? 133 [.str,i64] [.str,i64,i64] BZ:=k0 [] (A7 EK (A7 K7 CK))
def NM:b? 335 0 OS [i64] [i64] BP:=k1 [] (A7 EK CK)
def Nh:b? 337 0 OS [i64] [.str] Cu:=k1 [] CK
def Vz:b? 336 0 OS [] [Kh] Cl:=k1 [] (A7 NM (A7 Nh CK))
def Rr:a? 307 [.str] [Aj,i64] EA:=k0 [] (A7 NM (A7 Vz (A7 Nh (A7 Dv CK))))
def dv:a? 392 [.str] [Bo,i64] JO:=k0 [(392,[⟨0,8,[],[(1,1,Aj)],[],[],[.t 5 i64,.u 2 Aj,.p 1 [.d i64,.o 2,.d i64],.p 0 [.d Bo]],[(.ret,[.t 3 i64,.p 0 [.d Bo],.x 1,.x 2]),(.exit 0,[.u 2 Aj,.p 1 [.d i64,.o 2,.d i64],.p 0 [.d Bo]])]⟩])] (A7 Lo (A7 EK (A7 Rr CK)))
def NN:b? 462 0 GS [i64] [i64] Cd:=k1 [] (A7 EK CK)
def V0:b? 463 0 GS [i64] [(.list i64)] F8:=k1 [(463,[⟨0,3,[(5,i64)],[],[],[],[.t 6 i64,.u 1 i64,.g 5 1,.p 0 [.d GS]],[(.exit 0,[.u 1 i64,.g 5 1,.p 0 [.d GS]])]⟩])] (A7 NN CK)
def Zo:a? 460 [.str] [(.list B5),i64] KG:=k0 [(460,[⟨0,4,[(5,B5)],[],[],[],[.t 6 i64,.u 1 B5,.g 5 1,.p 0 [.d GS]],[(.exit 0,[.u 1 B5,.g 5 1,.p 0 [.d GS]])]⟩])] (A7 NN (A7 V0 (A7 FF CK)))
def Zm:a? 461 [.str] [EO,i64] Ef:=k0 [(461,[⟨0,8,[],[(1,0,DT)],[],[],[.t 7 i64,.u 2 DT,.p 1 [.o 2]],[(.exit 1,[.u 2 DT,.p 1 [.o 2]])]⟩])] (A7 EK (A7 GB CK))
def Zu:a? 457 [.str] [HI,i64] DA:=k0 [(457,[⟨0,15,[],[(1,3,B9)],[],[],[.t 9 i64,.t 11 i64,.u 2 B9,.p 1 [.d i64,.d i64,.d (.list B5),.o 2,.d EO]],[(.exit 0,[.t 9 i64,.u 2 B9,.p 1 [.d i64,.d i64,.d (.list B5),.o 2,.d EO]])]⟩])] (A7 EK (A7 Zo (A7 Zm (A7 TQ CK))))
def Zw:a? 453 [Bo] [HI,i64,.bool] Oz:=k0 [(453,[f? 4 [5,g? 1 HI] [3,.t 4 .bool,g? 1 HI] 0 [g? 1 HI]])] (A7 CO (A7 Zu CK))
def bp:a? 429 [Bo,i64] [FC,i64] Pj:=k0 [] (A7 Zw (A7 U3 CK))
def bn:a? 454 [(.list B9),Aj] [(.list B9)] G1:=k0 [(454,[c? 10 [.t 6 .bool,.u 1 B9,.g 5 1],c? 18 [g? 2 B9],hn 2 15 [.x 2] [(.normal,[g? 2 B9]),(1,[g? 2 B9])],hn 2 13 [.x 2] [(.normal,[.t 6 .bool,g? 2 B9]),(1,[.t 6 .bool,g? 2 B9])],⟨0,6,[(5,B9)],[],[],[],[.t 6 .bool,.t 7 i64,.u 1 B9,.g 5 1],[(.exit 0,[.t 6 .bool,.u 1 B9,.g 5 1])]⟩,c? 21 [.u 1 B9,.g 5 1]])] (A7 D3 CK)
def eM:a? 430 [FC,Aj] [FC,i64] MY:=k0 [(430,[d? 2 [5,g? 2 FC,.x 0] [g? 0 FC,g? 2 FC]])] (A7 Dm (A7 TO (A7 UG (A7 UE (A7 D3 (A7 bn CK))))))
def eL:a? 458 [Bp,Bp] [.bool] FV:=k0 [] CK
def eN:a? 455 [(.list Bp),Bp] [(.list Bp)] Qb:=k0 [(455,[e? 2 [5] 0 [5]])] (A7 eL CK)
def bo:a? 431 [Bo,(.list B5)] [(.list Bp),i64] LZ:=k0 [(431,[f? 6 [.t 6 (.list Bp),8] [.t 4 (.list Bp),5] 2 [.t 6 (.list Bp)],f? 3 [.t 6 (.list Bp),7] [.t 4 (.list Bp),5] 0 [.t 6 (.list Bp)]])] (A7 Gv (A7 eN CK))
def Yo:a? 393 [Bo,i64] [FC,i64] Jl:=k0 [(393,[f? 9 [8,g? 2 FC,g? 1 FC] [5,g? 1 FC,.x 2] 0 [g? 2 FC,g? 1 FC],c? 20 [.u 3 B5,.g 9 3],⟨0,17,[(9,B5)],[],[],[],[.t 10 i64,.u 3 B5,.g 9 3],[(.exit 2,[.u 3 B5,.g 9 3])]⟩])] (A7 CO (A7 bp (A7 eM (A7 bo CK))))
def br:a? 394 [Bo,FC,i64] [A4,i64] La:=k0 [(394,[f? 8 [11,g? 4 A4,g? 2 A4] [7,g? 2 A4,.x 4] 0 [g? 4 A4,g? 2 A4]])] (A7 U2 (A7 CQ (A7 Fz CK)))
def eS:a? 354 [FY,.str,i64,i64] [A3,i64] Qf:=k0 [] (A7 dv (A7 Yo (A7 br CK)))
def eT:a? 328 [FY,.str,i64,i64] [A3,i64] Qg:=k0 [] (A7 eS CK)
def Zl:a? 436 [EV] [EV,i64,i64] Ow:=k0 [(436,[e? 5 [g? 0 EV] 0 [g? 0 EV]])] (A7 EP (A7 K8 CK))
def eC:a? 437 [EV,i64] [EV,i64] MS:=k0 [(437,[c? 10 [.p 0 [.d i64,.o 2,.d i64]],c? 12 [.p 0 [.d i64,.o 2,.d i64]]])] (A7 EP (A7 GV CK))
def eF:a? 398 [A4] [A4,BH,.bool,i64] MW:=k0 [] (A7 CQ (A7 Zl (A7 Fc (A7 eC (A7 JZ CK)))))
def eR:a? 357 [A3] [A3,i64] Ma:=k0 [(357,[hn 0 1 [g? 0 A3,g? 1 A3] [(.ret,[3,g? 1 A3,.x 0])]])] (A7 eF (A7 TS CK))
def gb:a? 399 [(.list i64),i64] [.bool] NR:=k0 [(399,[f? 2 [5] [.t 4 .bool] 0 []])] CK
def dp:a? 358 [FY,i64] [.str,i64] MN:=k0 [] (A7 Mo (A7 gb CK))
def TI:a? 73 [] [.str] IZ:=k0 [] (A7 TK CK)
def Ze:a? 188 [.str] [BH,i64] Ec:=k0 [(188,[f? 14 [7,g? 1 BH,g? 0 BH] [3,g? 0 BH,.x 1] 1 [g? 1 BH,g? 0 BH]])] (A7 TI (A7 EK (A7 K7 (A7 G4 CK))))
def Ho:a? 118 [.str,i64] [BH,i64] CZ:=k0 [] (A7 Ze (A7 U0 CK))
def be:a? 360 [EO,i64,i64,.str] [BH,i64] LP:=k0 [] (A7 GB (A7 Ho CK))
def bY:a? 459 [Aj,(.list Aj)] [(.list Aj)] LK:=k0 [] CK
def dx:a? 456 [Bo,i64,i64,i64] [(.list Aj),i64] QT:=k0 [(456,[f? 7 [.t 10 (.list Aj),11] [.t 8 (.list Aj),9] 0 [.t 10 (.list Aj),11]])] (A7 CO (A7 Gv (A7 D3 (A7 bY CK))))
def bq:a? 438 [Bo,BH,i64] [(.list Aj),i64] VL:=k0 [] (A7 CO (A7 HK (A7 dx CK)))
def TL:a? 264 [BH,I5] [BH,i64] Ib:=k0 [] (A7 TM CK)
def TR:a? 194 [BH,Aj] [BH,i64] Ij:=k0 [] (A7 Dv (A7 D3 (A7 HK (A7 TL CK))))
def eP:a? 400 [Bo,BH,i64] [BH,i64,i64] Qe:=k0 [(400,[f? 5 [11,g? 1 BH,g? 2 BH] [7,8,g? 2 BH,.x 1] 0 [g? 1 BH,g? 2 BH]])] (A7 bq (A7 TR CK))
def eO:a? 361 [Bo,BH,i64] [BH,i64] Qd:=k0 [] (A7 eP CK)
def Zr:a? 362 [A4,BH] [A4,i64] KM:=k0 [(362,[c? 21 [.u 9 B9,.g 10 9],⟨0,18,[(10,B9)],[],[],[],[.t 11 i64,.u 9 B9,.g 10 9],[(.exit 1,[.u 9 B9,.g 10 9])]⟩,c? 14 [.u 6 TE,g? 0 A4,.p 3 [.d i64,.o 6,.d i64],.p 5 [.d i64,.o 6,.d i64],.p 7 [.d i64,.o 6,.d i64]]])] (A7 CQ (A7 Od (A7 EP (A7 HK (A7 Ja (A7 GV CK))))))
def Jb:a? 330 [A3,i64] [A3,i64] Ez:=k0 [] (A7 CQ (A7 Fc (A7 eR (A7 dp (A7 Od (A7 be (A7 eO (A7 Zr CK))))))))
def Rw:a? 363 [A4,i64] [B5,.bool] H7:=k0 [(363,[d? 2 [.t 5 .bool,g? 1 B5] [g? 1 B5]])] (A7 CQ (A7 Dm CK))
def eQ:a? 331 [A4] [(.list i64)] MZ:=k0 [(331,[c? 7 [.u 1 i64,.g 3 1],⟨0,3,[(3,i64)],[],[],[],[.t 4 i64,.u 1 i64,.g 3 1],[(.exit 0,[.u 1 i64,.g 3 1])]⟩])] (A7 Rw CK)
def IM:a? 364 [A4,i64] [B5,i64] FM:=k0 [] (A7 CQ (A7 Dm CK))
def Ob:a? 403 [(.list Bp),i64,.bool,Iu] [(.list Bp)] GM:=k0 [(403,[c? 6 [.u 1 Bp,.g 9 1],⟨0,3,[(9,Bp)],[],[],[],[.t 10 i64,.u 1 Bp,.g 9 1],[(.exit 0,[.u 1 Bp,.g 9 1])]⟩])] CK
def dy:a? 439 [DH,i64] [.bool] MQ:=k0 [(439,[f? 2 [5] [.t 4 .bool] 0 [],f? 7 [6] [.t 4 .bool] 2 []])] (A7 Ko CK)
def dz:a? 440 [(.list Bp),Bp] [(.list Bp)] MR:=k0 [(440,[c? 7 [.t 6 .bool,.u 1 Bp,.g 5 1],c? 10 [.u 1 Bp,.g 5 1],⟨0,4,[(5,Bp)],[],[],[],[.t 6 .bool,.t 7 i64,.u 1 Bp,.g 5 1],[(.exit 0,[.t 6 .bool,.u 1 Bp,.g 5 1])]⟩,c? 12 [.u 1 Bp,.g 5 1]])] (A7 UB CK)
def I6:a? 402 [DH] [DH] Fg:=k0 [(402,[c? 5 [3,g? 0 DH],e? 2 [3,g? 0 DH] 0 [g? 0 DH]])] (A7 dy (A7 dz CK))
def Lq:a? 365 [DH,i64] [DH] HQ:=k0 [] (A7 FE (A7 Ob (A7 I6 CK)))
def eJ:a? 366 [A4,i64] [Aj,.bool] HU:=k0 [] (A7 IM (A7 Gv CK))
def Yh:a? 404 [I5] [I5] Jc:=k0 [] CK
def Zk:a? 441 [EV,BH] [EV,i64] KF:=k0 [(441,[c? 13 [g? 3 TE]])] (A7 EP (A7 HK (A7 GV (A7 K8 CK))))
def U4:a? 405 [A4,Aj] [A4,i64] J7:=k0 [] (A7 Fz (A7 IX (A7 Zk CK)))
def iX:a? 442 [A4,B5,Iu,i64] [Aj,.bool] Oy:=k0 [(442,[f? 2 [10,g? 3 Aj] [.t 9 .bool,g? 3 Aj] 0 [g? 3 Aj]])] (A7 Gv CK)
def Rv:a? 406 [A4,i64,Iu] [Aj,.bool] KR:=k0 [] (A7 IM (A7 iX CK))
def UA:a? 407 [DH,i64,Iu] [DH] MP:=k0 [] (A7 FE (A7 Ob (A7 I6 CK)))
def UJ:a? 367 [A4,B5,Aj] [A4,C7] GO:=k0 [(367,[c? 15 [g? 8 A4],c? 12 [g? 8 A4]])] (A7 IX (A7 Yh (A7 TL (A7 Cr (A7 U4 (A7 Rv (A7 UA CK)))))))
def UI:a? 332 [A4,i64] [A4,C7] JQ:=k0 [] (A7 IM (A7 Cr (A7 Fz (A7 Lq (A7 eJ (A7 UJ CK))))))
def eU:a? 303 [A3] [A3,.bool,i64] Mb:=k0 [(303,[hn 0 9 [g? 0 A3,g? 1 A3] [(.ret,[.t 3 .bool,4,g? 1 A3,.x 0])]])] (A7 CQ (A7 Jb (A7 eQ (A7 UI CK))))
def Zq:a? 443 [A4,E2] [i64] KJ:=k0 [(443,[c? 6 [.t 11 .bool],c? 5 [.t 11 .bool],c? 11 [g? 2 E2],c? 18 [.t 60 .bool],c? 17 [.t 60 .bool],d? 13 [4,.x 2] [g? 2 E2],d? 7 [4,.x 2] [g? 2 E2]])] CK
def IL:a? 373 [DH,i64] [Bp,.bool] FK:=k0 [(373,[f? 3 [6,g? 1 Bp] [.t 5 .bool,g? 1 Bp] 0 [g? 1 Bp],d? 2 [.t 5 .bool,g? 1 Bp] [g? 1 Bp]])] (A7 FE CK)
def UH:a? 414 [i64,E2] [Bp,.bool] JP:=k0 [(414,[c? 7 [.t 20 .bool]])] CK
def Yn:a? 409 [A4,i64,E2] [i64] Jk:=k0 [] (A7 CQ (A7 Dm (A7 Zq (A7 IL (A7 UH CK)))))
def Zt:a? 410 [A4,i64] [A4,C7] KQ:=k0 [(410,[hn 2 3 [.x 1,.x 2,.x 3] [(.normal,[g? 3 A4,g? 1 A4,g? 2 C7]),(.ret,[g? 1 A4,g? 2 C7,.x 3])]])] (A7 Dm (A7 Mp (A7 Fz (A7 Cr (A7 JZ (A7 Lq CK))))))
def Zi:a? 444 [DH,i64] [DH] Oo:=k0 [] (A7 FE (A7 Ob (A7 I6 CK)))
def Ym:a? 445 [A4,i64,Iu] [.bool] Jj:=k0 [(445,[f? 3 [8] [.t 6 .bool] 0 []])] (A7 Dm (A7 Gv CK))
def bj:a? 411 [A4,i64,i64] [A4,C7] Ii:=k0 [(411,[c? 15 [g? 3 A4],e? 12 [12,g? 3 A4] 0 [g? 3 A4]])] (A7 Zi (A7 Dm (A7 Mp (A7 Lq (A7 Fz (A7 Cr (A7 Ym (A7 UA CK))))))))
def Rt:a? 446 [(.list B5),i64] [i64,i64] H4:=k0 [] (A7 FF (A7 J9 CK))
def eE:a? 412 [(.list B5),i64] [(.list B5),i64] MV:=k0 [] (A7 Rt (A7 Pd CK))
def eD:a? 413 [(.list B5),i64,i64] [(.list B5),i64] MU:=k0 [] (A7 Rt (A7 Ru (A7 Pd CK)))
def bZ:a? 447 [DH,Bp] [i64] If:=k0 [(447,[f? 4 [5] [4] 0 []])] (A7 Oc CK)
def Yi:a? 415 [DH,Bp] [DH,.bool,i64] Nu:=k0 [] (A7 FE (A7 TN (A7 IL (A7 Oc (A7 bZ (A7 I6 CK))))))
def gf:a? 448 [EV,i64] [EV] NS:=k0 [] (A7 Fc (A7 K8 CK))
def Zs:a? 416 [A4,i64,E2] [A4,C7] KO:=k0 [(416,[c? 9 [g? 5 I5]])] (A7 IX (A7 gf (A7 U4 (A7 Cr CK))))
def UD:a? 420 [(.list i64),i64] [(.list i64)] FU:=k0 [(420,[c? 7 [.t 6 .bool,.u 0 i64,.g 5 0],c? 10 [.u 0 i64,.g 5 0],⟨0,4,[(5,i64)],[],[],[],[.t 6 .bool,.t 7 i64,.u 0 i64,.g 5 0],[(.exit 0,[.t 6 .bool,.u 0 i64,.g 5 0])]⟩,c? 12 [.u 0 i64,.g 5 0]])] CK
def Yj:a? 449 [DH] [(.list i64)] Je:=k0 [(449,[e? 4 [.t 3 (.list i64),4] 0 [.t 3 (.list i64)],c? 3 [.t 3 (.list i64)]])] (A7 FE (A7 UD CK))
def Pc:a? 374 [DH,i64] [(.list i64)] IE:=k0 [(374,[c? 9 [.t 7 (.list i64)],e? 6 [.t 7 (.list i64),8] 0 [.t 7 (.list i64)],c? 14 [.t 7 (.list i64)],e? 11 [.t 7 (.list i64),9] 2 [.t 7 (.list i64)]])] (A7 IL (A7 Ko (A7 UD CK)))
def Zj:A5 (.c0 450 [DH,(.list i64),i64] [(.list i64)] Ou):=AEj (P:=Tryz.prog) (F:=450) (ds:=[DH,(.list i64),i64]) (rs:=[(.list i64)]) (f:=En) (hs:=fu [(450,[f? 4 [30] [.t 6 (.list i64)] 0 [],e? 15 [.t 12 .bool,49] 4 [.t 12 .bool],f? 11 [43] [.t 6 (.list i64)] 2 []])]) (n:=13) (A7 Pc CK) (λg x=>by kernel_rfl)
def ba:a? 417 [DH,i64] [(.list i64)] LL:=k0 [(417,[f? 2 [5] [.t 4 (.list i64)] 0 []])] (A7 Yj (A7 Zj CK))
def bi:a? 451 [(.list i64)] [i64] LW:=k0 [] CK
def gi:a? 418 [A4,i64] [i64] NV:=k0 [] (A7 Pc (A7 bi CK))
def iW:a? 370 [A4,i64,E2] [A4,C7] Ox:=k0 [(370,[c? 10 [.t 46 .bool],c? 13 [.t 9 (.list B5),10]])] (A7 Yn (A7 Cr (A7 Zt (A7 bj (A7 eE (A7 eD (A7 UH (A7 Yi (A7 Zs (A7 ba (A7 gi CK)))))))))))
def RH:a? 371 [A3,i64] [.bool] ER:=k0 [] (A7 Dm CK)
def Xu:a? 372 [A3,i64] [A3,i64] Eo:=k0 [(372,[d? 12 [5,g? 1 A3,.x 0] [g? 0 A3,g? 1 A3],f? 5 [g? 0 A3,g? 1 A3] [5,g? 1 A3,.x 0] 0 [g? 0 A3,g? 1 A3]])] (A7 CQ (A7 Dm (A7 RH (A7 UI (A7 Jb CK)))))
def iZ:a? 340 [A3,i64,E2] [A3,C7] O1:=k0 [(340,[d? 10 [g? 2 A3,g? 3 C7,.x 0] [g? 0 A3,g? 2 A3,g? 3 C7],hn 0 1 [g? 0 A3,g? 2 A3,g? 3 C7] [(.ret,[g? 2 A3,g? 3 C7,.x 0])]])] (A7 iW (A7 Jb (A7 Cr (A7 RH (A7 Xu CK)))))
def Yp:a? 341 [A4,i64] [i64,Iu,.bool] Jm:=k0 [(341,[f? 5 [28,g? 1 Iu] [4,.t 6 .bool,g? 1 Iu] 0 [g? 1 Iu]])] (A7 IL (A7 Pc (A7 Rw CK)))
def eG:a? 375 [A4,i64,Iu] [A4,C7] MX:=k0 [] (A7 IM (A7 Cr (A7 Rv (A7 UJ CK))))
def eV:a? 342 [A3,i64,Iu] [A3,i64,i64] Mc:=k0 [(342,[d? 8 [7,8,g? 2 A3,.x 0] [9,g? 0 A3,g? 2 A3],hn 0 2 [9,g? 0 A3,g? 2 A3] [(.ret,[7,8,g? 2 A3,.x 0])]])] (A7 eG (A7 Jb CK))
def ia:a? 322 [A3,i64,E2] [A3,C7] O2:=k0 [(322,[hn 0 1 [g? 0 A3,g? 2 A3,g? 3 C7] [(.ret,[g? 2 A3,g? 3 C7,.x 0])]])] (A7 iZ (A7 Yp (A7 eV (A7 Cr CK))))
def gp:a? 197 [A3,(.list Sn)] [A3,(.list C7),(.list Xj)] NZ:=k0 [(197,[⟨0,4,[(8,C7)],[(2,18,i64),(2,19,Xj)],[],[],[.t 9 i64,.u 3 C7,.u 4 i64,.u 5 Xj,.g 8 3,.p 2 [.d A3,.o 4,.o 5,.d .bool]],[(.exit 0,[.u 3 C7,.u 4 i64,.u 5 Xj,.g 8 3,.p 2 [.d A3,.o 4,.o 5,.d .bool]])]⟩]),(268,[c? 5 [.u 4 i64,.p 2 [.d A3,.o 4,.o 5,.d .bool]],c? 19 [.p 2 [.d A3,.o 4,.o 5,.d .bool]]]),(297,[c? 2 [.p 2 [.d A3,.o 4,.o 5,.d .bool]]]),(298,[c? 9 [.u 5 Xj,.p 2 [.d A3,.o 4,.o 5,.d .bool]]]),(302,[e? 4 [9,.u 4 i64,.p 2 [.d A3,.o 4,.o 5,.d .bool]] 0 [.u 4 i64,.p 2 [.d A3,.o 4,.o 5,.d .bool]]])] (A7 bu (A7 Zx (A7 Cr (A7 bw (A7 WN (A7 Hp (A7 JY (A7 bv (A7 eT (A7 eU (A7 ia CK)))))))))))
def Vb:b? 128 0 BB [i64,.bool] [A3] HC:=k1 [] (A7 CR (A7 gl (A7 Ur (A7 gp CK))))
def Vx:b? 75 0 BB [i64,.bool] [A4] He:=k1 [] (A7 Vb CK)
def iV:b? 31 0 BB [i64] [i64,Bo] Kr:=k1 [] (A7 Vx (A7 Hp (A7 JY CK)))
def bO:b? 77 0 BB [i64] [(.list i64)] LC:=k1 [(77,[c? 6 [.u 1 i64,.g 5 1],e? 3 [6,.u 1 i64,.g 5 1,g? 0 BB] 0 [.u 1 i64,.g 5 1,g? 0 BB]])] (A7 CR CK)
def FG:a? 66 [BG] [.bool] C4:=k0 [(66,[f? 5 [3,4] [.t 2 .bool] 0 []])] (A7 Ry CK)
def Ni:a? 129 [BG,i64] [i64,i64] E0:=k0 [(129,[c? 3 [5]])] CK
def RJ:a? 199 [i64,i64,i64,i64,i64] [.bool] HX:=k0 [] CK
def RI:a? 270 [Aj,Aj] [i64] Dx:=k0 [] CK
def I7:a? 201 [(.list Aj),Aj] [(.list Aj),.bool] DB:=k0 [(201,[e? 2 [6] 0 [6]])] (A7 RI CK)
def HM:a? 202 [Bh] [.bool] EM:=k0 [(202,[d? 12 [.t 2 .bool] [],f? 4 [3] [.t 2 .bool] 0 []])] (A7 RJ (A7 Dv (A7 D3 (A7 RI CK))))
def eX:a? 130 [(.list Aj),i64,i64,i64,i64,i64] [Bh,i64] JR:=k0 [(130,[f? 4 [14,g? 0 Bh] [13,g? 0 Bh] 0 [g? 0 Bh],e? 16 [.t 16 .bool,19] 4 [.t 16 .bool],e? 11 [.t 16 .bool,17,g? 1 Bh] 2 [.t 16 .bool,g? 1 Bh]])] (A7 RJ (A7 Dv (A7 D3 (A7 I7 (A7 HM CK)))))
def eW:a? 203 [Bh] [.str] HW:=k0 [] (A7 DZ CK)
def Rx:a? 131 [Bh] [.str,i64] Gd:=k0 [(131,[e? 5 [.t 4 .str,5] 0 [.t 4 .str]])] (A7 HM (A7 eW (A7 JX (A7 Rs CK))))
def ej:a? 78 [BG,Bo,i64] [BG,i64] Ei:=k0 [(78,[f? 15 [11,g? 2 BG] [7,g? 2 BG] 0 [g? 2 BG],f? 22 [13,.u 4 D8,.p 3 [.d (.list i64),.d i64,.o 4,.d i64,.d i64],g? 2 BG] [7,g? 2 BG,.x 3,.x 4] 2 [.u 4 D8,.p 3 [.d (.list i64),.d i64,.o 4,.d i64,.d i64],g? 2 BG]])] (A7 FG (A7 CO (A7 Ni (A7 eX (A7 Rx CK)))))
def Z0:a? 306 [.str,i64,i64] [i64] BR:=k0 [] (A7 EK CK)
def Zy:a? 272 [.str] [Bh,i64] Fj:=k0 [(272,[⟨0,11,[],[(1,5,Aj)],[],[],[.t 5 i64,.t 9 i64,.u 2 Aj,.p 1 [.d i64,.d i64,.d i64,.d i64,.d i64,.o 2],.p 0 [.d Bh]],[(.ret,[.t 3 i64,.p 0 [.d Bh],.x 1,.x 2]),(.exit 0,[.t 5 i64,.u 2 Aj,.p 1 [.d i64,.d i64,.d i64,.d i64,.d i64,.o 2],.p 0 [.d Bh]])]⟩])] (A7 Lo (A7 Z0 (A7 Rr (A7 HM CK))))
def W5:a? 273 [BG,Bh] [i64] FX:=k0 [(273,[f? 2 [5] [4] 0 []])] (A7 Ni CK)
def Z1:a? 207 [BG,D8] [Bh,i64] DD:=k0 [] (A7 Zy (A7 W5 CK))
def Yq:a? 208 [Bh,i64] [Bh] FN:=k0 [(208,[c? 8 [.u 3 Aj,.p 2 [.d i64,.d i64,.d i64,.d i64,.d i64,.o 3]],⟨0,5,[],[(2,5,Aj)],[],[],[.t 6 i64,.u 3 Aj,.p 2 [.d i64,.d i64,.d i64,.d i64,.d i64,.o 3]],[(.exit 0,[.u 3 Aj,.p 2 [.d i64,.d i64,.d i64,.d i64,.d i64,.o 3]])]⟩])] CK
def TT:a? 136 [BG] [(.list Bh),(.list i64),(.list .bool)] F5:=k0 [(136,[e? 14 [11] 4 [11],e? 9 [.t 6 (.list Bh),.t 7 (.list i64),8] 2 [.t 6 (.list Bh),.t 7 (.list i64)],e? 20 [12,13,.u 1 Bh,.u 2 i64,.u 3 .bool,.g 2 1,.g 3 2,.g 4 3] 6 [.u 1 Bh,.u 2 i64,.u 3 .bool,.g 2 1,.g 3 2,.g 4 3],⟨0,4,[(2,Bh),(3,i64),(4,.bool)],[],[],[],[.t 5 i64,.u 1 Bh,.u 2 i64,.u 3 .bool,.g 2 1,.g 3 2,.g 4 3],[(.exit 0,[.u 1 Bh,.u 2 i64,.u 3 .bool,.g 2 1,.g 3 2,.g 4 3])]⟩])] (A7 FG (A7 Z1 (A7 Yq CK)))
def bx:a? 205 [(.list Bh),(.list .bool)] [Bh,.bool] Lf:=k0 [(205,[e? 8 [8,g? 1 Bh] 2 [g? 1 Bh],f? 3 [7,g? 1 Bh,g? 0 Bh] [.t 5 .bool,g? 0 Bh,.x 1] 0 [g? 1 Bh,g? 0 Bh]])] (A7 I7 (A7 HM CK))
def er:a? 132 [BG,i64] [BG,.bool,i64] Md:=k0 [(132,[e? 20 [.t 15 .bool,16] 4 [.t 15 .bool],c? 24 [.u 4 D8,.p 3 [.d (.list i64),.d i64,.o 4,.d i64,.d i64]],⟨0,16,[],[(3,2,D8)],[],[],[.t 14 i64,.u 4 D8,.p 3 [.d (.list i64),.d i64,.o 4,.d i64,.d i64]],[(.exit 2,[.u 4 D8,.p 3 [.d (.list i64),.d i64,.o 4,.d i64,.d i64]])]⟩,f? 7 [10,g? 1 BG] [.t 5 .bool,6,g? 1 BG] 0 [g? 1 BG]])] (A7 FG (A7 TT (A7 bx (A7 Rx CK))))
def eu:a? 79 [BG,i64] [BG,i64] JS:=k0 [(79,[hn 0 1 [g? 0 BG,g? 1 BG] [(.ret,[5,g? 1 BG,.x 0])]])] (A7 er CK)
def Zd:b? 32 0 BB [i64,Bo] [BG] Ol:=k1 [(32,[c? 7 [g? 3 BG],c? 11 [g? 3 BG],c? 9 [g? 0 BB,g? 3 BG],e? 3 [9,g? 0 BB,g? 3 BG] 0 [g? 0 BB,g? 3 BG],c? 15 [g? 3 BG],c? 13 [g? 3 BG]])] (A7 bO (A7 U5 (A7 CR (A7 ej (A7 eu CK)))))
def dn:a? 27 [i64,i64] [BS] JN:=k0 [(27,[⟨0,3,[],[(1,2,El)],[],[],[.t 6 i64,.u 2 El,.p 1 [.d i64,.d i64,.o 2]],[(.exit 0,[.u 2 El,.p 1 [.d i64,.d i64,.o 2]])]⟩])] (A7 TI CK)
def HN:a? 84 [BS] [.bool] Dd:=k0 [(84,[f? 4 [3] [.t 2 .bool] 0 []])] (A7 Ho CK)
def Z5:a? 72 [BS] [.str,i64] H8:=k0 [(72,[e? 7 [.t 5 .str,6] 0 [.t 5 .str]])] (A7 HN (A7 DZ (A7 JX CK)))
def gZ:a? 26 [BS] [D8] J3:=k0 [] (A7 Z5 CK)
def TX:a? 83 [BS] [.bool] Il:=k0 [] (A7 HN CK)
def UK:a? 39 [BS,i64] [El,.bool] HY:=k0 [(39,[f? 2 [6,g? 1 El] [.t 5 .bool,g? 1 El] 0 [g? 1 El]])] (A7 HN CK)
def fB:a? 68 [BS,i64] [BH,i64] Me:=k0 [] (A7 HN (A7 UK (A7 Ho CK)))
def TW:a? 40 [BG,Bo,i64,i64,i64] [i64] G2:=k0 [] (A7 FG (A7 CO CK))
def eY:a? 86 [BG,i64] [i64,i64,.bool] Qh:=k0 [(86,[e? 4 [7] 0 [7]])] (A7 FG (A7 Ni CK))
def eZ:a? 87 [BG] [(.list Bh),(.list i64)] Qi:=k0 [] (A7 TT CK)
def QL:a? 42 [BG,Bo,i64] [OT] JG:=k0 [(42,[c? 8 [.u 4 Bh,.u 5 i64,.p 3 [.o 4,.o 5,.d Bo]],⟨0,5,[],[(3,0,Bh),(3,1,i64)],[],[],[.t 13 i64,.u 4 Bh,.u 5 i64,.p 3 [.o 4,.o 5,.d Bo]],[(.exit 0,[.u 4 Bh,.u 5 i64,.p 3 [.o 4,.o 5,.d Bo]])]⟩])] (A7 eY (A7 eZ CK))
def TU:a? 135 [Bo,i64] [.bool] Ik:=k0 [] CK
def fA:a? 85 [OT,i64] [i64] Ql:=k0 [(85,[c? 6 [5],e? 3 [5,6] 0 [5],c? 8 [5]])] (A7 TU CK)
def RK:a? 41 [OT,i64,i64] [.bool] Jq:=k0 [(41,[f? 1 [1] [.t 6 .bool] 0 []])] (A7 fA CK)
def Zz:a? 263 [Bh,i64] [(.list Aj)] O4:=k0 [(263,[c? 8 [.u 1 Aj,.g 5 1],⟨0,5,[(5,Aj)],[],[],[],[.t 6 i64,.u 1 Aj,.g 5 1],[(.exit 0,[.u 1 Aj,.g 5 1])]⟩])] (A7 HM CK)
def Xv:a? 192 [(.list Bh),i64,i64,i64] [(.list Aj)] NI:=k0 [(192,[c? 10 [.t 9 (.list Aj)],e? 7 [.t 9 (.list Aj),12] 2 [.t 9 (.list Aj)],e? 3 [.t 9 (.list Aj),10] 0 [.t 9 (.list Aj)]])] (A7 Zz (A7 I7 CK))
def Z3:a? 193 [Bo,i64,i64,i64] [(.list Aj)] O6:=k0 [(193,[c? 7 [.u 1 Aj,.g 9 1],⟨0,3,[(9,Aj)],[],[],[],[.t 10 i64,.u 1 Aj,.g 9 1],[(.exit 0,[.u 1 Aj,.g 9 1])]⟩])] (A7 D3 CK)
def Z2:a? 261 [(.list Bh),i64] [i64] O5:=k0 [(261,[f? 2 [5] [4] 0 []])] CK
def gq:a? 262 [(.list Aj),Aj] [.bool] Na:=k0 [(262,[f? 2 [5] [.t 4 .bool] 0 []])] CK
def cA:a? 191 [(.list Bh),Bo,(.list Aj),(.list Aj)] [(.list Aj),.bool] Pk:=k0 [(191,[f? 3 [.t 10 (.list Aj),11] [.t 8 (.list Aj),.t 9 .bool] 0 [.t 10 (.list Aj)],f? 9 [12] [.t 8 (.list Aj),.t 9 .bool] 2 []])] (A7 Z2 (A7 gq (A7 I7 (A7 TU CK))))
def ic:a? 120 [BG,Bo,i64,i64,i64] [(.list Aj),i64] S9:=k0 [(120,[f? 11 [16] [.t 10 (.list Aj),11] 0 []])] (A7 TW (A7 QL (A7 RK (A7 Xv (A7 Z3 (A7 cA CK))))))
def fE:a? 121 [BH,(.list Aj)] [BH,i64] Mg:=k0 [(121,[f? 2 [6,g? 0 BH,g? 1 BH] [5,g? 1 BH,.x 0] 0 [g? 0 BH,g? 1 BH]])] (A7 TR CK)
def fD:a? 69 [BH,BG,Bo,i64] [BH,i64] Qm:=k0 [] (A7 FG (A7 CO (A7 G4 (A7 ic (A7 fE CK)))))
def fC:a? 80 [BS,BG,Bo,i64,i64] [BS,i64] Mf:=k0 [(80,[c? 19 [g? 6 El],⟨0,11,[],[(4,2,El)],[],[],[.t 13 i64,.u 5 El,.p 4 [.d i64,.d i64,.o 5],.p 3 [.d BS]],[(.ret,[.t 11 i64,.p 3 [.d BS],.x 4,.x 5]),(.exit 0,[.u 5 El,.p 4 [.d i64,.d i64,.o 5],.p 3 [.d BS]])]⟩])] (A7 TX (A7 FG (A7 CO (A7 fB (A7 fD (A7 G4 CK))))))
def bQ:b? 33 0 BB [i64,BG,Bo] [(.list D8)] LD:=k1 [(33,[⟨2,4,[(9,D8)],[],[],[],[.x 4],[(.normal,[.u 4 D8,.g 9 4])]⟩,e? 7 [11,12,.u 4 D8,.g 9 4,g? 0 BB,g? 3 BS] 0 [.u 4 D8,.g 9 4,g? 0 BB,g? 3 BS]])] (A7 dn (A7 CR (A7 gZ (A7 fC CK))))
def gd:a? 34 [Bo,i64] [Bo,i64] J5:=k0 [] (A7 CO (A7 GU CK))
def Vy:b? 81 0 BB [.str] [.str] F7:=k1 [] (A7 CR CK)
def bP:b? 35 0 BB [(.list D8)] [(.list D8)] Dy:=k1 [] (A7 CR (A7 Vy CK))
def bM:b? 10 0 BB [] [i64,BG,Bo,Bo,(.list D8)] LB:=k1 [(10,[c? 6 [g? 0 BB,g? 2 Bo],c? 8 [g? 0 BB,g? 1 BG],c? 10 [.t 6 (.list D8),g? 0 BB]])] (A7 iV (A7 Zd (A7 bQ (A7 CR (A7 gd (A7 bP CK))))))
def Z6:a? 134 [.str,i64,i64] [i64] BR:=k0 [] (A7 EK CK)
def Z4:a? 82 [.str] [BS,i64] DE:=k0 [(82,[⟨0,11,[],[(1,2,El)],[],[],[.t 5 i64,.t 9 i64,.u 2 El,.p 1 [.d i64,.d i64,.o 2],.p 0 [.d BS]],[(.ret,[.t 3 i64,.p 0 [.d BS],.x 1,.x 2]),(.exit 0,[.t 5 i64,.u 2 El,.p 1 [.d i64,.d i64,.o 2],.p 0 [.d BS]])]⟩])] (A7 Lo (A7 Z6 (A7 Ho (A7 HN CK))))
def Z7:a? 38 [(.list D8)] [(.list BS)] KT:=k0 [(38,[e? 7 [.t 5 .bool,6] 2 [.t 5 .bool],e? 14 [9] 4 [9],e? 3 [.t 3 (.list BS),4] 0 [.t 3 (.list BS)]])] (A7 Z4 (A7 TX CK))
def Yr:a? 13 [BG,Bo,i64,i64,i64] [.bool] Jp:=k0 [] (A7 TW (A7 QL (A7 RK CK)))
def Wz:a? 3 [(.list (.int .u8)),(.int .u8)] [.bool] Ls:=k0 [(9,[c? 2 [.t 0 (.list (.int .u8))]]),(3,[f? 7 [12] [.t 4 .bool] 0 [],e? 12 [.t 14 .bool,15] 2 [.t 14 .bool]]),(12,[e? 9 [12] 2 [12],⟨0,4,[(8,DT)],[],[],[],[.t 9 i64,.u 4 DT,.g 8 4],[(.exit 0,[.u 4 DT,.g 8 4])]⟩])] (A7 bL (A7 bM (A7 Hp (A7 Yr (A7 S0 (A7 Z7 (A7 UK (A7 AD2 CK))))))))
end Go.Proofs.YtdbincbpjobdpaaGreat
