/- Texts of wip, joined and shortened by wip/tools/pack.py; nothing is assumed. -/
import Derived.Test.YtkgodfhnofpglaaGreatDoorK12
import Derived.Test.YtkgodfhnofpglaaGreatDoorProg
import Derived.KernelRfl
noncomputable section
set_option linter.all false
open Option renaming some->D
open Option renaming none->A
open Option renaming some->δ,none->ε
open List renaming replicate->ς
namespace Go.Proofs.YtkgodfhnofpglaaGreatDoor
open Go Go.Ab Go.Pm
set_option maxRecDepth 100000
def ZH:a? 216 [i64] [.bool] FO:=k0 [] B4
def Nb:a? 139 [i64,i64] [i64] D3:=k0 [] (A2 ZH B4)
def iw:a? 234 [(.list i64)] [i64] KO:=k0 [(234,[f? 3 [8] [2] 0 []])] B4
def Wk:a? 233 [BR,BR] [i64] Hl:=k0 [] (A2 Nb (A2 iw B4))
def Oj:Ax (.c2 456 BR [i64,i64,i64] [] [.fn (.func 233) [] []] Ck):=Om (hs:=ZA [(456,[e? 1 [10,.u 0 BR,.g 0 0] 0 [.u 0 BR]])]) (n:=13) B4 (λl x=>by kernel_rfl)
def QH:Ax (.c2 426 BR [i64,i64,i64] [] [.fn (.func 233) [] []] Eb):=Om (hs:=ZA [(426,[e? 2 [10,11,.u 0 BR,.g 0 0] 0 [10,.u 0 BR,.g 0 0]])]) (n:=13) (A2 Oj B4) (λl x=>by kernel_rfl)
def My:Ax (.c2 379 BR [i64,i64] [] [.fn (.func 233) [] []] Cv):=Om (hs:=ZA [(379,[e? 1 [8,.u 0 BR,.g 0 0] 0 [.u 0 BR],e? 4 [9,.u 0 BR,.g 0 0] 2 [.u 0 BR,.g 0 0]])]) (n:=13) (A2 Wk B4) (λl x=>by kernel_rfl)
def PM:Ax (.c2 380 BR [i64,i64,i64] [] [.fn (.func 233) [] []] EG):=nI (P:=Tryz.prog) (F:=380) (te:=BR) (ds:=[i64,i64,i64]) (rs:=[]) (post:=[.fn (.func 233) [] []]) (f:=λg p=>B5 g p.1 p.2) (hs:=ZA [(380,[e? 3 [10,11] 0 [10],e? 9 [13,.u 0 BR,.g 0 0] 2 [.u 0 BR],e? 15 [14,15] 4 [14],e? 21 [17,.u 0 BR,.g 0 0] 6 [.u 0 BR],e? 33 [20,21] 8 [20],c? 28 [20,21],c? 40 [.u 0 BR,.g 0 0],c? 42 [.u 0 BR,.g 0 0],c? 44 [.u 0 BR]])]) (n:=13) (A2 Wk (A2 QH B4)) (λg l x=>by kernel_rfl)
def QI:Ax (.c2 314 BR [i64] [] [.fn (.func 233) [] []] Ec):=Om (hs:=ZA [(314,[e? 2 [7,8,.u 0 BR,.g 0 0] 0 [7,.u 0 BR,.g 0 0],e? 7 [6,.u 0 BR,.g 0 0] 2 [.u 0 BR],e? 9 [7,8,.u 0 BR,.g 0 0] 4 [7,.u 0 BR,.g 0 0]])]) (n:=13) (A2 My (A2 PM B4)) (λl x=>by kernel_rfl)
def JV:Ax (.c2 232 BR [] [] [.fn (.func 233) [] []] Cr):=Om (hs:=ZA []) (n:=13) (A2 QI B4) (λl x=>by kernel_rfl)
def Rg:Ax (.cl 316 Ag):=sE (t:=24) (b:=4) (by kernel_rfl) (by kernel_rfl) (by kernel_rfl)
def kw:a? 285 [(.int .u64)] [i64] P5:=k0 [(285,[c? 2 [.t 0 (.int .u64),2],c? 5 [.t 0 (.int .u64),2],c? 8 [.t 0 (.int .u64),2]])] B4
def Pz:a? 210 [(.int .u64)] [i64] J3:=k0 [] (A2 kw B4)
def HE:a? 32 [Bf] [.bool] FW:=k0 [(32,[f? 5 [4] [.t 2 .bool] 0 [],f? 13 [5,89] [.t 2 .bool] 2 []])] B4
def gY:a? 71 [B0] [i64] CZ:=k0 [] B4
def ol:a? 125 [i64,Ag] [.bool] Nz:=k0 [] B4
def oh:a? 260 [i64] [.bool] Hm:=k0 [] B4
def iv:a? 261 [Kr] [.bool] DF:=k0 [] B4
def bC:a? 186 [I4] [.bool] Nx:=k0 [] (A2 oh (A2 iv B4))
def rj:a? 185 [I4] [.bool] MS:=k0 [] B4
def mq:a? 184 [Ag] [.bool] GC:=k0 [] B4
def mr:a? 187 [Ag] [.bool] Sg:=k0 [] B4
def ms:a? 188 [I4] [.bool] Sh:=k0 [] B4
def Sd:a? 72 [Ag] [.bool] GB:=k0 [(72,[c? 5 [.t 47 .bool],c? 8 [.t 67 .bool]])] (A2 ol (A2 bC (A2 rj (A2 mq (A2 mr (A2 ms B4))))))
def JZ:a? 33 [B0] [.bool] G8:=k0 [(33,[f? 4 [37] [.t 2 .bool] 0 []])] (A2 gY (A2 Sd B4))
def mu:a? 195 [Bf,B0,i64,i64] [i64] PP:=k0 [] (A2 HE (A2 JZ B4))
def bE:a? 132 [B0] [i64] QY:=k0 [] (A2 JZ (A2 gY B4))
def Q2:a? 281 [i64,i64] [.bool] Ny:=k0 [] (A2 ZH B4)
def jL:a? 353 [i64] [.bool] FO:=k0 [] B4
def Ul:a? 273 [(.list i64),i64] [i64,.bool] JR:=k0 [(273,[c? 6 [7,8],e? 3 [7,8] 0 [7]])] (A2 Q2 (A2 jL B4))
def ZG:a? 274 [Bf,i64] [i64,i64] J0:=k0 [] B4
def Tv:a? 208 [Bf,i64] [i64,i64,.bool] GA:=k0 [(208,[c? 5 [7]])] (A2 HE (A2 Ul (A2 ZG B4)))
def Pb:a? 213 [.str,i64,i64] [i64,i64] Bl:=k0 [(213,[e? 7 [.t 8 (.int .u64),35] 1 [.t 8 (.int .u64)]])] B4
def iy:a? 268 [] [(.arr 15 (.int .u32))] Ky:=k0 [(268,[c? 9 [.t 3 (.int .u32)],e? 7 [.t 3 (.int .u32),9] 2 [.t 3 (.int .u32)],e? 3 [4,g? 1 (.arr 15 (.int .u32))] 0 [g? 1 (.arr 15 (.int .u32))]])] B4
def Zc:a? 194 [.str] [(.int .u32)] ON:=k0 [(194,[e? 4 [.t 4 (.int .u32),9] 0 [.t 4 (.int .u32)]])] (A2 iy B4)
def ZI:a? 211 [.str,i64] [.str,i64,i64] Db:=k0 [] (A2 Pb (A2 Zc B4))
def Sx:a? 286 [.str,.str] [.bool] EK:=k0 [] B4
def U0:a? 212 [.str,.str] [.bool] Ep:=k0 [] (A2 Sx B4)
def TE:b? 420 0 QL [i64] [i64] Bv:=k1 [(420,[c? 6 [g? 0 QL]])] (A2 Pb B4)
def Us:b? 422 0 QL [i64] [.str] El:=k1 [(422,[c? 2 [g? 0 QL]])] B4
def gw:b? 421 0 QL [] [Kr] Ek:=k1 [] (A2 TE (A2 Us B4))
def oi:a? 377 [.str] [Ag,i64] JL:=k0 [] (A2 TE (A2 gw (A2 Us (A2 Sd B4))))
def nC:a? 423 [Bu] [.bool] MO:=k0 [] B4
def Tx:a? 199 [Ag] [.bool] BE:=k0 [] B4
def qg:a? 424 [Bu,Ag] [.bool] Pe:=k0 [] (A2 Tx B4)
def ot:a? 425 [Ag,Ag] [i64] OI:=k0 [] (A2 Nb (A2 iw B4))
def rq:a? 378 [Bu] [.bool] Ub:=k0 [(378,[f? 4 [18] [.t 2 .bool] 0 []])] (A2 nC (A2 Sd (A2 qg (A2 ot B4))))
def qf:a? 312 [.str] [Bu,i64] Kl:=k0 [(312,[⟨0,8,[],[(4,5,Ag)],[],[],[.t 5 i64,.t 32 i64,.u 5 Ag,.p 4 [.d i64,.d i64,.d i64,.d i64,.d i64,.o 5],.p 0 [.d Bu]],[(.ret,[.t 3 i64,.p 0 [.d Bu],.x 4,.x 5]),(.exit 0,[.t 5 i64,.u 5 Ag,.p 4 [.d i64,.d i64,.d i64,.d i64,.d i64,.o 5],.p 0 [.d Bu]])]⟩])] (A2 ZI (A2 U0 (A2 Pb (A2 oi (A2 rq B4)))))
def kq:a? 313 [Bf,Bu] [i64] MR:=k0 [(313,[f? 2 [11] [4] 0 []])] (A2 ZG B4)
def kp:a? 231 [Bf,Cm] [Bu,.bool] Gm:=k0 [] (A2 qf (A2 kq B4))
def mC:a? 235 [Bu,i64] [Bu] Nw:=k0 [(381,[f? 2 [8] [4] 0 []]),(315,[e? 5 [6,5,.u 3 Ag,.g 0 3] 0 [5,.u 3 Ag,.g 0 3]])] (A2 Rg B4)
def Py:a? 160 [Bf] [(.list Bu),(.list i64)] G6:=k0 [(160,[⟨0,5,[(4,BR)],[],[],[],[.t 19 i64,.u 1 BR,.g 4 1],[(.exit 0,[.u 1 BR,.g 4 1])]⟩,⟨0,14,[(2,Bu),(3,i64)],[],[],[],[.t 42 i64,.t 9 i64,.t 10 i64,.u 2 Bu,.g 2 2,.u 3 i64,.g 3 3],[(.exit 2,[.u 2 Bu,.g 2 2,.u 3 i64,.g 3 3])]⟩])] (A2 HE (A2 kp (A2 JV (A2 mC B4))))
def my:a? 196 [Bf,B0,i64] [(.list Nq)] PQ:=k0 [(196,[hn 3 1 [] []]),(207,[e? 4 [27,.u 2 Nq,.p 3 [.o 2],.y 6 .ready] 0 [.u 2 Nq,.p 3 [.o 2],.y 6 .ready]])] (A2 bE (A2 Tv (A2 Py B4)))
def Vu:a? 203 [Nq,i64] [.bool] Iw:=k0 [] B4
def kv:b? 270 1 i64 [Nq] [.bool] UM:=k1 [] (A2 Vu B4)
def mw:a? 197 [(.list Nq),i64] [i64] MN:=k0 [(197,[hn 0 1 [g? 0 i64] [(.ret,[4,.x 0])]]),(269,[f? 2 [8,g? 0 i64] [4,g? 0 i64] 0 [g? 0 i64]])] (A2 kv B4)
def iz:a? 130 [Bf,B0,i64,i64,i64] [(.list Ag),i64] Hn:=k0 [(130,[e? 14 [57,17,.m 9 .i64 Ag] 0 [17,.m 9 .i64 Ag],hn 0 24 [85,.m 9 .i64 Ag,g? 11 i64,g? 5 (.list Ag),g? 6 i64] [(4,[.m 9 .i64 Ag,g? 11 i64,g? 5 (.list Ag),g? 6 i64]),(.ret,[.m 9 .i64 Ag,g? 11 i64,g? 5 (.list Ag),g? 6 i64])],hn 0 43 [137,g? 5 (.list Ag),g? 6 i64] [(8,[g? 5 (.list Ag),g? 6 i64]),(.ret,[g? 5 (.list Ag),g? 6 i64])]]),(207,[hn 0 4 [27,.m 9 .i64 Ag,g? 11 i64,g? 5 (.list Ag),g? 6 i64,.y 14 .ready] [(0,[.m 9 .i64 Ag,g? 11 i64,g? 5 (.list Ag),g? 6 i64,.y 14 .ready]),(.ret,[.m 9 .i64 Ag,g? 11 i64,g? 5 (.list Ag),g? 6 i64,.y 14 .ret])]]),(201,[]),(269,[f? 2 [8] [4] 0 []])] (A2 mu (A2 my (A2 mw (A2 Tx (A2 Tv (A2 Py (A2 Vu (A2 QD B4))))))))
def R1:Ax (.c2 275 i64 [i64,i64] [] [] Lv):=Om (hs:=ZA [(275,[e? 1 [6,.u 0 i64,.g 0 0] 0 [.u 0 i64],e? 4 [7,.u 0 i64,.g 0 0] 2 [.u 0 i64,.g 0 0],hn 4 4 [] [(2,[]),(.normal,[])]])]) (n:=13) (A2 Q2 B4) (λl x=>by kernel_rfl)
def Nu:Ax (.c0 276 [] [] (λ_=>ε)):=λ_ _ h=>by cases h
def Ki:Ax (.c0 277 [] [] (λ_=>ε)):=λ_ _ h=>by cases h
def Lu:Ax (.c0 278 [] [] (λ_=>ε)):=λ_ _ h=>by cases h
def Kw:Ax (.c0 279 [] [] (λ_=>ε)):=λ_ _ h=>by cases h
def Hj:Ax (.c0 280 [] [] (λ_=>ε)):=λ_ _ h=>by cases h
def J7:Ax (.c0 282 [] [] (λ_=>ε)):=λ_ _ h=>by cases h
def Na:Ax (.c0 283 [] [] (λ_=>ε)):=λ_ _ h=>by cases h
def V1:Ax (.c2 209 i64 [i64,i64,i64] [] [] QB):=nI (P:=Tryz.prog) (F:=209) (te:=i64) (ds:=[i64,i64,i64]) (rs:=[]) (post:=[]) (f:=λg p=>OP g p.1 p.2) (hs:=ZA [(209,[hn 0 2 [1,2,3,.t 8 .bool,.t 9 .bool,.u 0 i64,.g 0 0] [(.ret,[.u 0 i64])],c? 8 [3,.u 0 i64,.g 0 0],c? 12 [11,12,.u 0 i64,.g 0 0],hn 4 15 [.x 0] [(.normal,[.u 0 i64,.g 0 0]),(.ret,[.u 0 i64])],hn 4 17 [.x 0] [(1,[1,.u 0 i64,.g 0 0]),(.normal,[1,.u 0 i64,.g 0 0])],c? 25 [1,2,.t 8 .bool,.u 0 i64,.g 0 0]])]) (n:=13) (A2 R1 (A2 Nu (A2 Ki (A2 Lu (A2 Kw (A2 Hj (A2 J7 (A2 Na (A2 Q2 B4))))))))) (λg l x=>by kernel_rfl)
def TR:Ax (.c2 134 i64 [] [] [] Lq):=Om (hs:=ZA []) (n:=13) (A2 V1 (A2 Pz B4)) (λl x=>by kernel_rfl)
def Wl:a? 138 [BY,BY] [i64] P3:=k0 [] (A2 Nb B4)
def ku:a? 143 [Dj,Dj] [i64] P2:=k0 [] (A2 Nb B4)
def PL:Ax (.c2 287 BY [i64,i64] [] [.fn (.func 138) [] []] I3):=Om (hs:=ZA [(287,[e? 1 [8,.u 0 BY,.g 0 0] 0 [.u 0 BY],e? 4 [9,.u 0 BY,.g 0 0] 2 [.u 0 BY,.g 0 0],hn 4 4 [] [(2,[]),(.normal,[])]])]) (n:=13) (A2 Wl B4) (λl x=>by kernel_rfl)
def Rh:Ax (.c0 288 [] [] (λ_=>ε)):=λ_ _ h=>by cases h
def PK:Ax (.c0 289 [] [] (λ_=>ε)):=λ_ _ h=>by cases h
def QF:Ax (.c0 290 [] [] (λ_=>ε)):=λ_ _ h=>by cases h
def Pk:Ax (.c0 291 [] [] (λ_=>ε)):=λ_ _ h=>by cases h
def L5:Ax (.c0 292 [] [] (λ_=>ε)):=λ_ _ h=>by cases h
def Oi:Ax (.c0 293 [] [] (λ_=>ε)):=λ_ _ h=>by cases h
def Q3:Ax (.c0 294 [] [] (λ_=>ε)):=λ_ _ h=>by cases h
def R2:Ax (.c2 215 BY [i64,i64,i64] [] [.fn (.func 138) [] []] Lw):=nI (P:=Tryz.prog) (F:=215) (te:=BY) (ds:=[i64,i64,i64]) (rs:=[]) (post:=[.fn (.func 138) [] []]) (f:=λg p=>Km g p.1 p.2) (hs:=ZA [(215,[hn 0 2 [1,2,3,.t 10 .bool,.t 11 .bool,.u 0 BY,.g 0 0] [(.ret,[.u 0 BY])],c? 8 [3,.u 0 BY,.g 0 0],c? 12 [13,14,.u 0 BY,.g 0 0],hn 4 15 [.x 0] [(.normal,[.u 0 BY,.g 0 0]),(.ret,[.u 0 BY])],hn 4 17 [.x 0] [(1,[1,.u 0 BY,.g 0 0]),(.normal,[1,.u 0 BY,.g 0 0])],c? 25 [1,2,.t 10 .bool,.u 0 BY,.g 0 0]])]) (n:=13) (A2 PL (A2 Rh (A2 PK (A2 QF (A2 Pk (A2 L5 (A2 Oi (A2 Q3 (A2 Wl B4))))))))) (λg l x=>by kernel_rfl)
def QE:Ax (.c2 137 BY [] [] [.fn (.func 138) [] []] GY):=Om (hs:=ZA []) (n:=13) (A2 R2 (A2 Pz B4)) (λl x=>by kernel_rfl)
def QG:Ax (.c2 297 Dj [i64,i64] [] [.fn (.func 143) [] []] Ea):=Om (hs:=ZA [(297,[e? 1 [8,.u 0 Dj,.g 0 0] 0 [.u 0 Dj],e? 4 [9,.u 0 Dj,.g 0 0] 2 [.u 0 Dj,.g 0 0],hn 4 4 [] [(2,[]),(.normal,[])]])]) (n:=13) (A2 ku B4) (λl x=>by kernel_rfl)
def S0:Ax (.c0 298 [] [] (λ_=>ε)):=λ_ _ h=>by cases h
def T9:Ax (.c2 219 Dj [i64] [] [.fn (.func 143) [] []] Iz):=Om (hs:=ZA [(219,[e? 2 [7,8,.u 0 Dj,.g 0 0] 0 [7,.u 0 Dj,.g 0 0],e? 7 [6,.u 0 Dj,.g 0 0] 2 [.u 0 Dj],e? 9 [7,8,.u 0 Dj,.g 0 0] 4 [7,.u 0 Dj,.g 0 0],c? 15 [.u 0 Dj,.g 0 0]])]) (n:=13) (A2 QG (A2 S0 B4)) (λl x=>by kernel_rfl)
def PJ:Ax (.c2 142 Dj [] [] [.fn (.func 143) [] []] EF):=Om (hs:=ZA []) (n:=13) (A2 T9 B4) (λl x=>by kernel_rfl)
def Z6:Ax (.cl 161 i64):=sE (t:=41) (b:=4) (by kernel_rfl) (by kernel_rfl) (by kernel_rfl)
def Sy:Ax (.cl 77 Cm):=sE (t:=45) (b:=4) (by kernel_rfl) (by kernel_rfl) (by kernel_rfl)
def bD:Ax (.c0 165 [] [] (λ_=>ε)):=λ_ _ h=>by cases h
def VY:Ax (.c0 319 [] [] (λ_=>ε)):=λ_ _ h=>by cases h
def Rz:Ax (.c0 320 [] [] (λ_=>ε)):=λ_ _ h=>by cases h
def Tr:Ax (.c0 321 [] [] (λ_=>ε)):=λ_ _ h=>by cases h
def Sz:Ax (.c0 322 [] [] (λ_=>ε)):=λ_ _ h=>by cases h
def Oh:Ax (.c0 323 [] [] (λ_=>ε)):=λ_ _ h=>by cases h
def Ri:Ax (.c0 324 [] [] (λ_=>ε)):=λ_ _ h=>by cases h
def Um:Ax (.c0 325 [] [] (λ_=>ε)):=λ_ _ h=>by cases h
def Uu:a? 54 [i64] [EH,i64] KD:=k0 [] B4
def Uv:a? 55 [i64] [D9,i64] Ng:=k0 [] B4
def iB:a? 56 [] [B0] KC:=k0 [] B4
def Uw:a? 21 [i64,i64] [Ay,i64] Gk:=k0 [] (A2 Uu (A2 Uv (A2 iB B4)))
def Ze:a? 102 [i64] [(.list .str)] Oq:=k0 [(102,[⟨0,3,[(3,.str)],[],[],[],[.t 4 i64,.u 0 .str,.g 3 0],[(.exit 0,[.u 0 .str,.g 3 0])]⟩])] B4
def Ut:a? 47 [i64] [Ej,i64] Fb:=k0 [] (A2 Ze B4)
def Ry:a? 39 [i64,(.list i64)] [.bool] FL:=k0 [(39,[f? 4 [5] [.t 4 .bool] 0 []])] B4
def Uy:a? 13 [i64,(.list i64)] [Bf,i64] EE:=k0 [] (A2 Ry B4)
def jC:a? 220 [i64] [.bool] Hm:=k0 [] B4
def rl:a? 299 [] [.str] Wz:=k0 [] (A2 S1 B4)
def gZ:a? 300 [.str,i64,i64] [i64] G2:=k0 [] (A2 Pb B4)
def uG:a? 301 [.str] [BC,.bool] V3:=k0 [(301,[hn 2 9 [.x 0,.x 1] [(.normal,[g? 1 BC,g? 0 BC]),(.ret,[.t 3 .bool,g? 0 BC,.x 1])],f? 3 [13,g? 1 BC,g? 0 BC] [.t 3 .bool,g? 0 BC,.x 1] 0 [g? 1 BC,g? 0 BC]])] (A2 gZ B4)
def qe:a? 189 [BC] [.bool] Vs:=k0 [] (A2 jC B4)
def rn:a? 190 [BC] [.bool] UP:=k0 [(190,[f? 2 [7] [.t 2 .bool] 0 []])] B4
def gy:b? 192 0 Xd [Kr] [] KA:=k1 [(192,[c? 3 [4]])] (A2 lO (A2 S1 B4))
def WP:a? 129 [BC] [.str,i64] M0:=k0 [(129,[e? 8 [29,g? 1 Xd] 1 [g? 1 Xd]])] (A2 qe (A2 rn (A2 lO (A2 gy (A2 S1 (A2 Zc B4))))))
def qd:a? 221 [.str] [BC,i64] Pd:=k0 [] (A2 rl (A2 gZ (A2 Zc (A2 uG (A2 WP B4)))))
def nB:a? 86 [i64] [BC] Fa:=k0 [] B4
def Tz:a? 145 [.str,i64] [BC,i64] GD:=k0 [] (A2 jC (A2 qd (A2 nB B4)))
def mE:a? 214 [.str] [Fe] Q9:=k0 [] (A2 Pb (A2 Tz B4))
def Se:a? 144 [BY] [.bool] Kk:=k0 [(144,[f? 4 [36] [.t 2 .bool] 0 []])] (A2 Tz B4)
def oo:a? 135 [.str] [BY,i64] JM:=k0 [(135,[⟨0,13,[],[(1,2,Fe)],[],[],[.t 5 i64,.t 50 i64,.u 2 Fe,.p 1 [.d i64,.d i64,.o 2],.p 0 [.d BY]],[(.ret,[.t 3 i64,.p 0 [.d BY],.x 1,.x 2]),(.exit 0,[.t 5 i64,.u 2 Fe,.p 1 [.d i64,.d i64,.o 2],.p 0 [.d BY]])]⟩])] (A2 ZI (A2 U0 (A2 Pb (A2 mE (A2 Se B4)))))
def qa:a? 136 [BY] [.bool] Vr:=k0 [] (A2 Se B4)
def Tw:a? 81 [(.list Cm)] [(.list BY)] G7:=k0 [(81,[⟨0,4,[(4,BY)],[],[],[],[.t 12 i64,.m 0 .i64 .bool,.u 1 BY,.g 4 1],[(.exit 0,[.m 0 .i64 .bool,.u 1 BY,.g 4 1])]⟩])] (A2 oo (A2 qa (A2 QE B4)))
def mz:a? 296 [Fe,i64] [i64] PR:=k0 [] B4
def qb:a? 218 [BY,i64] [i64,.bool] R5:=k0 [(295,[c? 6 [9,10],e? 3 [9,10] 0 [9]])] (A2 mz B4)
def jB:a? 141 [BY,i64] [Fe,.bool] UN:=k0 [] (A2 Se (A2 qb B4))
def mm:a? 82 [(.list Cm),i64,i64] [(.list Dj)] Sf:=k0 [(82,[hn 3 2 [] []]),(217,[⟨0,1,[],[(2,0,Dj)],[],[],[.t 3 i64,.u 5 Dj,.p 2 [.o 5],.y 4 .ready],[(.exit 0,[.u 5 Dj,.p 2 [.o 5],.y 4 .ready])]⟩])] (A2 Tw (A2 jB (A2 PJ B4)))
def jK:b? 84 1 Dj [BY] [.bool] S7:=k1 [] B4
def rk:a? 85 [BY,i64] [BC,i64] Wy:=k0 [] (A2 Se (A2 jB (A2 Tz B4)))
def k9:a? 128 [Bf,B0] [i64] QC:=k0 [] (A2 HE (A2 JZ B4))
def og:a? 272 [BC,I4] [BC,i64] UI:=k0 [] (A2 bC B4)
def rp:a? 206 [BC,Ag] [BC,i64] Ua:=k0 [] (A2 Sd (A2 Tx (A2 WP (A2 og B4))))
def ov:a? 131 [BC,(.list Ag)] [BC,i64] Uc:=k0 [(131,[f? 2 [12,g? 0 BC,g? 1 BC] [5,g? 1 BC,.x 0] 0 [g? 0 BC,g? 1 BC]])] (A2 rp B4)
def ou:a? 79 [BC,Bf,B0,i64] [BC,i64] JS:=k0 [] (A2 k9 (A2 WP (A2 iz (A2 ov B4))))
def om:a? 80 [Bf,B0,i64,i64,i64] [(.list i64),i64,i64,i64] N0:=k0 [(80,[]),(207,[⟨0,4,[],[(4,0,i64)],[],[],[.t 27 i64,.u 9 i64,.p 4 [.o 9],.y 8 .ready],[(.exit 0,[.u 9 i64,.p 4 [.o 9],.y 8 .ready])]⟩])] (A2 iz (A2 bE (A2 Tv (A2 Py (A2 TR B4)))))
def mF:a? 35 [(.list Cm),Bf,B0,i64,i64] [BC,de,i64] RD:=k0 [(35,[f? 10 [61,g? 4 BC,g? 5 de] [12,g? 4 BC,g? 5 de] 1 [g? 4 BC,g? 5 de]]),(83,[f? 2 [8,g? 6 Dj] [4,g? 6 Dj] 0 [g? 6 Dj]])] (A2 HE (A2 JZ (A2 Tw (A2 mm (A2 jK (A2 rk (A2 ou (A2 om (A2 nB B4)))))))))
def VW:b? 22 0 Bg [i64] [i64] G9:=k1 [] B4
def EZ:b? 22 0 Bg [i64] [i64] BF:=k1 [] (A2 VW B4)
def iG:a? 146 [i64,i64] [Az,i64] Nj:=k0 [] (A2 Uw (A2 Ut B4))
def Wt:b? 374 0 Bg [] [.str] IG:=k1 [(374,[c? 3 [3,g? 0 Bg],e? 6 [5,.u 1 (.int .u8),.g 4 1,g? 0 Bg] 0 [.u 1 (.int .u8),.g 4 1,g? 0 Bg]])] (A2 EZ B4)
def Xp:b? 375 0 Bg [] [i64] G3:=k1 [] (A2 EZ B4)
def Vv:b? 311 0 Bg [i64] [Ei] HX:=k1 [(311,[c? 5 [.t 15 .bool],c? 4 [.t 15 .bool],c? 8 [g? 0 Bg,g? 3 Ei],c? 11 [g? 0 Bg,g? 3 Ei],c? 6 [g? 0 Bg,g? 3 Ei],c? 13 [g? 0 Bg,g? 3 Ei]])] (A2 EZ (A2 Wt (A2 Xp B4)))
def Wu:b? 223 0 Bg [i64,i64,.bool] [Sp] IH:=k1 [(223,[c? 3 [.t 11 .bool],d? 12 [g? 0 Bg,g? 1 Sp] [g? 0 Bg,g? 1 Sp]])] (A2 EZ (A2 Vv B4))
def Uk:b? 148 0 Bg [i64,i64,.bool] [(.list Sp)] Gn:=k1 [(148,[e? 3 [10,.u 1 Sp,.g 9 1,g? 0 Bg] 0 [.u 1 Sp,.g 9 1,g? 0 Bg]])] (A2 EZ (A2 Wu B4))
def GK:a? 51 [B0] [i64] CZ:=k0 [] B4
def P0:a? 230 [Kr] [.bool] DF:=k0 [] B4
def TJ:a? 168 [I4] [.bool] IX:=k0 [] (A2 P0 B4)
def bM:a? 111 [Ag] [Ag,.bool] LP:=k0 [(111,[c? 4 [.t 13 .bool],c? 8 [.t 5 .bool,g? 2 Ag],c? 13 [.t 67 .bool],c? 12 [.t 67 .bool],c? 17 [.t 91 .bool]])] (A2 TJ B4)
def Zf:a? 112 [i64,i64] [.bool] GQ:=k0 [] B4
def Dm:a? 62 [Ag] [.bool] Cj:=k0 [] (A2 bM (A2 Zf B4))
def B8:a? 28 [B0] [.bool] Bw:=k0 [(28,[f? 4 [3] [.t 2 .bool] 0 []])] (A2 GK (A2 Dm B4))
def RL:a? 157 [BC] [.bool] HI:=k0 [] B4
def TG:a? 158 [BC] [.bool] IV:=k0 [(158,[f? 2 [3] [.t 2 .bool] 0 []])] (A2 P0 B4)
def bI:a? 256 [BC] [.bool] LM:=k0 [] (A2 RL (A2 TG B4))
def EA:a? 178 [EH] [.bool] DO:=k0 [(178,[f? 11 [6] [.t 2 .bool] 2 [],f? 5 [4] [.t 2 .bool] 0 []])] (A2 bI B4)
def TK:a? 326 [Bc] [.bool] Gx:=k0 [] B4
def T1:a? 327 [Bc,Bc] [.bool] E8:=k0 [] B4
def Kv:a? 328 [Bc,Bc] [.bool] Dz:=k0 [] B4
def Of:a? 329 [C7,i64,Io] [i64] D0:=k0 [(329,[f? 2 [7] [6] 0 []])] B4
def Eu:a? 241 [C7] [.bool] Dp:=k0 [(241,[f? 9 [4] [.t 2 .bool] 2 [],f? 4 [3] [.t 2 .bool] 0 [],f? 20 [7] [.t 2 .bool] 6 [],f? 14 [5] [.t 2 .bool] 4 []])] (A2 TK (A2 T1 (A2 Kv (A2 Of B4))))
def bW:a? 330 [Bt] [.bool] La:=k0 [(330,[f? 6 [3] [.t 2 .bool] 0 [],f? 11 [4] [.t 2 .bool] 2 []])] B4
def Ev:a? 242 [(.list Bt)] [.bool] Dr:=k0 [(242,[f? 4 [3] [.t 2 .bool] 0 []])] (A2 bW B4)
def iD:a? 331 [i64] [.bool] Gj:=k0 [] B4
def Fq:a? 243 [D9] [.bool] Dq:=k0 [(243,[f? 4 [3] [.t 2 .bool] 0 []])] (A2 iD B4)
def PH:a? 244 [(.list By),i64] [.bool] Ez:=k0 [(244,[f? 2 [5] [.t 4 .bool] 0 []])] B4
def bc:a? 170 [Ay] [.bool] Le:=k0 [] (A2 B8 (A2 EA (A2 Eu (A2 Ev (A2 Fq (A2 PH B4))))))
def Jd:a? 171 [Ay,i64] [By,.bool] Ee:=k0 [(171,[f? 2 [6,g? 1 By] [.t 5 .bool,g? 1 By] 0 [g? 1 By]])] B4
def B9:a? 115 [Ay] [.bool] Ba:=k0 [(115,[f? 4 [3] [.t 2 .bool] 0 [],f? 9 [4] [.t 2 .bool] 2 [],f? 18 [8] [.t 2 .bool] 4 [],f? 23 [9] [.t 2 .bool] 6 []])] (A2 bc (A2 Jd B4))
def KM:a? 333 [(.list Bt),i64] [i64] EP:=k0 [(333,[f? 2 [5] [4] 0 []])] B4
def TL:a? 250 [(.list Bt),i64] [(.list Bt),i64] Ib:=k0 [(250,[⟨0,11,[(6,Bt)],[],[],[],[.t 7 i64,.u 0 Bt,.g 6 0],[(.exit 1,[.u 0 Bt,.g 6 0])]⟩])] (A2 Ev (A2 KM B4))
def bX:a? 363 [Ay] [Ay,i64,i64] Lb:=k0 [] (A2 B9 (A2 TL B4))
def bi:a? 302 [Az] [Az,i64,i64] Lh:=k0 [] (A2 bX B4)
def Cn:a? 310 [i64] [C1] BB:=k0 [] B4
def Zw:a? 307 [i64] [C1] Du:=k0 [] (A2 Cn B4)
def GL:a? 179 [EH,i64] [i64] E9:=k0 [(179,[f? 2 [5] [4] 0 []])] B4
def FE:a? 366 [EH,i64] [i64] D1:=k0 [] (A2 EA (A2 GL B4))
def IR:a? 399 [EH,i64] [BC,.bool] Fc:=k0 [] (A2 FE B4)
def KK:a? 38 [B0] [i64] E7:=k0 [] (A2 B8 (A2 GK B4))
def Jb:a? 37 [B0,i64] [B0,i64] D7:=k0 [] (A2 B8 (A2 GK B4))
def Jc:a? 400 [Ay,i64] [Ay] Fj:=k0 [(400,[c? 3 [g? 0 Ay]])] (A2 KK (A2 Jb B4))
def bY:a? 365 [Ay,i64] [Ay,BC,i64] Lc:=k0 [] (A2 B9 (A2 IR (A2 Jc B4)))
def HH:a? 98 [BC] [i64] Do:=k0 [] (A2 RL (A2 TG B4))
def DG:a? 99 [.str,i64,i64] [.str] Ah:=k0 [(99,[e? 4 [.t 0 .str,7] 0 [.t 0 .str]])] B4
def TH:a? 100 [i64] [.str] Gu:=k0 [] B4
def LH:a? 101 [.str] [(.int .u32)] Em:=k0 [(101,[c? 10 [.t 3 (.int .u32)],e? 7 [.t 3 (.int .u32),5] 2 [.t 3 (.int .u32)],e? 3 [.t 3 (.int .u32),4] 0 [.t 3 (.int .u32)]])] B4
def G1:a? 45 [BC] [.str,i64] C4:=k0 [(45,[c? 11 [7],e? 7 [.t 5 .str,6] 0 [.t 5 .str]])] (A2 HH (A2 DG (A2 TH (A2 LH B4))))
def bL:a? 488 [Ej,DR] [.bool] LO:=k0 [(488,[c? 7 [.t 59 .bool],d? 13 [.t 4 .bool,.x 2] [g? 2 DR],hn 2 11 [.x 2] [(.normal,[g? 2 DR]),(.ret,[.t 4 .bool,.x 2])],hn 2 9 [.x 2] [(.normal,[g? 2 DR]),(.ret,[.t 4 .bool,.x 2])],hn 2 8 [.x 2] [(.normal,[g? 2 DR]),(.ret,[.t 4 .bool,.x 2])]])] B4
def bJ:a? 468 [Ej] [.bool] LN:=k0 [(468,[f? 5 [4] [.t 2 .bool] 0 [],f? 10 [5] [.t 2 .bool] 2 [],f? 15 [6] [.t 2 .bool] 4 []])] (A2 bL B4)
def Mv:a? 437 [Ej,i64] [i64] GP:=k0 [] (A2 bJ B4)
def RM:a? 469 [(.list i64),i64] [(.list i64)] Ew:=k0 [(469,[c? 6 [.u 0 i64,.g 5 0],⟨0,3,[(5,i64)],[],[],[],[.t 6 i64,.u 0 i64,.g 5 0],[(.exit 0,[.u 0 i64,.g 5 0])]⟩])] B4
def eD:a? 440 [(.list i64),i64] [(.list i64)] E6:=k0 [(440,[c? 7 [.t 6 .bool,.u 0 i64,.g 5 0],c? 10 [.u 0 i64,.g 5 0],⟨0,4,[(5,i64)],[],[],[],[.t 6 .bool,.t 7 i64,.u 0 i64,.g 5 0],[(.exit 0,[.t 6 .bool,.u 0 i64,.g 5 0])]⟩,c? 12 [.u 0 i64,.g 5 0]])] B4
def bK:a? 401 [Ej,i64,.str] [Ej,i64] Pn:=k0 [(401,[c? 16 [.u 8 DR,.u 9 DR,.g 10 8,.p 7 [.o 4,.d i64,.o 5,.d .bool,.o 9]],⟨0,13,[(10,DR)],[(7,4,DR)],[],[],[.t 11 i64,.u 8 DR,.u 4 .str,.u 5 i64,.u 9 DR,.g 10 8,.p 7 [.o 4,.d i64,.o 5,.d .bool,.o 9],.p 2 [.o 4,.d i64,.o 5,.d .bool,.o 6],.p 3 [.o 4,.d i64,.o 5,.d .bool,.o 6]],[(.exit 0,[.u 8 DR,.u 4 .str,.u 5 i64,.u 9 DR,.g 10 8,.p 7 [.o 4,.d i64,.o 5,.d .bool,.o 9],.p 2 [.o 4,.d i64,.o 5,.d .bool,.o 6],.p 3 [.o 4,.d i64,.o 5,.d .bool,.o 6]])]⟩,c? 29 [.t 12 .bool,.u 4 .str,.p 7 [.o 4,.d i64,.d (.list i64),.d .bool,.o 9],.p 2 [.o 4,.d i64,.d (.list i64),.d .bool,.o 6],.p 3 [.o 4,.d i64,.d (.list i64),.d .bool,.o 6]],c? 26 [.t 12 .bool,.u 4 .str,.p 2 [.o 4,.d i64,.d (.list i64),.d .bool,.o 6],.p 3 [.o 4,.d i64,.d (.list i64),.d .bool,.o 6],.p 7 [.o 4,.d i64,.d (.list i64),.d .bool,.o 9]],c? 24 [.t 12 .bool,.u 4 .str,.p 2 [.o 4,.d i64,.d (.list i64),.d .bool,.o 6],.p 3 [.o 4,.d i64,.d (.list i64),.d .bool,.o 6],.p 7 [.o 4,.d i64,.d (.list i64),.d .bool,.o 9]],⟨0,20,[],[],[5],[],[.t 12 .bool,.t 13 i64,.u 4 .str,.u 6 DR,.u 4 .str,.u 6 DR,.u 4 .str,.u 9 DR,.p 2 [.o 4,.d i64,.d (.list i64),.d .bool,.o 6],.p 3 [.o 4,.d i64,.d (.list i64),.d .bool,.o 6],.p 7 [.o 4,.d i64,.d (.list i64),.d .bool,.o 9]],[(.exit 2,[.t 12 .bool,.u 4 .str,.u 6 DR,.u 9 DR,.p 2 [.o 4,.d i64,.d (.list i64),.d .bool,.o 6],.p 3 [.o 4,.d i64,.d (.list i64),.d .bool,.o 6],.p 7 [.o 4,.d i64,.d (.list i64),.d .bool,.o 9]])]⟩,c? 32 [.u 4 .str,.p 7 [.o 4,.d i64,.d (.list i64),.d .bool,.o 9],.p 2 [.o 4,.d i64,.d (.list i64),.d .bool,.o 6],.p 3 [.o 4,.d i64,.d (.list i64),.d .bool,.o 6]],c? 45 [.p 7 [.o 4,.d i64,.d (.list i64),.d .bool,.o 9]],c? 43 [.p 7 [.o 4,.d i64,.d (.list i64),.d .bool,.o 9]],c? 39 [.u 4 .str,.p 7 [.o 4,.d i64,.d (.list i64),.d .bool,.o 9],.p 2 [.o 4,.d i64,.d (.list i64),.d .bool,.o 6],.p 3 [.o 4,.d i64,.d (.list i64),.d .bool,.o 6]],e? 34 [14,.u 4 .str,.u 6 DR,.u 4 .str,.u 6 DR,.u 4 .str,.u 9 DR,.p 2 [.o 4,.d i64,.d (.list i64),.d .bool,.o 6],.p 3 [.o 4,.d i64,.d (.list i64),.d .bool,.o 6],.p 7 [.o 4,.d i64,.d (.list i64),.d .bool,.o 9]] 5 [.u 4 .str,.u 6 DR,.u 9 DR,.p 2 [.o 4,.d i64,.d (.list i64),.d .bool,.o 6],.p 3 [.o 4,.d i64,.d (.list i64),.d .bool,.o 6],.p 7 [.o 4,.d i64,.d (.list i64),.d .bool,.o 9]]])] (A2 Mv (A2 RM (A2 eD B4)))
def LJ:a? 470 [EH,i64,TB] [EH] H7:=k0 [] B4
def bT:a? 441 [EH,i64,i64] [EH,i64] Po:=k0 [(441,[c? 14 [g? 2 TB],c? 12 [g? 2 TB]])] (A2 EA (A2 GL (A2 LJ B4)))
def Dc:a? 249 [(.list Bt),i64] [i64] CM:=k0 [] (A2 KM B4)
def Dt:a? 89 [Ag] [.bool] BE:=k0 [] B4
def Og:a? 410 [Ay,i64] [i64] EQ:=k0 [] (A2 B9 (A2 IR (A2 Jd B4)))
def Zg:a? 444 [B0,Ag] [B0,i64,i64] KT:=k0 [] (A2 B8 (A2 GK (A2 Dm B4)))
def Gt:a? 254 [B0,i64] [Ag,i64] Eo:=k0 [] (A2 B8 (A2 GK B4))
def Mw:a? 334 [(.list Bt),i64] [(.list Bt)] GU:=k0 [(334,[c? 6 [.u 0 Bt,.g 5 0],⟨0,3,[(5,Bt)],[],[],[],[.t 6 i64,.u 0 Bt,.g 5 0],[(.exit 0,[.u 0 Bt,.g 5 0])]⟩])] B4
def Rv:a? 336 [Bt] [Bt] Hw:=k0 [(336,[c? 2 [g? 0 Bt]])] B4
def Pj:a? 335 [(.list Bt),i64,Bt] [(.list Bt)] H8:=k0 [] B4
def T4:a? 251 [(.list Bt),Ag] [(.list Bt),i64] F6:=k0 [(251,[c? 24 [.u 2 i64,.g 8 2],⟨0,21,[(8,i64)],[],[],[],[.t 9 i64,.u 2 i64,.g 8 2],[(.exit 2,[.u 2 i64,.g 8 2])]⟩,d? 19 [.t 4 (.list Bt),5,.x 1] [g? 1 Bt],hn 2 17 [.x 1] [(.normal,[g? 1 Bt]),(.ret,[.t 4 (.list Bt),5,.x 1])]])] (A2 Ev (A2 Dm (A2 KM (A2 Mw (A2 Rv (A2 Pj B4))))))
def iE:a? 337 [D9,i64,Dj] [D9] Nh:=k0 [] B4
def T3:a? 252 [D9,Ag] [D9,i64] HK:=k0 [] (A2 Fq (A2 Dm (A2 iE B4)))
def Fh:a? 405 [Ay,Ag] [Ay,i64,i64] ED:=k0 [(405,[d? 5 [5,6,g? 2 Ay,.x 1] [g? 1 Ag,g? 2 Ay],c? 10 [g? 1 Ag]])] (A2 B9 (A2 Dc (A2 Dt (A2 Og (A2 Zg (A2 Gt (A2 T4 (A2 T3 B4))))))))
def Yi:a? 402 [Ay,i64,i64] [Ay,i64] Jp:=k0 [(402,[d? 7 [7,g? 1 Ay,.x 2] [g? 2 EH,g? 1 Ay]])] (A2 B9 (A2 KK (A2 FE (A2 bT (A2 Fh B4)))))
def TO:a? 367 [Az,Ay,BC] [Az,i64] Lk:=k0 [] (A2 G1 (A2 bK (A2 Yi B4)))
def bk:a? 305 [Az,i64] [Az,i64] Lj:=k0 [] (A2 bY (A2 FE (A2 TO B4)))
def bU:a? 120 [EH] [(.list By)] LV:=k0 [(120,[c? 9 [.u 1 By,.g 3 1],⟨0,5,[(3,By)],[],[],[],[.t 4 i64,.u 1 By,.g 3 1],[(.exit 0,[.u 1 By,.g 3 1])]⟩])] (A2 EA (A2 GL B4))
def jG:a? 403 [Ay] [HG,i64] O3:=k0 [(403,[c? 9 [.u 3 By,.p 2 [.d i64,.d i64,.d (.list Bt),.o 3,.d D9]],c? 14 [.u 3 By,.p 2 [.d i64,.d i64,.d (.list Bt),.o 3,.d D9]],e? 11 [46,.u 3 By,.p 2 [.d i64,.d i64,.d (.list Bt),.o 3,.d D9]] 2 [.u 3 By,.p 2 [.d i64,.d i64,.d (.list Bt),.o 3,.d D9]],⟨0,5,[],[(2,3,By)],[],[],[.t 5 i64,.u 3 By,.p 2 [.d i64,.d i64,.d (.list Bt),.o 3,.d D9]],[(.exit 0,[.u 3 By,.p 2 [.d i64,.d i64,.d (.list Bt),.o 3,.d D9]])]⟩])] (A2 B9 (A2 Jd (A2 bU B4)))
def TM:a? 387 [HG] [.bool] Gy:=k0 [(387,[f? 4 [3] [.t 2 .bool] 0 []])] (A2 Ev (A2 PH (A2 Fq B4)))
def Yh:a? 471 [.str,(.list i64)] [.str] HM:=k0 [(471,[e? 2 [.t 0 .str,5] 0 [.t 0 .str]])] (A2 DG B4)
def Zo:a? 442 [(.list Bt)] [.str,i64] KX:=k0 [(442,[e? 5 [.t 4 .str,5] 0 [.t 4 .str]])] (A2 Ev (A2 DG (A2 Yh B4)))
def Zm:a? 443 [D9] [.str,i64] Hs:=k0 [(443,[e? 5 [.t 4 .str,5] 0 [.t 4 .str]])] (A2 Fq (A2 DG B4))
def Zu:a? 404 [HG] [.str,i64] GV:=k0 [(404,[e? 9 [.t 6 .str,7] 0 [.t 6 .str]])] (A2 TM (A2 Zo (A2 DG (A2 Zm B4))))
def eU:a? 368 [Ay] [Ay,i64,i64] Qf:=k0 [] (A2 jG (A2 Zu (A2 Fh (A2 Jb B4))))
def WQ:a? 306 [Az] [Az,i64,i64] K9:=k0 [] (A2 eU B4)
def eC:a? 406 [Ej,i64,.str,i64] [Ej,i64] QZ:=k0 [] (A2 Mv (A2 RM B4))
def Ja:a? 92 [.str] [.str] DH:=k0 [] (A2 DG (A2 LH B4))
def eK:a? 173 [i64] [.str] MW:=k0 [] (A2 DG (A2 Ja B4))
def eE:a? 150 [.str,Kr] [.str] F3:=k0 [] (A2 DG B4)
def Rt:a? 94 [Ag] [.str,i64] FG:=k0 [] (A2 Dm (A2 DG (A2 eE B4)))
def bP:a? 174 [Ag] [.str] IY:=k0 [] (A2 Rt (A2 Ja B4))
def bO:a? 117 [B0,i64] [.str] Gv:=k0 [(117,[c? 8 [.t 5 .str,.t 6 .str],e? 5 [.t 5 .str,.t 6 .str,7] 0 [.t 5 .str,.t 6 .str]])] (A2 B8 (A2 eK (A2 bP B4)))
def bj:a? 369 [Az,i64,i64,i64] [Ej,.str] Li:=k0 [(369,[c? 8 [g? 3 Ej],c? 4 [g? 2 Ay,g? 3 Ej]])] (A2 FE (A2 G1 (A2 Jc (A2 eC (A2 bO B4)))))
def Ed:a? 109 [.str,i64,i64] [i64,i64] Au:=k0 [(109,[e? 7 [.t 8 (.int .u64),9] 0 [.t 8 (.int .u64)]])] B4
def RK:a? 57 [.str,i64] [.str,i64,i64] CV:=k0 [] (A2 Ed (A2 LH B4))
def NY:b? 245 0 OW [i64] [i64] BO:=k1 [] (A2 Ed B4)
def Ns:b? 247 0 OW [i64] [.str] Ds:=k1 [] B4
def Vy:b? 246 0 OW [] [Kr] DT:=k1 [] (A2 NY (A2 Ns B4))
def Rs:a? 172 [.str] [Ag,i64] FF:=k0 [] (A2 NY (A2 Vy (A2 Ns (A2 Dm B4))))
def eJ:a? 116 [.str] [B0,i64] JO:=k0 [(116,[⟨0,8,[],[(1,1,Ag)],[],[],[.t 5 i64,.u 2 Ag,.p 1 [.d i64,.o 2,.d i64],.p 0 [.d B0]],[(.ret,[.t 3 i64,.p 0 [.d B0],.x 1,.x 2]),(.exit 0,[.u 2 Ag,.p 1 [.d i64,.o 2,.d i64],.p 0 [.d B0]])]⟩])] (A2 RK (A2 Ed (A2 Rs B4)))
def NZ:b? 428 0 GI [i64] [i64] CR:=k1 [] (A2 Ed B4)
def Vz:b? 429 0 GI [i64] [(.list i64)] Fl:=k1 [(429,[⟨0,3,[(5,i64)],[],[],[],[.t 6 i64,.u 1 i64,.g 5 1,.p 0 [.d GI]],[(.exit 0,[.u 1 i64,.g 5 1,.p 0 [.d GI]])]⟩])] (A2 NZ B4)
def Zn:a? 385 [.str] [(.list Bt),i64] KW:=k0 [(385,[⟨0,4,[(5,Bt)],[],[],[],[.t 6 i64,.u 1 Bt,.g 5 1,.p 0 [.d GI]],[(.exit 0,[.u 1 Bt,.g 5 1,.p 0 [.d GI]])]⟩])] (A2 NZ (A2 Vz (A2 Ev B4)))
def Zl:a? 386 [.str] [D9,i64] EO:=k0 [(386,[⟨0,8,[],[(1,0,Dj)],[],[],[.t 7 i64,.u 2 Dj,.p 1 [.o 2]],[(.exit 1,[.u 2 Dj,.p 1 [.o 2]])]⟩])] (A2 Ed (A2 Fq B4))
def Zt:a? 332 [.str] [HG,i64] C5:=k0 [(332,[⟨0,15,[],[(1,3,By)],[],[],[.t 9 i64,.t 11 i64,.u 2 By,.p 1 [.d i64,.d i64,.d (.list Bt),.o 2,.d D9]],[(.exit 0,[.t 9 i64,.u 2 By,.p 1 [.d i64,.d i64,.d (.list Bt),.o 2,.d D9]])]⟩])] (A2 Ed (A2 Zn (A2 Zl (A2 TM B4))))
def Zv:a? 248 [B0] [HG,i64,.bool] O2:=k0 [(248,[f? 4 [5,g? 1 HG] [3,.t 4 .bool,g? 1 HG] 0 [g? 1 HG]])] (A2 B8 (A2 Zt B4))
def bf:a? 175 [B0,i64] [Et,i64] Pr:=k0 [] (A2 Zv (A2 Uv B4))
def bd:a? 253 [(.list By),Ag] [(.list By)] Gz:=k0 [(253,[c? 10 [.t 6 .bool,.u 1 By,.g 5 1],c? 18 [g? 2 By],hn 2 15 [.x 2] [(.normal,[g? 2 By]),(1,[g? 2 By])],hn 2 13 [.x 2] [(.normal,[.t 6 .bool,g? 2 By]),(1,[.t 6 .bool,g? 2 By])],⟨0,6,[(5,By)],[],[],[],[.t 6 .bool,.t 7 i64,.u 1 By,.g 5 1],[(.exit 0,[.t 6 .bool,.u 1 By,.g 5 1])]⟩,c? 21 [.u 1 By,.g 5 1]])] (A2 Dt B4)
def eW:a? 176 [Et,Ag] [Et,i64] Mf:=k0 [(176,[d? 2 [5,g? 2 Et,.x 0] [g? 0 Et,g? 2 Et]])] (A2 Dc (A2 TL (A2 T4 (A2 T3 (A2 Dt (A2 bd B4))))))
def eV:a? 338 [Bc,Bc] [.bool] E8:=k0 [] B4
def eX:a? 255 [(.list Bc),Bc] [(.list Bc)] Qj:=k0 [(255,[e? 2 [5] 0 [5]])] (A2 eV B4)
def be:a? 177 [B0,(.list Bt)] [(.list Bc),i64] Lf:=k0 [(177,[f? 6 [.t 6 (.list Bc),8] [.t 4 (.list Bc),5] 2 [.t 6 (.list Bc)],f? 3 [.t 6 (.list Bc),7] [.t 4 (.list Bc),5] 0 [.t 6 (.list Bc)]])] (A2 Gt (A2 eX B4))
def Yl:a? 118 [B0,i64] [Et,i64] Js:=k0 [(118,[f? 9 [8,g? 2 Et,g? 1 Et] [5,g? 1 Et,.x 2] 0 [g? 2 Et,g? 1 Et],c? 20 [.u 3 Bt,.g 9 3],⟨0,17,[(9,Bt)],[],[],[],[.t 10 i64,.u 3 Bt,.g 9 3],[(.exit 2,[.u 3 Bt,.g 9 3])]⟩])] (A2 B8 (A2 bf (A2 eW (A2 be B4))))
def bh:a? 445 [B0,Et,i64] [Ay,i64] Lg:=k0 [(445,[f? 8 [11,g? 4 Ay,g? 2 Ay] [7,g? 2 Ay,.x 4] 0 [g? 4 Ay,g? 2 Ay]])] (A2 Uu (A2 B9 (A2 Fh B4)))
def eu:a? 407 [Ej,.str,i64,i64] [Az,i64] Qm:=k0 [] (A2 eJ (A2 Yl (A2 bh B4)))
def fD:a? 370 [Ej,.str,i64,i64] [Az,i64] Qn:=k0 [] (A2 eu B4)
def Zk:a? 472 [EH] [EH,i64,i64] Oz:=k0 [(472,[e? 5 [g? 0 EH] 0 [g? 0 EH]])] (A2 EA (A2 LJ B4))
def eO:a? 473 [EH,i64] [EH,i64] Ma:=k0 [(473,[c? 10 [.p 0 [.d i64,.o 2,.d i64]],c? 12 [.p 0 [.d i64,.o 2,.d i64]]])] (A2 EA (A2 GL B4))
def eR:a? 446 [Ay] [Ay,BC,.bool,i64] Md:=k0 [] (A2 B9 (A2 Zk (A2 FE (A2 eO (A2 Jc B4)))))
def er:a? 408 [Az] [Az,i64] Mh:=k0 [(408,[hn 0 1 [g? 0 Az,g? 1 Az] [(.ret,[3,g? 1 Az,.x 0])]])] (A2 eR (A2 TO B4))
def hY:a? 447 [(.list i64),i64] [.bool] En:=k0 [(447,[f? 2 [5] [.t 4 .bool] 0 []])] B4
def dz:a? 409 [Ej,i64] [.str,i64] MV:=k0 [] (A2 Mv (A2 hY B4))
def TF:a? 46 [] [.str] IU:=k0 [] (A2 TH B4)
def Zd:a? 110 [.str] [BC,i64] EL:=k0 [(110,[f? 14 [7,g? 1 BC,g? 0 BC] [3,g? 0 BC,.x 1] 1 [g? 1 BC,g? 0 BC]])] (A2 TF (A2 Ed (A2 LH (A2 G1 B4))))
def hW:a? 64 [i64] [BC] Fa:=k0 [] B4
def Ku:a? 59 [.str,i64] [BC,i64] Cp:=k0 [] (A2 Zd (A2 hW B4))
def bV:a? 411 [D9,i64,i64,.str] [BC,i64] LY:=k0 [] (A2 Fq (A2 Ku B4))
def bQ:a? 490 [Ag,(.list Ag)] [(.list Ag)] LQ:=k0 [] B4
def eL:a? 489 [B0,i64,i64,i64] [(.list Ag),i64] Qa:=k0 [(489,[f? 7 [.t 10 (.list Ag),11] [.t 8 (.list Ag),9] 0 [.t 10 (.list Ag),11]])] (A2 B8 (A2 Gt (A2 Dt (A2 bQ B4))))
def bg:a? 474 [B0,BC,i64] [(.list Ag),i64] VE:=k0 [] (A2 B8 (A2 HH (A2 eL B4)))
def TI:a? 229 [BC,I4] [BC,i64] IW:=k0 [] (A2 TJ B4)
def TN:a? 156 [BC,Ag] [BC,i64] Ie:=k0 [] (A2 Dm (A2 Dt (A2 HH (A2 TI B4))))
def eZ:a? 448 [B0,BC,i64] [BC,i64,i64] Ql:=k0 [(448,[f? 5 [11,g? 1 BC,g? 2 BC] [7,8,g? 2 BC,.x 1] 0 [g? 1 BC,g? 2 BC]])] (A2 bg (A2 TN B4))
def eY:a? 412 [B0,BC,i64] [BC,i64] Qk:=k0 [] (A2 eZ B4)
def Zq:a? 413 [Ay,BC] [Ay,i64] Ka:=k0 [(413,[c? 21 [.u 9 By,.g 10 9],⟨0,18,[(10,By)],[],[],[],[.t 11 i64,.u 9 By,.g 10 9],[(.exit 1,[.u 9 By,.g 10 9])]⟩,c? 14 [.u 6 TB,g? 0 Ay,.p 3 [.d i64,.o 6,.d i64],.p 5 [.d i64,.o 6,.d i64],.p 7 [.d i64,.o 6,.d i64]]])] (A2 B9 (A2 Og (A2 EA (A2 HH (A2 Jd (A2 GL B4))))))
def Je:a? 371 [Az,i64] [Az,i64] Ef:=k0 [] (A2 B9 (A2 FE (A2 er (A2 dz (A2 Og (A2 bV (A2 eY (A2 Zq B4))))))))
def Rx:a? 414 [Ay,i64] [Bt,.bool] Hy:=k0 [(414,[d? 2 [.t 5 .bool,g? 1 Bt] [g? 1 Bt]])] (A2 B9 (A2 Dc B4))
def ej:a? 372 [Ay] [(.list i64)] Mg:=k0 [(372,[c? 7 [.u 1 i64,.g 3 1],⟨0,3,[(3,i64)],[],[],[],[.t 4 i64,.u 1 i64,.g 3 1],[(.exit 0,[.u 1 i64,.g 3 1])]⟩])] (A2 Rx B4)
def IF:a? 415 [Ay,i64] [Bt,i64] E0:=k0 [] (A2 B9 (A2 Dc B4))
def Oe:a? 451 [(.list Bc),i64,.bool,Io] [(.list Bc)] F5:=k0 [(451,[c? 6 [.u 1 Bc,.g 9 1],⟨0,3,[(9,Bc)],[],[],[],[.t 10 i64,.u 1 Bc,.g 9 1],[(.exit 0,[.u 1 Bc,.g 9 1])]⟩])] B4
def eM:a? 475 [C7,i64] [.bool] MY:=k0 [(475,[f? 2 [5] [.t 4 .bool] 0 [],f? 7 [6] [.t 4 .bool] 2 []])] (A2 Kv B4)
def eN:a? 476 [(.list Bc),Bc] [(.list Bc)] MZ:=k0 [(476,[c? 7 [.t 6 .bool,.u 1 Bc,.g 5 1],c? 10 [.u 1 Bc,.g 5 1],⟨0,4,[(5,Bc)],[],[],[],[.t 6 .bool,.t 7 i64,.u 1 Bc,.g 5 1],[(.exit 0,[.t 6 .bool,.u 1 Bc,.g 5 1])]⟩,c? 12 [.u 1 Bc,.g 5 1]])] (A2 T1 B4)
def I5:a? 450 [C7] [C7] FH:=k0 [(450,[c? 5 [3,g? 0 C7],e? 2 [3,g? 0 C7] 0 [g? 0 C7]])] (A2 eM (A2 eN B4))
def L4:a? 416 [C7,i64] [C7] HJ:=k0 [] (A2 Eu (A2 Oe (A2 I5 B4)))
def eT:a? 417 [Ay,i64] [Ag,.bool] HN:=k0 [] (A2 IF (A2 Gt B4))
def Ye:a? 452 [I4] [I4] Jj:=k0 [] B4
def Zj:a? 477 [EH,BC] [EH,i64] KV:=k0 [(477,[c? 13 [g? 3 TB]])] (A2 EA (A2 HH (A2 GL (A2 LJ B4))))
def Ux:a? 453 [Ay,Ag] [Ay,i64] KE:=k0 [] (A2 Fh (A2 IR (A2 Zj B4)))
def jF:a? 478 [Ay,Bt,Io,i64] [Ag,.bool] O1:=k0 [(478,[f? 2 [10,g? 3 Ag] [.t 9 .bool,g? 3 Ag] 0 [g? 3 Ag]])] (A2 Gt B4)
def Rw:a? 454 [Ay,i64,Io] [Ag,.bool] Ke:=k0 [] (A2 IF (A2 jF B4))
def T0:a? 455 [C7,i64,Io] [C7] MX:=k0 [] (A2 Eu (A2 Oe (A2 I5 B4)))
def T7:a? 418 [Ay,Bt,Ag] [Ay,C1] F7:=k0 [(418,[c? 15 [g? 8 Ay],c? 12 [g? 8 Ay]])] (A2 IR (A2 Ye (A2 TI (A2 Cn (A2 Ux (A2 Rw (A2 T0 B4)))))))
def T6:a? 373 [Ay,i64] [Ay,C1] JQ:=k0 [] (A2 IF (A2 Cn (A2 Fh (A2 L4 (A2 eT (A2 T7 B4))))))
def fE:a? 309 [Az] [Az,.bool,i64] Mi:=k0 [(309,[hn 0 9 [g? 0 Az,g? 1 Az] [(.ret,[.t 3 .bool,4,g? 1 Az,.x 0])]])] (A2 B9 (A2 Je (A2 ej (A2 T6 B4))))
def Zp:a? 479 [Ay,Ei] [i64] KY:=k0 [(479,[c? 6 [.t 11 .bool],c? 5 [.t 11 .bool],c? 11 [g? 2 Ei],c? 18 [.t 60 .bool],c? 17 [.t 60 .bool],d? 13 [4,.x 2] [g? 2 Ei],d? 7 [4,.x 2] [g? 2 Ei]])] B4
def IE:a? 434 [C7,i64] [Bc,.bool] Ey:=k0 [(434,[f? 3 [6,g? 1 Bc] [.t 5 .bool,g? 1 Bc] 0 [g? 1 Bc],d? 2 [.t 5 .bool,g? 1 Bc] [g? 1 Bc]])] (A2 Eu B4)
def T5:a? 462 [i64,Ei] [Bc,.bool] JP:=k0 [(462,[c? 7 [.t 20 .bool]])] B4
def Yk:a? 457 [Ay,i64,Ei] [i64] Jr:=k0 [] (A2 B9 (A2 Dc (A2 Zp (A2 IE (A2 T5 B4)))))
def Zs:a? 458 [Ay,i64] [Ay,C1] Kc:=k0 [(458,[hn 2 3 [.x 1,.x 2,.x 3] [(.normal,[g? 3 Ay,g? 1 Ay,g? 2 C1]),(.ret,[g? 1 Ay,g? 2 C1,.x 3])]])] (A2 Dc (A2 Mw (A2 Fh (A2 Cn (A2 Jc (A2 L4 B4))))))
def Zh:a? 480 [C7,i64] [C7] Ou:=k0 [] (A2 Eu (A2 Oe (A2 I5 B4)))
def Yj:a? 481 [Ay,i64,Io] [.bool] Jq:=k0 [(481,[f? 3 [8] [.t 6 .bool] 0 []])] (A2 Dc (A2 Gt B4))
def ba:a? 459 [Ay,i64,i64] [Ay,C1] Ic:=k0 [(459,[c? 15 [g? 3 Ay],e? 12 [12,g? 3 Ay] 0 [g? 3 Ay]])] (A2 Zh (A2 Dc (A2 Mw (A2 L4 (A2 Fh (A2 Cn (A2 Yj (A2 T0 B4))))))))
def Ru:a? 482 [(.list Bt),i64] [i64,i64] Ht:=k0 [] (A2 Ev (A2 KM B4))
def eQ:a? 460 [(.list Bt),i64] [(.list Bt),i64] Mc:=k0 [] (A2 Ru (A2 Pj B4))
def eP:a? 461 [(.list Bt),i64,i64] [(.list Bt),i64] Mb:=k0 [] (A2 Ru (A2 Rv (A2 Pj B4)))
def bR:a? 483 [C7,Bc] [i64] IZ:=k0 [(483,[f? 4 [5] [4] 0 []])] (A2 Of B4)
def Yf:a? 463 [C7,Bc] [C7,.bool,i64] N4:=k0 [] (A2 Eu (A2 TK (A2 IE (A2 Of (A2 bR (A2 I5 B4))))))
def iC:a? 484 [EH,i64] [EH] Nf:=k0 [] (A2 FE (A2 LJ B4))
def Zr:a? 464 [Ay,i64,Ei] [Ay,C1] Kb:=k0 [(464,[c? 9 [g? 5 I4]])] (A2 IR (A2 iC (A2 Ux (A2 Cn B4))))
def T2:a? 467 [(.list i64),i64] [(.list i64)] E6:=k0 [(467,[c? 7 [.t 6 .bool,.u 0 i64,.g 5 0],c? 10 [.u 0 i64,.g 5 0],⟨0,4,[(5,i64)],[],[],[],[.t 6 .bool,.t 7 i64,.u 0 i64,.g 5 0],[(.exit 0,[.t 6 .bool,.u 0 i64,.g 5 0])]⟩,c? 12 [.u 0 i64,.g 5 0]])] B4
def Yg:a? 485 [C7] [(.list i64)] Jl:=k0 [(485,[e? 4 [.t 3 (.list i64),4] 0 [.t 3 (.list i64)],c? 3 [.t 3 (.list i64)]])] (A2 Eu (A2 T2 B4))
def Ph:a? 435 [C7,i64] [(.list i64)] H6:=k0 [(435,[c? 9 [.t 7 (.list i64)],e? 6 [.t 7 (.list i64),8] 0 [.t 7 (.list i64)],c? 14 [.t 7 (.list i64)],e? 11 [.t 7 (.list i64),9] 2 [.t 7 (.list i64)]])] (A2 IE (A2 Kv (A2 T2 B4)))
def Zi:Ax (.c0 486 [C7,(.list i64),i64] [(.list i64)] Ox):=AE6 (P:=Tryz.prog) (F:=486) (ds:=[C7,(.list i64),i64]) (rs:=[(.list i64)]) (f:=EV) (hs:=ZA [(486,[f? 4 [30] [.t 6 (.list i64)] 0 [],e? 15 [.t 12 .bool,49] 4 [.t 12 .bool],f? 11 [43] [.t 6 (.list i64)] 2 []])]) (n:=13) (A2 Ph B4) (λg x=>by kernel_rfl)
def bS:a? 465 [C7,i64] [(.list i64)] LR:=k0 [(465,[f? 2 [5] [.t 4 (.list i64)] 0 []])] (A2 Yg (A2 Zi B4))
def bZ:a? 487 [(.list i64)] [i64] Ld:=k0 [] B4
def iF:a? 466 [Ay,i64] [i64] Ni:=k0 [] (A2 Ph (A2 bZ B4))
def jE:a? 431 [Ay,i64,Ei] [Ay,C1] O0:=k0 [(431,[c? 10 [.t 46 .bool],c? 13 [.t 9 (.list Bt),10]])] (A2 Yk (A2 Cn (A2 Zs (A2 ba (A2 eQ (A2 eP (A2 T5 (A2 Yf (A2 Zr (A2 bS (A2 iF B4)))))))))))
def RN:a? 432 [Az,i64] [.bool] EC:=k0 [] (A2 Dc B4)
def Xq:a? 433 [Az,i64] [Az,i64] EW:=k0 [(433,[d? 12 [5,g? 1 Az,.x 0] [g? 0 Az,g? 1 Az],f? 5 [g? 0 Az,g? 1 Az] [5,g? 1 Az,.x 0] 0 [g? 0 Az,g? 1 Az]])] (A2 B9 (A2 Dc (A2 RN (A2 T6 (A2 Je B4)))))
def jH:a? 396 [Az,i64,Ei] [Az,C1] O4:=k0 [(396,[d? 10 [g? 2 Az,g? 3 C1,.x 0] [g? 0 Az,g? 2 Az,g? 3 C1],hn 0 1 [g? 0 Az,g? 2 Az,g? 3 C1] [(.ret,[g? 2 Az,g? 3 C1,.x 0])]])] (A2 jE (A2 Je (A2 Cn (A2 RN (A2 Xq B4)))))
def Ym:a? 397 [Ay,i64] [i64,Io,.bool] Jt:=k0 [(397,[f? 5 [28,g? 1 Io] [4,.t 6 .bool,g? 1 Io] 0 [g? 1 Io]])] (A2 IE (A2 Ph (A2 Rx B4)))
def eS:a? 436 [Ay,i64,Io] [Ay,C1] Me:=k0 [] (A2 IF (A2 Cn (A2 Rw (A2 T7 B4))))
def fF:a? 398 [Az,i64,Io] [Az,i64,i64] Mj:=k0 [(398,[d? 8 [7,8,g? 2 Az,.x 0] [9,g? 0 Az,g? 2 Az],hn 0 2 [9,g? 0 Az,g? 2 Az] [(.ret,[7,8,g? 2 Az,.x 0])]])] (A2 eS (A2 Je B4))
def jI:a? 364 [Az,i64,Ei] [Az,C1] O5:=k0 [(364,[hn 0 1 [g? 0 Az,g? 2 Az,g? 3 C1] [(.ret,[g? 2 Az,g? 3 C1,.x 0])]])] (A2 jH (A2 Ym (A2 fF (A2 Cn B4))))
def iH:a? 147 [Az,(.list Sp)] [Az,(.list C1),(.list Xc)] Nk:=k0 [(147,[⟨0,4,[(8,C1)],[(2,18,i64),(2,19,Xc)],[],[],[.t 9 i64,.u 3 C1,.u 4 i64,.u 5 Xc,.g 8 3,.p 2 [.d Az,.o 4,.o 5,.d .bool]],[(.exit 0,[.u 3 C1,.u 4 i64,.u 5 Xc,.g 8 3,.p 2 [.d Az,.o 4,.o 5,.d .bool]])]⟩]),(222,[c? 5 [.u 4 i64,.p 2 [.d Az,.o 4,.o 5,.d .bool]],c? 19 [.p 2 [.d Az,.o 4,.o 5,.d .bool]]]),(303,[c? 2 [.p 2 [.d Az,.o 4,.o 5,.d .bool]]]),(304,[c? 9 [.u 5 Xc,.p 2 [.d Az,.o 4,.o 5,.d .bool]]]),(308,[e? 4 [9,.u 4 i64,.p 2 [.d Az,.o 4,.o 5,.d .bool]] 0 [.u 4 i64,.p 2 [.d Az,.o 4,.o 5,.d .bool]]])] (A2 bi (A2 Zw (A2 Cn (A2 bk (A2 WQ (A2 KK (A2 Jb (A2 bj (A2 fD (A2 fE (A2 jI B4)))))))))))
def VX:b? 87 0 Bg [i64,.bool] [Az] HA:=k1 [] (A2 EZ (A2 iG (A2 Uk (A2 iH B4))))
def Vw:b? 36 0 Bg [i64,.bool] [Ay] HY:=k1 [] (A2 VX B4)
def jD:b? 12 0 Bg [i64] [i64,B0] K2:=k1 [] (A2 Vw (A2 KK (A2 Jb B4)))
def Fs:a? 27 [Bf] [.bool] DQ:=k0 [(27,[f? 5 [3,4] [.t 2 .bool] 0 []])] (A2 Ry B4)
def Nt:a? 40 [Bf,i64] [i64,i64] D8:=k0 [(40,[c? 3 [5]])] B4
def RP:a? 88 [i64,i64,i64,i64,i64] [.bool] HT:=k0 [] B4
def RO:a? 149 [Ag,Ag] [i64] Cu:=k0 [] B4
def Mx:a? 90 [(.list Ag),Ag] [(.list Ag),.bool] CD:=k0 [(90,[e? 2 [6] 0 [6]])] (A2 RO B4)
def Jf:a? 91 [Bu] [.bool] Eg:=k0 [(91,[d? 12 [.t 2 .bool] [],f? 4 [3] [.t 2 .bool] 0 []])] (A2 RP (A2 Dm (A2 Dt (A2 RO B4))))
def fH:a? 41 [(.list Ag),i64,i64,i64,i64,i64] [Bu,i64] F8:=k0 [(41,[f? 4 [14,g? 0 Bu] [13,g? 0 Bu] 0 [g? 0 Bu],e? 16 [.t 16 .bool,19] 4 [.t 16 .bool],e? 11 [.t 16 .bool,17,g? 1 Bu] 2 [.t 16 .bool,g? 1 Bu]])] (A2 RP (A2 Dm (A2 Dt (A2 Mx (A2 Jf B4)))))
def fG:a? 93 [Bu] [.str] HP:=k0 [] (A2 DG B4)
def Zy:a? 42 [Bu] [.str,i64] Hz:=k0 [(42,[e? 5 [.t 4 .str,5] 0 [.t 4 .str]])] (A2 Jf (A2 fG (A2 Ja (A2 Rt B4))))
def fL:a? 14 [Bf,B0,i64] [Bf,i64] ER:=k0 [(14,[f? 15 [11,g? 2 Bf] [7,g? 2 Bf] 0 [g? 2 Bf],f? 22 [13,.u 4 Cm,.p 3 [.d (.list i64),.d i64,.o 4,.d i64,.d i64],g? 2 Bf] [7,g? 2 Bf,.x 3,.x 4] 2 [.u 4 Cm,.p 3 [.d (.list i64),.d i64,.o 4,.d i64,.d i64],g? 2 Bf]])] (A2 Fs (A2 B8 (A2 Nt (A2 fH (A2 Zy B4)))))
def dy:a? 16 [i64,i64] [BY] JN:=k0 [(16,[⟨0,3,[],[(1,2,Fe)],[],[],[.t 6 i64,.u 2 Fe,.p 1 [.d i64,.d i64,.o 2]],[(.exit 0,[.u 2 Fe,.p 1 [.d i64,.d i64,.o 2]])]⟩])] (A2 TF B4)
def Jg:a? 60 [BY] [.bool] Eh:=k0 [(60,[f? 4 [3] [.t 2 .bool] 0 []])] (A2 Ku B4)
def bq:a? 25 [BY] [.bool] Ln:=k0 [] (A2 Jg B4)
def fN:a? 95 [BY,i64] [Fe,.bool] Mk:=k0 [(95,[f? 2 [6,g? 1 Fe] [.t 5 .bool,g? 1 Fe] 0 [g? 1 Fe]])] (A2 Jg B4)
def fO:a? 43 [BY,i64] [BC,i64] Ml:=k0 [] (A2 Jg (A2 fN (A2 Ku B4)))
def bp:a? 151 [Bf,B0,i64,i64,i64] [i64] Ig:=k0 [] (A2 Fs (A2 B8 B4))
def fJ:a? 169 [Bf,i64] [i64,i64,.bool] Qo:=k0 [(169,[e? 4 [7] 0 [7]])] (A2 Fs (A2 Nt B4))
def Z0:a? 340 [.str,i64,i64] [i64] Dv:=k0 [] (A2 Ed B4)
def Zx:a? 258 [.str] [Bu,i64] GW:=k0 [(258,[⟨0,11,[],[(1,5,Ag)],[],[],[.t 5 i64,.t 9 i64,.u 2 Ag,.p 1 [.d i64,.d i64,.d i64,.d i64,.d i64,.o 2],.p 0 [.d Bu]],[(.ret,[.t 3 i64,.p 0 [.d Bu],.x 1,.x 2]),(.exit 0,[.t 5 i64,.u 2 Ag,.p 1 [.d i64,.d i64,.d i64,.d i64,.d i64,.o 2],.p 0 [.d Bu]])]⟩])] (A2 RK (A2 Z0 (A2 Rs (A2 Jf B4))))
def Wv:a? 259 [Bf,Bu] [i64] IN:=k0 [(259,[f? 2 [5] [4] 0 []])] (A2 Nt B4)
def Z1:a? 182 [Bf,Cm] [Bu,i64] GX:=k0 [] (A2 Zx (A2 Wv B4))
def Yn:a? 183 [Bu,i64] [Bu] Jv:=k0 [(183,[c? 8 [.u 3 Ag,.p 2 [.d i64,.d i64,.d i64,.d i64,.d i64,.o 3]],⟨0,5,[],[(2,5,Ag)],[],[],[.t 6 i64,.u 3 Ag,.p 2 [.d i64,.d i64,.d i64,.d i64,.d i64,.o 3]],[(.exit 0,[.u 3 Ag,.p 2 [.d i64,.d i64,.d i64,.d i64,.d i64,.o 3]])]⟩])] B4
def bn:a? 124 [Bf] [(.list Bu),(.list i64),(.list .bool)] Ll:=k0 [(124,[e? 14 [11] 4 [11],e? 9 [.t 6 (.list Bu),.t 7 (.list i64),8] 2 [.t 6 (.list Bu),.t 7 (.list i64)],e? 20 [12,13,.u 1 Bu,.u 2 i64,.u 3 .bool,.g 2 1,.g 3 2,.g 4 3] 6 [.u 1 Bu,.u 2 i64,.u 3 .bool,.g 2 1,.g 3 2,.g 4 3],⟨0,4,[(2,Bu),(3,i64),(4,.bool)],[],[],[],[.t 5 i64,.u 1 Bu,.u 2 i64,.u 3 .bool,.g 2 1,.g 3 2,.g 4 3],[(.exit 0,[.u 1 Bu,.u 2 i64,.u 3 .bool,.g 2 1,.g 3 2,.g 4 3])]⟩])] (A2 Fs (A2 Z1 (A2 Yn B4)))
def fK:a? 68 [Bf] [(.list Bu),(.list i64)] Qp:=k0 [] (A2 bn B4)
def Xt:a? 113 [Bf,B0,i64] [OX] JF:=k0 [(113,[c? 8 [.u 4 Bu,.u 5 i64,.p 3 [.o 4,.o 5,.d B0]],⟨0,5,[],[(3,0,Bu),(3,1,i64)],[],[],[.t 13 i64,.u 4 Bu,.u 5 i64,.p 3 [.o 4,.o 5,.d B0]],[(.exit 0,[.u 4 Bu,.u 5 i64,.p 3 [.o 4,.o 5,.d B0]])]⟩])] (A2 fJ (A2 fK B4))
def TQ:a? 227 [B0,i64] [.bool] If:=k0 [] B4
def fM:a? 224 [OX,i64] [i64] Qr:=k0 [(224,[c? 6 [5],e? 3 [5,6] 0 [5],c? 8 [5]])] (A2 TQ B4)
def Yo:a? 152 [OX,i64,i64] [.bool] Jw:=k0 [(152,[f? 1 [1] [.t 6 .bool] 0 []])] (A2 fM B4)
def Zz:a? 228 [Bu,i64] [(.list Ag)] O7:=k0 [(228,[c? 8 [.u 1 Ag,.g 5 1],⟨0,5,[(5,Ag)],[],[],[],[.t 6 i64,.u 1 Ag,.g 5 1],[(.exit 0,[.u 1 Ag,.g 5 1])]⟩])] (A2 Jf B4)
def Xr:a? 154 [(.list Bu),i64,i64,i64] [(.list Ag)] JE:=k0 [(154,[c? 10 [.t 9 (.list Ag)],e? 7 [.t 9 (.list Ag),12] 2 [.t 9 (.list Ag)],e? 3 [.t 9 (.list Ag),10] 0 [.t 9 (.list Ag)]])] (A2 Zz (A2 Mx B4))
def Z3:a? 155 [B0,i64,i64,i64] [(.list Ag)] O9:=k0 [(155,[c? 7 [.u 1 Ag,.g 9 1],⟨0,3,[(9,Ag)],[],[],[],[.t 10 i64,.u 1 Ag,.g 9 1],[(.exit 0,[.u 1 Ag,.g 9 1])]⟩])] (A2 Dt B4)
def Z2:a? 225 [(.list Bu),i64] [i64] Kh:=k0 [(225,[f? 2 [5] [4] 0 []])] B4
def iI:a? 226 [(.list Ag),Ag] [.bool] H9:=k0 [(226,[f? 2 [5] [.t 4 .bool] 0 []])] B4
def bo:a? 153 [(.list Bu),B0,(.list Ag),(.list Ag)] [(.list Ag),.bool] Lm:=k0 [(153,[f? 3 [.t 10 (.list Ag),11] [.t 8 (.list Ag),.t 9 .bool] 0 [.t 10 (.list Ag)],f? 9 [12] [.t 8 (.list Ag),.t 9 .bool] 2 []])] (A2 Z2 (A2 iI (A2 Mx (A2 TQ B4))))
def jJ:a? 96 [Bf,B0,i64,i64,i64] [(.list Ag),i64] FM:=k0 [(96,[f? 11 [16] [.t 10 (.list Ag),11] 0 []])] (A2 bp (A2 Xt (A2 Yo (A2 Xr (A2 Z3 (A2 bo B4))))))
def fR:a? 97 [BC,(.list Ag)] [BC,i64] Mn:=k0 [(97,[f? 2 [6,g? 0 BC,g? 1 BC] [5,g? 1 BC,.x 0] 0 [g? 0 BC,g? 1 BC]])] (A2 TN B4)
def fQ:a? 44 [BC,Bf,B0,i64] [BC,i64] Mm:=k0 [] (A2 Fs (A2 B8 (A2 G1 (A2 jJ (A2 fR B4)))))
def fP:a? 15 [BY,Bf,B0,i64,i64] [BY,i64] HV:=k0 [(15,[c? 19 [g? 6 Fe],⟨0,11,[],[(4,2,Fe)],[],[],[.t 13 i64,.u 5 Fe,.p 4 [.d i64,.d i64,.o 5],.p 3 [.d BY]],[(.ret,[.t 11 i64,.p 3 [.d BY],.x 4,.x 5]),(.exit 0,[.u 5 Fe,.p 4 [.d i64,.d i64,.o 5],.p 3 [.d BY]])]⟩])] (A2 bq (A2 Fs (A2 B8 (A2 fO (A2 fQ (A2 G1 B4))))))
def hZ:a? 18 [B0,i64] [B0,i64] KB:=k0 [] (A2 B8 (A2 GK B4))
def Z4:a? 52 [BY] [.str,i64] H4:=k0 [(52,[e? 7 [.t 5 .str,6] 0 [.t 5 .str]])] (A2 Jg (A2 DG (A2 Ja B4)))
def gz:a? 19 [BY] [Cm] Nd:=k0 [] (A2 Z4 B4)
open Go.RowKit Go.Ab Go.Pm
def AFy(w:World):Calls Tryz.prog 50 #[] w λe a=>e=.returned (.agg (ς 8 (Value.int .i64 1)).toArray)/\Below w.heap.size w a:=by
 go_enter Tryz.func50,Tryz.ntmps50
 go_wp2
 refine bodyPost_ret (results_cell_row (p:=0) (ty:=62) (t:=62) rfl _ _ w.heap.size _ _ _ rfl (heap_alloc_new w _) Tryz.underlying62 rfl (by kernel_rfl)) rfl ⟨rfl,(Below.refl _ w).alloc (Ai _) _⟩
def Z5:(Pg.c0 50 [] [(.arr 7 (.int .i64))] UZ).Ok Tryz.prog:=by
 intro x y m H;cases m;refine ir (args:=[]) (v:=.agg (ς 8 (AV.int .i64 1))) (λw f l hr=>?_) H;have e:f= #[]:=mh l;rw[e];apply (AFy w).mono;rintro e n ⟨rfl,b⟩;have d:∀{i:Type}{a v:i}{j:Nat},(ς 8 a)[j]?=δ v->v=a:=λ{i a v j} h=>by rw[List.getElem?_replicate]at h;split at h<;>simp_all
 refine⟨_,rfl,λx=>.agg rfl (λj c h=>?_) (λj v c k g=>?_),b⟩;rw[XU]at h;rw[d h];rfl;rw[XU]at g;rw[d k,d g];exact .int _ _
def Yd:(Pg.c0 237 [(.int .u64)] [(.int .i64)] TT).Ok Tryz.prog:=by intro x y a;obtain⟨h,rfl⟩:=rX a;rw[show x=0 from eq_of_beq h];exact wG (P:=Tryz.prog) (cs:=[]) (hs:=λ_=>[]) (n:=13) (F:=237) (ds:=[(.int .u64)]) (rs:=[(.int .i64)]) (g:=xT Tryz.prog [] (λ_=>[]) 13 237 [(.int .u64)] [(.int .i64)]) B4 (λ_=>rfl) 0 0 (by kernel_rfl)
end Go.Proofs.YtkgodfhnofpglaaGreatDoor
