/- Texts of wip, joined and shortened by wip/tools/pack.py; nothing is assumed. -/
import Derived.Test.YtdjfjcnheopcdaaGreatDoorK14
import Derived.Test.YtdjfjcnheopcdaaGreatDoorProg
import Derived.KernelRfl
noncomputable section
set_option linter.all false
namespace Go.Proofs.YtdjfjcnheopcdaaGreatDoor
open Go Go.Ab Go.Pm
set_option maxRecDepth 100000
def Z3:a? 138 [i64] [.bool] FW:=k0 [] Bu
def Nq:a? 82 [i64,i64] [i64] D6:=k0 [] (Ay Z3 Bu)
def kB:a? 81 [(.list i64)] [i64] KG:=k0 [(81,[f? 3 [8] [2] 0 []])] Bu
def Xc:a? 80 [BR,BR] [i64] Ho:=k0 [] (Ay Nq (Ay kB Bu))
def PE:As (.c2 335 BR [i64,i64,i64] [] [.fn (.func 80) [] []] Ci):=PG (hs:=Zy [(335,[e? 1 [10,.u 0 BR,.g 0 0] 0 [.u 0 BR]])]) (n:=13) Bu (λl x=>by kernel_rfl)
def Qn:As (.c2 288 BR [i64,i64,i64] [] [.fn (.func 80) [] []] Eb):=PG (hs:=Zy [(288,[e? 2 [10,11,.u 0 BR,.g 0 0] 0 [10,.u 0 BR,.g 0 0]])]) (n:=13) (Ay PE Bu) (λl x=>by kernel_rfl)
def NB:As (.c2 221 BR [i64,i64] [] [.fn (.func 80) [] []] Cw):=PG (hs:=Zy [(221,[e? 1 [8,.u 0 BR,.g 0 0] 0 [.u 0 BR],e? 4 [9,.u 0 BR,.g 0 0] 2 [.u 0 BR,.g 0 0]])]) (n:=13) (Ay Xc Bu) (λl x=>by kernel_rfl)
def Pp:As (.c2 222 BR [i64,i64,i64] [] [.fn (.func 80) [] []] EJ):=oM (P:=Tryz.prog) (F:=222) (te:=BR) (ds:=[i64,i64,i64]) (rs:=[]) (post:=[.fn (.func 80) [] []]) (f:=λg p=>B7 g p.1 p.2) (hs:=Zy [(222,[e? 3 [10,11] 0 [10],e? 9 [13,.u 0 BR,.g 0 0] 2 [.u 0 BR],e? 15 [14,15] 4 [14],e? 21 [17,.u 0 BR,.g 0 0] 6 [.u 0 BR],e? 33 [20,21] 8 [20],c? 28 [20,21],c? 40 [.u 0 BR,.g 0 0],c? 42 [.u 0 BR,.g 0 0],c? 44 [.u 0 BR]])]) (n:=13) (Ay Xc (Ay Qn Bu)) (λg l x=>by kernel_rfl)
def Qo:As (.c2 137 BR [i64] [] [.fn (.func 80) [] []] Ec):=PG (hs:=Zy [(137,[e? 2 [7,8,.u 0 BR,.g 0 0] 0 [7,.u 0 BR,.g 0 0],e? 7 [6,.u 0 BR,.g 0 0] 2 [.u 0 BR],e? 9 [7,8,.u 0 BR,.g 0 0] 4 [7,.u 0 BR,.g 0 0]])]) (n:=13) (Ay NB (Ay Pp Bu)) (λl x=>by kernel_rfl)
def JZ:As (.c2 79 BR [] [] [.fn (.func 80) [] []] Cq):=PG (hs:=Zy []) (n:=13) (Ay Qo Bu) (λl x=>by kernel_rfl)
def SL:As (.cl 140 Ah):=tP (t:=26) (b:=4) (by kernel_rfl) (by kernel_rfl) (by kernel_rfl)
def mK:a? 152 [(.int .u64)] [i64] QX:=k0 [(152,[c? 2 [.t 0 (.int .u64),2],c? 5 [.t 0 (.int .u64),2],c? 8 [.t 0 (.int .u64),2]])] Bu
def QQ:a? 85 [(.int .u64)] [i64] IG:=k0 [] (Ay mK Bu)
def HD:a? 23 [BS] [.bool] Fb:=k0 [(23,[f? 5 [4] [.t 2 .bool] 0 [],f? 13 [5,89] [.t 2 .bool] 2 []])] Bu
def ir:a? 68 [Br] [i64] CW:=k0 [] Bu
def pr:a? 121 [i64,Ah] [.bool] OC:=k0 [] Bu
def pp:a? 260 [i64] [.bool] Hp:=k0 [] Bu
def kA:a? 261 [Kn] [.bool] C9:=k0 [] Bu
def cK:a? 189 [I9] [.bool] OA:=k0 [] (Ay pp (Ay kA Bu))
def tF:a? 188 [I9] [.bool] MP:=k0 [] Bu
def nw:a? 187 [Ah] [.bool] GC:=k0 [] Bu
def ny:a? 190 [Ah] [.bool] TN:=k0 [] Bu
def nz:a? 191 [I9] [.bool] TO:=k0 [] Bu
def TK:a? 69 [Ah] [.bool] GB:=k0 [(69,[c? 5 [.t 47 .bool],c? 8 [.t 67 .bool]])] (Ay pr (Ay cK (Ay tF (Ay nw (Ay ny (Ay nz Bu))))))
def Jc:a? 24 [Br] [.bool] G5:=k0 [(24,[f? 4 [37] [.t 2 .bool] 0 []])] (Ay ir (Ay TK Bu))
def oA:a? 198 [BS,Br,i64,i64] [i64] Pr:=k0 [] (Ay HD (Ay Jc Bu))
def cM:a? 127 [Br] [i64] Q8:=k0 [] (Ay Jc (Ay ir Bu))
def Rg:a? 148 [i64,i64] [.bool] OB:=k0 [] (Ay Z3 Bu)
def kO:a? 333 [i64] [.bool] FW:=k0 [] Bu
def Vl:a? 273 [(.list i64),i64] [i64,.bool] JX:=k0 [(273,[c? 6 [7,8],e? 3 [7,8] 0 [7]])] (Ay Rg (Ay kO Bu))
def Z2:a? 220 [BS,i64] [i64,i64] Jx:=k0 [] Bu
def Uu:a? 211 [BS,i64] [i64,i64,.bool] GA:=k0 [(211,[c? 5 [7]])] (Ay HD (Ay Vl (Ay Z2 Bu)))
def P4:a? 155 [.str,i64,i64] [i64,i64] Bq:=k0 [(155,[e? 7 [.t 8 (.int .u64),35] 1 [.t 8 (.int .u64)]])] Bu
def kC:a? 268 [] [(.arr 15 (.int .u32))] Ks:=k0 [(268,[c? 9 [.t 3 (.int .u32)],e? 7 [.t 3 (.int .u32),9] 2 [.t 3 (.int .u32)],e? 3 [4,g? 1 (.arr 15 (.int .u32))] 0 [g? 1 (.arr 15 (.int .u32))]])] Bu
def aM:a? 197 [.str] [(.int .u32)] On:=k0 [(197,[e? 4 [.t 4 (.int .u32),9] 0 [.t 4 (.int .u32)]])] (Ay kC Bu)
def Z4:a? 153 [.str,i64] [.str,i64,i64] DX:=k0 [] (Ay P4 (Ay aM Bu))
def Ta:a? 229 [.str,.str] [.bool] EP:=k0 [] Bu
def Vy:a? 154 [.str,.str] [.bool] Eo:=k0 [] (Ay Ta Bu)
def Tt:b? 282 0 Qt [i64] [i64] B0:=k1 [(282,[c? 6 [g? 0 Qt]])] (Ay P4 Bu)
def Vr:b? 284 0 Qt [i64] [.str] Ej:=k1 [(284,[c? 2 [g? 0 Qt]])] Bu
def jH:b? 283 0 Qt [] [Kn] Ei:=k1 [] (Ay Tt (Ay Vr Bu))
def pq:a? 218 [.str] [Ah,i64] JP:=k0 [] (Ay Tt (Ay jH (Ay Vr (Ay TK Bu))))
def oG:a? 285 [Bz] [.bool] MJ:=k0 [] Bu
def Uw:a? 202 [Ah] [.bool] BF:=k0 [] Bu
def rn:a? 286 [Bz,Ah] [.bool] P7:=k0 [] (Ay Uw Bu)
def px:a? 287 [Ah,Ah] [i64] Og:=k0 [] (Ay Nq (Ay kB Bu))
def tL:a? 219 [Bz] [.bool] Vc:=k0 [(219,[f? 4 [18] [.t 2 .bool] 0 []])] (Ay oG (Ay TK (Ay rn (Ay px Bu))))
def rl:a? 135 [.str] [Bz,i64] Kc:=k0 [(135,[⟨0,8,[],[(4,5,Ah)],[],[],[.t 5 i64,.t 32 i64,.u 5 Ah,.p 4 [.d i64,.d i64,.d i64,.d i64,.d i64,.o 5],.p 0 [.d Bz]],[(.ret,[.t 3 i64,.p 0 [.d Bz],.x 4,.x 5]),(.exit 0,[.t 5 i64,.u 5 Ah,.p 4 [.d i64,.d i64,.d i64,.d i64,.d i64,.o 5],.p 0 [.d Bz]])]⟩])] (Ay Z4 (Ay Vy (Ay P4 (Ay pq (Ay tL Bu)))))
def mH:a? 136 [BS,Bz] [i64] MO:=k0 [(136,[f? 2 [11] [4] 0 []])] (Ay Z2 Bu)
def mG:a? 78 [BS,Bj] [Bz,.bool] Gi:=k0 [] (Ay rl (Ay mH Bu))
def nD:a? 83 [Bz,i64] [Bz] N9:=k0 [(223,[f? 2 [8] [4] 0 []]),(139,[e? 5 [6,5,.u 3 Ah,.g 0 3] 0 [5,.u 3 Ah,.g 0 3]])] (Ay SL Bu)
def QP:a? 26 [BS] [(.list Bz),(.list i64)] G3:=k0 [(26,[⟨0,5,[(4,BR)],[],[],[],[.t 19 i64,.u 1 BR,.g 4 1],[(.exit 0,[.u 1 BR,.g 4 1])]⟩,⟨0,14,[(2,Bz),(3,i64)],[],[],[],[.t 42 i64,.t 9 i64,.t 10 i64,.u 2 Bz,.g 2 2,.u 3 i64,.g 3 3],[(.exit 2,[.u 2 Bz,.g 2 2,.u 3 i64,.g 3 3])]⟩])] (Ay HD (Ay mG (Ay JZ (Ay nD Bu))))
def oC:a? 199 [BS,Br,i64] [(.list N1)] Ps:=k0 [(199,[hn 3 1 [] []]),(210,[e? 4 [27,.u 2 N1,.p 3 [.o 2],.y 6 .ready] 0 [.u 2 N1,.p 3 [.o 2],.y 6 .ready]])] (Ay cM (Ay Uu (Ay QP Bu)))
def Wl:a? 206 [N1,i64] [.bool] I4:=k0 [] Bu
def mJ:b? 270 1 i64 [N1] [.bool] VM:=k1 [] (Ay Wl Bu)
def oB:a? 200 [(.list N1),i64] [i64] MI:=k0 [(200,[hn 0 1 [g? 0 i64] [(.ret,[4,.x 0])]]),(269,[f? 2 [8,g? 0 i64] [4,g? 0 i64] 0 [g? 0 i64]])] (Ay mJ Bu)
def kD:a? 125 [BS,Br,i64,i64,i64] [(.list Ah),i64] Hq:=k0 [(125,[e? 14 [57,17,.m 9 .i64 Ah] 0 [17,.m 9 .i64 Ah],hn 0 24 [85,.m 9 .i64 Ah,g? 11 i64,g? 5 (.list Ah),g? 6 i64] [(4,[.m 9 .i64 Ah,g? 11 i64,g? 5 (.list Ah),g? 6 i64]),(.ret,[.m 9 .i64 Ah,g? 11 i64,g? 5 (.list Ah),g? 6 i64])],hn 0 43 [137,g? 5 (.list Ah),g? 6 i64] [(8,[g? 5 (.list Ah),g? 6 i64]),(.ret,[g? 5 (.list Ah),g? 6 i64])]]),(210,[hn 0 4 [27,.m 9 .i64 Ah,g? 11 i64,g? 5 (.list Ah),g? 6 i64,.y 14 .ready] [(0,[.m 9 .i64 Ah,g? 11 i64,g? 5 (.list Ah),g? 6 i64,.y 14 .ready]),(.ret,[.m 9 .i64 Ah,g? 11 i64,g? 5 (.list Ah),g? 6 i64,.y 14 .ret])]]),(204,[]),(269,[f? 2 [8] [4] 0 []])] (Ay oA (Ay oC (Ay oB (Ay Uw (Ay Uu (Ay QP (Ay Wl (Ay Qj Bu))))))))
def Si:As (.c2 142 i64 [i64,i64] [] [] Lm):=PG (hs:=Zy [(142,[e? 1 [6,.u 0 i64,.g 0 0] 0 [.u 0 i64],e? 4 [7,.u 0 i64,.g 0 0] 2 [.u 0 i64,.g 0 0],hn 4 4 [] [(2,[]),(.normal,[])]])]) (n:=13) (Ay Rg Bu) (λl x=>by kernel_rfl)
def N6:As (.c0 143 [] [] (λ_=>none)):=λ_ _ h=>by cases h
def KZ:As (.c0 144 [] [] (λ_=>none)):=λ_ _ h=>by cases h
def Ll:As (.c0 145 [] [] (λ_=>none)):=λ_ _ h=>by cases h
def Kr:As (.c0 146 [] [] (λ_=>none)):=λ_ _ h=>by cases h
def Hm:As (.c0 147 [] [] (λ_=>none)):=λ_ _ h=>by cases h
def J1:As (.c0 149 [] [] (λ_=>none)):=λ_ _ h=>by cases h
def Np:As (.c0 150 [] [] (λ_=>none)):=λ_ _ h=>by cases h
def Wr:As (.c2 84 i64 [i64,i64,i64] [] [] Qg):=oM (P:=Tryz.prog) (F:=84) (te:=i64) (ds:=[i64,i64,i64]) (rs:=[]) (post:=[]) (f:=λg p=>Ou g p.1 p.2) (hs:=Zy [(84,[hn 0 2 [1,2,3,.t 8 .bool,.t 9 .bool,.u 0 i64,.g 0 0] [(.ret,[.u 0 i64])],c? 8 [3,.u 0 i64,.g 0 0],c? 12 [11,12,.u 0 i64,.g 0 0],hn 4 15 [.x 0] [(.normal,[.u 0 i64,.g 0 0]),(.ret,[.u 0 i64])],hn 4 17 [.x 0] [(1,[1,.u 0 i64,.g 0 0]),(.normal,[1,.u 0 i64,.g 0 0])],c? 25 [1,2,.t 8 .bool,.u 0 i64,.g 0 0]])]) (n:=13) (Ay Si (Ay N6 (Ay KZ (Ay Ll (Ay Kr (Ay Hm (Ay J1 (Ay Np (Ay Rg Bu))))))))) (λg l x=>by kernel_rfl)
def UA:As (.c2 28 i64 [] [] [] Lj):=PG (hs:=Zy []) (n:=13) (Ay Wr (Ay QQ Bu)) (λl x=>by kernel_rfl)
def Xd:a? 89 [BL,BL] [i64] QV:=k0 [] (Ay Nq Bu)
def mI:a? 132 [Df,Df] [i64] QU:=k0 [] (Ay Nq Bu)
def Po:As (.c2 230 BL [i64,i64] [] [.fn (.func 89) [] []] I8):=PG (hs:=Zy [(230,[e? 1 [8,.u 0 BL,.g 0 0] 0 [.u 0 BL],e? 4 [9,.u 0 BL,.g 0 0] 2 [.u 0 BL,.g 0 0],hn 4 4 [] [(2,[]),(.normal,[])]])]) (n:=13) (Ay Xd Bu) (λl x=>by kernel_rfl)
def SM:As (.c0 231 [] [] (λ_=>none)):=λ_ _ h=>by cases h
def Pn:As (.c0 232 [] [] (λ_=>none)):=λ_ _ h=>by cases h
def Ql:As (.c0 233 [] [] (λ_=>none)):=λ_ _ h=>by cases h
def QB:As (.c0 234 [] [] (λ_=>none)):=λ_ _ h=>by cases h
def Lu:As (.c0 235 [] [] (λ_=>none)):=λ_ _ h=>by cases h
def PD:As (.c0 236 [] [] (λ_=>none)):=λ_ _ h=>by cases h
def Rh:As (.c0 237 [] [] (λ_=>none)):=λ_ _ h=>by cases h
def Sj:As (.c2 157 BL [i64,i64,i64] [] [.fn (.func 89) [] []] Ln):=oM (P:=Tryz.prog) (F:=157) (te:=BL) (ds:=[i64,i64,i64]) (rs:=[]) (post:=[.fn (.func 89) [] []]) (f:=λg p=>Ke g p.1 p.2) (hs:=Zy [(157,[hn 0 2 [1,2,3,.t 10 .bool,.t 11 .bool,.u 0 BL,.g 0 0] [(.ret,[.u 0 BL])],c? 8 [3,.u 0 BL,.g 0 0],c? 12 [13,14,.u 0 BL,.g 0 0],hn 4 15 [.x 0] [(.normal,[.u 0 BL,.g 0 0]),(.ret,[.u 0 BL])],hn 4 17 [.x 0] [(1,[1,.u 0 BL,.g 0 0]),(.normal,[1,.u 0 BL,.g 0 0])],c? 25 [1,2,.t 10 .bool,.u 0 BL,.g 0 0]])]) (n:=13) (Ay Po (Ay SM (Ay Pn (Ay Ql (Ay QB (Ay Lu (Ay PD (Ay Rh (Ay Xd Bu))))))))) (λg l x=>by kernel_rfl)
def Qk:As (.c2 88 BL [] [] [.fn (.func 89) [] []] GV):=PG (hs:=Zy []) (n:=13) (Ay Sj (Ay QQ Bu)) (λl x=>by kernel_rfl)
def Qm:As (.c2 276 Df [i64,i64] [] [.fn (.func 132) [] []] Ea):=PG (hs:=Zy [(276,[e? 1 [8,.u 0 Df,.g 0 0] 0 [.u 0 Df],e? 4 [9,.u 0 Df,.g 0 0] 2 [.u 0 Df,.g 0 0],hn 4 4 [] [(2,[]),(.normal,[])]])]) (n:=13) (Ay mI Bu) (λl x=>by kernel_rfl)
def Td:As (.c0 277 [] [] (λ_=>none)):=λ_ _ h=>by cases h
def U9:As (.c2 214 Df [i64] [] [.fn (.func 132) [] []] I6):=PG (hs:=Zy [(214,[e? 2 [7,8,.u 0 Df,.g 0 0] 0 [7,.u 0 Df,.g 0 0],e? 7 [6,.u 0 Df,.g 0 0] 2 [.u 0 Df],e? 9 [7,8,.u 0 Df,.g 0 0] 4 [7,.u 0 Df,.g 0 0],c? 15 [.u 0 Df,.g 0 0]])]) (n:=13) (Ay Qm (Ay Td Bu)) (λl x=>by kernel_rfl)
def Pl:As (.c2 131 Df [] [] [.fn (.func 132) [] []] EI):=PG (hs:=Zy []) (n:=13) (Ay U9 Bu) (λl x=>by kernel_rfl)
def bC:As (.cl 27 i64):=tP (t:=43) (b:=4) (by kernel_rfl) (by kernel_rfl) (by kernel_rfl)
def Tb:As (.cl 44 Bj):=tP (t:=47) (b:=4) (by kernel_rfl) (by kernel_rfl) (by kernel_rfl)
def cL:As (.c0 164 [] [] (λ_=>none)):=λ_ _ h=>by cases h
def WQ:As (.c0 294 [] [] (λ_=>none)):=λ_ _ h=>by cases h
def Sg:As (.c0 295 [] [] (λ_=>none)):=λ_ _ h=>by cases h
def Um:As (.c0 296 [] [] (λ_=>none)):=λ_ _ h=>by cases h
def Tc:As (.c0 297 [] [] (λ_=>none)):=λ_ _ h=>by cases h
def PC:As (.c0 298 [] [] (λ_=>none)):=λ_ _ h=>by cases h
def SN:As (.c0 299 [] [] (λ_=>none)):=λ_ _ h=>by cases h
def Vm:As (.c0 300 [] [] (λ_=>none)):=λ_ _ h=>by cases h
def Vt:a? 53 [i64] [Dx,i64] J8:=k0 [] Bu
def Vu:a? 54 [i64] [Dt,i64] J9:=k0 [] Bu
def jN:a? 55 [] [Br] IB:=k0 [] Bu
def QA:a? 17 [i64,i64] [Ax,i64] EH:=k0 [] (Ay Vt (Ay Vu (Ay jN Bu)))
def aO:a? 98 [i64] [(.list .str)] PK:=k0 [(98,[⟨0,3,[(3,.str)],[],[],[],[.t 4 i64,.u 0 .str,.g 3 0],[(.exit 0,[.u 0 .str,.g 3 0])]⟩])] Bu
def Vs:a? 45 [i64] [D9,i64] El:=k0 [] (Ay aO Bu)
def Sf:a? 56 [i64,(.list i64)] [.bool] FQ:=k0 [(56,[f? 4 [5] [.t 4 .bool] 0 []])] Bu
def Vw:a? 18 [i64,(.list i64)] [BS,i64] Fh:=k0 [] (Ay Sf Bu)
def kF:a? 215 [i64] [.bool] Hp:=k0 [] Bu
def tH:a? 278 [] [.str] Xy:=k0 [] (Ay Te Bu)
def iu:a? 279 [.str,i64,i64] [i64] Gz:=k0 [] (Ay P4 Bu)
def u7:a? 280 [.str] [BC,.bool] Wt:=k0 [(280,[hn 2 9 [.x 0,.x 1] [(.normal,[g? 1 BC,g? 0 BC]),(.ret,[.t 3 .bool,g? 0 BC,.x 1])],f? 3 [13,g? 1 BC,g? 0 BC] [.t 3 .bool,g? 0 BC,.x 1] 0 [g? 1 BC,g? 0 BC]])] (Ay iu Bu)
def rk:a? 192 [BC] [.bool] Wh:=k0 [] (Ay kF Bu)
def tJ:a? 193 [BC] [.bool] VP:=k0 [(193,[f? 2 [7] [.t 2 .bool] 0 []])] Bu
def jI:b? 195 0 YZ [Kn] [] J5:=k1 [(195,[c? 3 [4]])] (Ay ma (Ay Te Bu))
def XE:a? 124 [BC] [.str,i64] NF:=k0 [(124,[e? 8 [29,g? 1 YZ] 1 [g? 1 YZ]])] (Ay rk (Ay tJ (Ay ma (Ay jI (Ay Te (Ay aM Bu))))))
def rj:a? 216 [.str] [BC,i64] P6:=k0 [] (Ay tH (Ay iu (Ay aM (Ay u7 (Ay XE Bu)))))
def oF:a? 77 [i64] [BC] Ff:=k0 [] Bu
def Ux:a? 134 [.str,i64] [BC,i64] GD:=k0 [] (Ay kF (Ay rj (Ay oF Bu)))
def nF:a? 156 [.str] [EV] Rm:=k0 [] (Ay P4 (Ay Ux Bu))
def TL:a? 133 [BL] [.bool] Kb:=k0 [(133,[f? 4 [36] [.t 2 .bool] 0 []])] (Ay Ux Bu)
def pw:a? 86 [.str] [BL,i64] JQ:=k0 [(86,[⟨0,13,[],[(1,2,EV)],[],[],[.t 5 i64,.t 50 i64,.u 2 EV,.p 1 [.d i64,.d i64,.o 2],.p 0 [.d BL]],[(.ret,[.t 3 i64,.p 0 [.d BL],.x 1,.x 2]),(.exit 0,[.t 5 i64,.u 2 EV,.p 1 [.d i64,.d i64,.o 2],.p 0 [.d BL]])]⟩])] (Ay Z4 (Ay Vy (Ay P4 (Ay nF (Ay TL Bu)))))
def re:a? 87 [BL] [.bool] Wg:=k0 [] (Ay TL Bu)
def Uv:a? 30 [(.list Bj)] [(.list BL)] G4:=k0 [(30,[⟨0,4,[(4,BL)],[],[],[],[.t 12 i64,.m 0 .i64 .bool,.u 1 BL,.g 4 1],[(.exit 0,[.m 0 .i64 .bool,.u 1 BL,.g 4 1])]⟩])] (Ay pw (Ay re (Ay Qk Bu)))
def oD:a? 275 [EV,i64] [i64] Pt:=k0 [] Bu
def rf:a? 213 [BL,i64] [i64,.bool] Sm:=k0 [(274,[c? 6 [9,10],e? 3 [9,10] 0 [9]])] (Ay oD Bu)
def kE:a? 130 [BL,i64] [EV,.bool] VN:=k0 [] (Ay TL (Ay rf Bu))
def nv:a? 73 [(.list Bj),i64,i64] [(.list Df)] TM:=k0 [(73,[hn 3 2 [] []]),(212,[⟨0,1,[],[(2,0,Df)],[],[],[.t 3 i64,.u 5 Df,.p 2 [.o 5],.y 4 .ready],[(.exit 0,[.u 5 Df,.p 2 [.o 5],.y 4 .ready])]⟩])] (Ay Uv (Ay kE (Ay Pl Bu)))
def kN:b? 75 1 Df [BL] [.bool] Tl:=k1 [] Bu
def tG:a? 76 [BL,i64] [BC,i64] Xx:=k0 [] (Ay TL (Ay kE (Ay Ux Bu)))
def mM:a? 123 [BS,Br] [i64] Qh:=k0 [] (Ay HD (Ay Jc Bu))
def po:a? 272 [BC,I9] [BC,i64] VH:=k0 [] (Ay cK Bu)
def tK:a? 209 [BC,Ah] [BC,i64] Vb:=k0 [] (Ay TK (Ay Uw (Ay XE (Ay po Bu))))
def pz:a? 126 [BC,(.list Ah)] [BC,i64] Vd:=k0 [(126,[f? 2 [12,g? 0 BC,g? 1 BC] [5,g? 1 BC,.x 0] 0 [g? 0 BC,g? 1 BC]])] (Ay tK Bu)
def py:a? 71 [BC,BS,Br,i64] [BC,i64] JY:=k0 [] (Ay mM (Ay XE (Ay kD (Ay pz Bu))))
def pu:a? 72 [BS,Br,i64,i64,i64] [(.list i64),i64,i64,i64] OD:=k0 [(72,[]),(210,[⟨0,4,[],[(4,0,i64)],[],[],[.t 27 i64,.u 9 i64,.p 4 [.o 9],.y 8 .ready],[(.exit 0,[.u 9 i64,.p 4 [.o 9],.y 8 .ready])]⟩])] (Ay kD (Ay cM (Ay Uu (Ay QP (Ay UA Bu)))))
def nG:a? 25 [(.list Bj),BS,Br,i64,i64] [BC,fA,i64] Rn:=k0 [(25,[f? 10 [61,g? 4 BC,g? 5 fA] [12,g? 4 BC,g? 5 fA] 1 [g? 4 BC,g? 5 fA]]),(74,[f? 2 [8,g? 6 Df] [4,g? 6 Df] 0 [g? 6 Df]])] (Ay HD (Ay Jc (Ay Uv (Ay nv (Ay kN (Ay tG (Ay py (Ay pu (Ay oF Bu)))))))))
def WO:b? 11 0 BE [i64] [i64] G6:=k1 [] Bu
def Ca:b? 11 0 BE [i64] [i64] An:=k1 [] (Ay WO Bu)
def jS:a? 167 [i64,i64] [A2,i64] Nv:=k0 [] (Ay QA (Ay Vs Bu))
def Xo:b? 352 0 BE [] [.str] IL:=k1 [(352,[c? 3 [3,g? 0 BE],e? 6 [5,.u 1 (.int .u8),.g 4 1,g? 0 BE] 0 [.u 1 (.int .u8),.g 4 1,g? 0 BE]])] (Ay Ca Bu)
def Yg:b? 353 0 BE [] [i64] G0:=k1 [] (Ay Ca Bu)
def Wm:b? 310 0 BE [i64] [Eh] HX:=k1 [(310,[c? 5 [.t 15 .bool],c? 4 [.t 15 .bool],c? 8 [g? 0 BE,g? 3 Eh],c? 11 [g? 0 BE,g? 3 Eh],c? 6 [g? 0 BE,g? 3 Eh],c? 13 [g? 0 BE,g? 3 Eh]])] (Ay Ca (Ay Xo (Ay Yg Bu)))
def Xp:b? 244 0 BE [i64,i64,.bool] [TT] IM:=k1 [(244,[c? 3 [.t 11 .bool],d? 12 [g? 0 BE,g? 1 TT] [g? 0 BE,g? 1 TT]])] (Ay Ca (Ay Wm Bu))
def Vk:b? 169 0 BE [i64,i64,.bool] [(.list TT)] Gj:=k1 [(169,[e? 3 [10,.u 1 TT,.g 9 1,g? 0 BE] 0 [.u 1 TT,.g 9 1,g? 0 BE]])] (Ay Ca (Ay Xp Bu))
def GI:a? 65 [Br] [i64] CW:=k0 [] Bu
def QR:a? 311 [Kn] [.bool] C9:=k0 [] Bu
def T1:a? 245 [I9] [.bool] Ig:=k0 [] (Ay QR Bu)
def cU:a? 170 [Ah] [Ah,.bool] LK:=k0 [(170,[c? 4 [.t 13 .bool],c? 8 [.t 5 .bool,g? 2 Ah],c? 13 [.t 67 .bool],c? 12 [.t 67 .bool],c? 17 [.t 91 .bool]])] (Ay T1 Bu)
def aP:a? 171 [i64,i64] [.bool] GN:=k0 [] Bu
def Dj:a? 105 [Ah] [.bool] Ch:=k0 [] (Ay cU (Ay aP Bu))
def CA:a? 58 [Br] [.bool] B3:=k0 [(58,[f? 4 [3] [.t 2 .bool] 0 []])] (Ay GI (Ay Dj Bu))
def Rt:a? 255 [BC] [.bool] HM:=k0 [] Bu
def Tx:a? 256 [BC] [.bool] Ie:=k0 [(256,[f? 2 [3] [.t 2 .bool] 0 []])] (Ay QR Bu)
def cP:a? 402 [BC] [.bool] LG:=k0 [] (Ay Rt (Ay Tx Bu))
def ED:a? 370 [Dx] [.bool] DF:=k0 [(370,[f? 11 [6] [.t 2 .bool] 2 [],f? 5 [4] [.t 2 .bool] 0 []])] (Ay cP Bu)
def T2:a? 459 [Bb] [.bool] Gu:=k0 [] Bu
def U0:a? 460 [Bb,Bb] [.bool] E9:=k0 [] Bu
def Kq:a? 446 [Bb,Bb] [.bool] D1:=k0 [] Bu
def PA:a? 461 [Cs,i64,Ix] [i64] D2:=k0 [(461,[f? 2 [7] [6] 0 []])] Bu
def Et:a? 422 [Cs] [.bool] Do:=k0 [(422,[f? 9 [4] [.t 2 .bool] 2 [],f? 4 [3] [.t 2 .bool] 0 [],f? 20 [7] [.t 2 .bool] 6 [],f? 14 [5] [.t 2 .bool] 4 []])] (Ay T2 (Ay U0 (Ay Kq (Ay PA Bu))))
def cp:a? 435 [Bw] [.bool] LV:=k0 [(435,[f? 6 [3] [.t 2 .bool] 0 [],f? 11 [4] [.t 2 .bool] 2 []])] Bu
def Eu:a? 394 [(.list Bw)] [.bool] Dq:=k0 [(394,[f? 4 [3] [.t 2 .bool] 0 []])] (Ay cp Bu)
def jP:a? 462 [i64] [.bool] Ge:=k0 [] Bu
def Fs:a? 423 [Dt] [.bool] Dp:=k0 [(423,[f? 4 [3] [.t 2 .bool] 0 []])] (Ay jP Bu)
def Pk:a? 424 [(.list Bv),i64] [.bool] Ez:=k0 [(424,[f? 2 [5] [.t 4 .bool] 0 []])] Bu
def cy:a? 380 [Ax] [.bool] La:=k0 [] (Ay CA (Ay ED (Ay Et (Ay Eu (Ay Fs (Ay Pk Bu))))))
def Jg:a? 381 [Ax,i64] [Bv,.bool] Ed:=k0 [(381,[f? 2 [6,g? 1 Bv] [.t 5 .bool,g? 1 Bv] 0 [g? 1 Bv]])] Bu
def CC:a? 348 [Ax] [.bool] Bh:=k0 [(348,[f? 4 [3] [.t 2 .bool] 0 [],f? 9 [4] [.t 2 .bool] 2 [],f? 18 [8] [.t 2 .bool] 4 [],f? 23 [9] [.t 2 .bool] 6 []])] (Ay cy (Ay Jg Bu))
def KF:a? 395 [(.list Bw),i64] [i64] ET:=k0 [(395,[f? 2 [5] [4] 0 []])] Bu
def T3:a? 364 [(.list Bw),i64] [(.list Bw),i64] Ik:=k0 [(364,[⟨0,11,[(6,Bw)],[],[],[],[.t 7 i64,.u 0 Bw,.g 6 0],[(.exit 1,[.u 0 Bw,.g 6 0])]⟩])] (Ay Eu (Ay KF Bu))
def cq:a? 340 [Ax] [Ax,i64,i64] LW:=k0 [] (Ay CC (Ay T3 Bu))
def dE:a? 301 [A2] [A2,i64,i64] Ld:=k0 [] (Ay cq Bu)
def Cl:a? 309 [i64] [C1] BB:=k0 [] Bu
def ai:a? 306 [i64] [C1] Dy:=k0 [] (Ay Cl Bu)
def GJ:a? 371 [Dx,i64] [i64] FA:=k0 [(371,[f? 2 [5] [4] 0 []])] Bu
def FH:a? 343 [Dx,i64] [i64] D3:=k0 [] (Ay ED (Ay GJ Bu))
def Ia:a? 368 [Dx,i64] [BC,.bool] Fg:=k0 [] (Ay FH Bu)
def KE:a? 52 [Br] [i64] E8:=k0 [] (Ay CA (Ay GI Bu))
def Je:a? 51 [Br,i64] [Br,i64] EB:=k0 [] (Ay CA (Ay GI Bu))
def Jf:a? 369 [Ax,i64] [Ax] Fl:=k0 [(369,[c? 3 [g? 0 Ax]])] (Ay KE (Ay Je Bu))
def cr:a? 342 [Ax,i64] [Ax,BC,i64] LY:=k0 [] (Ay CC (Ay Ia (Ay Jf Bu)))
def HH:a? 182 [BC] [i64] Dn:=k0 [] (Ay Rt (Ay Tx Bu))
def DA:a? 173 [.str,i64,i64] [.str] Aj:=k0 [(173,[e? 4 [.t 0 .str,7] 0 [.t 0 .str]])] Bu
def Tz:a? 176 [i64] [.str] Gr:=k0 [] Bu
def LA:a? 174 [.str] [(.int .u32)] Ek:=k0 [(174,[c? 10 [.t 3 (.int .u32)],e? 7 [.t 3 (.int .u32),5] 2 [.t 3 (.int .u32)],e? 3 [.t 3 (.int .u32),4] 0 [.t 3 (.int .u32)]])] Bu
def Gy:a? 118 [BC] [.str,i64] C2:=k0 [(118,[c? 11 [7],e? 7 [.t 5 .str,6] 0 [.t 5 .str]])] (Ay HH (Ay DA (Ay Tz (Ay LA Bu))))
def cT:a? 479 [D9,DH] [.bool] LJ:=k0 [(479,[c? 7 [.t 59 .bool],d? 13 [.t 4 .bool,.x 2] [g? 2 DH],hn 2 11 [.x 2] [(.normal,[g? 2 DH]),(.ret,[.t 4 .bool,.x 2])],hn 2 9 [.x 2] [(.normal,[g? 2 DH]),(.ret,[.t 4 .bool,.x 2])],hn 2 8 [.x 2] [(.normal,[g? 2 DH]),(.ret,[.t 4 .bool,.x 2])]])] Bu
def cQ:a? 448 [D9] [.bool] LH:=k0 [(448,[f? 5 [4] [.t 2 .bool] 0 [],f? 10 [5] [.t 2 .bool] 2 [],f? 15 [6] [.t 2 .bool] 4 []])] (Ay cT Bu)
def M8:a? 403 [D9,i64] [i64] GM:=k0 [] (Ay cQ Bu)
def Ru:a? 449 [(.list i64),i64] [(.list i64)] Ew:=k0 [(449,[c? 6 [.u 0 i64,.g 5 0],⟨0,3,[(5,i64)],[],[],[],[.t 6 i64,.u 0 i64,.g 5 0],[(.exit 0,[.u 0 i64,.g 5 0])]⟩])] Bu
def fT:a? 406 [(.list i64),i64] [(.list i64)] E7:=k0 [(406,[c? 7 [.t 6 .bool,.u 0 i64,.g 5 0],c? 10 [.u 0 i64,.g 5 0],⟨0,4,[(5,i64)],[],[],[],[.t 6 .bool,.t 7 i64,.u 0 i64,.g 5 0],[(.exit 0,[.t 6 .bool,.u 0 i64,.g 5 0])]⟩,c? 12 [.u 0 i64,.g 5 0]])] Bu
def cR:a? 372 [D9,i64,.str] [D9,i64] QD:=k0 [(372,[c? 16 [.u 8 DH,.u 9 DH,.g 10 8,.p 7 [.o 4,.d i64,.o 5,.d .bool,.o 9]],⟨0,13,[(10,DH)],[(7,4,DH)],[],[],[.t 11 i64,.u 8 DH,.u 4 .str,.u 5 i64,.u 9 DH,.g 10 8,.p 7 [.o 4,.d i64,.o 5,.d .bool,.o 9],.p 2 [.o 4,.d i64,.o 5,.d .bool,.o 6],.p 3 [.o 4,.d i64,.o 5,.d .bool,.o 6]],[(.exit 0,[.u 8 DH,.u 4 .str,.u 5 i64,.u 9 DH,.g 10 8,.p 7 [.o 4,.d i64,.o 5,.d .bool,.o 9],.p 2 [.o 4,.d i64,.o 5,.d .bool,.o 6],.p 3 [.o 4,.d i64,.o 5,.d .bool,.o 6]])]⟩,c? 29 [.t 12 .bool,.u 4 .str,.p 7 [.o 4,.d i64,.d (.list i64),.d .bool,.o 9],.p 2 [.o 4,.d i64,.d (.list i64),.d .bool,.o 6],.p 3 [.o 4,.d i64,.d (.list i64),.d .bool,.o 6]],c? 26 [.t 12 .bool,.u 4 .str,.p 2 [.o 4,.d i64,.d (.list i64),.d .bool,.o 6],.p 3 [.o 4,.d i64,.d (.list i64),.d .bool,.o 6],.p 7 [.o 4,.d i64,.d (.list i64),.d .bool,.o 9]],c? 24 [.t 12 .bool,.u 4 .str,.p 2 [.o 4,.d i64,.d (.list i64),.d .bool,.o 6],.p 3 [.o 4,.d i64,.d (.list i64),.d .bool,.o 6],.p 7 [.o 4,.d i64,.d (.list i64),.d .bool,.o 9]],⟨0,20,[],[],[5],[],[.t 12 .bool,.t 13 i64,.u 4 .str,.u 6 DH,.u 4 .str,.u 6 DH,.u 4 .str,.u 9 DH,.p 2 [.o 4,.d i64,.d (.list i64),.d .bool,.o 6],.p 3 [.o 4,.d i64,.d (.list i64),.d .bool,.o 6],.p 7 [.o 4,.d i64,.d (.list i64),.d .bool,.o 9]],[(.exit 2,[.t 12 .bool,.u 4 .str,.u 6 DH,.u 9 DH,.p 2 [.o 4,.d i64,.d (.list i64),.d .bool,.o 6],.p 3 [.o 4,.d i64,.d (.list i64),.d .bool,.o 6],.p 7 [.o 4,.d i64,.d (.list i64),.d .bool,.o 9]])]⟩,c? 32 [.u 4 .str,.p 7 [.o 4,.d i64,.d (.list i64),.d .bool,.o 9],.p 2 [.o 4,.d i64,.d (.list i64),.d .bool,.o 6],.p 3 [.o 4,.d i64,.d (.list i64),.d .bool,.o 6]],c? 45 [.p 7 [.o 4,.d i64,.d (.list i64),.d .bool,.o 9]],c? 43 [.p 7 [.o 4,.d i64,.d (.list i64),.d .bool,.o 9]],c? 39 [.u 4 .str,.p 7 [.o 4,.d i64,.d (.list i64),.d .bool,.o 9],.p 2 [.o 4,.d i64,.d (.list i64),.d .bool,.o 6],.p 3 [.o 4,.d i64,.d (.list i64),.d .bool,.o 6]],e? 34 [14,.u 4 .str,.u 6 DH,.u 4 .str,.u 6 DH,.u 4 .str,.u 9 DH,.p 2 [.o 4,.d i64,.d (.list i64),.d .bool,.o 6],.p 3 [.o 4,.d i64,.d (.list i64),.d .bool,.o 6],.p 7 [.o 4,.d i64,.d (.list i64),.d .bool,.o 9]] 5 [.u 4 .str,.u 6 DH,.u 9 DH,.p 2 [.o 4,.d i64,.d (.list i64),.d .bool,.o 6],.p 3 [.o 4,.d i64,.d (.list i64),.d .bool,.o 6],.p 7 [.o 4,.d i64,.d (.list i64),.d .bool,.o 9]]])] (Ay M8 (Ay Ru (Ay fT Bu)))
def LB:a? 450 [Dx,i64,Tq] [Dx] ID:=k0 [] Bu
def cj:a? 407 [Dx,i64,i64] [Dx,i64] QE:=k0 [(407,[c? 14 [g? 2 Tq],c? 12 [g? 2 Tq]])] (Ay ED (Ay GJ (Ay LB Bu)))
def DY:a? 412 [(.list Bw),i64] [i64] CK:=k0 [] (Ay KF Bu)
def Du:a? 107 [Ah] [.bool] BF:=k0 [] Bu
def PB:a? 384 [Ax,i64] [i64] EU:=k0 [] (Ay CC (Ay Ia (Ay Jg Bu)))
def aQ:a? 413 [Br,Ah] [Br,i64,i64] KJ:=k0 [] (Ay CA (Ay GI (Ay Dj Bu)))
def Gp:a? 414 [Br,i64] [Ah,i64] En:=k0 [] (Ay CA (Ay GI Bu))
def M9:a? 452 [(.list Bw),i64] [(.list Bw)] GQ:=k0 [(452,[c? 6 [.u 0 Bw,.g 5 0],⟨0,3,[(5,Bw)],[],[],[],[.t 6 i64,.u 0 Bw,.g 5 0],[(.exit 0,[.u 0 Bw,.g 5 0])]⟩])] Bu
def Sc:a? 454 [Bw] [Bw] H5:=k0 [(454,[c? 2 [g? 0 Bw]])] Bu
def P9:a? 453 [(.list Bw),i64,Bw] [(.list Bw)] IE:=k0 [] Bu
def U3:a? 415 [(.list Bw),Ah] [(.list Bw),i64] F6:=k0 [(415,[c? 24 [.u 2 i64,.g 8 2],⟨0,21,[(8,i64)],[],[],[],[.t 9 i64,.u 2 i64,.g 8 2],[(.exit 2,[.u 2 i64,.g 8 2])]⟩,d? 19 [.t 4 (.list Bw),5,.x 1] [g? 1 Bw],hn 2 17 [.x 1] [(.normal,[g? 1 Bw]),(.ret,[.t 4 (.list Bw),5,.x 1])]])] (Ay Eu (Ay Dj (Ay KF (Ay M9 (Ay Sc (Ay P9 Bu))))))
def jQ:a? 455 [Dt,i64,Df] [Dt] Nt:=k0 [] Bu
def U2:a? 416 [Dt,Ah] [Dt,i64] HO:=k0 [] (Ay Fs (Ay Dj (Ay jQ Bu)))
def Fi:a? 376 [Ax,Ah] [Ax,i64,i64] EG:=k0 [(376,[d? 5 [5,6,g? 2 Ax,.x 1] [g? 1 Ah,g? 2 Ax],c? 10 [g? 1 Ah]])] (Ay CC (Ay DY (Ay Du (Ay PB (Ay aQ (Ay Gp (Ay U3 (Ay U2 Bu))))))))
def ZX:a? 373 [Ax,i64,i64] [Ax,i64] Jq:=k0 [(373,[d? 7 [7,g? 1 Ax,.x 2] [g? 2 Dx,g? 1 Ax]])] (Ay CC (Ay KE (Ay FH (Ay cj (Ay Fi Bu)))))
def T6:a? 344 [A2,Ax,BC] [A2,i64] Lg:=k0 [] (Ay Gy (Ay cR (Ay ZX Bu)))
def dG:a? 304 [A2,i64] [A2,i64] Lf:=k0 [] (Ay cr (Ay FH (Ay T6 Bu)))
def ck:a? 408 [Dx] [(.list Bv)] LO:=k0 [(408,[c? 9 [.u 1 Bv,.g 3 1],⟨0,5,[(3,Bv)],[],[],[],[.t 4 i64,.u 1 Bv,.g 3 1],[(.exit 0,[.u 1 Bv,.g 3 1])]⟩])] (Ay ED (Ay GJ Bu))
def kJ:a? 374 [Ax] [HF,i64] PW:=k0 [(374,[c? 9 [.u 3 Bv,.p 2 [.d i64,.d i64,.d (.list Bw),.o 3,.d Dt]],c? 14 [.u 3 Bv,.p 2 [.d i64,.d i64,.d (.list Bw),.o 3,.d Dt]],e? 11 [46,.u 3 Bv,.p 2 [.d i64,.d i64,.d (.list Bw),.o 3,.d Dt]] 2 [.u 3 Bv,.p 2 [.d i64,.d i64,.d (.list Bw),.o 3,.d Dt]],⟨0,5,[],[(2,3,Bv)],[],[],[.t 5 i64,.u 3 Bv,.p 2 [.d i64,.d i64,.d (.list Bw),.o 3,.d Dt]],[(.exit 0,[.u 3 Bv,.p 2 [.d i64,.d i64,.d (.list Bw),.o 3,.d Dt]])]⟩])] (Ay CC (Ay Jg (Ay ck Bu)))
def T4:a? 409 [HF] [.bool] Gv:=k0 [(409,[f? 4 [3] [.t 2 .bool] 0 []])] (Ay Eu (Ay Pk (Ay Fs Bu)))
def ZW:a? 451 [.str,(.list i64)] [.str] HP:=k0 [(451,[e? 2 [.t 0 .str,5] 0 [.t 0 .str]])] (Ay DA Bu)
def aY:a? 410 [(.list Bw)] [.str,i64] KQ:=k0 [(410,[e? 5 [.t 4 .str,5] 0 [.t 4 .str]])] (Ay Eu (Ay DA (Ay ZW Bu)))
def aW:a? 411 [Dt] [.str,i64] Hy:=k0 [(411,[e? 5 [.t 4 .str,5] 0 [.t 4 .str]])] (Ay Fs (Ay DA Bu))
def af:a? 375 [HF] [.str,i64] GR:=k0 [(375,[e? 9 [.t 6 .str,7] 0 [.t 6 .str]])] (Ay T4 (Ay aY (Ay DA (Ay aW Bu))))
def fx:a? 345 [Ax] [Ax,i64,i64] RH:=k0 [] (Ay kJ (Ay af (Ay Fi (Ay Je Bu))))
def XH:a? 305 [A2] [A2,i64,i64] K4:=k0 [] (Ay fx Bu)
def fS:a? 377 [D9,i64,.str,i64] [D9,i64] Q9:=k0 [] (Ay M8 (Ay Ru Bu))
def Jd:a? 110 [.str] [.str] DB:=k0 [] (Ay DA (Ay LA Bu))
def fY:a? 417 [i64] [.str] MW:=k0 [] (Ay DA (Ay Jd Bu))
def fV:a? 175 [.str,Kn] [.str] F3:=k0 [] (Ay DA Bu)
def Sa:a? 112 [Ah] [.str,i64] FL:=k0 [] (Ay Dj (Ay DA (Ay fV Bu)))
def cX:a? 418 [Ah] [.str] Ih:=k0 [] (Ay Sa (Ay Jd Bu))
def cV:a? 378 [Br,i64] [.str] Gs:=k0 [(378,[c? 8 [.t 5 .str,.t 6 .str],e? 5 [.t 5 .str,.t 6 .str,7] 0 [.t 5 .str,.t 6 .str]])] (Ay CA (Ay fY (Ay cX Bu)))
def dF:a? 346 [A2,i64,i64,i64] [D9,.str] Le:=k0 [(346,[c? 8 [g? 3 D9],c? 4 [g? 2 Ax,g? 3 D9]])] (Ay FH (Ay Gy (Ay Jf (Ay fS (Ay cV Bu)))))
def EA:a? 259 [.str,i64,i64] [i64,i64] Av:=k0 [(259,[e? 7 [.t 8 (.int .u64),9] 0 [.t 8 (.int .u64)]])] Bu
def Lr:a? 185 [.str,i64] [.str,i64,i64] Bo:=k0 [] (Ay EA (Ay LA Bu))
def Nn:b? 354 0 O1 [i64] [i64] BQ:=k1 [] (Ay EA Bu)
def N4:b? 356 0 O1 [i64] [.str] Ds:=k1 [] Bu
def Wo:b? 355 0 O1 [] [Kn] DM:=k1 [] (Ay Nn (Ay N4 Bu))
def SZ:a? 320 [.str] [Ah,i64] FK:=k0 [] (Ay Nn (Ay Wo (Ay N4 (Ay Dj Bu))))
def fW:a? 419 [.str] [Br,i64] JS:=k0 [(419,[⟨0,8,[],[(1,1,Ah)],[],[],[.t 5 i64,.u 2 Ah,.p 1 [.d i64,.o 2,.d i64],.p 0 [.d Br]],[(.ret,[.t 3 i64,.p 0 [.d Br],.x 1,.x 2]),(.exit 0,[.u 2 Ah,.p 1 [.d i64,.o 2,.d i64],.p 0 [.d Br]])]⟩])] (Ay Lr (Ay EA (Ay SZ Bu)))
def No:b? 489 0 GH [i64] [i64] CN:=k1 [] (Ay EA Bu)
def Wp:b? 490 0 GH [i64] [(.list i64)] Fo:=k1 [(490,[⟨0,3,[(5,i64)],[],[],[],[.t 6 i64,.u 1 i64,.g 5 1,.p 0 [.d GH]],[(.exit 0,[.u 1 i64,.g 5 1,.p 0 [.d GH]])]⟩])] (Ay No Bu)
def aX:a? 487 [.str] [(.list Bw),i64] KO:=k0 [(487,[⟨0,4,[(5,Bw)],[],[],[],[.t 6 i64,.u 1 Bw,.g 5 1,.p 0 [.d GH]],[(.exit 0,[.u 1 Bw,.g 5 1,.p 0 [.d GH]])]⟩])] (Ay No (Ay Wp (Ay Eu Bu)))
def aV:a? 488 [.str] [Dt,i64] ES:=k0 [(488,[⟨0,8,[],[(1,0,Df)],[],[],[.t 7 i64,.u 2 Df,.p 1 [.o 2]],[(.exit 1,[.u 2 Df,.p 1 [.o 2]])]⟩])] (Ay EA (Ay Fs Bu))
def ae:a? 484 [.str] [HF,i64] C3:=k0 [(484,[⟨0,15,[],[(1,3,Bv)],[],[],[.t 9 i64,.t 11 i64,.u 2 Bv,.p 1 [.d i64,.d i64,.d (.list Bw),.o 2,.d Dt]],[(.exit 0,[.t 9 i64,.u 2 Bv,.p 1 [.d i64,.d i64,.d (.list Bw),.o 2,.d Dt]])]⟩])] (Ay EA (Ay aX (Ay aV (Ay T4 Bu))))
def ah:a? 480 [Br] [HF,i64,.bool] PV:=k0 [(480,[f? 4 [5,g? 1 HF] [3,.t 4 .bool,g? 1 HF] 0 [g? 1 HF]])] (Ay CA (Ay ae Bu))
def dA:a? 456 [Br,i64] [Es,i64] QG:=k0 [] (Ay ah (Ay Vu Bu))
def cz:a? 481 [(.list Bv),Ah] [(.list Bv)] Gw:=k0 [(481,[c? 10 [.t 6 .bool,.u 1 Bv,.g 5 1],c? 18 [g? 2 Bv],hn 2 15 [.x 2] [(.normal,[g? 2 Bv]),(1,[g? 2 Bv])],hn 2 13 [.x 2] [(.normal,[.t 6 .bool,g? 2 Bv]),(1,[.t 6 .bool,g? 2 Bv])],⟨0,6,[(5,Bv)],[],[],[],[.t 6 .bool,.t 7 i64,.u 1 Bv,.g 5 1],[(.exit 0,[.t 6 .bool,.u 1 Bv,.g 5 1])]⟩,c? 21 [.u 1 Bv,.g 5 1]])] (Ay Du Bu)
def gA:a? 457 [Es,Ah] [Es,i64] Mk:=k0 [(457,[d? 2 [5,g? 2 Es,.x 0] [g? 0 Es,g? 2 Es]])] (Ay DY (Ay T3 (Ay U3 (Ay U2 (Ay Du (Ay cz Bu))))))
def fy:a? 485 [Bb,Bb] [.bool] E9:=k0 [] Bu
def gB:a? 482 [(.list Bb),Bb] [(.list Bb)] RL:=k0 [(482,[e? 2 [5] 0 [5]])] (Ay fy Bu)
def c7:a? 458 [Br,(.list Bw)] [(.list Bb),i64] Lb:=k0 [(458,[f? 6 [.t 6 (.list Bb),8] [.t 4 (.list Bb),5] 2 [.t 6 (.list Bb)],f? 3 [.t 6 (.list Bb),7] [.t 4 (.list Bb),5] 0 [.t 6 (.list Bb)]])] (Ay Gp (Ay gB Bu))
def Za:a? 420 [Br,i64] [Es,i64] Jt:=k0 [(420,[f? 9 [8,g? 2 Es,g? 1 Es] [5,g? 1 Es,.x 2] 0 [g? 2 Es,g? 1 Es],c? 20 [.u 3 Bw,.g 9 3],⟨0,17,[(9,Bw)],[],[],[],[.t 10 i64,.u 3 Bw,.g 9 3],[(.exit 2,[.u 3 Bw,.g 9 3])]⟩])] (Ay CA (Ay dA (Ay gA (Ay c7 Bu))))
def dD:a? 421 [Br,Es,i64] [Ax,i64] Lc:=k0 [(421,[f? 8 [11,g? 4 Ax,g? 2 Ax] [7,g? 2 Ax,.x 4] 0 [g? 4 Ax,g? 2 Ax]])] (Ay Vt (Ay CC (Ay Fi Bu)))
def gG:a? 379 [D9,.str,i64,i64] [A2,i64] RO:=k0 [] (Ay fW (Ay Za (Ay dD Bu)))
def gH:a? 347 [D9,.str,i64,i64] [A2,i64] RP:=k0 [] (Ay gG Bu)
def aU:a? 463 [Dx] [Dx,i64,i64] PR:=k0 [(463,[e? 5 [g? 0 Dx] 0 [g? 0 Dx]])] (Ay ED (Ay LB Bu))
def ff:a? 464 [Dx,i64] [Dx,i64] Mb:=k0 [(464,[c? 10 [.p 0 [.d i64,.o 2,.d i64]],c? 12 [.p 0 [.d i64,.o 2,.d i64]]])] (Ay ED (Ay GJ Bu))
def fq:a? 425 [Ax] [Ax,BC,.bool,i64] Mh:=k0 [] (Ay CC (Ay aU (Ay FH (Ay ff (Ay Jf Bu)))))
def gF:a? 382 [A2] [A2,i64] Mm:=k0 [(382,[hn 0 1 [g? 0 A2,g? 1 A2] [(.ret,[3,g? 1 A2,.x 0])]])] (Ay fq (Ay T6 Bu))
def jL:a? 426 [(.list i64),i64] [.bool] Em:=k0 [(426,[f? 2 [5] [.t 4 .bool] 0 []])] Bu
def fQ:a? 383 [D9,i64] [.str,i64] MR:=k0 [] (Ay M8 (Ay jL Bu))
def Tw:a? 113 [] [.str] Ic:=k0 [] (Ay Tz Bu)
def aN:a? 246 [.str] [BC,i64] EQ:=k0 [(246,[f? 14 [7,g? 1 BC,g? 0 BC] [3,g? 0 BC,.x 1] 1 [g? 1 BC,g? 0 BC]])] (Ay Tw (Ay EA (Ay LA (Ay Gy Bu))))
def jK:a? 247 [i64] [BC] Ff:=k0 [] Bu
def Hl:a? 179 [.str,i64] [BC,i64] CY:=k0 [] (Ay aN (Ay jK Bu))
def cn:a? 385 [Dt,i64,i64,.str] [BC,i64] LR:=k0 [] (Ay Fs (Ay Hl Bu))
def cY:a? 486 [Ah,(.list Ah)] [(.list Ah)] LL:=k0 [] Bu
def fZ:a? 483 [Br,i64,i64,i64] [(.list Ah),i64] RD:=k0 [(483,[f? 7 [.t 10 (.list Ah),11] [.t 8 (.list Ah),9] 0 [.t 10 (.list Ah),11]])] (Ay CA (Ay Gp (Ay Du (Ay cY Bu))))
def dC:a? 465 [Br,BC,i64] [(.list Ah),i64] V9:=k0 [] (Ay CA (Ay HH (Ay fZ Bu)))
def T0:a? 318 [BC,I9] [BC,i64] If:=k0 [] (Ay T1 Bu)
def T5:a? 254 [BC,Ah] [BC,i64] Im:=k0 [] (Ay Dj (Ay Du (Ay HH (Ay T0 Bu))))
def gD:a? 427 [Br,BC,i64] [BC,i64,i64] RN:=k0 [(427,[f? 5 [11,g? 1 BC,g? 2 BC] [7,8,g? 2 BC,.x 1] 0 [g? 1 BC,g? 2 BC]])] (Ay dC (Ay T5 Bu))
def gC:a? 386 [Br,BC,i64] [BC,i64] RM:=k0 [] (Ay gD Bu)
def aa:a? 387 [Ax,BC] [Ax,i64] KU:=k0 [(387,[c? 21 [.u 9 Bv,.g 10 9],⟨0,18,[(10,Bv)],[],[],[],[.t 11 i64,.u 9 Bv,.g 10 9],[(.exit 1,[.u 9 Bv,.g 10 9])]⟩,c? 14 [.u 6 Tq,g? 0 Ax,.p 3 [.d i64,.o 6,.d i64],.p 5 [.d i64,.o 6,.d i64],.p 7 [.d i64,.o 6,.d i64]]])] (Ay CC (Ay PB (Ay ED (Ay HH (Ay Jg (Ay GJ Bu))))))
def Jh:a? 349 [A2,i64] [A2,i64] Ee:=k0 [] (Ay CC (Ay FH (Ay gF (Ay fQ (Ay PB (Ay cn (Ay gC (Ay aa Bu))))))))
def Se:a? 388 [Ax,i64] [Bw,.bool] H6:=k0 [(388,[d? 2 [.t 5 .bool,g? 1 Bw] [g? 1 Bw]])] (Ay CC (Ay DY Bu))
def gE:a? 350 [Ax] [(.list i64)] Ml:=k0 [(350,[c? 7 [.u 1 i64,.g 3 1],⟨0,3,[(3,i64)],[],[],[],[.t 4 i64,.u 1 i64,.g 3 1],[(.exit 0,[.u 1 i64,.g 3 1])]⟩])] (Ay Se Bu)
def IK:a? 389 [Ax,i64] [Bw,i64] E0:=k0 [] (Ay CC (Ay DY Bu))
def O9:a? 430 [(.list Bb),i64,.bool,Ix] [(.list Bb)] F5:=k0 [(430,[c? 6 [.u 1 Bb,.g 9 1],⟨0,3,[(9,Bb)],[],[],[],[.t 10 i64,.u 1 Bb,.g 9 1],[(.exit 0,[.u 1 Bb,.g 9 1])]⟩])] Bu
def fb:a? 466 [Cs,i64] [.bool] MZ:=k0 [(466,[f? 2 [5] [.t 4 .bool] 0 [],f? 7 [6] [.t 4 .bool] 2 []])] (Ay Kq Bu)
def fe:a? 467 [(.list Bb),Bb] [(.list Bb)] Ma:=k0 [(467,[c? 7 [.t 6 .bool,.u 1 Bb,.g 5 1],c? 10 [.u 1 Bb,.g 5 1],⟨0,4,[(5,Bb)],[],[],[],[.t 6 .bool,.t 7 i64,.u 1 Bb,.g 5 1],[(.exit 0,[.t 6 .bool,.u 1 Bb,.g 5 1])]⟩,c? 12 [.u 1 Bb,.g 5 1]])] (Ay U0 Bu)
def JA:a? 429 [Cs] [Cs] FM:=k0 [(429,[c? 5 [3,g? 0 Cs],e? 2 [3,g? 0 Cs] 0 [g? 0 Cs]])] (Ay fb (Ay fe Bu))
def Ls:a? 390 [Cs,i64] [Cs] HN:=k0 [] (Ay Et (Ay O9 (Ay JA Bu)))
def fw:a? 391 [Ax,i64] [Ah,.bool] HQ:=k0 [] (Ay IK (Ay Gp Bu))
def ZT:a? 431 [I9] [I9] Jk:=k0 [] Bu
def aT:a? 468 [Dx,BC] [Dx,i64] KM:=k0 [(468,[c? 13 [g? 3 Tq]])] (Ay ED (Ay HH (Ay GJ (Ay LB Bu))))
def Vv:a? 432 [Ax,Ah] [Ax,i64] KA:=k0 [] (Ay Fi (Ay Ia (Ay aT Bu)))
def kI:a? 469 [Ax,Bw,Ix,i64] [Ah,.bool] PU:=k0 [(469,[f? 2 [10,g? 3 Ah] [.t 9 .bool,g? 3 Ah] 0 [g? 3 Ah]])] (Ay Gp Bu)
def Sd:a? 433 [Ax,i64,Ix] [Ah,.bool] KX:=k0 [] (Ay IK (Ay kI Bu))
def Uz:a? 434 [Cs,i64,Ix] [Cs] MX:=k0 [] (Ay Et (Ay O9 (Ay JA Bu)))
def U6:a? 392 [Ax,Bw,Ah] [Ax,C1] F7:=k0 [(392,[c? 15 [g? 8 Ax],c? 12 [g? 8 Ax]])] (Ay Ia (Ay ZT (Ay T0 (Ay Cl (Ay Vv (Ay Sd (Ay Uz Bu)))))))
def U5:a? 351 [Ax,i64] [Ax,C1] JU:=k0 [] (Ay IK (Ay Cl (Ay Fi (Ay Ls (Ay fw (Ay U6 Bu))))))
def gI:a? 308 [A2] [A2,.bool,i64] Mn:=k0 [(308,[hn 0 9 [g? 0 A2,g? 1 A2] [(.ret,[.t 3 .bool,4,g? 1 A2,.x 0])]])] (Ay CC (Ay Jh (Ay gE (Ay U5 Bu))))
def aZ:a? 470 [Ax,Eh] [i64] KR:=k0 [(470,[c? 6 [.t 11 .bool],c? 5 [.t 11 .bool],c? 11 [g? 2 Eh],c? 18 [.t 60 .bool],c? 17 [.t 60 .bool],d? 13 [4,.x 2] [g? 2 Eh],d? 7 [4,.x 2] [g? 2 Eh]])] Bu
def IJ:a? 399 [Cs,i64] [Bb,.bool] Ey:=k0 [(399,[f? 3 [6,g? 1 Bb] [.t 5 .bool,g? 1 Bb] 0 [g? 1 Bb],d? 2 [.t 5 .bool,g? 1 Bb] [g? 1 Bb]])] (Ay Et Bu)
def U4:a? 441 [i64,Eh] [Bb,.bool] JT:=k0 [(441,[c? 7 [.t 20 .bool]])] Bu
def ZZ:a? 436 [Ax,i64,Eh] [i64] Js:=k0 [] (Ay CC (Ay DY (Ay aZ (Ay IJ (Ay U4 Bu)))))
def ac:a? 437 [Ax,i64] [Ax,C1] KW:=k0 [(437,[hn 2 3 [.x 1,.x 2,.x 3] [(.normal,[g? 3 Ax,g? 1 Ax,g? 2 C1]),(.ret,[g? 1 Ax,g? 2 C1,.x 3])]])] (Ay DY (Ay M9 (Ay Fi (Ay Cl (Ay Jf (Ay Ls Bu))))))
def aR:a? 471 [Cs,i64] [Cs] PM:=k0 [] (Ay Et (Ay O9 (Ay JA Bu)))
def ZY:a? 472 [Ax,i64,Ix] [.bool] Jr:=k0 [(472,[f? 3 [8] [.t 6 .bool] 0 []])] (Ay DY (Ay Gp Bu))
def cw:a? 438 [Ax,i64,i64] [Ax,C1] Il:=k0 [(438,[c? 15 [g? 3 Ax],e? 12 [12,g? 3 Ax] 0 [g? 3 Ax]])] (Ay aR (Ay DY (Ay M9 (Ay Ls (Ay Fi (Ay Cl (Ay ZY (Ay Uz Bu))))))))
def Sb:a? 473 [(.list Bw),i64] [i64,i64] Hz:=k0 [] (Ay Eu (Ay KF Bu))
def fm:a? 439 [(.list Bw),i64] [(.list Bw),i64] Mg:=k0 [] (Ay Sb (Ay P9 Bu))
def fj:a? 440 [(.list Bw),i64,i64] [(.list Bw),i64] Me:=k0 [] (Ay Sb (Ay Sc (Ay P9 Bu)))
def cZ:a? 474 [Cs,Bb] [i64] Ii:=k0 [(474,[f? 4 [5] [4] 0 []])] (Ay PA Bu)
def ZU:a? 442 [Cs,Bb] [Cs,.bool,i64] OK:=k0 [] (Ay Et (Ay T2 (Ay IJ (Ay PA (Ay cZ (Ay JA Bu))))))
def jO:a? 475 [Dx,i64] [Dx] Ns:=k0 [] (Ay FH (Ay LB Bu))
def ab:a? 443 [Ax,i64,Eh] [Ax,C1] KV:=k0 [(443,[c? 9 [g? 5 I9]])] (Ay Ia (Ay jO (Ay Vv (Ay Cl Bu))))
def U1:a? 447 [(.list i64),i64] [(.list i64)] E7:=k0 [(447,[c? 7 [.t 6 .bool,.u 0 i64,.g 5 0],c? 10 [.u 0 i64,.g 5 0],⟨0,4,[(5,i64)],[],[],[],[.t 6 .bool,.t 7 i64,.u 0 i64,.g 5 0],[(.exit 0,[.t 6 .bool,.u 0 i64,.g 5 0])]⟩,c? 12 [.u 0 i64,.g 5 0]])] Bu
def ZV:a? 476 [Cs] [(.list i64)] Jm:=k0 [(476,[e? 4 [.t 3 (.list i64),4] 0 [.t 3 (.list i64)],c? 3 [.t 3 (.list i64)]])] (Ay Et (Ay U1 Bu))
def P8:a? 400 [Cs,i64] [(.list i64)] IC:=k0 [(400,[c? 9 [.t 7 (.list i64)],e? 6 [.t 7 (.list i64),8] 0 [.t 7 (.list i64)],c? 14 [.t 7 (.list i64)],e? 11 [.t 7 (.list i64),9] 2 [.t 7 (.list i64)]])] (Ay IJ (Ay Kq (Ay U1 Bu)))
def aS:As (.c0 477 [Cs,(.list i64),i64] [(.list i64)] PP):=AFO (P:=Tryz.prog) (F:=477) (ds:=[Cs,(.list i64),i64]) (rs:=[(.list i64)]) (f:=EX) (hs:=Zy [(477,[f? 4 [30] [.t 6 (.list i64)] 0 [],e? 15 [.t 12 .bool,49] 4 [.t 12 .bool],f? 11 [43] [.t 6 (.list i64)] 2 []])]) (n:=13) (Ay P8 Bu) (λg x=>by kernel_rfl)
def cg:a? 444 [Cs,i64] [(.list i64)] LM:=k0 [(444,[f? 2 [5] [.t 4 (.list i64)] 0 []])] (Ay ZV (Ay aS Bu))
def cu:a? 478 [(.list i64)] [i64] LZ:=k0 [] Bu
def jR:a? 445 [Ax,i64] [i64] Nu:=k0 [] (Ay P8 (Ay cu Bu))
def kH:a? 396 [Ax,i64,Eh] [Ax,C1] PS:=k0 [(396,[c? 10 [.t 46 .bool],c? 13 [.t 9 (.list Bw),10]])] (Ay ZZ (Ay Cl (Ay ac (Ay cw (Ay fm (Ay fj (Ay U4 (Ay ZU (Ay ab (Ay cg (Ay jR Bu)))))))))))
def Rv:a? 397 [A2,i64] [.bool] EF:=k0 [] (Ay DY Bu)
def Yh:a? 398 [A2,i64] [A2,i64] EY:=k0 [(398,[d? 12 [5,g? 1 A2,.x 0] [g? 0 A2,g? 1 A2],f? 5 [g? 0 A2,g? 1 A2] [5,g? 1 A2,.x 0] 0 [g? 0 A2,g? 1 A2]])] (Ay CC (Ay DY (Ay Rv (Ay U5 (Ay Jh Bu)))))
def kK:a? 365 [A2,i64,Eh] [A2,C1] PX:=k0 [(365,[d? 10 [g? 2 A2,g? 3 C1,.x 0] [g? 0 A2,g? 2 A2,g? 3 C1],hn 0 1 [g? 0 A2,g? 2 A2,g? 3 C1] [(.ret,[g? 2 A2,g? 3 C1,.x 0])]])] (Ay kH (Ay Jh (Ay Cl (Ay Rv (Ay Yh Bu)))))
def Zb:a? 366 [Ax,i64] [i64,Ix,.bool] Ju:=k0 [(366,[f? 5 [28,g? 1 Ix] [4,.t 6 .bool,g? 1 Ix] 0 [g? 1 Ix]])] (Ay IJ (Ay P8 (Ay Se Bu)))
def fu:a? 401 [Ax,i64,Ix] [Ax,C1] Mj:=k0 [] (Ay IK (Ay Cl (Ay Sd (Ay U6 Bu))))
def gJ:a? 367 [A2,i64,Ix] [A2,i64,i64] Mo:=k0 [(367,[d? 8 [7,8,g? 2 A2,.x 0] [9,g? 0 A2,g? 2 A2],hn 0 2 [9,g? 0 A2,g? 2 A2] [(.ret,[7,8,g? 2 A2,.x 0])]])] (Ay fu (Ay Jh Bu))
def kL:a? 341 [A2,i64,Eh] [A2,C1] PY:=k0 [(341,[hn 0 1 [g? 0 A2,g? 2 A2,g? 3 C1] [(.ret,[g? 2 A2,g? 3 C1,.x 0])]])] (Ay kK (Ay Zb (Ay gJ (Ay Cl Bu))))
def jT:a? 168 [A2,(.list TT)] [A2,(.list C1),(.list YY)] Nw:=k0 [(168,[⟨0,4,[(8,C1)],[(2,18,i64),(2,19,YY)],[],[],[.t 9 i64,.u 3 C1,.u 4 i64,.u 5 YY,.g 8 3,.p 2 [.d A2,.o 4,.o 5,.d .bool]],[(.exit 0,[.u 3 C1,.u 4 i64,.u 5 YY,.g 8 3,.p 2 [.d A2,.o 4,.o 5,.d .bool]])]⟩]),(243,[c? 5 [.u 4 i64,.p 2 [.d A2,.o 4,.o 5,.d .bool]],c? 19 [.p 2 [.d A2,.o 4,.o 5,.d .bool]]]),(302,[c? 2 [.p 2 [.d A2,.o 4,.o 5,.d .bool]]]),(303,[c? 9 [.u 5 YY,.p 2 [.d A2,.o 4,.o 5,.d .bool]]]),(307,[e? 4 [9,.u 4 i64,.p 2 [.d A2,.o 4,.o 5,.d .bool]] 0 [.u 4 i64,.p 2 [.d A2,.o 4,.o 5,.d .bool]]])] (Ay dE (Ay ai (Ay Cl (Ay dG (Ay XH (Ay KE (Ay Je (Ay dF (Ay gH (Ay gI (Ay kL Bu)))))))))))
def WP:b? 104 0 BE [i64,.bool] [A2] G7:=k1 [] (Ay Ca (Ay jS (Ay Vk (Ay jT Bu))))
def Wn:b? 50 0 BE [i64,.bool] [Ax] HY:=k1 [] (Ay WP Bu)
def kG:b? 16 0 BE [i64] [i64,Br] Kx:=k1 [] (Ay Wn (Ay KE (Ay Je Bu)))
def Ft:a? 57 [BS] [.bool] DG:=k0 [(57,[f? 5 [3,4] [.t 2 .bool] 0 []])] (Ay Sf Bu)
def N5:a? 59 [BS,i64] [i64,i64] Eg:=k0 [(59,[c? 3 [5]])] Bu
def Rx:a? 106 [i64,i64,i64,i64,i64] [.bool] HU:=k0 [] Bu
def Rw:a? 172 [Ah,Ah] [i64] Dm:=k0 [] Bu
def NA:a? 108 [(.list Ah),Ah] [(.list Ah),.bool] DZ:=k0 [(108,[e? 2 [6] 0 [6]])] (Ay Rw Bu)
def Ji:a? 109 [Bz] [.bool] Ef:=k0 [(109,[d? 12 [.t 2 .bool] [],f? 4 [3] [.t 2 .bool] 0 []])] (Ay Rx (Ay Dj (Ay Du (Ay Rw Bu))))
def gL:a? 60 [(.list Ah),i64,i64,i64,i64,i64] [Bz,i64] JV:=k0 [(60,[f? 4 [14,g? 0 Bz] [13,g? 0 Bz] 0 [g? 0 Bz],e? 16 [.t 16 .bool,19] 4 [.t 16 .bool],e? 11 [.t 16 .bool,17,g? 1 Bz] 2 [.t 16 .bool,g? 1 Bz]])] (Ay Rx (Ay Dj (Ay Du (Ay NA (Ay Ji Bu)))))
def gK:a? 111 [Bz] [.str] HT:=k0 [] (Ay DA Bu)
def ak:a? 61 [Bz] [.str,i64] H7:=k0 [(61,[e? 5 [.t 4 .str,5] 0 [.t 4 .str]])] (Ay Ji (Ay gK (Ay Jd (Ay Sa Bu))))
def gO:a? 19 [BS,Br,i64] [BS,i64] F8:=k0 [(19,[f? 15 [11,g? 2 BS] [7,g? 2 BS] 0 [g? 2 BS],f? 22 [13,.u 4 Bj,.p 3 [.d (.list i64),.d i64,.o 4,.d i64,.d i64],g? 2 BS] [7,g? 2 BS,.x 3,.x 4] 2 [.u 4 Bj,.p 3 [.d (.list i64),.d i64,.o 4,.d i64,.d i64],g? 2 BS]])] (Ay Ft (Ay CA (Ay N5 (Ay gL (Ay ak Bu)))))
def fP:a? 62 [i64,i64] [BL] JR:=k0 [(62,[⟨0,3,[],[(1,2,EV)],[],[],[.t 6 i64,.u 2 EV,.p 1 [.d i64,.d i64,.o 2]],[(.exit 0,[.u 2 EV,.p 1 [.d i64,.d i64,.o 2]])]⟩])] (Ay Tw Bu)
def HI:a? 177 [BL] [.bool] EC:=k0 [(177,[f? 4 [3] [.t 2 .bool] 0 []])] (Ay Hl Bu)
def ay:a? 114 [BL] [.str,i64] H8:=k0 [(114,[e? 7 [.t 5 .str,6] 0 [.t 5 .str]])] (Ay HI (Ay DA (Ay Jd Bu)))
def jJ:a? 63 [BL] [Bj] J6:=k0 [] (Ay ay Bu)
def T9:a? 115 [BL] [.bool] Ip:=k0 [] (Ay HI Bu)
def gQ:a? 178 [BL,i64] [EV,.bool] Mr:=k0 [(178,[f? 2 [6,g? 1 EV] [.t 5 .bool,g? 1 EV] 0 [g? 1 EV]])] (Ay HI Bu)
def gR:a? 116 [BL,i64] [BC,i64] Ms:=k0 [] (Ay HI (Ay gQ (Ay Hl Bu)))
def dJ:a? 248 [BS,Br,i64,i64,i64] [i64] QI:=k0 [] (Ay Ft (Ay CA Bu))
def gM:a? 312 [BS,i64] [i64,i64,.bool] RQ:=k0 [(312,[e? 4 [7] 0 [7]])] (Ay Ft (Ay N5 Bu))
def an:a? 319 [.str,i64,i64] [i64] Bf:=k0 [] (Ay EA Bu)
def aj:a? 257 [.str] [Bz,i64] GS:=k0 [(257,[⟨0,11,[],[(1,5,Ah)],[],[],[.t 5 i64,.t 9 i64,.u 2 Ah,.p 1 [.d i64,.d i64,.d i64,.d i64,.d i64,.o 2],.p 0 [.d Bz]],[(.ret,[.t 3 i64,.p 0 [.d Bz],.x 1,.x 2]),(.exit 0,[.t 5 i64,.u 2 Ah,.p 1 [.d i64,.d i64,.d i64,.d i64,.d i64,.o 2],.p 0 [.d Bz]])]⟩])] (Ay Lr (Ay an (Ay SZ (Ay Ji Bu))))
def Xt:a? 258 [BS,Bz] [i64] IW:=k0 [(258,[f? 2 [5] [4] 0 []])] (Ay N5 Bu)
def aq:a? 183 [BS,Bj] [Bz,i64] GU:=k0 [] (Ay aj (Ay Xt Bu))
def Zc:a? 184 [Bz,i64] [Bz] Jw:=k0 [(184,[c? 8 [.u 3 Ah,.p 2 [.d i64,.d i64,.d i64,.d i64,.d i64,.o 3]],⟨0,5,[],[(2,5,Ah)],[],[],[.t 6 i64,.u 3 Ah,.p 2 [.d i64,.d i64,.d i64,.d i64,.d i64,.o 3]],[(.exit 0,[.u 3 Ah,.p 2 [.d i64,.d i64,.d i64,.d i64,.d i64,.o 3]])]⟩])] Bu
def dH:a? 119 [BS] [(.list Bz),(.list i64),(.list .bool)] Lh:=k0 [(119,[e? 14 [11] 4 [11],e? 9 [.t 6 (.list Bz),.t 7 (.list i64),8] 2 [.t 6 (.list Bz),.t 7 (.list i64)],e? 20 [12,13,.u 1 Bz,.u 2 i64,.u 3 .bool,.g 2 1,.g 3 2,.g 4 3] 6 [.u 1 Bz,.u 2 i64,.u 3 .bool,.g 2 1,.g 3 2,.g 4 3],⟨0,4,[(2,Bz),(3,i64),(4,.bool)],[],[],[],[.t 5 i64,.u 1 Bz,.u 2 i64,.u 3 .bool,.g 2 1,.g 3 2,.g 4 3],[(.exit 0,[.u 1 Bz,.u 2 i64,.u 3 .bool,.g 2 1,.g 3 2,.g 4 3])]⟩])] (Ay Ft (Ay aq (Ay Zc Bu)))
def U8:a? 66 [BS] [(.list Bz),(.list i64)] Mp:=k0 [] (Ay dH Bu)
def Yj:a? 249 [BS,Br,i64] [O2] Nk:=k0 [(249,[c? 8 [.u 4 Bz,.u 5 i64,.p 3 [.o 4,.o 5,.d Br]],⟨0,5,[],[(3,0,Bz),(3,1,i64)],[],[],[.t 13 i64,.u 4 Bz,.u 5 i64,.p 3 [.o 4,.o 5,.d Br]],[(.exit 0,[.u 4 Bz,.u 5 i64,.p 3 [.o 4,.o 5,.d Br]])]⟩])] (Ay gM (Ay U8 Bu))
def T7:a? 316 [Br,i64] [.bool] Io:=k0 [] Bu
def gP:a? 313 [O2,i64] [i64] RS:=k0 [(313,[c? 6 [5],e? 3 [5,6] 0 [5],c? 8 [5]])] (Ay T7 Bu)
def Zd:a? 250 [O2,i64,i64] [.bool] Oc:=k0 [(250,[f? 1 [1] [.t 6 .bool] 0 []])] (Ay gP Bu)
def am:a? 317 [Bz,i64] [(.list Ah)] Pa:=k0 [(317,[c? 8 [.u 1 Ah,.g 5 1],⟨0,5,[(5,Ah)],[],[],[],[.t 6 i64,.u 1 Ah,.g 5 1],[(.exit 0,[.u 1 Ah,.g 5 1])]⟩])] (Ay Ji Bu)
def Yi:a? 252 [(.list Bz),i64,i64,i64] [(.list Ah)] Nj:=k0 [(252,[c? 10 [.t 9 (.list Ah)],e? 7 [.t 9 (.list Ah),12] 2 [.t 9 (.list Ah)],e? 3 [.t 9 (.list Ah),10] 0 [.t 9 (.list Ah)]])] (Ay am (Ay NA Bu))
def av:a? 253 [Br,i64,i64,i64] [(.list Ah)] Pc:=k0 [(253,[c? 7 [.u 1 Ah,.g 9 1],⟨0,3,[(9,Ah)],[],[],[],[.t 10 i64,.u 1 Ah,.g 9 1],[(.exit 0,[.u 1 Ah,.g 9 1])]⟩])] (Ay Du Bu)
def au:a? 314 [(.list Bz),i64] [i64] Pb:=k0 [(314,[f? 2 [5] [4] 0 []])] Bu
def jU:a? 315 [(.list Ah),Ah] [.bool] Nx:=k0 [(315,[f? 2 [5] [.t 4 .bool] 0 []])] Bu
def dI:a? 251 [(.list Bz),Br,(.list Ah),(.list Ah)] [(.list Ah),.bool] QH:=k0 [(251,[f? 3 [.t 10 (.list Ah),11] [.t 8 (.list Ah),.t 9 .bool] 0 [.t 10 (.list Ah)],f? 9 [12] [.t 8 (.list Ah),.t 9 .bool] 2 []])] (Ay au (Ay jU (Ay NA (Ay T7 Bu))))
def kM:a? 180 [BS,Br,i64,i64,i64] [(.list Ah),i64] Tk:=k0 [(180,[f? 11 [16] [.t 10 (.list Ah),11] 0 []])] (Ay dJ (Ay Yj (Ay Zd (Ay Yi (Ay av (Ay dI Bu))))))
def gW:a? 181 [BC,(.list Ah)] [BC,i64] Mv:=k0 [(181,[f? 2 [6,g? 0 BC,g? 1 BC] [5,g? 1 BC,.x 0] 0 [g? 0 BC,g? 1 BC]])] (Ay T5 Bu)
def gV:a? 117 [BC,BS,Br,i64] [BC,i64] RT:=k0 [] (Ay Ft (Ay CA (Ay Gy (Ay kM (Ay gW Bu)))))
def gU:a? 64 [BL,BS,Br,i64,i64] [BL,i64] Mu:=k0 [(64,[c? 19 [g? 6 EV],⟨0,11,[],[(4,2,EV)],[],[],[.t 13 i64,.u 5 EV,.p 4 [.d i64,.d i64,.o 5],.p 3 [.d BL]],[(.ret,[.t 11 i64,.p 3 [.d BL],.x 4,.x 5]),(.exit 0,[.u 5 EV,.p 4 [.d i64,.d i64,.o 5],.p 3 [.d BL]])]⟩])] (Ay T9 (Ay Ft (Ay CA (Ay gR (Ay gV (Ay Gy Bu))))))
def cO:b? 20 0 BE [i64,BS,Br] [(.list Bj)] LF:=k1 [(20,[⟨2,4,[(9,Bj)],[],[],[],[.x 4],[(.normal,[.u 4 Bj,.g 9 4])]⟩,e? 7 [11,12,.u 4 Bj,.g 9 4,g? 0 BE,g? 3 BL] 0 [.u 4 Bj,.g 9 4,g? 0 BE,g? 3 BL]])] (Ay fP (Ay Ca (Ay jJ (Ay gU Bu))))
def jM:a? 21 [Br,i64] [Br,i64] J7:=k0 [] (Ay CA (Ay GI Bu))
def az:a? 186 [.str,i64,i64] [i64] Bf:=k0 [] (Ay EA Bu)
def aw:a? 120 [.str] [BL,i64] FT:=k0 [(120,[⟨0,11,[],[(1,2,EV)],[],[],[.t 5 i64,.t 9 i64,.u 2 EV,.p 1 [.d i64,.d i64,.o 2],.p 0 [.d BL]],[(.ret,[.t 3 i64,.p 0 [.d BL],.x 1,.x 2]),(.exit 0,[.t 5 i64,.u 2 EV,.p 1 [.d i64,.d i64,.o 2],.p 0 [.d BL]])]⟩])] (Ay Lr (Ay az (Ay Hl (Ay HI Bu))))
def bA:a? 67 [(.list Bj)] [(.list BL)] KY:=k0 [(67,[e? 7 [.t 5 .bool,6] 2 [.t 5 .bool],e? 14 [9] 4 [9],e? 3 [.t 3 (.list BL),4] 0 [.t 3 (.list BL)]])] (Ay aw (Ay T9 Bu))
def gS:a? 96 [BL,BL] [.bool] JW:=k0 [(96,[f? 4 [5] [.t 4 .bool] 0 []])] Bu
open Go.RowKit Go.Ab Go.Pm
def AGE(w:World):Calls Tryz.prog 48 #[] w λe a=>e= .returned (.agg (List.replicate 8 (Value.int .i64 1)).toArray)/\Below w.heap.size w a:=by
 go_enter Tryz.func48,Tryz.ntmps48
 go_wp2
 refine bodyPost_ret (results_cell_row (p:=0) (ty:=64) (t:=64) rfl _ _ w.heap.size _ _ _ rfl (heap_alloc_new w _) Tryz.underlying64 rfl (by kernel_rfl)) rfl ⟨rfl,(Below.refl _ w).alloc (Am _) _⟩
def bB:(RW.c0 48 [] [(.arr 7 (.int .i64))] Va).Ok Tryz.prog:=by
 intro x y m H;cases m;refine jz (args:=[]) (v:=.agg (List.replicate 8 (AY.int .i64 1))) (λw f l hr=>?_) H;have e:f= #[]:=nl l;rw[e];apply (AGE w).mono;rintro e n ⟨rfl,b⟩;have d: ∀{i:Type} {a v:i} {j:Nat},(List.replicate 8 a)[j]? =some v->v=a:=λ{i a v j} h=>by rw[List.getElem?_replicate]at h;split at h<;>simp_all
 refine⟨_,rfl,λx=>.agg rfl (λj c h=>?_) (λj v c k g=>?_),b⟩;rw[YN]at h;rw[d h];rfl;rw[YN]at g;rw[d k,d g];exact .int _ _
def ZS:(RW.c0 239 [(.int .u64)] [(.int .i64)] UD).Ok Tryz.prog:=by intro x y a;obtain⟨h,rfl⟩:=tA a;rw[show x=0 from eq_of_beq h];exact xB (P:=Tryz.prog) (cs:=[]) (hs:=λ_=>[]) (n:=13) (F:=239) (ds:=[(.int .u64)]) (rs:=[(.int .i64)]) (g:=yP Tryz.prog [] (λ_=>[]) 13 239 [(.int .u64)] [(.int .i64)]) Bu (λ_=>rfl) 0 0 (by kernel_rfl)
end Go.Proofs.YtdjfjcnheopcdaaGreatDoor
