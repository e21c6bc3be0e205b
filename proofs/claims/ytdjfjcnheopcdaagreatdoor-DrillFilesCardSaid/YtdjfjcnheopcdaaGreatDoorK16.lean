/- Texts of wip, joined and shortened by wip/tools/pack.py; nothing is assumed. -/
import Derived.Test.YtdjfjcnheopcdaaGreatDoorK15
import Derived.Test.YtdjfjcnheopcdaaGreatDoorProg
import Derived.KernelRfl
noncomputable section
set_option linter.all false
namespace Go.Proofs.YtdjfjcnheopcdaaGreatDoor
open Go Go.Ab Go.Pm
set_option maxRecDepth 100000
def Sh:As (.c2 293 i64 [i64,i64] [] [.fn (.func 164) [] []] FX):=PG (hs:=Zy [(293,[e? 1 [8,.u 0 i64,.g 0 0] 0 [.u 0 i64],e? 4 [9,.u 0 i64,.g 0 0] 2 [.u 0 i64,.g 0 0],hn 4 4 [] [(2,[]),(.normal,[])]])]) (n:=13) (Ay cL Bu) (λl x=>by kernel_rfl)
def Wq:As (.c2 240 i64 [i64,i64,i64] [] [.fn (.func 164) [] []] Qf):=oM (P:=Tryz.prog) (F:=240) (te:=i64) (ds:=[i64,i64,i64]) (rs:=[]) (post:=[.fn (.func 164) [] []]) (f:=λg p=>FE g p.1 p.2) (hs:=Zy [(240,[hn 0 2 [1,2,3,.t 10 .bool,.t 11 .bool,.u 0 i64,.g 0 0] [(.ret,[.u 0 i64])],c? 8 [3,.u 0 i64,.g 0 0],c? 12 [13,14,.u 0 i64,.g 0 0],hn 4 15 [.x 0] [(.normal,[.u 0 i64,.g 0 0]),(.ret,[.u 0 i64])],hn 4 17 [.x 0] [(1,[1,.u 0 i64,.g 0 0]),(.normal,[1,.u 0 i64,.g 0 0])],c? 25 [1,2,.t 10 .bool,.u 0 i64,.g 0 0]])]) (n:=13) (Ay Sh (Ay WQ (Ay Sg (Ay Um (Ay Tc (Ay PC (Ay SN (Ay Vm (Ay cL Bu))))))))) (λg l x=>by kernel_rfl)
def Xu:As (.c2 163 i64 [] [] [.fn (.func 164) [] []] IX):=PG (hs:=Zy []) (n:=13) (Ay Wq (Ay QQ Bu)) (λl x=>by kernel_rfl)
def jW:a? 161 [(.list i64),i64] [.bool] Em:=k0 [(161,[f? 2 [5] [.t 4 .bool] 0 []])] Bu
def dK:a? 99 [Wj] [.bool] Iq:=k0 [(99,[c? 10 [3],f? 5 [3,4] [.t 2 .bool] 0 [3],f? 18 [7] [.t 2 .bool] 4 [],f? 12 [5] [.t 2 .bool] 2 []])] (Ay jW Bu)
def jV:a? 46 [i64,i64] [Wj,i64] KB:=k0 [] (Ay dK Bu)
def dL:a? 100 [jw] [.bool] QJ:=k0 [(100,[f? 2 [3] [.t 2 .bool] 0 []])] Bu
def jX:a? 47 [(.arr 7 i64)] [jw,i64] Ny:=k0 [] (Ay dL Bu)
def Vx:a? 14 [i64,i64,i64,(.list i64)] [EO,i64] Gf:=k0 [] (Ay QA (Ay Vs (Ay Vw (Ay jV (Ay bB (Ay jX Bu))))))
def iq:a? 10 [EO] [(.list Bj)] ND:=k0 [(10,[⟨0,6,[(5,Bj)],[],[],[],[.t 23 i64,.u 2 Bj,.g 5 2],[(.exit 0,[.u 2 Bj,.g 5 2])]⟩,e? 11 [37,.u 2 Bj,.g 5 2] 2 [.u 2 Bj,.g 5 2]]),(29,[e? 4 [3] 0 []]),(142,[e? 1 [6] 0 [],e? 4 [7] 2 []]),(84,[hn 0 2 [1,2,3,.t 8 .bool,.t 9 .bool] [(.ret,[])]])] (Ay QP (Ay bC (Ay UA (Ay QQ (Ay N6 (Ay KZ (Ay Ll (Ay Kr (Ay Hm (Ay J1 (Ay Np (Ay Rg (Ay Uv Bu)))))))))))))
def cN:a? 162 [(.int .u64)] [i64] QC:=k0 [] (Ay ZS Bu)
def tE:a? 101 [i64,i64] [(.list i64)] Xw:=k0 [(101,[⟨0,3,[(5,i64)],[],[],[],[.t 9 i64,.u 0 i64,.g 5 0],[(.exit 0,[.u 0 i64,.g 5 0])]⟩])] (Ay cN (Ay Xu Bu))
def Z5:a? 13 [EO,(.list Bj)] [EO] MH:=k0 [(13,[hn 6 2 [.x 0] [(.normal,[g? 0 EO])],hn 6 3 [.x 0] [(.normal,[g? 0 EO])]]),(97,[f? 2 [8] [4] 0 []]),(43,[e? 5 [6,5,.u 3 Bj,.g 0 3] 0 [5,.u 3 Bj,.g 0 3]])] (Ay Tb Bu)
def O8:a? 9 [EO,(.list Bj)] [.bool] Ev:=k0 [(9,[f? 5 [27] [.t 4 .bool] 0 []])] (Ay HD (Ay Jc (Ay Z5 (Ay nG Bu))))
def tD:a? 49 [EO,i64] [(.list (.list Bj)),i64] VL:=k0 [(49,[⟨0,13,[(7,(.list Bj)),(8,i64)],[],[],[],[.t 9 i64,.u 1 (.list Bj),.g 7 1,.u 2 i64,.g 8 2],[(.exit 1,[.u 1 (.list Bj),.g 7 1,.u 2 i64,.g 8 2])]⟩,e? 16 [48,.u 1 (.list Bj),.g 7 1,.u 2 i64,.g 8 2] 3 [.u 1 (.list Bj),.g 7 1,.u 2 i64,.g 8 2],e? 21 [58,.u 4 Bj,.g 12 4] 5 [.u 4 Bj,.g 12 4]]),(166,[f? 2 [8] [4] 0 []])] (Ay HD (Ay Jc (Ay iq (Ay tE (Ay O8 Bu)))))
def nE:a? 15 [EO] [i64,i64] Rl:=k0 [] (Ay tD Bu)
def Tu:a? 5 [] [.bool] Gq:=k0 [] (Ay Vx (Ay nE (Ay O8 Bu)))
def Tv:b? 7 0 BE [] [EO] Fj:=k1 [(7,[c? 9 [g? 5 BS],e? 5 [9,g? 0 BE,g? 5 BS] 0 [g? 0 BE,g? 5 BS],c? 12 [g? 0 BE,g? 2 Br]])] (Ay kG (Ay QA (Ay Vw (Ay Ca (Ay gO (Ay cO (Ay jM (Ay Vx Bu))))))))
def dM:a? 22 [EO] [(.list Bj)] Li:=k0 [(22,[e? 8 [.t 7 .bool,8] 2 [.t 7 .bool],c? 12 [.u 1 Bj,.g 3 1],⟨0,4,[(3,Bj)],[],[],[],[.t 6 i64,.u 1 Bj,.g 3 1],[(.exit 0,[.u 1 Bj,.g 3 1])]⟩,e? 15 [10,.u 1 Bj,.g 3 1] 4 [.u 1 Bj,.g 3 1]])] (Ay U8 (Ay bA Bu))
def Uy:b? 8 0 BE [EO] [(.list Bj)] HK:=k1 [(8,[c? 7 [.u 2 Bj,.g 5 2],⟨0,4,[(5,Bj)],[],[],[],[.t 7 i64,.u 2 Bj,.g 5 2,.p 0 [.d BE]],[(.exit 0,[.u 2 Bj,.g 5 2,.p 0 [.d BE]])]⟩,c? 9 [.u 2 Bj,.g 5 2,g? 0 BE]])] (Ay dM (Ay Ca Bu))
def Xq:a? 3 [(.list (.int .u8))] [.bool] Lv:=k0 [(3,[f? 6 [5,g? 0 BE] [.t 2 .bool,.x 0] 0 [g? 0 BE]]),(6,[c? 2 [.t 0 (.list (.int .u8))]])] (Ay Tu (Ay Tv (Ay Uy (Ay O8 Bu))))
end Go.Proofs.YtdjfjcnheopcdaaGreatDoor
