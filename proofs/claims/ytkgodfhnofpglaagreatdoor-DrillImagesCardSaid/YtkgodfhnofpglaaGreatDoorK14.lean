/- Texts of wip, joined and shortened by wip/tools/pack.py; nothing is assumed. -/
import Derived.Test.YtkgodfhnofpglaaGreatDoorK13
import Derived.Test.YtkgodfhnofpglaaGreatDoorProg
import Derived.KernelRfl
noncomputable section
set_option linter.all false
namespace Go.Proofs.YtkgodfhnofpglaaGreatDoor
open Go Go.Ab Go.Pm
set_option maxRecDepth 100000
def R0:Ax (.c2 318 i64 [i64,i64] [] [.fn (.func 165) [] []] FQ):=Om (hs:=ZA [(318,[e? 1 [8,.u 0 i64,.g 0 0] 0 [.u 0 i64],e? 4 [9,.u 0 i64,.g 0 0] 2 [.u 0 i64,.g 0 0],hn 4 4 [] [(2,[]),(.normal,[])]])]) (n:=13) (A2 bD B4) (λl x=>by kernel_rfl)
def V0:Ax (.c2 238 i64 [i64,i64,i64] [] [.fn (.func 165) [] []] QA):=nI (P:=Tryz.prog) (F:=238) (te:=i64) (ds:=[i64,i64,i64]) (rs:=[]) (post:=[.fn (.func 165) [] []]) (f:=λg p=>FA g p.1 p.2) (hs:=ZA [(238,[hn 0 2 [1,2,3,.t 10 .bool,.t 11 .bool,.u 0 i64,.g 0 0] [(.ret,[.u 0 i64])],c? 8 [3,.u 0 i64,.g 0 0],c? 12 [13,14,.u 0 i64,.g 0 0],hn 4 15 [.x 0] [(.normal,[.u 0 i64,.g 0 0]),(.ret,[.u 0 i64])],hn 4 17 [.x 0] [(1,[1,.u 0 i64,.g 0 0]),(.normal,[1,.u 0 i64,.g 0 0])],c? 25 [1,2,.t 10 .bool,.u 0 i64,.g 0 0]])]) (n:=13) (A2 R0 (A2 VY (A2 Rz (A2 Tr (A2 Sz (A2 Oh (A2 Ri (A2 Um (A2 bD B4))))))))) (λg l x=>by kernel_rfl)
def Ww:Ax (.c2 164 i64 [] [] [.fn (.func 165) [] []] IP):=Om (hs:=ZA []) (n:=13) (A2 V0 (A2 Pz B4)) (λl x=>by kernel_rfl)
def iK:a? 159 [(.list i64),i64] [.bool] En:=k0 [(159,[f? 2 [5] [.t 4 .bool] 0 []])] B4
def br:a? 103 [iq] [.bool] Lo:=k0 [(103,[c? 10 [3],f? 5 [3,4] [.t 2 .bool] 0 [3],f? 18 [7] [.t 2 .bool] 4 [],f? 12 [5] [.t 2 .bool] 2 []])] (A2 iK B4)
def iJ:a? 48 [i64,i64] [iq,i64] Nl:=k0 [] (A2 br B4)
def bu:a? 104 [im] [.bool] Pt:=k0 [(104,[f? 2 [3] [.t 2 .bool] 0 []])] B4
def iL:a? 49 [(.arr 7 i64)] [im,i64] Nn:=k0 [] (A2 bu B4)
def Uz:a? 17 [i64,i64,i64,(.list i64)] [Hf,i64] KF:=k0 [] (A2 Uw (A2 Ut (A2 Uy (A2 iJ (A2 Z5 (A2 iL B4))))))
def qZ:a? 105 [Hf] [(.list Cm)] Vq:=k0 [(105,[⟨0,6,[(5,Cm)],[],[],[],[.t 23 i64,.u 150 Cm,.g 5 150],[(.exit 0,[.u 150 Cm,.g 5 150])]⟩,e? 11 [37,.u 149 Cm,.g 5 149] 2 [.u 149 Cm,.g 5 149]]),(162,[e? 4 [3] 0 []]),(275,[e? 1 [6] 0 [],e? 4 [7] 2 []]),(209,[hn 0 2 [1,2,3,.t 8 .bool,.t 9 .bool] [(.ret,[])]])] (A2 Py (A2 Z6 (A2 TR (A2 Pz (A2 Nu (A2 Ki (A2 Lu (A2 Kw (A2 Hj (A2 J7 (A2 Na (A2 Q2 (A2 Tw B4)))))))))))))
def bF:a? 163 [(.int .u64)] [i64] Pl:=k0 [] (A2 Yd B4)
def rf:a? 106 [i64,i64] [(.list i64)] Wx:=k0 [(106,[⟨0,3,[(5,i64)],[],[],[],[.t 9 i64,.u 0 i64,.g 5 0],[(.exit 0,[.u 0 i64,.g 5 0])]⟩])] (A2 bF (A2 Ww B4))
def mn:a? 34 [Hf,(.list Cm)] [Hf] PN:=k0 [(34,[hn 6 2 [.x 0] [(.normal,[g? 0 Hf])],hn 6 3 [.x 0] [(.normal,[g? 0 Hf])]]),(127,[f? 2 [8] [4] 0 []]),(76,[e? 5 [6,5,.u 149 Cm,.g 0 149] 0 [5,.u 149 Cm,.g 0 149]])] (A2 Sy B4)
def Sw:a? 11 [Hf,(.list Cm)] [.bool] FX:=k0 [(11,[f? 5 [27] [.t 4 .bool] 0 []])] (A2 HE (A2 JZ (A2 mn (A2 mF B4))))
def re:a? 53 [Hf,i64] [(.list (.list Cm)),i64] UL:=k0 [(53,[⟨0,13,[(7,(.list Cm)),(8,i64)],[],[],[],[.t 9 i64,.u 1 (.list Cm),.g 7 1,.u 2 i64,.g 8 2],[(.exit 1,[.u 1 (.list Cm),.g 7 1,.u 2 i64,.g 8 2])]⟩,e? 16 [48,.u 1 (.list Cm),.g 7 1,.u 2 i64,.g 8 2] 3 [.u 1 (.list Cm),.g 7 1,.u 2 i64,.g 8 2],e? 21 [58,.u 4 Cm,.g 12 4] 5 [.u 4 Cm,.g 12 4]]),(167,[f? 2 [8] [4] 0 []])] (A2 HE (A2 JZ (A2 qZ (A2 rf (A2 Sw B4)))))
def mD:a? 20 [Hf] [i64,i64] Q8:=k0 [] (A2 re B4)
def bH:a? 5 [] [.bool] IT:=k0 [] (A2 Uz (A2 mD (A2 Sw B4)))
def Vx:a? 4 [(.list (.int .u8))] [.bool] KQ:=k0 [(7,[c? 2 [.t 0 (.list (.int .u8))]]),(4,[⟨0,15,[(15,Cm)],[],[],[],[.t 16 i64,.u 150 Cm,.g 15 150],[(.exit 0,[.u 150 Cm,.g 15 150])]⟩,e? 21 [19,.t 18 .bool] 2 [.t 18 .bool]])] (A2 bH (A2 jD (A2 Uy (A2 fL (A2 dy (A2 fP (A2 Uz (A2 hZ (A2 gz (A2 (ADS Sw) B4))))))))))
end Go.Proofs.YtkgodfhnofpglaaGreatDoor
