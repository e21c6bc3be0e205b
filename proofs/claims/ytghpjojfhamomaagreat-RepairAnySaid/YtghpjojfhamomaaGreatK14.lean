/- Texts of wip, joined and shortened by wip/tools/pack.py; nothing is assumed. -/
import Derived.Test.YtghpjojfhamomaaGreatK13
import Derived.Test.YtghpjojfhamomaaGreatProg
import Derived.KernelRfl
noncomputable section
set_option linter.all false
namespace Go.Proofs.YtghpjojfhamomaaGreat
open Go Go.Ab Go.Pm
set_option maxRecDepth 100000
theorem ZA:A5 (.c0 146 [i64] [.bool] Fp):=k0 [] CK
theorem NJ:A5 (.c0 84 [i64,i64] [i64] EI):=k0 [] (A8 ZA CK)
theorem gr:A5 (.c0 199 [(.list i64)] [i64] J3):=k0 [(199,[hn 0 3 [.t 8 i64] [(.ret,[.t 2 i64]),(.exit 0,[])]])] CK
theorem Wd:A5 (.c0 198 [BS,BS] [i64] Hm):=k0 [] (A8 NJ (A8 gr CK))
theorem Og:A5 (.c2 356 BS [i64,i64,i64] [] [.fn (.func 198) [] []] Cn):=Qz (hs:=fW [(356,[hn 0 1 [.t 10 i64,.u 0 BS,.g 0 0] [(.exit 0,[.u 0 BS])]])]) (n:=13) CK (λl x=>by kernel_rfl)
theorem QE:A5 (.c2 327 BS [i64,i64,i64] [] [.fn (.func 198) [] []] Ep):=Qz (hs:=fW [(327,[hn 0 2 [.t 10 i64,.t 11 i64,.u 0 BS,.g 0 0] [(.exit 0,[.t 10 i64,.u 0 BS,.g 0 0])]])]) (n:=13) (A8 Og CK) (λl x=>by kernel_rfl)
theorem Mk:A5 (.c2 298 BS [i64,i64] [] [.fn (.func 198) [] []] C2):=Qz (hs:=fW [(298,[hn 0 1 [.t 8 i64,.u 0 BS,.g 0 0] [(.exit 0,[.u 0 BS])],hn 0 4 [.t 9 i64,.u 0 BS,.g 0 0] [(.exit 2,[.u 0 BS,.g 0 0])]])]) (n:=13) (A8 Wd CK) (λl x=>by kernel_rfl)
theorem PG:A5 (.c2 299 BS [i64,i64,i64] [] [.fn (.func 198) [] []] EV):=rC (P:=Tryz.prog) (F:=299) (te:=BS) (ds:=[i64,i64,i64]) (rs:=[]) (post:=[.fn (.func 198) [] []]) (f:=λg p=>CE g p.1 p.2) (hs:=fW [(299,[hn 0 3 [.t 10 i64,.t 11 i64] [(.exit 0,[.t 10 i64])],hn 0 9 [.t 13 i64,.u 0 BS,.g 0 0] [(.exit 2,[.u 0 BS])],hn 0 15 [.t 14 i64,.t 15 i64] [(.exit 4,[.t 14 i64])],hn 0 21 [.t 17 i64,.u 0 BS,.g 0 0] [(.exit 6,[.u 0 BS])],hn 0 33 [.t 20 i64,.t 21 i64] [(.exit 8,[.t 20 i64])],hn 2 28 [] [(.normal,[.t 20 i64,.t 21 i64])],hn 2 40 [.x 0] [(.normal,[.u 0 BS,.g 0 0])],hn 2 42 [.x 0] [(.normal,[.u 0 BS,.g 0 0])],hn 2 44 [.x 0] [(.normal,[.u 0 BS])]])]) (n:=13) (A8 Wd (A8 QE CK)) (λg l x=>by kernel_rfl)
theorem QF:A5 (.c2 262 BS [i64] [] [.fn (.func 198) [] []] Er):=Qz (hs:=fW [(262,[hn 0 2 [.t 7 i64,.t 8 i64,.u 0 BS,.g 0 0] [(.exit 0,[.t 7 i64,.u 0 BS,.g 0 0])],hn 0 7 [.t 6 i64,.u 0 BS,.g 0 0] [(.exit 2,[.u 0 BS])],hn 0 9 [.t 7 i64,.t 8 i64,.u 0 BS,.g 0 0] [(.exit 4,[.t 7 i64,.u 0 BS,.g 0 0])]])]) (n:=13) (A8 Mk (A8 PG CK)) (λl x=>by kernel_rfl)
theorem JR:A5 (.c2 197 BS [] [] [.fn (.func 198) [] []] Cw):=Qz (hs:=fW []) (n:=13) (A8 QF CK) (λl x=>by kernel_rfl)
theorem Rc:A5 (.cl 264 Aj):=AB9 (t:=30) (b:=4) (by kernel_rfl) (by kernel_rfl) (by kernel_rfl)
theorem jy:A5 (.c0 211 [(.int .u64)] [i64] P1):=k0 [(211,[hn 2 2 [] [(.normal,[.t 0 (.int .u64),.t 2 i64])],hn 2 5 [] [(.normal,[.t 0 (.int .u64),.t 2 i64])],hn 2 8 [] [(.normal,[.t 0 (.int .u64),.t 2 i64])]])] CK
theorem ZC:A5 (.c0 140 [(.int .u64)] [i64] WN):=k0 [] (A8 jy CK)
theorem Kh:A5 (.c0 35 [BJ] [.bool] HN):=k0 [(35,[hn 0 5 [.t 4 i64] [(.ret,[.t 2 .bool]),(.exit 0,[])],hn 0 13 [.t 5 i64,.t 89 i64] [(.ret,[.t 2 .bool]),(.exit 2,[])]])] CK
theorem fu:A5 (.c0 72 [Bp] [i64] Cf):=k0 [] CK
theorem np:A5 (.c0 116 [i64,Aj] [.bool] Ni):=k0 [] CK
theorem nk:A5 (.c0 245 [i64] [.bool] GJ):=k0 [] CK
theorem gq:A5 (.c0 246 [Ke] [.bool] DR):=k0 [] CK
theorem ay:A5 (.c0 180 [I1] [.bool] Nh):=k0 [] (A8 nk (A8 gq CK))
theorem qm:A5 (.c0 179 [I1] [.bool] L9):=k0 [] CK
theorem mF:A5 (.c0 178 [Aj] [.bool] GR):=k0 [] CK
theorem mG:A5 (.c0 181 [Aj] [.bool] Sd):=k0 [] CK
theorem mH:A5 (.c0 182 [I1] [.bool] Se):=k0 [] CK
theorem Sa:A5 (.c0 73 [Aj] [.bool] GQ):=k0 [(73,[hn 2 5 [] [(.normal,[.t 47 .bool])],hn 2 8 [] [(.normal,[.t 67 .bool])]])] (A8 np (A8 ay (A8 qm (A8 mF (A8 mG (A8 mH CK))))))
theorem Pu:A5 (.c0 36 [Bp] [.bool] Jq):=k0 [(36,[hn 0 4 [.t 37 i64] [(.ret,[.t 2 .bool]),(.exit 0,[])]])] (A8 fu (A8 Sa CK))
theorem mI:A5 (.c0 124 [BJ,Bp,i64,i64] [i64] PK):=k0 [] (A8 Kh (A8 Pu CK))
theorem VW:A5 (.c0 52 [Bp] [i64] Nk):=k0 [] (A8 Pu (A8 fu CK))
theorem VV:A5 (.c0 207 [i64,i64] [.bool] QT):=k0 [] (A8 ZA CK)
theorem iH:A5 (.c0 259 [i64] [.bool] Fp):=k0 [] CK
theorem Um:A5 (.c0 194 [(.list i64),i64] [i64,.bool] JP):=k0 [(194,[hn 2 6 [] [(.normal,[.t 7 i64,.t 8 i64])],hn 0 3 [.t 7 i64,.t 8 i64] [(.exit 0,[.t 7 i64])]])] (A8 VV (A8 iH CK))
theorem Y8:A5 (.c0 195 [BJ,i64] [i64,i64] Jn):=k0 [] CK
theorem Tw:A5 (.c0 137 [BJ,i64] [i64,i64,.bool] GP):=k0 [(137,[hn 2 5 [] [(.normal,[.t 7 i64])]])] (A8 Kh (A8 Um (A8 Y8 CK)))
theorem PY:A5 (.c0 143 [.str,i64,i64] [i64,i64] Bt):=k0 [(143,[hn 0 7 [.t 8 (.int .u64),.t 35 i64] [(.exit 1,[.t 8 (.int .u64)])]])] CK
theorem gu:A5 (.c0 189 [] [(.arr 15 (.int .u32))] Kl):=k0 [(189,[hn 2 9 [] [(.normal,[.t 3 (.int .u32)])],hn 0 7 [.t 3 (.int .u32),.t 9 i64] [(.exit 2,[.t 3 (.int .u32)])],hn 0 3 [.t 4 i64,.p 1 [.d (.arr 15 (.int .u32))]] [(.exit 0,[.p 1 [.d (.arr 15 (.int .u32))]])]])] CK
theorem ZV:A5 (.c0 123 [.str] [(.int .u32)] OH):=k0 [(123,[hn 0 4 [.t 4 (.int .u32),.t 9 i64] [(.exit 0,[.t 4 (.int .u32)])]])] (A8 gu CK)
theorem ZB:A5 (.c0 141 [.str,i64] [.str,i64,i64] DM):=k0 [] (A8 PY (A8 ZV CK))
theorem Sq:A5 (.c0 212 [.str,.str] [.bool] Eb):=k0 [] CK
theorem U1:A5 (.c0 142 [.str,.str] [.bool] E5):=k0 [] (A8 Sq CK)
theorem S9:A5 (.c1 321 0 QI [i64] [i64] B3):=k1 [(321,[hn 2 6 [.x 0] [(.normal,[.p 0 [.d QI]])]])] (A8 PY CK)
theorem Uu:A5 (.c1 323 0 QI [i64] [.str] E0):=k1 [(323,[hn 2 2 [.x 0] [(.normal,[.p 0 [.d QI]])]])] CK
theorem gE:A5 (.c1 322 0 QI [] [Ke] Ez):=k1 [] (A8 S9 (A8 Uu CK))
theorem nl:A5 (.c0 296 [.str] [Aj,i64] JI):=k0 [] (A8 S9 (A8 gE (A8 Uu (A8 Sa CK))))
theorem mO:A5 (.c0 324 [Bc] [.bool] L4):=k0 [] CK
theorem Tz:A5 (.c0 128 [Aj] [.bool] BH):=k0 [] CK
theorem pq:A5 (.c0 325 [Bc,Aj] [.bool] Pa):=k0 [] (A8 Tz CK)
theorem nu:A5 (.c0 326 [Aj,Aj] [i64] OB):=k0 [] (A8 NJ (A8 gr CK))
theorem qu:A5 (.c0 297 [Bc] [.bool] Uc):=k0 [(297,[hn 0 4 [.t 18 i64] [(.ret,[.t 2 .bool]),(.exit 0,[])]])] (A8 mO (A8 Sa (A8 pq (A8 nu CK))))
theorem pp:A5 (.c0 260 [.str] [Bc,i64] KO):=k0 [(260,[⟨0,8,[],[(4,5,Aj)],[],[],[.t 5 i64,.t 32 i64,.u 5 Aj,.p 4 [.d i64,.d i64,.d i64,.d i64,.d i64,.o 5],.p 0 [.d Bc]],[(.ret,[.t 3 i64,.p 0 [.d Bc],.x 4,.x 5]),(.exit 0,[.t 5 i64,.u 5 Aj,.p 4 [.d i64,.d i64,.d i64,.d i64,.d i64,.o 5],.p 0 [.d Bc]])]⟩])] (A8 ZB (A8 U1 (A8 PY (A8 nl (A8 qu CK)))))
theorem jv:A5 (.c0 261 [BJ,Bc] [i64] L8):=k0 [(261,[hn 0 2 [.t 11 i64] [(.ret,[.t 4 i64]),(.exit 0,[])]])] (A8 Y8 CK)
theorem ju:A5 (.c0 196 [BJ,EJ] [Bc,.bool] Gr):=k0 [] (A8 pp (A8 jv CK))
theorem kz:A5 (.c0 200 [Bc,i64] [Bc] Ng):=k0 [(300,[hn 0 2 [.t 8 i64] [(.ret,[.t 4 i64]),(.exit 0,[])]]),(263,[hn 0 5 [.t 6 i64,.t 5 i64,.u 3 Aj,.g 0 3] [(.exit 0,[.t 5 i64,.u 3 Aj,.g 0 3])]])] (A8 Rc CK)
theorem Tx:A5 (.c0 138 [BJ] [(.list Bc),(.list i64)] IE):=k0 [(138,[⟨0,5,[(4,BS)],[],[],[],[.t 19 i64,.u 1 BS,.g 4 1],[(.exit 0,[.u 1 BS,.g 4 1])]⟩,⟨0,14,[(2,Bc),(3,i64)],[],[],[],[.t 42 i64,.t 9 i64,.t 10 i64,.u 2 Bc,.g 2 2,.u 3 i64,.g 3 3],[(.exit 2,[.u 2 Bc,.g 2 2,.u 3 i64,.g 3 3])]⟩])] (A8 Kh (A8 ju (A8 JR (A8 kz CK))))
theorem mK:A5 (.c0 125 [BJ,Bp,i64] [(.list NY)] PL):=k0 [(125,[hn 3 1 [] []]),(136,[hn 0 4 [.t 27 i64,.u 2 NY,.p 3 [.o 2],.y 6 .ready] [(.exit 0,[.u 2 NY,.p 3 [.o 2],.y 6 .ready])]])] (A8 VW (A8 Tw (A8 Tx CK)))
theorem Vr:A5 (.c0 132 [NY,i64] [.bool] Iv):=k0 [] CK
theorem jx:A5 (.c1 191 1 i64 [NY] [.bool] UM):=k1 [] (A8 Vr CK)
theorem mJ:A5 (.c0 126 [(.list NY),i64] [i64] L3):=k0 [(126,[hn 0 1 [.p 0 [.d i64]] [(.ret,[.t 4 i64,.x 0])]]),(190,[hn 0 2 [.t 8 i64,.p 0 [.d i64]] [(.ret,[.t 4 i64,.p 0 [.d i64]]),(.exit 0,[.p 0 [.d i64]])]])] (A8 jx CK)
theorem gv:A5 (.c0 76 [BJ,Bp,i64,i64,i64] [(.list Aj),i64] Hn):=k0 [(76,[hn 0 14 [.t 57 i64,.t 17 i64,.m 9 .i64 Aj] [(.exit 0,[.t 17 i64,.m 9 .i64 Aj])],hn 0 24 [.t 85 i64,.m 9 .i64 Aj,.p 11 [.d i64],.p 5 [.d (.list Aj)],.p 6 [.d i64]] [(.exit 4,[.m 9 .i64 Aj,.p 11 [.d i64],.p 5 [.d (.list Aj)],.p 6 [.d i64]]),(.ret,[.m 9 .i64 Aj,.p 11 [.d i64],.p 5 [.d (.list Aj)],.p 6 [.d i64]])],hn 0 43 [.t 137 i64,.p 5 [.d (.list Aj)],.p 6 [.d i64]] [(.exit 8,[.p 5 [.d (.list Aj)],.p 6 [.d i64]]),(.ret,[.p 5 [.d (.list Aj)],.p 6 [.d i64]])]]),(136,[hn 0 4 [.t 27 i64,.m 9 .i64 Aj,.p 11 [.d i64],.p 5 [.d (.list Aj)],.p 6 [.d i64],.y 14 .ready] [(.exit 0,[.m 9 .i64 Aj,.p 11 [.d i64],.p 5 [.d (.list Aj)],.p 6 [.d i64],.y 14 .ready]),(.ret,[.m 9 .i64 Aj,.p 11 [.d i64],.p 5 [.d (.list Aj)],.p 6 [.d i64],.y 14 .ret])]]),(130,[]),(190,[hn 0 2 [.t 8 i64] [(.ret,[.t 4 i64]),(.exit 0,[])]])] (A8 mI (A8 mK (A8 mJ (A8 Tz (A8 Tw (A8 Tx (A8 Vr (A8 QA CK))))))))
theorem Rw:A5 (.c2 201 i64 [i64,i64] [] [] LY):=Qz (hs:=fW [(201,[hn 0 1 [.t 6 i64,.u 0 i64,.g 0 0] [(.exit 0,[.u 0 i64])],hn 0 4 [.t 7 i64,.u 0 i64,.g 0 0] [(.exit 2,[.u 0 i64,.g 0 0])],hn 4 4 [] [(.exit 2,[]),(.normal,[])]])]) (n:=13) (A8 VV CK) (λl x=>by kernel_rfl)
theorem Va:A5 (.c0 202 [] [] (λ_=>none)):=λ_ _ h=>by cases h
theorem Rv:A5 (.c0 203 [] [] (λ_=>none)):=λ_ _ h=>by cases h
theorem Tr:A5 (.c0 204 [] [] (λ_=>none)):=λ_ _ h=>by cases h
theorem Sr:A5 (.c0 205 [] [] (λ_=>none)):=λ_ _ h=>by cases h
theorem Oe:A5 (.c0 206 [] [] (λ_=>none)):=λ_ _ h=>by cases h
theorem Rf:A5 (.c0 208 [] [] (λ_=>none)):=λ_ _ h=>by cases h
theorem Un:A5 (.c0 209 [] [] (λ_=>none)):=λ_ _ h=>by cases h
theorem Vz:A5 (.c2 139 i64 [i64,i64,i64] [] [] P8):=rC (P:=Tryz.prog) (F:=139) (te:=i64) (ds:=[i64,i64,i64]) (rs:=[]) (post:=[]) (f:=λg p=>OJ g p.1 p.2) (hs:=fW [(139,[hn 0 2 [.t 1 i64,.t 2 i64,.t 3 i64,.t 8 .bool,.t 9 .bool,.u 0 i64,.g 0 0] [(.ret,[.u 0 i64])],hn 2 8 [.x 0] [(.normal,[.t 3 i64,.u 0 i64,.g 0 0])],hn 2 12 [.x 0] [(.normal,[.t 11 i64,.t 12 i64,.u 0 i64,.g 0 0])],hn 4 15 [.x 0] [(.normal,[.u 0 i64,.g 0 0]),(.ret,[.u 0 i64])],hn 4 17 [.x 0] [(.exit 1,[.t 1 i64,.u 0 i64,.g 0 0]),(.normal,[.t 1 i64,.u 0 i64,.g 0 0])],hn 2 25 [.x 0] [(.normal,[.t 1 i64,.t 2 i64,.t 8 .bool,.u 0 i64,.g 0 0])]])]) (n:=13) (A8 Rw (A8 Va (A8 Rv (A8 Tr (A8 Sr (A8 Oe (A8 Rf (A8 Un (A8 VV CK))))))))) (λg l x=>by kernel_rfl)
theorem bk:A5 (.c2 79 i64 [] [] [] Po):=Qz (hs:=fW []) (n:=13) (A8 Vz (A8 ZC CK)) (λl x=>by kernel_rfl)
theorem We:A5 (.c0 83 [BY,BY] [i64] Pz):=k0 [] (A8 NJ CK)
theorem jw:A5 (.c0 88 [Dp,Dp] [i64] Py):=k0 [] (A8 NJ CK)
theorem PF:A5 (.c2 213 BY [i64,i64] [] [.fn (.func 83) [] []] I0):=Qz (hs:=fW [(213,[hn 0 1 [.t 8 i64,.u 0 BY,.g 0 0] [(.exit 0,[.u 0 BY])],hn 0 4 [.t 9 i64,.u 0 BY,.g 0 0] [(.exit 2,[.u 0 BY,.g 0 0])],hn 4 4 [] [(.exit 2,[]),(.normal,[])]])]) (n:=13) (A8 We CK) (λl x=>by kernel_rfl)
theorem Re:A5 (.c0 214 [] [] (λ_=>none)):=λ_ _ h=>by cases h
theorem PE:A5 (.c0 215 [] [] (λ_=>none)):=λ_ _ h=>by cases h
theorem QC:A5 (.c0 216 [] [] (λ_=>none)):=λ_ _ h=>by cases h
theorem Pf:A5 (.c0 217 [] [] (λ_=>none)):=λ_ _ h=>by cases h
theorem Le:A5 (.c0 218 [] [] (λ_=>none)):=λ_ _ h=>by cases h
theorem Of:A5 (.c0 219 [] [] (λ_=>none)):=λ_ _ h=>by cases h
theorem Qy:A5 (.c0 220 [] [] (λ_=>none)):=λ_ _ h=>by cases h
theorem Rx:A5 (.c2 145 BY [i64,i64,i64] [] [.fn (.func 83) [] []] LZ):=rC (P:=Tryz.prog) (F:=145) (te:=BY) (ds:=[i64,i64,i64]) (rs:=[]) (post:=[.fn (.func 83) [] []]) (f:=λg p=>KQ g p.1 p.2) (hs:=fW [(145,[hn 0 2 [.t 1 i64,.t 2 i64,.t 3 i64,.t 10 .bool,.t 11 .bool,.u 0 BY,.g 0 0] [(.ret,[.u 0 BY])],hn 2 8 [.x 0] [(.normal,[.t 3 i64,.u 0 BY,.g 0 0])],hn 2 12 [.x 0] [(.normal,[.t 13 i64,.t 14 i64,.u 0 BY,.g 0 0])],hn 4 15 [.x 0] [(.normal,[.u 0 BY,.g 0 0]),(.ret,[.u 0 BY])],hn 4 17 [.x 0] [(.exit 1,[.t 1 i64,.u 0 BY,.g 0 0]),(.normal,[.t 1 i64,.u 0 BY,.g 0 0])],hn 2 25 [.x 0] [(.normal,[.t 1 i64,.t 2 i64,.t 10 .bool,.u 0 BY,.g 0 0])]])]) (n:=13) (A8 PF (A8 Re (A8 PE (A8 QC (A8 Pf (A8 Le (A8 Of (A8 Qy (A8 We CK))))))))) (λg l x=>by kernel_rfl)
theorem QB:A5 (.c2 82 BY [] [] [.fn (.func 83) [] []] Gf):=Qz (hs:=fW []) (n:=13) (A8 Rx (A8 ZC CK)) (λl x=>by kernel_rfl)
theorem QD:A5 (.c2 223 Dp [i64,i64] [] [.fn (.func 88) [] []] Eo):=Qz (hs:=fW [(223,[hn 0 1 [.t 8 i64,.u 0 Dp,.g 0 0] [(.exit 0,[.u 0 Dp])],hn 0 4 [.t 9 i64,.u 0 Dp,.g 0 0] [(.exit 2,[.u 0 Dp,.g 0 0])],hn 4 4 [] [(.exit 2,[]),(.normal,[])]])]) (n:=13) (A8 jw CK) (λl x=>by kernel_rfl)
theorem Ss:A5 (.c0 224 [] [] (λ_=>none)):=λ_ _ h=>by cases h
theorem UE:A5 (.c2 149 Dp [i64] [] [.fn (.func 88) [] []] Iy):=Qz (hs:=fW [(149,[hn 0 2 [.t 7 i64,.t 8 i64,.u 0 Dp,.g 0 0] [(.exit 0,[.t 7 i64,.u 0 Dp,.g 0 0])],hn 0 7 [.t 6 i64,.u 0 Dp,.g 0 0] [(.exit 2,[.u 0 Dp])],hn 0 9 [.t 7 i64,.t 8 i64,.u 0 Dp,.g 0 0] [(.exit 4,[.t 7 i64,.u 0 Dp,.g 0 0])],hn 2 15 [.x 0] [(.normal,[.u 0 Dp,.g 0 0])]])]) (n:=13) (A8 QD (A8 Ss CK)) (λl x=>by kernel_rfl)
theorem PD:A5 (.c2 87 Dp [] [] [.fn (.func 88) [] []] EU):=Qz (hs:=fW []) (n:=13) (A8 UE CK) (λl x=>by kernel_rfl)
theorem Ru:A5 (.c0 69 [i64,(.list i64)] [.bool] Fk):=k0 [(69,[hn 0 4 [.t 5 i64] [(.ret,[.t 4 .bool]),(.exit 0,[])]])] CK
theorem U0:A5 (.c0 30 [i64,(.list i64)] [BJ,i64] IC):=k0 [] (A8 Ru CK)
theorem Uw:A5 (.c0 31 [] [Bp] Fv):=k0 [] CK
theorem gy:A5 (.c0 150 [i64] [.bool] GJ):=k0 [] CK
theorem qp:A5 (.c0 225 [] [.str] UQ):=k0 [] (A8 Su CK)
theorem fw:A5 (.c0 226 [.str,i64,i64] [i64] FQ):=k0 [] (A8 PY CK)
theorem tE:A5 (.c0 227 [.str] [BG,.bool] QU):=k0 [(227,[hn 2 9 [.x 0,.x 1] [(.normal,[.p 1 [.d BG],.p 0 [.d BG]]),(.ret,[.t 3 .bool,.p 0 [.d BG],.x 1])],hn 0 3 [.t 13 i64,.p 1 [.d BG],.p 0 [.d BG]] [(.ret,[.t 3 .bool,.p 0 [.d BG],.x 1]),(.exit 0,[.p 1 [.d BG],.p 0 [.d BG]])]])] (A8 fw CK)
theorem po:A5 (.c0 118 [BG] [.bool] R2):=k0 [] (A8 gy CK)
theorem qq:A5 (.c0 119 [BG] [.bool] Oj):=k0 [(119,[hn 0 2 [.t 7 i64] [(.ret,[.t 2 .bool]),(.exit 0,[])]])] CK
theorem gF:A5 (.c1 121 0 Xf [Ke] [] Jv):=k1 [(121,[hn 2 3 [] [(.normal,[.t 4 i64])]])] (A8 kM (A8 Su CK))
theorem WG:A5 (.c0 75 [BG] [.str,i64] I4):=k0 [(75,[hn 0 8 [.t 29 i64,.p 1 [.d Xf]] [(.exit 1,[.p 1 [.d Xf]])]])] (A8 po (A8 qq (A8 kM (A8 gF (A8 Su (A8 ZV CK))))))
theorem pn:A5 (.c0 151 [.str] [BG,i64] KM):=k0 [] (A8 qp (A8 fw (A8 ZV (A8 tE (A8 WG CK)))))
theorem mN:A5 (.c0 45 [i64] [BG] DG):=k0 [] CK
theorem T0:A5 (.c0 90 [.str,i64] [BG,i64] Ea):=k0 [] (A8 gy (A8 pn (A8 mN CK)))
theorem k9:A5 (.c0 144 [.str] [Fx] KV):=k0 [] (A8 PY (A8 T0 CK))
theorem Sb:A5 (.c0 89 [BY] [.bool] Hg):=k0 [(89,[hn 0 4 [.t 36 i64] [(.ret,[.t 2 .bool]),(.exit 0,[])]])] (A8 T0 CK)
theorem nr:A5 (.c0 80 [.str] [BY,i64] FG):=k0 [(80,[⟨0,13,[],[(1,2,Fx)],[],[],[.t 5 i64,.t 50 i64,.u 2 Fx,.p 1 [.d i64,.d i64,.o 2],.p 0 [.d BY]],[(.ret,[.t 3 i64,.p 0 [.d BY],.x 1,.x 2]),(.exit 0,[.t 5 i64,.u 2 Fx,.p 1 [.d i64,.d i64,.o 2],.p 0 [.d BY]])]⟩])] (A8 ZB (A8 U1 (A8 PY (A8 k9 (A8 Sb CK)))))
theorem pj:A5 (.c0 81 [BY] [.bool] Vn):=k0 [] (A8 Sb CK)
theorem Y9:A5 (.c0 40 [(.list EJ)] [(.list BY)] Ly):=k0 [(40,[⟨0,4,[(4,BY)],[],[],[],[.t 12 i64,.m 0 .i64 .bool,.u 1 BY,.g 4 1],[(.exit 0,[.m 0 .i64 .bool,.u 1 BY,.g 4 1])]⟩])] (A8 nr (A8 pj (A8 QB CK)))
theorem mL:A5 (.c0 222 [Fx,i64] [i64] PM):=k0 [] CK
theorem pk:A5 (.c0 148 [BY,i64] [i64,.bool] R1):=k0 [(221,[hn 2 6 [] [(.normal,[.t 9 i64,.t 10 i64])],hn 0 3 [.t 9 i64,.t 10 i64] [(.exit 0,[.t 9 i64])]])] (A8 mL CK)
theorem gw:A5 (.c0 86 [BY,i64] [Fx,.bool] UO):=k0 [] (A8 Sb (A8 pk CK))
theorem mE:A5 (.c0 41 [(.list EJ),i64,i64] [(.list Dp)] Sc):=k0 [(41,[hn 3 2 [] []]),(147,[⟨0,1,[],[(2,0,Dp)],[],[],[.t 3 i64,.u 5 Dp,.p 2 [.o 5],.y 4 .ready],[(.exit 0,[.u 5 Dp,.p 2 [.o 5],.y 4 .ready])]⟩])] (A8 Y9 (A8 gw (A8 PD CK)))
theorem iG:A5 (.c1 43 1 Dp [BY] [.bool] S1):=k1 [] CK
theorem qo:A5 (.c0 44 [BY,i64] [BG,i64] Wt):=k0 [] (A8 Sb (A8 gw (A8 T0 CK)))
theorem j8:A5 (.c0 74 [BJ,Bp] [i64] P9):=k0 [] (A8 Kh (A8 Pu CK))
theorem nj:A5 (.c0 193 [BG,I1] [BG,i64] QS):=k0 [] (A8 ay CK)
theorem qt:A5 (.c0 135 [BG,Aj] [BG,i64] Ua):=k0 [] (A8 Sa (A8 Tz (A8 WG (A8 nj CK))))
theorem nw:A5 (.c0 77 [BG,(.list Aj)] [BG,i64] Ud):=k0 [(77,[hn 0 2 [.t 12 i64,.p 0 [.d BG],.p 1 [.d BG]] [(.ret,[.t 5 i64,.p 1 [.d BG],.x 0]),(.exit 0,[.p 0 [.d BG],.p 1 [.d BG]])]])] (A8 qt CK)
theorem nv:A5 (.c0 38 [BG,BJ,Bp,i64] [BG,i64] JQ):=k0 [] (A8 j8 (A8 WG (A8 gv (A8 nw CK))))
theorem nq:A5 (.c0 39 [BJ,Bp,i64,i64,i64] [(.list i64),i64,i64,i64] Nj):=k0 [(39,[]),(136,[⟨0,4,[],[(4,0,i64)],[],[],[.t 27 i64,.u 9 i64,.p 4 [.o 9],.y 8 .ready],[(.exit 0,[.u 9 i64,.p 4 [.o 9],.y 8 .ready])]⟩])] (A8 gv (A8 VW (A8 Tw (A8 Tx (A8 bk CK)))))
theorem Kk:A5 (.c0 12 [(.list EJ),BJ,Bp,i64,i64] [BG,dG,i64] CG):=k0 [(12,[hn 0 10 [.t 61 i64,.p 4 [.d BG],.p 5 [.d dG]] [(.ret,[.t 12 i64,.p 4 [.d BG],.p 5 [.d dG]]),(.exit 1,[.p 4 [.d BG],.p 5 [.d dG]])]]),(42,[hn 0 2 [.t 8 i64,.p 6 [.d Dp]] [(.ret,[.t 4 i64,.p 6 [.d Dp]]),(.exit 0,[.p 6 [.d Dp]])]])] (A8 Kh (A8 Pu (A8 Y9 (A8 mE (A8 iG (A8 qo (A8 nv (A8 nq (A8 mN CK)))))))))
theorem Pc:A5 (.c0 14 [i64] [BG] DG):=k0 [] CK
theorem bj:A5 (.c0 18 [(.list EJ),BJ,Bp,i64] [i64] JO):=k0 [(18,[hn 0 2 [.t 9 i64] [(.ret,[.t 8 i64]),(.exit 0,[])]])] (A8 VW (A8 Kk CK))
theorem Na:A5 (.c0 8 [] [.bool] F3):=k0 [] (A8 U0 (A8 Uw (A8 Kk (A8 Pc (A8 bj CK)))))
theorem VX:A5 (.c1 17 0 A6 [i64] [i64] HB):=k1 [] CK
theorem By:A5 (.c1 17 0 A6 [i64] [i64] Ah):=k1 [] (A8 VX CK)
theorem Ux:A5 (.c0 275 [i64] [EX,i64] Jy):=k0 [] CK
theorem Uy:A5 (.c0 276 [i64] [EP,i64] NO):=k0 [] CK
theorem gN:A5 (.c0 233 [i64,i64] [A4,i64] NR):=k0 [] (A8 Ux (A8 Uy (A8 Uw CK)))
theorem ZX:A5 (.c0 277 [i64] [(.list .str)] Ol):=k0 [(277,[⟨0,3,[(3,.str)],[],[],[],[.t 4 i64,.u 0 .str,.g 3 0],[(.exit 0,[.u 0 .str,.g 3 0])]⟩])] CK
theorem gH:A5 (.c0 234 [i64] [Fa,i64] Jx):=k0 [] (A8 ZX CK)
theorem gO:A5 (.c0 159 [i64,i64] [A3,i64] NS):=k0 [] (A8 gN (A8 gH CK))
theorem Wp:A5 (.c1 109 0 A6 [] [.str] IJ):=k1 [(109,[hn 2 3 [.x 0] [(.normal,[.t 3 i64,.p 0 [.d A6]])],hn 0 6 [.t 5 i64,.u 1 (.int .u8),.g 4 1,.p 0 [.d A6]] [(.exit 0,[.u 1 (.int .u8),.g 4 1,.p 0 [.d A6]])]])] (A8 By CK)
theorem Xl:A5 (.c1 61 0 A6 [] [i64] G4):=k1 [] (A8 By CK)
theorem Vs:A5 (.c1 287 0 A6 [i64] [Ey] HZ):=k1 [(287,[hn 2 5 [] [(.normal,[.t 15 .bool])],hn 2 4 [] [(.normal,[.t 15 .bool])],hn 2 8 [.x 0,.x 3] [(.normal,[.p 0 [.d A6],.p 3 [.d Ey]])],hn 2 11 [.x 0,.x 3] [(.normal,[.p 0 [.d A6],.p 3 [.d Ey]])],hn 2 6 [.x 0,.x 3] [(.normal,[.p 0 [.d A6],.p 3 [.d Ey]])],hn 2 13 [.x 0,.x 3] [(.normal,[.p 0 [.d A6],.p 3 [.d Ey]])]])] (A8 By (A8 Wp (A8 Xl CK)))
theorem Wq:A5 (.c1 236 0 A6 [i64,i64,.bool] [Si] IK):=k1 [(236,[hn 2 3 [] [(.normal,[.t 11 .bool])],hn 2 12 [.x 0,.x 1] [(.ret,[.p 0 [.d A6],.p 1 [.d Si]]),(.normal,[.p 0 [.d A6],.p 1 [.d Si]])]])] (A8 By (A8 Vs CK))
theorem Ul:A5 (.c1 161 0 A6 [i64,i64,.bool] [(.list Si)] Gs):=k1 [(161,[hn 0 3 [.t 10 i64,.u 1 Si,.g 9 1,.p 0 [.d A6]] [(.exit 0,[.u 1 Si,.g 9 1,.p 0 [.d A6]])]])] (A8 By (A8 Wq CK))
theorem GV:A5 (.c0 34 [Bp] [i64] Cf):=k0 [] CK
theorem Pv:A5 (.c0 244 [Ke] [.bool] DR):=k0 [] CK
theorem TG:A5 (.c0 177 [I1] [.bool] IZ):=k0 [] (A8 Pv CK)
theorem bF:A5 (.c0 114 [Aj] [Aj,.bool] K6):=k0 [(114,[hn 2 4 [] [(.normal,[.t 13 .bool])],hn 2 8 [.x 2] [(.normal,[.t 5 .bool,.p 2 [.d Aj]])],hn 2 13 [] [(.normal,[.t 67 .bool])],hn 2 12 [] [(.normal,[.t 67 .bool])],hn 2 17 [] [(.normal,[.t 91 .bool])]])] (A8 TG CK)
theorem ZY:A5 (.c0 115 [i64,i64] [.bool] Ga):=k0 [] CK
theorem Ds:A5 (.c0 71 [Aj] [.bool] Cm):=k0 [] (A8 bF (A8 ZY CK))
theorem CN:A5 (.c0 33 [Bp] [.bool] B4):=k0 [(33,[hn 0 4 [.t 3 i64] [(.ret,[.t 2 .bool]),(.exit 0,[])]])] (A8 GV (A8 Ds CK))
theorem RE:A5 (.c0 228 [BG] [.bool] HO):=k0 [] CK
theorem TD:A5 (.c0 229 [BG] [.bool] IX):=k0 [(229,[hn 0 2 [.t 3 i64] [(.ret,[.t 2 .bool]),(.exit 0,[])]])] (A8 Pv CK)
theorem bB:A5 (.c0 365 [BG] [.bool] K3):=k0 [] (A8 RE (A8 TD CK))
theorem EQ:A5 (.c0 334 [EX] [.bool] DX):=k0 [(334,[hn 0 11 [.t 6 i64] [(.ret,[.t 2 .bool]),(.exit 2,[])],hn 0 5 [.t 4 i64] [(.ret,[.t 2 .bool]),(.exit 0,[])]])] (A8 bB CK)
theorem TH:A5 (.c0 420 [Bl] [.bool] Gz):=k0 [] CK
theorem T2:A5 (.c0 421 [Bl,Bl] [.bool] FW):=k0 [] CK
theorem Kj:A5 (.c0 407 [Bl,Bl] [.bool] EE):=k0 [] CK
theorem Oc:A5 (.c0 422 [DH,i64,Ip] [i64] EF):=k0 [(422,[hn 0 2 [.t 7 i64] [(.ret,[.t 6 i64]),(.exit 0,[])]])] CK
theorem FC:A5 (.c0 384 [DH] [.bool] Dx):=k0 [(384,[hn 0 9 [.t 4 i64] [(.ret,[.t 2 .bool]),(.exit 2,[])],hn 0 4 [.t 3 i64] [(.ret,[.t 2 .bool]),(.exit 0,[])],hn 0 20 [.t 7 i64] [(.ret,[.t 2 .bool]),(.exit 6,[])],hn 0 14 [.t 5 i64] [(.ret,[.t 2 .bool]),(.exit 4,[])]])] (A8 TH (A8 T2 (A8 Kj (A8 Oc CK))))
theorem bQ:A5 (.c0 396 [B0] [.bool] LF):=k0 [(396,[hn 0 6 [.t 3 i64] [(.ret,[.t 2 .bool]),(.exit 0,[])],hn 0 11 [.t 4 i64] [(.ret,[.t 2 .bool]),(.exit 2,[])]])] CK
theorem FE:A5 (.c0 357 [(.list B0)] [.bool] Dz):=k0 [(357,[hn 0 4 [.t 3 i64] [(.ret,[.t 2 .bool]),(.exit 0,[])]])] (A8 bQ CK)
theorem gK:A5 (.c0 423 [i64] [.bool] Gp):=k0 [] CK
theorem GC:A5 (.c0 385 [EP] [.bool] Dy):=k0 [(385,[hn 0 4 [.t 3 i64] [(.ret,[.t 2 .bool]),(.exit 0,[])]])] (A8 gK CK)
theorem PC:A5 (.c0 386 [(.list B6),i64] [.bool] FL):=k0 [(386,[hn 0 2 [.t 5 i64] [(.ret,[.t 4 .bool]),(.exit 0,[])]])] CK
theorem bV:A5 (.c0 344 [A4] [.bool] LK):=k0 [] (A8 CN (A8 EQ (A8 FC (A8 FE (A8 GC (A8 PC CK))))))
theorem JW:A5 (.c0 345 [A4,i64] [B6,.bool] Eu):=k0 [(345,[hn 0 2 [.t 6 i64,.p 1 [.d B6]] [(.ret,[.t 5 .bool,.p 1 [.d B6]]),(.exit 0,[.p 1 [.d B6]])]])] CK
theorem CO:A5 (.c0 312 [A4] [.bool] Bh):=k0 [(312,[hn 0 4 [.t 3 i64] [(.ret,[.t 2 .bool]),(.exit 0,[])],hn 0 9 [.t 4 i64] [(.ret,[.t 2 .bool]),(.exit 2,[])],hn 0 18 [.t 8 i64] [(.ret,[.t 2 .bool]),(.exit 4,[])],hn 0 23 [.t 9 i64] [(.ret,[.t 2 .bool]),(.exit 6,[])]])] (A8 bV (A8 JW CK))
theorem J1:A5 (.c0 358 [(.list B0),i64] [i64] Ef):=k0 [(358,[hn 0 2 [.t 5 i64] [(.ret,[.t 4 i64]),(.exit 0,[])]])] CK
theorem TI:A5 (.c0 328 [(.list B0),i64] [(.list B0),i64] Ie):=k0 [(328,[⟨0,11,[(6,B0)],[],[],[],[.t 7 i64,.u 0 B0,.g 6 0],[(.exit 1,[.u 0 B0,.g 6 0])]⟩])] (A8 FE (A8 J1 CK))
theorem bR:A5 (.c0 304 [A4] [A4,i64,i64] LG):=k0 [] (A8 CO (A8 TI CK))
theorem bc:A5 (.c0 278 [A3] [A3,i64,i64] LN):=k0 [] (A8 bR CK)
theorem Cp:A5 (.c0 286 [i64] [C7] BF):=k0 [] CK
theorem Zp:A5 (.c0 283 [i64] [C7] EB):=k0 [] (A8 Cp CK)
theorem GW:A5 (.c0 335 [EX,i64] [i64] FX):=k0 [(335,[hn 0 2 [.t 5 i64] [(.ret,[.t 4 i64]),(.exit 0,[])]])] CK
theorem Fe:A5 (.c0 307 [EX,i64] [i64] EG):=k0 [] (A8 EQ (A8 GW CK))
theorem IT:A5 (.c0 332 [EX,i64] [BG,.bool] Fw):=k0 [] (A8 Fe CK)
theorem Fc:A5 (.c0 11 [Bp] [i64] Dl):=k0 [] (A8 CN (A8 GV CK))
theorem JU:A5 (.c0 54 [Bp,i64] [Bp,i64] EM):=k0 [] (A8 CN (A8 GV CK))
theorem JV:A5 (.c0 333 [A4,i64] [A4] F5):=k0 [(333,[hn 2 3 [.x 0] [(.normal,[.p 0 [.d A4]])]])] (A8 Fc (A8 JU CK))
theorem bS:A5 (.c0 306 [A4,i64] [A4,BG,i64] LH):=k0 [] (A8 CO (A8 IT (A8 JV CK)))
theorem HK:A5 (.c0 152 [BG] [i64] Dw):=k0 [] (A8 RE (A8 TD CK))
theorem DT:A5 (.c0 169 [.str,i64,i64] [.str] Ak):=k0 [(169,[hn 0 4 [.t 0 .str,.t 7 i64] [(.exit 0,[.t 0 .str])]])] CK
theorem TE:A5 (.c0 168 [i64] [.str] Gw):=k0 [] CK
theorem Ky:A5 (.c0 170 [.str] [(.int .u32)] E2):=k0 [(170,[hn 2 10 [] [(.normal,[.t 3 (.int .u32)])],hn 0 7 [.t 3 (.int .u32),.t 5 i64] [(.exit 2,[.t 3 (.int .u32)])],hn 0 3 [.t 3 (.int .u32),.t 4 i64] [(.exit 0,[.t 3 (.int .u32)])]])] CK
theorem G3:A5 (.c0 105 [BG] [.str,i64] C9):=k0 [(105,[hn 2 11 [] [(.normal,[.t 7 i64])],hn 0 7 [.t 5 .str,.t 6 i64] [(.exit 0,[.t 5 .str])]])] (A8 HK (A8 DT (A8 TE (A8 Ky CK))))
theorem bE:A5 (.c0 439 [Fa,DY] [.bool] K5):=k0 [(439,[hn 2 7 [] [(.normal,[.t 59 .bool])],hn 2 13 [.x 2] [(.ret,[.t 4 .bool,.x 2]),(.normal,[.p 2 [.d DY]])],hn 2 11 [.x 2] [(.normal,[.p 2 [.d DY]]),(.ret,[.t 4 .bool,.x 2])],hn 2 9 [.x 2] [(.normal,[.p 2 [.d DY]]),(.ret,[.t 4 .bool,.x 2])],hn 2 8 [.x 2] [(.normal,[.p 2 [.d DY]]),(.ret,[.t 4 .bool,.x 2])]])] CK
theorem bC:A5 (.c0 409 [Fa] [.bool] K4):=k0 [(409,[hn 0 5 [.t 4 i64] [(.ret,[.t 2 .bool]),(.exit 0,[])],hn 0 10 [.t 5 i64] [(.ret,[.t 2 .bool]),(.exit 2,[])],hn 0 15 [.t 6 i64] [(.ret,[.t 2 .bool]),(.exit 4,[])]])] (A8 bE CK)
theorem Mi:A5 (.c0 366 [Fa,i64] [i64] GZ):=k0 [] (A8 bC CK)
theorem RF:A5 (.c0 410 [(.list i64),i64] [(.list i64)] FH):=k0 [(410,[hn 2 6 [.x 0] [(.normal,[.u 0 i64,.g 5 0])],⟨0,3,[(5,i64)],[],[],[],[.t 6 i64,.u 0 i64,.g 5 0],[(.exit 0,[.u 0 i64,.g 5 0])]⟩])] CK
theorem dX:A5 (.c0 369 [(.list i64),i64] [(.list i64)] FV):=k0 [(369,[hn 2 7 [.x 0] [(.normal,[.t 6 .bool,.u 0 i64,.g 5 0])],hn 2 10 [.x 0] [(.normal,[.u 0 i64,.g 5 0])],⟨0,4,[(5,i64)],[],[],[],[.t 6 .bool,.t 7 i64,.u 0 i64,.g 5 0],[(.exit 0,[.t 6 .bool,.u 0 i64,.g 5 0])]⟩,hn 2 12 [.x 0] [(.normal,[.u 0 i64,.g 5 0])]])] CK
theorem bD:A5 (.c0 336 [Fa,i64,.str] [Fa,i64] Ph):=k0 [(336,[hn 2 16 [.x 7,.x 8,.x 9] [(.normal,[.u 8 DY,.u 9 DY,.g 10 8,.p 7 [.o 4,.d i64,.o 5,.d .bool,.o 9]])],⟨0,13,[(10,DY)],[(7,4,DY)],[],[],[.t 11 i64,.u 8 DY,.u 4 .str,.u 5 i64,.u 9 DY,.g 10 8,.p 7 [.o 4,.d i64,.o 5,.d .bool,.o 9],.p 2 [.o 4,.d i64,.o 5,.d .bool,.o 6],.p 3 [.o 4,.d i64,.o 5,.d .bool,.o 6]],[(.exit 0,[.u 8 DY,.u 4 .str,.u 5 i64,.u 9 DY,.g 10 8,.p 7 [.o 4,.d i64,.o 5,.d .bool,.o 9],.p 2 [.o 4,.d i64,.o 5,.d .bool,.o 6],.p 3 [.o 4,.d i64,.o 5,.d .bool,.o 6]])]⟩,hn 2 29 [.x 2,.x 3,.x 4,.x 7] [(.normal,[.t 12 .bool,.u 4 .str,.p 7 [.o 4,.d i64,.d (.list i64),.d .bool,.o 9],.p 2 [.o 4,.d i64,.d (.list i64),.d .bool,.o 6],.p 3 [.o 4,.d i64,.d (.list i64),.d .bool,.o 6]])],hn 2 26 [.x 2,.x 3,.x 4,.x 7] [(.normal,[.t 12 .bool,.u 4 .str,.p 2 [.o 4,.d i64,.d (.list i64),.d .bool,.o 6],.p 3 [.o 4,.d i64,.d (.list i64),.d .bool,.o 6],.p 7 [.o 4,.d i64,.d (.list i64),.d .bool,.o 9]])],hn 2 24 [.x 2,.x 3,.x 4,.x 7] [(.normal,[.t 12 .bool,.u 4 .str,.p 2 [.o 4,.d i64,.d (.list i64),.d .bool,.o 6],.p 3 [.o 4,.d i64,.d (.list i64),.d .bool,.o 6],.p 7 [.o 4,.d i64,.d (.list i64),.d .bool,.o 9]])],⟨0,20,[],[],[5],[],[.t 12 .bool,.t 13 i64,.u 4 .str,.u 6 DY,.u 4 .str,.u 6 DY,.u 4 .str,.u 9 DY,.p 2 [.o 4,.d i64,.d (.list i64),.d .bool,.o 6],.p 3 [.o 4,.d i64,.d (.list i64),.d .bool,.o 6],.p 7 [.o 4,.d i64,.d (.list i64),.d .bool,.o 9]],[(.exit 2,[.t 12 .bool,.u 4 .str,.u 6 DY,.u 9 DY,.p 2 [.o 4,.d i64,.d (.list i64),.d .bool,.o 6],.p 3 [.o 4,.d i64,.d (.list i64),.d .bool,.o 6],.p 7 [.o 4,.d i64,.d (.list i64),.d .bool,.o 9]])]⟩,hn 2 32 [.x 2,.x 3,.x 4,.x 7] [(.normal,[.u 4 .str,.p 7 [.o 4,.d i64,.d (.list i64),.d .bool,.o 9],.p 2 [.o 4,.d i64,.d (.list i64),.d .bool,.o 6],.p 3 [.o 4,.d i64,.d (.list i64),.d .bool,.o 6]])],hn 2 45 [.x 7] [(.normal,[.p 7 [.o 4,.d i64,.d (.list i64),.d .bool,.o 9]])],hn 2 43 [.x 7] [(.normal,[.p 7 [.o 4,.d i64,.d (.list i64),.d .bool,.o 9]])],hn 2 39 [.x 2,.x 3,.x 4,.x 7] [(.normal,[.u 4 .str,.p 7 [.o 4,.d i64,.d (.list i64),.d .bool,.o 9],.p 2 [.o 4,.d i64,.d (.list i64),.d .bool,.o 6],.p 3 [.o 4,.d i64,.d (.list i64),.d .bool,.o 6]])],hn 0 34 [.t 14 i64,.u 4 .str,.u 6 DY,.u 4 .str,.u 6 DY,.u 4 .str,.u 9 DY,.p 2 [.o 4,.d i64,.d (.list i64),.d .bool,.o 6],.p 3 [.o 4,.d i64,.d (.list i64),.d .bool,.o 6],.p 7 [.o 4,.d i64,.d (.list i64),.d .bool,.o 9]] [(.exit 5,[.u 4 .str,.u 6 DY,.u 9 DY,.p 2 [.o 4,.d i64,.d (.list i64),.d .bool,.o 6],.p 3 [.o 4,.d i64,.d (.list i64),.d .bool,.o 6],.p 7 [.o 4,.d i64,.d (.list i64),.d .bool,.o 9]])]])] (A8 Mi (A8 RF (A8 dX CK)))
theorem Kz:A5 (.c0 411 [EX,i64,S6] [EX] IA):=k0 [] CK
theorem bM:A5 (.c0 370 [EX,i64,i64] [EX,i64] Pj):=k0 [(370,[hn 2 14 [.x 2] [(.normal,[.p 2 [.d S6]])],hn 2 12 [.x 2] [(.normal,[.p 2 [.d S6]])]])] (A8 EQ (A8 GW (A8 Kz CK)))
theorem Di:A5 (.c0 375 [(.list B0),i64] [i64] CY):=k0 [] (A8 J1 CK)
theorem D3:A5 (.c0 154 [Aj] [.bool] BH):=k0 [] CK
theorem Od:A5 (.c0 348 [A4,i64] [i64] Eg):=k0 [] (A8 CO (A8 IT (A8 JW CK)))
theorem ZZ:A5 (.c0 376 [Bp,Aj] [Bp,i64,i64] J7):=k0 [] (A8 CN (A8 GV (A8 Ds CK)))
theorem Gv:A5 (.c0 230 [Bp,i64] [Aj,i64] E4):=k0 [] (A8 CN (A8 GV CK))
theorem Mj:A5 (.c0 413 [(.list B0),i64] [(.list B0)] Gc):=k0 [(413,[hn 2 6 [.x 0] [(.normal,[.u 0 B0,.g 5 0])],⟨0,3,[(5,B0)],[],[],[],[.t 6 i64,.u 0 B0,.g 5 0],[(.exit 0,[.u 0 B0,.g 5 0])]⟩])] CK
theorem Rq:A5 (.c0 415 [B0] [B0] Hw):=k0 [(415,[hn 2 2 [.x 0] [(.normal,[.p 0 [.d B0]])]])] CK
theorem Pe:A5 (.c0 414 [(.list B0),i64,B0] [(.list B0)] IB):=k0 [] CK
theorem T6:A5 (.c0 377 [(.list B0),Aj] [(.list B0),i64] GN):=k0 [(377,[hn 2 24 [.x 2] [(.normal,[.u 2 i64,.g 8 2])],⟨0,21,[(8,i64)],[],[],[],[.t 9 i64,.u 2 i64,.g 8 2],[(.exit 2,[.u 2 i64,.g 8 2])]⟩,hn 2 19 [.x 1] [(.ret,[.t 4 (.list B0),.t 5 i64,.x 1]),(.normal,[.p 1 [.d B0]])],hn 2 17 [.x 1] [(.normal,[.p 1 [.d B0]]),(.ret,[.t 4 (.list B0),.t 5 i64,.x 1])]])] (A8 FE (A8 Ds (A8 J1 (A8 Mj (A8 Rq (A8 Pe CK))))))
theorem gL:A5 (.c0 416 [EP,i64,Dp] [EP] NP):=k0 [] CK
theorem T5:A5 (.c0 378 [EP,Aj] [EP,i64] HQ):=k0 [] (A8 GC (A8 Ds (A8 gL CK)))
theorem Fz:A5 (.c0 340 [A4,Aj] [A4,i64,i64] ET):=k0 [(340,[hn 2 5 [.x 1,.x 2] [(.ret,[.t 5 i64,.t 6 i64,.p 2 [.d A4],.x 1]),(.normal,[.p 1 [.d Aj],.p 2 [.d A4]])],hn 2 10 [.x 1] [(.normal,[.p 1 [.d Aj]])]])] (A8 CO (A8 Di (A8 D3 (A8 Od (A8 ZZ (A8 Gv (A8 T6 (A8 T5 CK))))))))
theorem Yg:A5 (.c0 337 [A4,i64,i64] [A4,i64] Jf):=k0 [(337,[hn 2 7 [.x 1,.x 2] [(.ret,[.t 7 i64,.p 1 [.d A4],.x 2]),(.normal,[.p 2 [.d EX],.p 1 [.d A4]])]])] (A8 CO (A8 Fc (A8 Fe (A8 bM (A8 Fz CK)))))
theorem TL:A5 (.c0 308 [A3,A4,BG] [A3,i64] LQ):=k0 [] (A8 G3 (A8 bD (A8 Yg CK)))
theorem be:A5 (.c0 281 [A3,i64] [A3,i64] LP):=k0 [] (A8 bS (A8 Fe (A8 TL CK)))
theorem bO:A5 (.c0 371 [EX] [(.list B6)] LA):=k0 [(371,[hn 2 9 [.x 1] [(.normal,[.u 1 B6,.g 3 1])],⟨0,5,[(3,B6)],[],[],[],[.t 4 i64,.u 1 B6,.g 3 1],[(.exit 0,[.u 1 B6,.g 3 1])]⟩])] (A8 EQ (A8 GW CK))
theorem iB:A5 (.c0 338 [A4] [HI,i64] Oz):=k0 [(338,[hn 2 9 [.x 2,.x 3] [(.normal,[.u 3 B6,.p 2 [.d i64,.d i64,.d (.list B0),.o 3,.d EP]])],hn 2 14 [.x 2,.x 3] [(.normal,[.u 3 B6,.p 2 [.d i64,.d i64,.d (.list B0),.o 3,.d EP]])],hn 0 11 [.t 46 i64,.u 3 B6,.p 2 [.d i64,.d i64,.d (.list B0),.o 3,.d EP]] [(.exit 2,[.u 3 B6,.p 2 [.d i64,.d i64,.d (.list B0),.o 3,.d EP]])],⟨0,5,[],[(2,3,B6)],[],[],[.t 5 i64,.u 3 B6,.p 2 [.d i64,.d i64,.d (.list B0),.o 3,.d EP]],[(.exit 0,[.u 3 B6,.p 2 [.d i64,.d i64,.d (.list B0),.o 3,.d EP]])]⟩])] (A8 CO (A8 JW (A8 bO CK)))
theorem TJ:A5 (.c0 372 [HI] [.bool] G0):=k0 [(372,[hn 0 4 [.t 3 i64] [(.ret,[.t 2 .bool]),(.exit 0,[])]])] (A8 FE (A8 PC (A8 GC CK)))
theorem Yf:A5 (.c0 412 [.str,(.list i64)] [.str] HS):=k0 [(412,[hn 0 2 [.t 0 .str,.t 5 i64] [(.exit 0,[.t 0 .str])]])] (A8 DT CK)
theorem Zh:A5 (.c0 373 [(.list B0)] [.str,i64] KB):=k0 [(373,[hn 0 5 [.t 4 .str,.t 5 i64] [(.exit 0,[.t 4 .str])]])] (A8 FE (A8 DT (A8 Yf CK)))
theorem Zf:A5 (.c0 374 [EP] [.str,i64] Hs):=k0 [(374,[hn 0 5 [.t 4 .str,.t 5 i64] [(.exit 0,[.t 4 .str])]])] (A8 GC (A8 DT CK))
theorem Zn:A5 (.c0 339 [HI] [.str,i64] Gd):=k0 [(339,[hn 0 9 [.t 6 .str,.t 7 i64] [(.exit 0,[.t 6 .str])]])] (A8 TJ (A8 Zh (A8 DT (A8 Zf CK))))
theorem dp:A5 (.c0 309 [A4] [A4,i64,i64] Qa):=k0 [] (A8 iB (A8 Zn (A8 Fz (A8 JU CK))))
theorem WH:A5 (.c0 282 [A3] [A3,i64,i64] Ks):=k0 [] (A8 dp CK)
theorem dW:A5 (.c0 341 [Fa,i64,.str,i64] [Fa,i64] QV):=k0 [] (A8 Mi (A8 RF CK))
theorem JT:A5 (.c0 165 [.str] [.str] DU):=k0 [] (A8 DT (A8 Ky CK))
theorem da:A5 (.c0 379 [i64] [.str] MD):=k0 [] (A8 DT (A8 JT CK))
theorem dY:A5 (.c0 238 [.str,Ke] [.str] GK):=k0 [] (A8 DT CK)
theorem Ro:A5 (.c0 167 [Aj] [.str,i64] Ff):=k0 [] (A8 Ds (A8 DT (A8 dY CK)))
theorem bI:A5 (.c0 380 [Aj] [.str] Ia):=k0 [] (A8 Ro (A8 JT CK))
theorem bH:A5 (.c0 342 [Bp,i64] [.str] Gx):=k0 [(342,[hn 2 8 [] [(.normal,[.t 5 .str,.t 6 .str])],hn 0 5 [.t 5 .str,.t 6 .str,.t 7 i64] [(.exit 0,[.t 5 .str,.t 6 .str])]])] (A8 CN (A8 da (A8 bI CK)))
theorem bd:A5 (.c0 310 [A3,i64,i64,i64] [Fa,.str] LO):=k0 [(310,[hn 2 8 [.x 3] [(.normal,[.p 3 [.d Fa]])],hn 2 4 [.x 2,.x 3] [(.normal,[.p 2 [.d A4],.p 3 [.d Fa]])]])] (A8 Fe (A8 G3 (A8 JV (A8 dW (A8 bH CK)))))
theorem Et:A5 (.c0 232 [.str,i64,i64] [i64,i64] Ay):=k0 [(232,[hn 0 7 [.t 8 (.int .u64),.t 9 i64] [(.exit 0,[.t 8 (.int .u64)])]])] CK
theorem RD:A5 (.c0 156 [.str,i64] [.str,i64,i64] CQ):=k0 [] (A8 Et (A8 Ky CK))
theorem NF:A5 (.c1 316 0 OP [i64] [i64] BO):=k1 [] (A8 Et CK)
theorem Nb:A5 (.c1 318 0 OP [i64] [.str] Ct):=k1 [] CK
theorem Vx:A5 (.c1 317 0 OP [] [Ke] Cl):=k1 [] (A8 NF (A8 Nb CK))
theorem Rn:A5 (.c0 289 [.str] [Aj,i64] D9):=k0 [] (A8 NF (A8 Vx (A8 Nb (A8 Ds CK))))
theorem dZ:A5 (.c0 381 [.str] [Bp,i64] JK):=k0 [(381,[⟨0,8,[],[(1,1,Aj)],[],[],[.t 5 i64,.u 2 Aj,.p 1 [.d i64,.o 2,.d i64],.p 0 [.d Bp]],[(.ret,[.t 3 i64,.p 0 [.d Bp],.x 1,.x 2]),(.exit 0,[.u 2 Aj,.p 1 [.d i64,.o 2,.d i64],.p 0 [.d Bp]])]⟩])] (A8 RD (A8 Et (A8 Rn CK)))
theorem NG:A5 (.c1 447 0 GS [i64] [i64] Ca):=k1 [] (A8 Et CK)
theorem Vy:A5 (.c1 448 0 GS [i64] [(.list i64)] F9):=k1 [(448,[⟨0,3,[(5,i64)],[],[],[],[.t 6 i64,.u 1 i64,.g 5 1,.p 0 [.d GS]],[(.exit 0,[.u 1 i64,.g 5 1,.p 0 [.d GS]])]⟩])] (A8 NG CK)
theorem Zg:A5 (.c0 445 [.str] [(.list B0),i64] KA):=k0 [(445,[⟨0,4,[(5,B0)],[],[],[],[.t 6 i64,.u 1 B0,.g 5 1,.p 0 [.d GS]],[(.exit 0,[.u 1 B0,.g 5 1,.p 0 [.d GS]])]⟩])] (A8 NG (A8 Vy (A8 FE CK)))
theorem Ze:A5 (.c0 446 [.str] [EP,i64] Ee):=k0 [(446,[⟨0,8,[],[(1,0,Dp)],[],[],[.t 7 i64,.u 2 Dp,.p 1 [.o 2]],[(.exit 1,[.u 2 Dp,.p 1 [.o 2]])]⟩])] (A8 Et (A8 GC CK))
theorem Zm:A5 (.c0 443 [.str] [HI,i64] DA):=k0 [(443,[⟨0,15,[],[(1,3,B6)],[],[],[.t 9 i64,.t 11 i64,.u 2 B6,.p 1 [.d i64,.d i64,.d (.list B0),.o 2,.d EP]],[(.exit 0,[.t 9 i64,.u 2 B6,.p 1 [.d i64,.d i64,.d (.list B0),.o 2,.d EP]])]⟩])] (A8 Et (A8 Zg (A8 Ze (A8 TJ CK))))
theorem Zo:A5 (.c0 440 [Bp] [HI,i64,.bool] Oy):=k0 [(440,[hn 0 4 [.t 5 i64,.p 1 [.d HI]] [(.ret,[.t 3 i64,.t 4 .bool,.p 1 [.d HI]]),(.exit 0,[.p 1 [.d HI]])]])] (A8 CN (A8 Zm CK))
theorem bY:A5 (.c0 417 [Bp,i64] [E8,i64] Pk):=k0 [] (A8 Zo (A8 Uy CK))
theorem bW:A5 (.c0 441 [(.list B6),Aj] [(.list B6)] G1):=k0 [(441,[hn 2 10 [.x 1] [(.normal,[.t 6 .bool,.u 1 B6,.g 5 1])],hn 2 18 [.x 2] [(.normal,[.p 2 [.d B6]])],hn 2 15 [.x 2] [(.normal,[.p 2 [.d B6]]),(.exit 1,[.p 2 [.d B6]])],hn 2 13 [.x 2] [(.normal,[.t 6 .bool,.p 2 [.d B6]]),(.exit 1,[.t 6 .bool,.p 2 [.d B6]])],⟨0,6,[(5,B6)],[],[],[],[.t 6 .bool,.t 7 i64,.u 1 B6,.g 5 1],[(.exit 0,[.t 6 .bool,.u 1 B6,.g 5 1])]⟩,hn 2 21 [.x 1] [(.normal,[.u 1 B6,.g 5 1])]])] (A8 D3 CK)
theorem dt:A5 (.c0 418 [E8,Aj] [E8,i64] MM):=k0 [(418,[hn 2 2 [.x 0,.x 2] [(.ret,[.t 5 i64,.p 2 [.d E8],.x 0]),(.normal,[.p 0 [.d E8],.p 2 [.d E8]])]])] (A8 Di (A8 TI (A8 T6 (A8 T5 (A8 D3 (A8 bW CK))))))
theorem dr:A5 (.c0 444 [Bl,Bl] [.bool] FW):=k0 [] CK
theorem du:A5 (.c0 442 [(.list Bl),Bl] [(.list Bl)] Qf):=k0 [(442,[hn 0 2 [.t 5 i64] [(.exit 0,[.t 5 i64])]])] (A8 dr CK)
theorem bX:A5 (.c0 419 [Bp,(.list B0)] [(.list Bl),i64] LL):=k0 [(419,[hn 0 6 [.t 6 (.list Bl),.t 8 i64] [(.ret,[.t 4 (.list Bl),.t 5 i64]),(.exit 2,[.t 6 (.list Bl)])],hn 0 3 [.t 6 (.list Bl),.t 7 i64] [(.ret,[.t 4 (.list Bl),.t 5 i64]),(.exit 0,[.t 6 (.list Bl)])]])] (A8 Gv (A8 du CK))
theorem Yj:A5 (.c0 382 [Bp,i64] [E8,i64] Ji):=k0 [(382,[hn 0 9 [.t 8 i64,.p 2 [.d E8],.p 1 [.d E8]] [(.ret,[.t 5 i64,.p 1 [.d E8],.x 2]),(.exit 0,[.p 2 [.d E8],.p 1 [.d E8]])],hn 2 20 [.x 3] [(.normal,[.u 3 B0,.g 9 3])],⟨0,17,[(9,B0)],[],[],[],[.t 10 i64,.u 3 B0,.g 9 3],[(.exit 2,[.u 3 B0,.g 9 3])]⟩])] (A8 CN (A8 bY (A8 dt (A8 bX CK))))
theorem ba:A5 (.c0 383 [Bp,E8,i64] [A4,i64] LM):=k0 [(383,[hn 0 8 [.t 11 i64,.p 4 [.d A4],.p 2 [.d A4]] [(.ret,[.t 7 i64,.p 2 [.d A4],.x 4]),(.exit 0,[.p 4 [.d A4],.p 2 [.d A4]])]])] (A8 Ux (A8 CO (A8 Fz CK)))
theorem dy:A5 (.c0 343 [Fa,.str,i64,i64] [A3,i64] Qh):=k0 [] (A8 dZ (A8 Yj (A8 ba CK)))
theorem dz:A5 (.c0 311 [Fa,.str,i64,i64] [A3,i64] Qi):=k0 [] (A8 dy CK)
theorem Zd:A5 (.c0 424 [EX] [EX,i64,i64] Ov):=k0 [(424,[hn 0 5 [.p 0 [.d EX]] [(.exit 0,[.p 0 [.d EX]])]])] (A8 EQ (A8 Kz CK))
theorem de:A5 (.c0 425 [EX,i64] [EX,i64] MH):=k0 [(425,[hn 2 10 [.x 0] [(.normal,[.p 0 [.d i64,.o 2,.d i64]])],hn 2 12 [.x 0] [(.normal,[.p 0 [.d i64,.o 2,.d i64]])]])] (A8 EQ (A8 GW CK))
theorem dj:A5 (.c0 387 [A4] [A4,BG,.bool,i64] MK):=k0 [] (A8 CO (A8 Zd (A8 Fe (A8 de (A8 JV CK)))))
theorem dx:A5 (.c0 346 [A3] [A3,i64] MP):=k0 [(346,[hn 0 1 [.p 0 [.d A3],.p 1 [.d A3]] [(.ret,[.t 3 i64,.p 1 [.d A3],.x 0])]])] (A8 dj (A8 TL CK))
theorem gI:A5 (.c0 388 [(.list i64),i64] [.bool] NM):=k0 [(388,[hn 0 2 [.t 5 i64] [(.ret,[.t 4 .bool]),(.exit 0,[])]])] CK
theorem dV:A5 (.c0 347 [Fa,i64] [.str,i64] MC):=k0 [] (A8 Mi (A8 gI CK))
theorem TC:A5 (.c0 103 [] [.str] IW):=k0 [] (A8 TE CK)
theorem ZW:A5 (.c0 173 [.str] [BG,i64] Ec):=k0 [(173,[hn 0 14 [.t 7 i64,.p 1 [.d BG],.p 0 [.d BG]] [(.ret,[.t 3 i64,.p 0 [.d BG],.x 1]),(.exit 1,[.p 1 [.d BG],.p 0 [.d BG]])]])] (A8 TC (A8 Et (A8 Ky (A8 G3 CK))))
theorem Ki:A5 (.c0 110 [.str,i64] [BG,i64] Cr):=k0 [] (A8 ZW (A8 Pc CK))
theorem bP:A5 (.c0 349 [EP,i64,i64,.str] [BG,i64] LC):=k0 [] (A8 GC (A8 Ki CK))
theorem bJ:A5 (.c0 231 [Aj,(.list Aj)] [(.list Aj)] K7):=k0 [] CK
theorem db:A5 (.c0 153 [Bp,i64,i64,i64] [(.list Aj),i64] QW):=k0 [(153,[hn 0 7 [.t 10 (.list Aj),.t 11 i64] [(.ret,[.t 8 (.list Aj),.t 9 i64]),(.exit 0,[.t 10 (.list Aj),.t 11 i64])]])] (A8 CN (A8 Gv (A8 D3 (A8 bJ CK))))
theorem bZ:A5 (.c0 91 [Bp,BG,i64] [(.list Aj),i64] VF):=k0 [] (A8 CN (A8 HK (A8 db CK)))
theorem TF:A5 (.c0 155 [BG,I1] [BG,i64] IY):=k0 [] (A8 TG CK)
theorem TK:A5 (.c0 92 [BG,Aj] [BG,i64] Ig):=k0 [] (A8 Ds (A8 D3 (A8 HK (A8 TF CK))))
theorem dv:A5 (.c0 46 [Bp,BG,i64] [BG,i64,i64] Qg):=k0 [(46,[hn 0 5 [.t 11 i64,.p 1 [.d BG],.p 2 [.d BG]] [(.ret,[.t 7 i64,.t 8 i64,.p 2 [.d BG],.x 1]),(.exit 0,[.p 1 [.d BG],.p 2 [.d BG]])]])] (A8 bZ (A8 TK CK))
theorem UB:A5 (.c0 13 [Bp,BG,i64] [BG,i64] MN):=k0 [] (A8 dv CK)
theorem Zj:A5 (.c0 350 [A4,BG] [A4,i64] KE):=k0 [(350,[hn 2 21 [.x 9] [(.normal,[.u 9 B6,.g 10 9])],⟨0,18,[(10,B6)],[],[],[],[.t 11 i64,.u 9 B6,.g 10 9],[(.exit 1,[.u 9 B6,.g 10 9])]⟩,hn 2 14 [.x 0,.x 3,.x 5,.x 6,.x 7] [(.normal,[.u 6 S6,.p 0 [.d A4],.p 3 [.d i64,.o 6,.d i64],.p 5 [.d i64,.o 6,.d i64],.p 7 [.d i64,.o 6,.d i64]])]])] (A8 CO (A8 Od (A8 EQ (A8 HK (A8 JW (A8 GW CK))))))
theorem JX:A5 (.c0 313 [A3,i64] [A3,i64] Ev):=k0 [] (A8 CO (A8 Fe (A8 dx (A8 dV (A8 Od (A8 bP (A8 UB (A8 Zj CK))))))))
theorem Rs:A5 (.c0 351 [A4,i64] [B0,.bool] Hy):=k0 [(351,[hn 2 2 [.x 1] [(.ret,[.t 5 .bool,.p 1 [.d B0]]),(.normal,[.p 1 [.d B0]])]])] (A8 CO (A8 Di CK))
theorem dw:A5 (.c0 314 [A4] [(.list i64)] MO):=k0 [(314,[hn 2 7 [.x 1] [(.normal,[.u 1 i64,.g 3 1])],⟨0,3,[(3,i64)],[],[],[],[.t 4 i64,.u 1 i64,.g 3 1],[(.exit 0,[.u 1 i64,.g 3 1])]⟩])] (A8 Rs CK)
theorem II:A5 (.c0 352 [A4,i64] [B0,i64] FM):=k0 [] (A8 CO (A8 Di CK))
theorem Ob:A5 (.c0 391 [(.list Bl),i64,.bool,Ip] [(.list Bl)] GM):=k0 [(391,[hn 2 6 [.x 1] [(.normal,[.u 1 Bl,.g 9 1])],⟨0,3,[(9,Bl)],[],[],[],[.t 10 i64,.u 1 Bl,.g 9 1],[(.exit 0,[.u 1 Bl,.g 9 1])]⟩])] CK
theorem dc:A5 (.c0 426 [DH,i64] [.bool] MF):=k0 [(426,[hn 0 2 [.t 5 i64] [(.ret,[.t 4 .bool]),(.exit 0,[])],hn 0 7 [.t 6 i64] [(.ret,[.t 4 .bool]),(.exit 2,[])]])] (A8 Kj CK)
theorem dd:A5 (.c0 427 [(.list Bl),Bl] [(.list Bl)] MG):=k0 [(427,[hn 2 7 [.x 1] [(.normal,[.t 6 .bool,.u 1 Bl,.g 5 1])],hn 2 10 [.x 1] [(.normal,[.u 1 Bl,.g 5 1])],⟨0,4,[(5,Bl)],[],[],[],[.t 6 .bool,.t 7 i64,.u 1 Bl,.g 5 1],[(.exit 0,[.t 6 .bool,.u 1 Bl,.g 5 1])]⟩,hn 2 12 [.x 1] [(.normal,[.u 1 Bl,.g 5 1])]])] (A8 T2 CK)
theorem I2:A5 (.c0 390 [DH] [DH] Fg):=k0 [(390,[hn 2 5 [.x 0] [(.normal,[.t 3 i64,.p 0 [.d DH]])],hn 0 2 [.t 3 i64,.p 0 [.d DH]] [(.exit 0,[.p 0 [.d DH]])]])] (A8 dc (A8 dd CK))
theorem Ld:A5 (.c0 353 [DH,i64] [DH] HP):=k0 [] (A8 FC (A8 Ob (A8 I2 CK)))
theorem dn:A5 (.c0 354 [A4,i64] [Aj,.bool] HT):=k0 [] (A8 II (A8 Gv CK))
theorem Yc:A5 (.c0 392 [I1] [I1] JZ):=k0 [] CK
theorem Zc:A5 (.c0 428 [EX,BG] [EX,i64] J9):=k0 [(428,[hn 2 13 [.x 3] [(.normal,[.p 3 [.d S6]])]])] (A8 EQ (A8 HK (A8 GW (A8 Kz CK))))
theorem Uz:A5 (.c0 393 [A4,Aj] [A4,i64] Jz):=k0 [] (A8 Fz (A8 IT (A8 Zc CK)))
theorem hY:A5 (.c0 429 [A4,B0,Ip,i64] [Aj,.bool] Ox):=k0 [(429,[hn 0 2 [.t 10 i64,.p 3 [.d Aj]] [(.ret,[.t 9 .bool,.p 3 [.d Aj]]),(.exit 0,[.p 3 [.d Aj]])]])] (A8 Gv CK)
theorem Rr:A5 (.c0 394 [A4,i64,Ip] [Aj,.bool] KH):=k0 [] (A8 II (A8 hY CK))
theorem T1:A5 (.c0 395 [DH,i64,Ip] [DH] ME):=k0 [] (A8 FC (A8 Ob (A8 I2 CK)))
theorem UA:A5 (.c0 355 [A4,B0,Aj] [A4,C7] GO):=k0 [(355,[hn 2 15 [.x 8] [(.normal,[.p 8 [.d A4]])],hn 2 12 [.x 8] [(.normal,[.p 8 [.d A4]])]])] (A8 IT (A8 Yc (A8 TF (A8 Cp (A8 Uz (A8 Rr (A8 T1 CK)))))))
theorem T9:A5 (.c0 315 [A4,i64] [A4,C7] JM):=k0 [] (A8 II (A8 Cp (A8 Fz (A8 Ld (A8 dn (A8 UA CK))))))
theorem eC:A5 (.c0 285 [A3] [A3,.bool,i64] MQ):=k0 [(285,[hn 0 9 [.p 0 [.d A3],.p 1 [.d A3]] [(.ret,[.t 3 .bool,.t 4 i64,.p 1 [.d A3],.x 0])]])] (A8 CO (A8 JX (A8 dw (A8 T9 CK))))
theorem Zi:A5 (.c0 430 [A4,Ey] [i64] KC):=k0 [(430,[hn 2 6 [] [(.normal,[.t 11 .bool])],hn 2 5 [] [(.normal,[.t 11 .bool])],hn 2 11 [.x 2] [(.normal,[.p 2 [.d Ey]])],hn 2 18 [] [(.normal,[.t 60 .bool])],hn 2 17 [] [(.normal,[.t 60 .bool])],hn 2 13 [.x 2] [(.ret,[.t 4 i64,.x 2]),(.normal,[.p 2 [.d Ey]])],hn 2 7 [.x 2] [(.ret,[.t 4 i64,.x 2]),(.normal,[.p 2 [.d Ey]])]])] CK
theorem IH:A5 (.c0 362 [DH,i64] [Bl,.bool] FK):=k0 [(362,[hn 0 3 [.t 6 i64,.p 1 [.d Bl]] [(.ret,[.t 5 .bool,.p 1 [.d Bl]]),(.exit 0,[.p 1 [.d Bl]])],hn 2 2 [.x 1] [(.ret,[.t 5 .bool,.p 1 [.d Bl]]),(.normal,[.p 1 [.d Bl]])]])] (A8 FC CK)
theorem T7:A5 (.c0 402 [i64,Ey] [Bl,.bool] JL):=k0 [(402,[hn 2 7 [] [(.normal,[.t 20 .bool])]])] CK
theorem Yi:A5 (.c0 397 [A4,i64,Ey] [i64] Jh):=k0 [] (A8 CO (A8 Di (A8 Zi (A8 IH (A8 T7 CK)))))
theorem Zl:A5 (.c0 398 [A4,i64] [A4,C7] KG):=k0 [(398,[hn 2 3 [.x 1,.x 2,.x 3] [(.normal,[.p 3 [.d A4],.p 1 [.d A4],.p 2 [.d C7]]),(.ret,[.p 1 [.d A4],.p 2 [.d C7],.x 3])]])] (A8 Di (A8 Mj (A8 Fz (A8 Cp (A8 JV (A8 Ld CK))))))
theorem Za:A5 (.c0 431 [DH,i64] [DH] On):=k0 [] (A8 FC (A8 Ob (A8 I2 CK)))
theorem Yh:A5 (.c0 432 [A4,i64,Ip] [.bool] Jg):=k0 [(432,[hn 0 3 [.t 8 i64] [(.ret,[.t 6 .bool]),(.exit 0,[])]])] (A8 Di (A8 Gv CK))
theorem bU:A5 (.c0 399 [A4,i64,i64] [A4,C7] If):=k0 [(399,[hn 2 15 [.x 3] [(.normal,[.p 3 [.d A4]])],hn 0 12 [.t 12 i64,.p 3 [.d A4]] [(.exit 0,[.p 3 [.d A4]])]])] (A8 Za (A8 Di (A8 Mj (A8 Ld (A8 Fz (A8 Cp (A8 Yh (A8 T1 CK))))))))
theorem Rp:A5 (.c0 433 [(.list B0),i64] [i64,i64] Ht):=k0 [] (A8 FE (A8 J1 CK))
theorem di:A5 (.c0 400 [(.list B0),i64] [(.list B0),i64] MJ):=k0 [] (A8 Rp (A8 Pe CK))
theorem dh:A5 (.c0 401 [(.list B0),i64,i64] [(.list B0),i64] MI):=k0 [] (A8 Rp (A8 Rq (A8 Pe CK)))
theorem bK:A5 (.c0 434 [DH,Bl] [i64] Ib):=k0 [(434,[hn 0 4 [.t 5 i64] [(.ret,[.t 4 i64]),(.exit 0,[])]])] (A8 Oc CK)
theorem Yd:A5 (.c0 403 [DH,Bl] [DH,.bool,i64] Nr):=k0 [] (A8 FC (A8 TH (A8 IH (A8 Oc (A8 bK (A8 I2 CK))))))
theorem gJ:A5 (.c0 435 [EX,i64] [EX] NN):=k0 [] (A8 Fe (A8 Kz CK))
theorem Zk:A5 (.c0 404 [A4,i64,Ey] [A4,C7] KF):=k0 [(404,[hn 2 9 [.x 5] [(.normal,[.p 5 [.d I1]])]])] (A8 IT (A8 gJ (A8 Uz (A8 Cp CK))))
theorem T4:A5 (.c0 408 [(.list i64),i64] [(.list i64)] FV):=k0 [(408,[hn 2 7 [.x 0] [(.normal,[.t 6 .bool,.u 0 i64,.g 5 0])],hn 2 10 [.x 0] [(.normal,[.u 0 i64,.g 5 0])],⟨0,4,[(5,i64)],[],[],[],[.t 6 .bool,.t 7 i64,.u 0 i64,.g 5 0],[(.exit 0,[.t 6 .bool,.u 0 i64,.g 5 0])]⟩,hn 2 12 [.x 0] [(.normal,[.u 0 i64,.g 5 0])]])] CK
theorem Ye:A5 (.c0 436 [DH] [(.list i64)] Jb):=k0 [(436,[hn 0 4 [.t 3 (.list i64),.t 4 i64] [(.exit 0,[.t 3 (.list i64)])],hn 2 3 [] [(.normal,[.t 3 (.list i64)])]])] (A8 FC (A8 T4 CK))
theorem Pd:A5 (.c0 363 [DH,i64] [(.list i64)] H9):=k0 [(363,[hn 2 9 [] [(.normal,[.t 7 (.list i64)])],hn 0 6 [.t 7 (.list i64),.t 8 i64] [(.exit 0,[.t 7 (.list i64)])],hn 2 14 [] [(.normal,[.t 7 (.list i64)])],hn 0 11 [.t 7 (.list i64),.t 9 i64] [(.exit 2,[.t 7 (.list i64)])]])] (A8 IH (A8 Kj (A8 T4 CK)))
theorem Zb:A5 (.c0 437 [DH,(.list i64),i64] [(.list i64)] Ot):=AEE (P:=Tryz.prog) (F:=437) (ds:=[DH,(.list i64),i64]) (rs:=[(.list i64)]) (f:=Ej) (hs:=fW [(437,[hn 0 4 [.t 30 i64] [(.ret,[.t 6 (.list i64)]),(.exit 0,[])],hn 0 15 [.t 12 .bool,.t 49 i64] [(.exit 4,[.t 12 .bool])],hn 0 11 [.t 43 i64] [(.ret,[.t 6 (.list i64)]),(.exit 2,[])]])]) (n:=13) (A8 Pd CK) (λg x=>by kernel_rfl)
theorem bL:A5 (.c0 405 [DH,i64] [(.list i64)] K8):=k0 [(405,[hn 0 2 [.t 5 i64] [(.ret,[.t 4 (.list i64)]),(.exit 0,[])]])] (A8 Ye (A8 Zb CK))
theorem bT:A5 (.c0 438 [(.list i64)] [i64] LJ):=k0 [] CK
theorem gM:A5 (.c0 406 [A4,i64] [i64] NQ):=k0 [] (A8 Pd (A8 bT CK))
theorem gz:A5 (.c0 359 [A4,i64,Ey] [A4,C7] Ow):=k0 [(359,[hn 2 10 [] [(.normal,[.t 46 .bool])],hn 2 13 [] [(.normal,[.t 9 (.list B0),.t 10 i64])]])] (A8 Yi (A8 Cp (A8 Zl (A8 bU (A8 di (A8 dh (A8 T7 (A8 Yd (A8 Zk (A8 bL (A8 gM CK)))))))))))
theorem RG:A5 (.c0 360 [A3,i64] [.bool] ES):=k0 [] (A8 Di CK)
theorem Xm:A5 (.c0 361 [A3,i64] [A3,i64] Ek):=k0 [(361,[hn 2 12 [.x 0,.x 1] [(.ret,[.t 5 i64,.p 1 [.d A3],.x 0]),(.normal,[.p 0 [.d A3],.p 1 [.d A3]])],hn 0 5 [.p 0 [.d A3],.p 1 [.d A3]] [(.ret,[.t 5 i64,.p 1 [.d A3],.x 0]),(.exit 0,[.p 0 [.d A3],.p 1 [.d A3]])]])] (A8 CO (A8 Di (A8 RG (A8 T9 (A8 JX CK)))))
theorem iC:A5 (.c0 329 [A3,i64,Ey] [A3,C7] O0):=k0 [(329,[hn 2 10 [.x 0,.x 2,.x 3] [(.ret,[.p 2 [.d A3],.p 3 [.d C7],.x 0]),(.normal,[.p 0 [.d A3],.p 2 [.d A3],.p 3 [.d C7]])],hn 0 1 [.p 0 [.d A3],.p 2 [.d A3],.p 3 [.d C7]] [(.ret,[.p 2 [.d A3],.p 3 [.d C7],.x 0])]])] (A8 gz (A8 JX (A8 Cp (A8 RG (A8 Xm CK)))))
theorem Yk:A5 (.c0 330 [A4,i64] [i64,Ip,.bool] Jj):=k0 [(330,[hn 0 5 [.t 28 i64,.p 1 [.d Ip]] [(.ret,[.t 4 i64,.t 6 .bool,.p 1 [.d Ip]]),(.exit 0,[.p 1 [.d Ip]])]])] (A8 IH (A8 Pd (A8 Rs CK)))
theorem dm:A5 (.c0 364 [A4,i64,Ip] [A4,C7] ML):=k0 [] (A8 II (A8 Cp (A8 Rr (A8 UA CK))))
theorem eD:A5 (.c0 331 [A3,i64,Ip] [A3,i64,i64] MR):=k0 [(331,[hn 2 8 [.x 0,.x 2] [(.ret,[.t 7 i64,.t 8 i64,.p 2 [.d A3],.x 0]),(.normal,[.t 9 i64,.p 0 [.d A3],.p 2 [.d A3]])],hn 0 2 [.t 9 i64,.p 0 [.d A3],.p 2 [.d A3]] [(.ret,[.t 7 i64,.t 8 i64,.p 2 [.d A3],.x 0])]])] (A8 dm (A8 JX CK))
theorem iD:A5 (.c0 305 [A3,i64,Ey] [A3,C7] O1):=k0 [(305,[hn 0 1 [.p 0 [.d A3],.p 2 [.d A3],.p 3 [.d C7]] [(.ret,[.p 2 [.d A3],.p 3 [.d C7],.x 0])]])] (A8 iC (A8 Yk (A8 eD (A8 Cp CK))))
theorem gP:A5 (.c0 160 [A3,(.list Si)] [A3,(.list C7),(.list Xe)] NT):=k0 [(160,[⟨0,4,[(8,C7)],[(2,18,i64),(2,19,Xe)],[],[],[.t 9 i64,.u 3 C7,.u 4 i64,.u 5 Xe,.g 8 3,.p 2 [.d A3,.o 4,.o 5,.d .bool]],[(.exit 0,[.u 3 C7,.u 4 i64,.u 5 Xe,.g 8 3,.p 2 [.d A3,.o 4,.o 5,.d .bool]])]⟩]),(235,[hn 2 5 [.x 2,.x 4] [(.normal,[.u 4 i64,.p 2 [.d A3,.o 4,.o 5,.d .bool]])],hn 2 19 [.x 2] [(.normal,[.p 2 [.d A3,.o 4,.o 5,.d .bool]])]]),(279,[hn 2 2 [.x 2] [(.normal,[.p 2 [.d A3,.o 4,.o 5,.d .bool]])]]),(280,[hn 2 9 [.x 2,.x 5] [(.normal,[.u 5 Xe,.p 2 [.d A3,.o 4,.o 5,.d .bool]])]]),(284,[hn 0 4 [.t 9 i64,.u 4 i64,.p 2 [.d A3,.o 4,.o 5,.d .bool]] [(.exit 0,[.u 4 i64,.p 2 [.d A3,.o 4,.o 5,.d .bool]])]])] (A8 bc (A8 Zp (A8 Cp (A8 be (A8 WH (A8 Fc (A8 JU (A8 bd (A8 dz (A8 eC (A8 iD CK)))))))))))
theorem VY:A5 (.c1 99 0 A6 [i64,.bool] [A3] HC):=k1 [] (A8 By (A8 gO (A8 Ul (A8 gP CK))))
theorem Vt:A5 (.c1 53 0 A6 [i64,.bool] [A4] Ha):=k1 [] (A8 VY CK)
theorem Vw:A5 (.c1 19 0 A6 [i64] [i64,Bp] Iw):=k1 [] (A8 Vt (A8 Fc (A8 JU CK)))
theorem az:A5 (.c1 55 0 A6 [i64] [(.list i64)] K2):=k1 [(55,[hn 2 6 [.x 1] [(.normal,[.u 1 i64,.g 5 1])],hn 0 3 [.t 6 i64,.u 1 i64,.g 5 1,.p 0 [.d A6]] [(.exit 0,[.u 1 i64,.g 5 1,.p 0 [.d A6]])]])] (A8 By CK)
theorem FF:A5 (.c0 63 [BJ] [.bool] C4):=k0 [(63,[hn 0 5 [.t 3 i64,.t 4 i64] [(.ret,[.t 2 .bool]),(.exit 0,[])]])] (A8 Ru CK)
theorem Nc:A5 (.c0 100 [BJ,i64] [i64,i64] Ew):=k0 [(100,[hn 2 3 [] [(.normal,[.t 5 i64])]])] CK
theorem RI:A5 (.c0 162 [i64,i64,i64,i64,i64] [.bool] HW):=k0 [] CK
theorem RH:A5 (.c0 237 [Aj,Aj] [i64] Du):=k0 [] CK
theorem I3:A5 (.c0 163 [(.list Aj),Aj] [(.list Aj),.bool] DB):=k0 [(163,[hn 0 2 [.t 6 i64] [(.exit 0,[.t 6 i64])]])] (A8 RH CK)
theorem HM:A5 (.c0 164 [Bc] [.bool] EO):=k0 [(164,[hn 2 12 [] [(.ret,[.t 2 .bool]),(.normal,[])],hn 0 4 [.t 3 i64] [(.ret,[.t 2 .bool]),(.exit 0,[])]])] (A8 RI (A8 Ds (A8 D3 (A8 RH CK))))
theorem eF:A5 (.c0 101 [(.list Aj),i64,i64,i64,i64,i64] [Bc,i64] JN):=k0 [(101,[hn 0 4 [.t 14 i64,.p 0 [.d Bc]] [(.ret,[.t 13 i64,.p 0 [.d Bc]]),(.exit 0,[.p 0 [.d Bc]])],hn 0 16 [.t 16 .bool,.t 19 i64] [(.exit 4,[.t 16 .bool])],hn 0 11 [.t 16 .bool,.t 17 i64,.p 1 [.d Bc]] [(.exit 2,[.t 16 .bool,.p 1 [.d Bc]])]])] (A8 RI (A8 Ds (A8 D3 (A8 I3 (A8 HM CK)))))
theorem eE:A5 (.c0 166 [Bc] [.str] HV):=k0 [] (A8 DT CK)
theorem Rt:A5 (.c0 102 [Bc] [.str,i64] Ge):=k0 [(102,[hn 0 5 [.t 4 .str,.t 5 i64] [(.exit 0,[.t 4 .str])]])] (A8 HM (A8 eE (A8 JT (A8 Ro CK))))
theorem eJ:A5 (.c0 56 [BJ,Bp,i64] [BJ,i64] Eh):=k0 [(56,[hn 0 15 [.t 11 i64,.p 2 [.d BJ]] [(.ret,[.t 7 i64,.p 2 [.d BJ]]),(.exit 0,[.p 2 [.d BJ]])],hn 0 22 [.t 13 i64,.u 4 EJ,.p 3 [.d (.list i64),.d i64,.o 4,.d i64,.d i64],.p 2 [.d BJ]] [(.ret,[.t 7 i64,.p 2 [.d BJ],.x 3,.x 4]),(.exit 2,[.u 4 EJ,.p 3 [.d (.list i64),.d i64,.o 4,.d i64,.d i64],.p 2 [.d BJ]])]])] (A8 FF (A8 CN (A8 Nc (A8 eF (A8 Rt CK)))))
theorem Zs:A5 (.c0 288 [.str,i64,i64] [i64] DD):=k0 [] (A8 Et CK)
theorem Zq:A5 (.c0 239 [.str] [Bc,i64] Fj):=k0 [(239,[⟨0,11,[],[(1,5,Aj)],[],[],[.t 5 i64,.t 9 i64,.u 2 Aj,.p 1 [.d i64,.d i64,.d i64,.d i64,.d i64,.o 2],.p 0 [.d Bc]],[(.ret,[.t 3 i64,.p 0 [.d Bc],.x 1,.x 2]),(.exit 0,[.t 5 i64,.u 2 Aj,.p 1 [.d i64,.d i64,.d i64,.d i64,.d i64,.o 2],.p 0 [.d Bc]])]⟩])] (A8 RD (A8 Zs (A8 Rn (A8 HM CK))))
theorem Ws:A5 (.c0 240 [BJ,Bc] [i64] FZ):=k0 [(240,[hn 0 2 [.t 5 i64] [(.ret,[.t 4 i64]),(.exit 0,[])]])] (A8 Nc CK)
theorem Zt:A5 (.c0 171 [BJ,EJ] [Bc,i64] DE):=k0 [] (A8 Zq (A8 Ws CK))
theorem Yl:A5 (.c0 172 [Bc,i64] [Bc] FN):=k0 [(172,[hn 2 8 [.x 2,.x 3] [(.normal,[.u 3 Aj,.p 2 [.d i64,.d i64,.d i64,.d i64,.d i64,.o 3]])],⟨0,5,[],[(2,5,Aj)],[],[],[.t 6 i64,.u 3 Aj,.p 2 [.d i64,.d i64,.d i64,.d i64,.d i64,.o 3]],[(.exit 0,[.u 3 Aj,.p 2 [.d i64,.d i64,.d i64,.d i64,.d i64,.o 3]])]⟩])] CK
theorem TM:A5 (.c0 106 [BJ] [(.list Bc),(.list i64),(.list .bool)] F6):=k0 [(106,[hn 0 14 [.t 11 i64] [(.exit 4,[.t 11 i64])],hn 0 9 [.t 6 (.list Bc),.t 7 (.list i64),.t 8 i64] [(.exit 2,[.t 6 (.list Bc),.t 7 (.list i64)])],hn 0 20 [.t 12 i64,.t 13 i64,.u 1 Bc,.u 2 i64,.u 3 .bool,.g 2 1,.g 3 2,.g 4 3] [(.exit 6,[.u 1 Bc,.u 2 i64,.u 3 .bool,.g 2 1,.g 3 2,.g 4 3])],⟨0,4,[(2,Bc),(3,i64),(4,.bool)],[],[],[],[.t 5 i64,.u 1 Bc,.u 2 i64,.u 3 .bool,.g 2 1,.g 3 2,.g 4 3],[(.exit 0,[.u 1 Bc,.u 2 i64,.u 3 .bool,.g 2 1,.g 3 2,.g 4 3])]⟩])] (A8 FF (A8 Zt (A8 Yl CK)))
theorem bf:A5 (.c0 107 [(.list Bc),(.list .bool)] [Bc,.bool] LR):=k0 [(107,[hn 0 8 [.t 8 i64,.p 1 [.d Bc]] [(.exit 2,[.p 1 [.d Bc]])],hn 0 3 [.t 7 i64,.p 1 [.d Bc],.p 0 [.d Bc]] [(.ret,[.t 5 .bool,.p 0 [.d Bc],.x 1]),(.exit 0,[.p 1 [.d Bc],.p 0 [.d Bc]])]])] (A8 I3 (A8 HM CK))
theorem eK:A5 (.c0 60 [BJ,i64] [BJ,.bool,i64] MS):=k0 [(60,[hn 0 20 [.t 15 .bool,.t 16 i64] [(.exit 4,[.t 15 .bool])],hn 2 24 [.x 3,.x 4] [(.normal,[.u 4 EJ,.p 3 [.d (.list i64),.d i64,.o 4,.d i64,.d i64]])],⟨0,16,[],[(3,2,EJ)],[],[],[.t 14 i64,.u 4 EJ,.p 3 [.d (.list i64),.d i64,.o 4,.d i64,.d i64]],[(.exit 2,[.u 4 EJ,.p 3 [.d (.list i64),.d i64,.o 4,.d i64,.d i64]])]⟩,hn 0 7 [.t 10 i64,.p 1 [.d BJ]] [(.ret,[.t 5 .bool,.t 6 i64,.p 1 [.d BJ]]),(.exit 0,[.p 1 [.d BJ]])]])] (A8 FF (A8 TM (A8 bf (A8 Rt CK))))
theorem UD:A5 (.c0 22 [BJ,i64] [BJ,i64] HX):=k0 [(22,[hn 0 1 [.p 0 [.d BJ],.p 1 [.d BJ]] [(.ret,[.t 5 i64,.p 1 [.d BJ],.x 0])]])] (A8 eK CK)
theorem Rm:A5 (.c1 20 0 A6 [i64,Bp] [BJ] J5):=k1 [(20,[hn 2 7 [.x 3] [(.normal,[.p 3 [.d BJ]])],hn 2 11 [.x 3] [(.normal,[.p 3 [.d BJ]])],hn 2 9 [.x 0,.x 3] [(.normal,[.p 0 [.d A6],.p 3 [.d BJ]])],hn 0 3 [.t 9 i64,.p 0 [.d A6],.p 3 [.d BJ]] [(.exit 0,[.p 0 [.d A6],.p 3 [.d BJ]])],hn 2 15 [.x 3] [(.normal,[.p 3 [.d BJ]])],hn 2 13 [.x 3] [(.normal,[.p 3 [.d BJ]])]])] (A8 az (A8 U0 (A8 By (A8 eJ (A8 UD CK)))))
theorem dU:A5 (.c0 57 [i64,i64] [BY] JJ):=k0 [(57,[⟨0,3,[],[(1,2,Fx)],[],[],[.t 6 i64,.u 2 Fx,.p 1 [.d i64,.d i64,.o 2]],[(.exit 0,[.u 2 Fx,.p 1 [.d i64,.d i64,.o 2]])]⟩])] (A8 TC CK)
theorem JY:A5 (.c0 95 [BY] [.bool] Ex):=k0 [(95,[hn 0 4 [.t 3 i64] [(.ret,[.t 2 .bool]),(.exit 0,[])]])] (A8 Ki CK)
theorem Zw:A5 (.c0 104 [BY] [.str,i64] Hz):=k0 [(104,[hn 0 7 [.t 5 .str,.t 6 i64] [(.exit 0,[.t 5 .str])]])] (A8 JY (A8 DT (A8 JT CK)))
theorem gG:A5 (.c0 58 [BY] [EJ] Jw):=k0 [] (A8 Zw CK)
theorem bi:A5 (.c0 94 [BY] [.bool] LU):=k0 [] (A8 JY CK)
theorem eM:A5 (.c0 48 [BY,i64] [Fx,.bool] MU):=k0 [(48,[hn 0 2 [.t 6 i64,.p 1 [.d Fx]] [(.ret,[.t 5 .bool,.p 1 [.d Fx]]),(.exit 0,[.p 1 [.d Fx]])]])] (A8 JY CK)
theorem eN:A5 (.c0 65 [BY,i64] [BG,i64] MV):=k0 [] (A8 JY (A8 eM (A8 Ki CK)))
theorem bh:A5 (.c0 49 [BJ,Bp,i64,i64,i64] [i64] Pn):=k0 [] (A8 FF (A8 CN CK))
theorem eG:A5 (.c0 97 [BJ,i64] [i64,i64,.bool] Qj):=k0 [(97,[hn 0 4 [.t 7 i64] [(.exit 0,[.t 7 i64])]])] (A8 FF (A8 Nc CK))
theorem eH:A5 (.c0 98 [BJ] [(.list Bc),(.list i64)] Qk):=k0 [] (A8 TM CK)
theorem Xo:A5 (.c0 51 [BJ,Bp,i64] [OQ] NC):=k0 [(51,[hn 2 8 [.x 3,.x 4,.x 5] [(.normal,[.u 4 Bc,.u 5 i64,.p 3 [.o 4,.o 5,.d Bp]])],⟨0,5,[],[(3,0,Bc),(3,1,i64)],[],[],[.t 13 i64,.u 4 Bc,.u 5 i64,.p 3 [.o 4,.o 5,.d Bp]],[(.exit 0,[.u 4 Bc,.u 5 i64,.p 3 [.o 4,.o 5,.d Bp]])]⟩])] (A8 eG (A8 eH CK))
theorem TN:A5 (.c0 158 [Bp,i64] [.bool] Ih):=k0 [] CK
theorem eL:A5 (.c0 96 [OQ,i64] [i64] Qn):=k0 [(96,[hn 2 6 [] [(.normal,[.t 5 i64])],hn 0 3 [.t 5 i64,.t 6 i64] [(.exit 0,[.t 5 i64])],hn 2 8 [] [(.normal,[.t 5 i64])]])] (A8 TN CK)
theorem Ym:A5 (.c0 50 [OQ,i64,i64] [.bool] OA):=k0 [(50,[hn 0 1 [.t 1 i64] [(.ret,[.t 6 .bool]),(.exit 0,[])]])] (A8 eL CK)
theorem Zr:A5 (.c0 243 [Bc,i64] [(.list Aj)] O3):=k0 [(243,[hn 2 8 [.x 1] [(.normal,[.u 1 Aj,.g 5 1])],⟨0,5,[(5,Aj)],[],[],[],[.t 6 i64,.u 1 Aj,.g 5 1],[(.exit 0,[.u 1 Aj,.g 5 1])]⟩])] (A8 HM CK)
theorem Xn:A5 (.c0 175 [(.list Bc),i64,i64,i64] [(.list Aj)] NB):=k0 [(175,[hn 2 10 [] [(.normal,[.t 9 (.list Aj)])],hn 0 7 [.t 9 (.list Aj),.t 12 i64] [(.exit 2,[.t 9 (.list Aj)])],hn 0 3 [.t 9 (.list Aj),.t 10 i64] [(.exit 0,[.t 9 (.list Aj)])]])] (A8 Zr (A8 I3 CK))
theorem Zv:A5 (.c0 176 [Bp,i64,i64,i64] [(.list Aj)] O5):=k0 [(176,[hn 2 7 [.x 1] [(.normal,[.u 1 Aj,.g 9 1])],⟨0,3,[(9,Aj)],[],[],[],[.t 10 i64,.u 1 Aj,.g 9 1],[(.exit 0,[.u 1 Aj,.g 9 1])]⟩])] (A8 D3 CK)
theorem Zu:A5 (.c0 241 [(.list Bc),i64] [i64] O4):=k0 [(241,[hn 0 2 [.t 5 i64] [(.ret,[.t 4 i64]),(.exit 0,[])]])] CK
theorem gQ:A5 (.c0 242 [(.list Aj),Aj] [.bool] NU):=k0 [(242,[hn 0 2 [.t 5 i64] [(.ret,[.t 4 .bool]),(.exit 0,[])]])] CK
theorem bg:A5 (.c0 174 [(.list Bc),Bp,(.list Aj),(.list Aj)] [(.list Aj),.bool] Pl):=k0 [(174,[hn 0 3 [.t 10 (.list Aj),.t 11 i64] [(.ret,[.t 8 (.list Aj),.t 9 .bool]),(.exit 0,[.t 10 (.list Aj)])],hn 0 9 [.t 12 i64] [(.ret,[.t 8 (.list Aj),.t 9 .bool]),(.exit 2,[])]])] (A8 Zu (A8 gQ (A8 I3 (A8 TN CK))))
theorem iE:A5 (.c0 111 [BJ,Bp,i64,i64,i64] [(.list Aj),i64] S0):=k0 [(111,[hn 0 11 [.t 16 i64] [(.ret,[.t 10 (.list Aj),.t 11 i64]),(.exit 0,[])]])] (A8 bh (A8 Xo (A8 Ym (A8 Xn (A8 Zv (A8 bg CK))))))
theorem eQ:A5 (.c0 112 [BG,(.list Aj)] [BG,i64] MX):=k0 [(112,[hn 0 2 [.t 6 i64,.p 0 [.d BG],.p 1 [.d BG]] [(.ret,[.t 5 i64,.p 1 [.d BG],.x 0]),(.exit 0,[.p 0 [.d BG],.p 1 [.d BG]])]])] (A8 TK CK)
theorem eP:A5 (.c0 66 [BG,BJ,Bp,i64] [BG,i64] Qo):=k0 [] (A8 FF (A8 CN (A8 G3 (A8 iE (A8 eQ CK)))))
theorem eO:A5 (.c0 59 [BY,BJ,Bp,i64,i64] [BY,i64] MW):=k0 [(59,[hn 2 19 [.x 6] [(.normal,[.p 6 [.d Fx]])],⟨0,11,[],[(4,2,Fx)],[],[],[.t 13 i64,.u 5 Fx,.p 4 [.d i64,.d i64,.o 5],.p 3 [.d BY]],[(.ret,[.t 11 i64,.p 3 [.d BY],.x 4,.x 5]),(.exit 0,[.u 5 Fx,.p 4 [.d i64,.d i64,.o 5],.p 3 [.d BY]])]⟩])] (A8 bi (A8 FF (A8 CN (A8 eN (A8 eP (A8 G3 CK))))))
theorem TB:A5 (.c1 21 0 A6 [i64,BJ,Bp] [(.list EJ)] IV):=k1 [(21,[⟨2,4,[(9,EJ)],[],[],[],[.x 4],[(.normal,[.u 4 EJ,.g 9 4])]⟩,hn 0 7 [.t 11 i64,.t 12 i64,.u 4 EJ,.g 9 4,.p 0 [.d A6],.p 3 [.d BY]] [(.exit 0,[.u 4 EJ,.g 9 4,.p 0 [.d A6],.p 3 [.d BY]])]])] (A8 dU (A8 By (A8 gG (A8 eO CK))))
theorem Uv:A5 (.c0 23 [Bp,i64] [Bp,i64] H8):=k0 [] (A8 CN (A8 GV CK))
theorem Vu:A5 (.c1 70 0 A6 [.str] [.str] F8):=k1 [] (A8 By CK)
theorem bA:A5 (.c1 32 0 A6 [(.list EJ)] [(.list EJ)] Dv):=k1 [] (A8 By (A8 Vu CK))
theorem TA:A5 (.c1 10 0 A6 [] [i64,BJ,Bp,Bp,(.list EJ)] IU):=k1 [(10,[hn 2 6 [.x 0,.x 2] [(.normal,[.p 0 [.d A6],.p 2 [.d Bp]])],hn 2 8 [.x 0,.x 1] [(.normal,[.p 0 [.d A6],.p 1 [.d BJ]])],hn 2 10 [.x 0] [(.normal,[.t 6 (.list EJ),.p 0 [.d A6]])]])] (A8 Vw (A8 Rm (A8 TB (A8 By (A8 Uv (A8 bA CK))))))
end Go.Proofs.YtghpjojfhamomaaGreat
