/- Texts of wip, joined and shortened by wip/tools/pack.py; nothing is assumed. -/
import Derived.Test.YtkgodfhnofpglaaGreatK13
import Derived.Test.YtkgodfhnofpglaaGreatProg
import Derived.KernelRfl
noncomputable section
set_option linter.all false
open Option renaming none->U
open Option renaming none->ε
namespace Go.Proofs.YtkgodfhnofpglaaGreat
open Go Go.Ab Go.Pm
set_option maxRecDepth 100000
def aF:a? 127 [i64] [.bool] Fb:=k0 [] CM
def OQ:a? 72 [i64,i64] [i64] Du:=k0 [] (A8 aF CM)
def kB:a? 182 [(.list i64)] [i64] K6:=k0 [(182,[f? 3 [8] [2] 0 []])] CM
def Xw:a? 181 [Bf,Bf] [i64] Ik:=k0 [] (A8 OQ (A8 kB CM))
def Pt:A6 (.c2 346 Bf [i64,i64,i64] [] [.fn (.func 181) [] []] C2):=R5 (hs:=ii [(346,[e? 1 [10,.u 0 Bf,.g 0 0] 0 [.u 0 Bf]])]) (n:=13) CM (λl x=>by kernel_rfl)
def RG:A6 (.c2 313 Bf [i64,i64,i64] [] [.fn (.func 181) [] []] FL):=R5 (hs:=ii [(313,[e? 2 [10,11,.u 0 Bf,.g 0 0] 0 [10,.u 0 Bf,.g 0 0]])]) (n:=13) (A8 Pt CM) (λl x=>by kernel_rfl)
def Nr:A6 (.c2 285 Bf [i64,i64] [] [.fn (.func 181) [] []] DM):=R5 (hs:=ii [(285,[e? 1 [8,.u 0 Bf,.g 0 0] 0 [.u 0 Bf],e? 4 [9,.u 0 Bf,.g 0 0] 2 [.u 0 Bf,.g 0 0]])]) (n:=13) (A8 Xw CM) (λl x=>by kernel_rfl)
def QQ:A6 (.c2 286 Bf [i64,i64,i64] [] [.fn (.func 181) [] []] El):=uG (P:=Tryz.prog) (F:=286) (te:=Bf) (ds:=[i64,i64,i64]) (rs:=[]) (post:=[.fn (.func 181) [] []]) (f:=λg p=>CT g p.1 p.2) (hs:=ii [(286,[e? 3 [10,11] 0 [10],e? 9 [13,.u 0 Bf,.g 0 0] 2 [.u 0 Bf],e? 15 [14,15] 4 [14],e? 21 [17,.u 0 Bf,.g 0 0] 6 [.u 0 Bf],e? 33 [20,21] 8 [20],c? 28 [20,21],c? 40 [.u 0 Bf,.g 0 0],c? 42 [.u 0 Bf,.g 0 0],c? 44 [.u 0 Bf]])]) (n:=13) (A8 Xw (A8 RG CM)) (λg l x=>by kernel_rfl)
def RH:A6 (.c2 248 Bf [i64] [] [.fn (.func 181) [] []] FM):=R5 (hs:=ii [(248,[e? 2 [7,8,.u 0 Bf,.g 0 0] 0 [7,.u 0 Bf,.g 0 0],e? 7 [6,.u 0 Bf,.g 0 0] 2 [.u 0 Bf],e? 9 [7,8,.u 0 Bf,.g 0 0] 4 [7,.u 0 Bf,.g 0 0]])]) (n:=13) (A8 Nr (A8 QQ CM)) (λl x=>by kernel_rfl)
def KE:A6 (.c2 180 Bf [] [] [.fn (.func 181) [] []] DD):=R5 (hs:=ii []) (n:=13) (A8 RH CM) (λl x=>by kernel_rfl)
def Sq:A6 (.cl 250 Ai):=AEX (t:=30) (b:=4) h! h! h!
def mX:a? 194 [(.int .u64)] [i64] Q1:=k0 [(194,[c? 2 [.t 0 (.int .u64),2],c? 5 [.t 0 (.int .u64),2],c? 8 [.t 0 (.int .u64),2]])] CM
def aH:a? 121 [(.int .u64)] [i64] Tk:=k0 [] (A8 mX CM)
def Lm:a? 26 [BF] [.bool] IC:=k0 [(26,[f? 5 [4] [.t 2 .bool] 0 [],f? 13 [5,89] [.t 2 .bool] 2 []])] CM
def jI:a? 60 [Bj] [i64] Ct:=k0 [] CM
def qI:a? 97 [i64,Ai] [.bool] Om:=k0 [] CM
def qG:a? 231 [i64] [.bool] GJ:=k0 [] CM
def kA:a? 232 [Lf] [.bool] Dn:=k0 [] CM
def cu:a? 163 [FU] [.bool] Oj:=k0 [] (A8 qG (A8 kA CM))
def tk:a? 162 [FU] [.bool] NI:=k0 [] CM
def oU:a? 161 [Ai] [.bool] Gt:=k0 [] CM
def oV:a? 164 [Ai] [.bool] Ti:=k0 [] CM
def oW:a? 165 [FU] [.bool] Tj:=k0 [] CM
def Tg:a? 61 [Ai] [.bool] Ft:=k0 [(61,[c? 5 [.t 47 .bool],c? 8 [.t 67 .bool]])] (A8 qI (A8 cu (A8 tk (A8 oU (A8 oV (A8 oW CM))))))
def Qv:a? 27 [Bj] [.bool] Hu:=k0 [(27,[f? 4 [37] [.t 2 .bool] 0 []])] (A8 jI (A8 Tg CM))
def oX:a? 105 [BF,Bj,i64,i64] [i64] M9:=k0 [] (A8 Lm (A8 Qv CM))
def Wa:a? 45 [Bj] [i64] On:=k0 [] (A8 Qv (A8 jI CM))
def WZ:a? 190 [i64,i64] [.bool] RY:=k0 [] (A8 aF CM)
def kN:a? 245 [i64] [.bool] Fb:=k0 [] CM
def Vt:a? 177 [(.list i64),i64] [i64,.bool] J9:=k0 [(177,[c? 6 [7,8],e? 3 [7,8] 0 [7]])] (A8 WZ (A8 kN CM))
def aD:a? 178 [BF,i64] [i64,i64] Ks:=k0 [] CM
def U1:a? 118 [BF,i64] [i64,i64,.bool] GI:=k0 [(118,[c? 5 [7]])] (A8 Lm (A8 Vt (A8 aD CM)))
def Qf:a? 124 [.str,i64,i64] [i64,i64] B5:=k0 [(124,[e? 7 [.t 8 (.int .u64),35] 1 [.t 8 (.int .u64)]])] CM
def kC:a? 172 [] [(.arr 15 (.int .u32))] Lr:=k0 [(172,[c? 9 [.t 3 (.int .u32)],e? 7 [.t 3 (.int .u32),9] 2 [.t 3 (.int .u32)],e? 3 [4,g? 1 (.arr 15 (.int .u32))] 0 [g? 1 (.arr 15 (.int .u32))]])] CM
def ab:a? 104 [.str] [(.int .u32)] PR:=k0 [(104,[e? 4 [.t 4 (.int .u32),9] 0 [.t 4 (.int .u32)]])] (A8 kC CM)
def aG:a? 122 [.str,i64] [.str,i64,i64] De:=k0 [] (A8 Qf (A8 ab CM))
def Tv:a? 195 [.str,.str] [.bool] Ey:=k0 [] CM
def V5:a? 123 [.str,.str] [.bool] FZ:=k0 [] (A8 Tv CM)
def UJ:b? 307 0 RJ [i64] [i64] CG:=k1 [(307,[c? 6 [g? 0 RJ]])] (A8 Qf CM)
def Vz:b? 309 0 RJ [i64] [.str] FW:=k1 [(309,[c? 2 [g? 0 RJ]])] CM
def jP:b? 308 0 RJ [] [Lf] FV:=k1 [] (A8 UJ (A8 Vz CM))
def qH:a? 283 [.str] [Ai,i64] J1:=k0 [] (A8 UJ (A8 jP (A8 Vz (A8 Tg CM))))
def oh:a? 310 [Bo] [.bool] NA:=k0 [] CM
def U3:a? 109 [Ai] [.bool] BO:=k0 [] CM
def sg:a? 311 [Bo,Ai] [.bool] Qh:=k0 [] (A8 U3 CM)
def qM:a? 312 [Ai,Ai] [i64] PM:=k0 [] (A8 OQ (A8 kB CM))
def uA:a? 284 [Bo] [.bool] Vk:=k0 [(284,[f? 4 [18] [.t 2 .bool] 0 []])] (A8 oh (A8 Tg (A8 sg (A8 qM CM))))
def se:a? 246 [.str] [Bo,i64] LW:=k0 [(246,[⟨0,8,[],[(4,5,Ai)],[],[],[.t 5 i64,.t 32 i64,.u 5 Ai,.p 4 [.d i64,.d i64,.d i64,.d i64,.d i64,.o 5],.p 0 [.d Bo]],[(.ret,[.t 3 i64,.p 0 [.d Bo],.x 4,.x 5]),(.exit 0,[.t 5 i64,.u 5 Ai,.p 4 [.d i64,.d i64,.d i64,.d i64,.d i64,.o 5],.p 0 [.d Bo]])]⟩])] (A8 aG (A8 V5 (A8 Qf (A8 qH (A8 uA CM)))))
def mU:a? 247 [BF,Bo] [i64] NG:=k0 [(247,[f? 2 [11] [4] 0 []])] (A8 aD CM)
def mT:a? 179 [BF,DU] [Bo,.bool] HN:=k0 [] (A8 se (A8 mU CM))
def ng:a? 183 [Bo,i64] [Bo] Oi:=k0 [(287,[f? 2 [8] [4] 0 []]),(249,[e? 5 [6,5,.u 3 Ai,.g 0 3] 0 [5,.u 3 Ai,.g 0 3]])] (A8 Sq CM)
def U2:a? 119 [BF] [(.list Bo),(.list i64)] Hq:=k0 [(119,[⟨0,5,[(4,Bf)],[],[],[],[.t 19 i64,.u 1 Bf,.g 4 1],[(.exit 0,[.u 1 Bf,.g 4 1])]⟩,⟨0,14,[(2,Bo),(3,i64)],[],[],[],[.t 42 i64,.t 9 i64,.t 10 i64,.u 2 Bo,.g 2 2,.u 3 i64,.g 3 3],[(.exit 2,[.u 2 Bo,.g 2 2,.u 3 i64,.g 3 3])]⟩])] (A8 Lm (A8 mT (A8 KE (A8 ng CM))))
def oZ:a? 106 [BF,Bj,i64] [(.list Oc)] QV:=k0 [(106,[hn 3 1 [] []]),(117,[e? 4 [27,.u 2 Oc,.p 3 [.o 2],.y 6 .ready] 0 [.u 2 Oc,.p 3 [.o 2],.y 6 .ready]])] (A8 Wa (A8 U1 (A8 U2 CM)))
def W7:a? 113 [Oc,i64] [.bool] Je:=k0 [] CM
def mW:b? 174 1 i64 [Oc] [.bool] VV:=k1 [] (A8 W7 CM)
def oY:a? 107 [(.list Oc),i64] [i64] Ht:=k0 [(107,[hn 0 1 [g? 0 i64] [(.ret,[4,.x 0])]]),(173,[f? 2 [8,g? 0 i64] [4,g? 0 i64] 0 [g? 0 i64]])] (A8 mW CM)
def kD:a? 64 [BF,Bj,i64,i64,i64] [(.list Ai),i64] EQ:=k0 [(64,[e? 14 [57,17,.m 9 .i64 Ai] 0 [17,.m 9 .i64 Ai],hn 0 24 [85,.m 9 .i64 Ai,g? 11 i64,g? 5 (.list Ai),g? 6 i64] [(4,[.m 9 .i64 Ai,g? 11 i64,g? 5 (.list Ai),g? 6 i64]),(.ret,[.m 9 .i64 Ai,g? 11 i64,g? 5 (.list Ai),g? 6 i64])],hn 0 43 [137,g? 5 (.list Ai),g? 6 i64] [(8,[g? 5 (.list Ai),g? 6 i64]),(.ret,[g? 5 (.list Ai),g? 6 i64])]]),(117,[hn 0 4 [27,.m 9 .i64 Ai,g? 11 i64,g? 5 (.list Ai),g? 6 i64,.y 14 .ready] [(0,[.m 9 .i64 Ai,g? 11 i64,g? 5 (.list Ai),g? 6 i64,.y 14 .ready]),(.ret,[.m 9 .i64 Ai,g? 11 i64,g? 5 (.list Ai),g? 6 i64,.y 14 .ret])]]),(111,[]),(173,[f? 2 [8] [4] 0 []])] (A8 oX (A8 oZ (A8 oY (A8 U3 (A8 U1 (A8 U2 (A8 W7 (A8 Q9 CM))))))))
def TC:A6 (.c2 184 i64 [i64,i64] [] [] Mo):=R5 (hs:=ii [(184,[e? 1 [6,.u 0 i64,.g 0 0] 0 [.u 0 i64],e? 4 [7,.u 0 i64,.g 0 0] 2 [.u 0 i64,.g 0 0],hn 4 4 [] [(2,[]),(.normal,[])]])]) (n:=13) (A8 WZ CM) (λl x=>by kernel_rfl)
def Wd:A6 (.c0 185 [] [] (λ_=>U)):=λ_ _ h=>by cases h
def TB:A6 (.c0 186 [] [] (λ_=>U)):=λ_ _ h=>by cases h
def Uw:A6 (.c0 187 [] [] (λ_=>U)):=λ_ _ h=>by cases h
def Tw:A6 (.c0 188 [] [] (λ_=>U)):=λ_ _ h=>by cases h
def Pr:A6 (.c0 189 [] [] (λ_=>U)):=λ_ _ h=>by cases h
def Ss:A6 (.c0 191 [] [] (λ_=>U)):=λ_ _ h=>by cases h
def Vu:A6 (.c0 192 [] [] (λ_=>U)):=λ_ _ h=>by cases h
def XG:A6 (.c2 120 i64 [i64,i64,i64] [] [] Q6):=uG (P:=Tryz.prog) (F:=120) (te:=i64) (ds:=[i64,i64,i64]) (rs:=[]) (post:=[]) (f:=λg p=>PU g p.1 p.2) (hs:=ii [(120,[hn 0 2 [1,2,3,.t 8 .bool,.t 9 .bool,.u 0 i64,.g 0 0] [(.ret,[.u 0 i64])],c? 8 [3,.u 0 i64,.g 0 0],c? 12 [11,12,.u 0 i64,.g 0 0],hn 4 15 [.x 0] [(.normal,[.u 0 i64,.g 0 0]),(.ret,[.u 0 i64])],hn 4 17 [.x 0] [(1,[1,.u 0 i64,.g 0 0]),(.normal,[1,.u 0 i64,.g 0 0])],c? 25 [1,2,.t 8 .bool,.u 0 i64,.g 0 0]])]) (n:=13) (A8 TC (A8 Wd (A8 TB (A8 Uw (A8 Tw (A8 Pr (A8 Ss (A8 Vu (A8 WZ CM))))))))) (λg l x=>by kernel_rfl)
def dn:A6 (.c2 67 i64 [] [] [] Mn):=R5 (hs:=ii []) (n:=13) (A8 XG (A8 aH CM)) (λl x=>by kernel_rfl)
def Xx:a? 71 [BV,BV] [i64] NH:=k0 [] (A8 OQ CM)
def mV:a? 76 [Dj,Dj] [i64] KW:=k0 [] (A8 OQ CM)
def QP:A6 (.c2 196 BV [i64,i64] [] [.fn (.func 71) [] []] Jk):=R5 (hs:=ii [(196,[e? 1 [8,.u 0 BV,.g 0 0] 0 [.u 0 BV],e? 4 [9,.u 0 BV,.g 0 0] 2 [.u 0 BV,.g 0 0],hn 4 4 [] [(2,[]),(.normal,[])]])]) (n:=13) (A8 Xx CM) (λl x=>by kernel_rfl)
def Sr:A6 (.c0 197 [] [] (λ_=>U)):=λ_ _ h=>by cases h
def QO:A6 (.c0 198 [] [] (λ_=>U)):=λ_ _ h=>by cases h
def RE:A6 (.c0 199 [] [] (λ_=>U)):=λ_ _ h=>by cases h
def Qn:A6 (.c0 200 [] [] (λ_=>U)):=λ_ _ h=>by cases h
def Mt:A6 (.c0 201 [] [] (λ_=>U)):=λ_ _ h=>by cases h
def Ps:A6 (.c0 202 [] [] (λ_=>U)):=λ_ _ h=>by cases h
def R4:A6 (.c0 203 [] [] (λ_=>U)):=λ_ _ h=>by cases h
def TD:A6 (.c2 126 BV [i64,i64,i64] [] [.fn (.func 71) [] []] Mp):=uG (P:=Tryz.prog) (F:=126) (te:=BV) (ds:=[i64,i64,i64]) (rs:=[]) (post:=[.fn (.func 71) [] []]) (f:=λg p=>LY g p.1 p.2) (hs:=ii [(126,[hn 0 2 [1,2,3,.t 10 .bool,.t 11 .bool,.u 0 BV,.g 0 0] [(.ret,[.u 0 BV])],c? 8 [3,.u 0 BV,.g 0 0],c? 12 [13,14,.u 0 BV,.g 0 0],hn 4 15 [.x 0] [(.normal,[.u 0 BV,.g 0 0]),(.ret,[.u 0 BV])],hn 4 17 [.x 0] [(1,[1,.u 0 BV,.g 0 0]),(.normal,[1,.u 0 BV,.g 0 0])],c? 25 [1,2,.t 10 .bool,.u 0 BV,.g 0 0]])]) (n:=13) (A8 QP (A8 Sr (A8 QO (A8 RE (A8 Qn (A8 Mt (A8 Ps (A8 R4 (A8 Xx CM))))))))) (λg l x=>by kernel_rfl)
def RD:A6 (.c2 70 BV [] [] [.fn (.func 71) [] []] FK):=R5 (hs:=ii []) (n:=13) (A8 TD (A8 aH CM)) (λl x=>by kernel_rfl)
def RF:A6 (.c2 206 Dj [i64,i64] [] [.fn (.func 76) [] []] EE):=R5 (hs:=ii [(206,[e? 1 [8,.u 0 Dj,.g 0 0] 0 [.u 0 Dj],e? 4 [9,.u 0 Dj,.g 0 0] 2 [.u 0 Dj,.g 0 0],hn 4 4 [] [(2,[]),(.normal,[])]])]) (n:=13) (A8 mV CM) (λl x=>by kernel_rfl)
def Tx:A6 (.c0 207 [] [] (λ_=>U)):=λ_ _ h=>by cases h
def VJ:A6 (.c2 130 Dj [i64] [] [.fn (.func 76) [] []] HB):=R5 (hs:=ii [(130,[e? 2 [7,8,.u 0 Dj,.g 0 0] 0 [7,.u 0 Dj,.g 0 0],e? 7 [6,.u 0 Dj,.g 0 0] 2 [.u 0 Dj],e? 9 [7,8,.u 0 Dj,.g 0 0] 4 [7,.u 0 Dj,.g 0 0],c? 15 [.u 0 Dj,.g 0 0]])]) (n:=13) (A8 RF (A8 Tx CM)) (λl x=>by kernel_rfl)
def QN:A6 (.c2 75 Dj [] [] [.fn (.func 76) [] []] DA):=R5 (hs:=ii []) (n:=13) (A8 VJ CM) (λl x=>by kernel_rfl)
def S9:a? 47 [i64,(.list i64)] [.bool] GF:=k0 [(47,[f? 4 [5] [.t 4 .bool] 0 []])] CM
def V4:a? 16 [i64,(.list i64)] [BF,i64] I3:=k0 [] (A8 S9 CM)
def V0:a? 17 [] [Bj] GO:=k0 [] CM
def kF:a? 131 [i64] [.bool] GJ:=k0 [] CM
def tq:a? 208 [] [.str] VZ:=k0 [] (A8 Tz CM)
def jJ:a? 209 [.str,i64,i64] [i64] Fu:=k0 [] (A8 Qf CM)
def ve:a? 210 [.str] [BE,.bool] RZ:=k0 [(210,[hn 2 9 [.x 0,.x 1] [(.normal,[g? 1 BE,g? 0 BE]),(.ret,[.t 3 .bool,g? 0 BE,.x 1])],f? 3 [13,g? 1 BE,g? 0 BE] [.t 3 .bool,g? 0 BE,.x 1] 0 [g? 1 BE,g? 0 BE]])] (A8 jJ CM)
def sZ:a? 99 [BE] [.bool] Nu:=k0 [] (A8 kF CM)
def tu:a? 100 [BE] [.bool] Pw:=k0 [(100,[f? 2 [7] [.t 2 .bool] 0 []])] CM
def jQ:b? 102 0 Yi [Lf] [] Kv:=k1 [(102,[c? 3 [4]])] (A8 my (A8 Tz CM))
def Xa:a? 63 [BE] [.str,i64] Gu:=k0 [(63,[e? 8 [29,g? 1 Yi] 1 [g? 1 Yi]])] (A8 sZ (A8 tu (A8 my (A8 jQ (A8 Tz (A8 ab CM))))))
def sY:a? 132 [.str] [BE,i64] LV:=k0 [] (A8 tq (A8 jJ (A8 ab (A8 ve (A8 Xa CM)))))
def og:a? 36 [i64] [BE] C0:=k0 [] CM
def U4:a? 78 [.str,i64] [BE,i64] Ev:=k0 [] (A8 kF (A8 sY (A8 og CM)))
def nh:a? 125 [.str] [E9] La:=k0 [] (A8 Qf (A8 U4 CM))
def Th:a? 77 [BV] [.bool] Ia:=k0 [(77,[f? 4 [36] [.t 2 .bool] 0 []])] (A8 U4 CM)
def qK:a? 68 [.str] [BV,i64] Ex:=k0 [(68,[⟨0,13,[],[(1,2,E9)],[],[],[.t 5 i64,.t 50 i64,.u 2 E9,.p 1 W!,.p 0 [.d BV]],[(.ret,[.t 3 i64,.p 0 [.d BV],.x 1,.x 2]),(.exit 0,[.t 5 i64,.u 2 E9,.p 1 W!,.p 0 [.d BV]])]⟩])] (A8 aG (A8 V5 (A8 Qf (A8 nh (A8 Th CM)))))
def sW:a? 69 [BV] [.bool] W5:=k0 [] (A8 Th CM)
def aE:a? 31 [(.list DU)] [(.list BV)] Hr:=k0 [(31,[⟨0,4,[(4,BV)],[],[],[],[.t 12 i64,.m 0 .i64 .bool,.u 1 BV,.g 4 1],[(.exit 0,[.m 0 .i64 .bool,.u 1 BV,.g 4 1])]⟩])] (A8 qK (A8 sW (A8 RD CM)))
def od:a? 205 [E9,i64] [i64] QW:=k0 [] CM
def sX:a? 129 [BV,i64] [i64,.bool] TH:=k0 [(204,[c? 6 [9,10],e? 3 [9,10] 0 [9]])] (A8 od CM)
def kE:a? 74 [BV,i64] [E9,.bool] VX:=k0 [] (A8 Th (A8 sX CM))
def oT:a? 32 [(.list DU),i64,i64] [(.list Dj)] M8:=k0 [(32,[hn 3 2 [] []]),(128,[⟨0,1,[],[(2,0,Dj)],[],[],[.t 3 i64,.u 5 Dj,.p 2 [.o 5],.y 4 .ready],[(.exit 0,[.u 5 Dj,.p 2 [.o 5],.y 4 .ready])]⟩])] (A8 aE (A8 kE (A8 QN CM)))
def kM:b? 34 1 Dj [BV] [.bool] UB:=k1 [] CM
def tn:a? 35 [BV,i64] [BE,i64] X6:=k0 [] (A8 Th (A8 kE (A8 U4 CM)))
def mZ:a? 62 [BF,Bj] [i64] Q8:=k0 [] (A8 Lm (A8 Qv CM))
def qF:a? 176 [BE,FU] [BE,i64] Lq:=k0 [] (A8 cu CM)
def tz:a? 116 [BE,Ai] [BE,i64] LQ:=k0 [] (A8 Tg (A8 U3 (A8 Xa (A8 qF CM))))
def qO:a? 65 [BE,(.list Ai)] [BE,i64] PN:=k0 [(65,[f? 2 [12,g? 0 BE,g? 1 BE] [5,g? 1 BE,.x 0] 0 [g? 0 BE,g? 1 BE]])] (A8 tz CM)
def qN:a? 29 [BE,BF,Bj,i64] [BE,i64] Ho:=k0 [] (A8 mZ (A8 Xa (A8 kD (A8 qO CM))))
def qJ:a? 30 [BF,Bj,i64,i64,i64] [(.list i64),i64,i64,i64] Hi:=k0 [(30,[]),(117,[⟨0,4,[],[(4,0,i64)],[],[],[.t 27 i64,.u 9 i64,.p 4 [.o 9],.y 8 .ready],[(.exit 0,[.u 9 i64,.p 4 [.o 9],.y 8 .ready])]⟩])] (A8 kD (A8 Wa (A8 U1 (A8 U2 (A8 dn CM)))))
def Pq:a? 9 [(.list DU),BF,Bj,i64,i64] [BE,Ic,i64] Dz:=k0 [(9,[f? 10 [61,g? 4 BE,g? 5 Ic] [12,g? 4 BE,g? 5 Ic] 1 [g? 4 BE,g? 5 Ic]]),(33,[f? 2 [8,g? 6 Dj] [4,g? 6 Dj] 0 [g? 6 Dj]])] (A8 Lm (A8 Qv (A8 aE (A8 oT (A8 kM (A8 tn (A8 qN (A8 qJ (A8 og CM)))))))))
def Qk:a? 18 [i64] [BE] C0:=k0 [] CM
def dm:a? 14 [(.list DU),BF,Bj,i64] [i64] MA:=k0 [(14,[f? 2 [9] [8] 0 []])] (A8 Wa (A8 Pq CM))
def cw:a? 4 [] [.bool] JK:=k0 [] (A8 V4 (A8 V0 (A8 Pq (A8 Qk (A8 dm CM)))))
def Wb:b? 8 0 Am [i64] [i64] Hw:=k1 [] CM
def Bp:b? 8 0 Am [i64] [i64] Ae:=k1 [] (A8 Wb CM)
def V1:a? 262 [i64] [Em,i64] Kz:=k0 [] CM
def V2:a? 263 [i64] [Eg,i64] OU:=k0 [] CM
def jZ:a? 223 [i64,i64] [A9,i64] OX:=k0 [] (A8 V1 (A8 V2 (A8 V0 CM)))
def af:a? 264 [i64] [(.list .str)] Py:=k0 [(264,[⟨0,3,[(3,.str)],[],[],[],[.t 4 i64,.u 0 .str,.g 3 0],[(.exit 0,[.u 0 .str,.g 3 0])]⟩])] CM
def jS:a? 224 [i64] [F3,i64] Kx:=k0 [] (A8 af CM)
def ja:a? 149 [i64,i64] [A7,i64] OY:=k0 [] (A8 jZ (A8 jS CM))
def K3:b? 59 0 Am [] [.str] Er:=k1 [(59,[c? 3 [3,g? 0 Am],e? 6 [5,.u 1 (.int .u8),.g 4 1,g? 0 Am] 0 [.u 1 (.int .u8),.g 4 1,g? 0 Am]])] (A8 Bp CM)
def Ig:b? 24 0 Am [] [i64] Bl:=k1 [] (A8 Bp CM)
def W8:b? 274 0 Am [i64] [FT] IR:=k1 [(274,[c? 5 [.t 15 .bool],c? 4 [.t 15 .bool],c? 8 [g? 0 Am,g? 3 FT],c? 11 [g? 0 Am,g? 3 FT],c? 6 [g? 0 Am,g? 3 FT],c? 13 [g? 0 Am,g? 3 FT]])] (A8 Bp (A8 K3 (A8 Ig CM)))
def X4:b? 226 0 Am [i64,i64,.bool] [Tp] JA:=k1 [(226,[c? 3 [.t 11 .bool],d? 12 [g? 0 Am,g? 1 Tp] [g? 0 Am,g? 1 Tp]])] (A8 Bp (A8 W8 CM))
def Vs:b? 151 0 Am [i64,i64,.bool] [(.list Tp)] HP:=k1 [(151,[e? 3 [10,.u 1 Tp,.g 9 1,g? 0 Am] 0 [.u 1 Tp,.g 9 1,g? 0 Am]])] (A8 Bp (A8 X4 CM))
def Gy:a? 56 [Bj] [i64] Ct:=k0 [] CM
def Qw:a? 261 [Lf] [.bool] Dn:=k0 [] CM
def UO:a? 211 [FU] [.bool] JN:=k0 [] (A8 Qw CM)
def dG:a? 133 [Ai] [Ai,.bool] MP:=k0 [(133,[c? 4 [.t 13 .bool],c? 8 [.t 5 .bool,g? 2 Ai],c? 13 [.t 67 .bool],c? 12 [.t 67 .bool],c? 17 [.t 91 .bool]])] (A8 UO CM)
def ag:a? 134 [i64,i64] [.bool] G5:=k0 [] CM
def EB:a? 79 [Ai] [.bool] C1:=k0 [] (A8 dG (A8 ag CM))
def B8:a? 38 [Bj] [.bool] By:=k0 [(38,[f? 4 [3] [.t 2 .bool] 0 []])] (A8 Gy (A8 EB CM))
def SL:a? 215 [BE] [.bool] ID:=k0 [] CM
def UL:a? 216 [BE] [.bool] JM:=k0 [(216,[f? 2 [3] [.t 2 .bool] 0 []])] (A8 Qw CM)
def dC:a? 355 [BE] [.bool] MM:=k0 [] (A8 SL (A8 UL CM))
def Eh:a? 320 [Em] [.bool] Dr:=k0 [(320,[f? 11 [6] [.t 2 .bool] 2 [],f? 5 [4] [.t 2 .bool] 0 []])] (A8 dC CM)
def UP:a? 412 [Bu] [.bool] Ha:=k0 [] CM
def U7:a? 413 [Bu,Bu] [.bool] Fx:=k0 [] CM
def Ln:a? 399 [Bu,Bu] [.bool] EW:=k0 [] CM
def Po:a? 414 [Dd,i64,Jb] [i64] EX:=k0 [(414,[f? 2 [7] [6] 0 []])] CM
def Ff:a? 375 [Dd] [.bool] EG:=k0 [(375,[f? 9 [4] [.t 2 .bool] 2 [],f? 4 [3] [.t 2 .bool] 0 [],f? 20 [7] [.t 2 .bool] 6 [],f? 14 [5] [.t 2 .bool] 4 []])] (A8 UP (A8 U7 (A8 Ln (A8 Po CM))))
def dP:a? 388 [CC] [.bool] MY:=k0 [(388,[f? 6 [3] [.t 2 .bool] 0 [],f? 11 [4] [.t 2 .bool] 2 []])] CM
def Fg:a? 347 [(.list CC)] [.bool] EI:=k0 [(347,[f? 4 [3] [.t 2 .bool] 0 []])] (A8 dP CM)
def jW:a? 415 [i64] [.bool] HH:=k0 [] CM
def Gc:a? 376 [Eg] [.bool] EH:=k0 [(376,[f? 4 [3] [.t 2 .bool] 0 []])] (A8 jW CM)
def QM:a? 377 [(.list CL),i64] [.bool] Fk:=k0 [(377,[f? 2 [5] [.t 4 .bool] 0 []])] CM
def dU:a? 330 [A9] [.bool] Mc:=k0 [] (A8 B8 (A8 Eh (A8 Ff (A8 Fg (A8 Gc (A8 QM CM))))))
def KT:a? 331 [A9,i64] [CL,.bool] FN:=k0 [(331,[f? 2 [6,g? 1 CL] [.t 5 .bool,g? 1 CL] 0 [g? 1 CL]])] CM
def CW:a? 299 [A9] [.bool] Br:=k0 [(299,[f? 4 [3] [.t 2 .bool] 0 [],f? 9 [4] [.t 2 .bool] 2 [],f? 18 [8] [.t 2 .bool] 4 [],f? 23 [9] [.t 2 .bool] 6 []])] (A8 dU (A8 KT CM))
def K4:a? 348 [(.list CC),i64] [i64] E5:=k0 [(348,[f? 2 [5] [4] 0 []])] CM
def UQ:a? 314 [(.list CC),i64] [(.list CC),i64] JR:=k0 [(314,[⟨0,11,[(6,CC)],[],[],[],[.t 7 i64,.u 0 CC,.g 6 0],[(.exit 1,[.u 0 CC,.g 6 0])]⟩])] (A8 Fg (A8 K4 CM))
def dQ:a? 291 [A9] [A9,i64,i64] MZ:=k0 [] (A8 CW (A8 UQ CM))
def da:a? 265 [A7] [A7,i64,i64] Mf:=k0 [] (A8 dQ CM)
def C6:a? 273 [i64] [DW] BM:=k0 [] CM
def bE:a? 270 [i64] [DW] ES:=k0 [] (A8 C6 CM)
def Gz:a? 321 [Em,i64] [i64] Fy:=k0 [(321,[f? 2 [5] [4] 0 []])] CM
def F7:a? 294 [Em,i64] [i64] EY:=k0 [] (A8 Eh (A8 Gz CM))
def JJ:a? 318 [Em,i64] [BE,.bool] GP:=k0 [] (A8 F7 CM)
def Ii:a? 46 [Bj] [i64] E0:=k0 [] (A8 B8 (A8 Gy CM))
def KQ:a? 49 [Bj,i64] [Bj,i64] Ee:=k0 [] (A8 B8 (A8 Gy CM))
def KR:a? 319 [A9,i64] [A9] GU:=k0 [(319,[c? 3 [g? 0 A9]])] (A8 Ii (A8 KQ CM))
def dR:a? 293 [A9,i64] [A9,BE,i64] Ma:=k0 [] (A8 CW (A8 JJ (A8 KR CM)))
def H9:a? 137 [BE] [i64] Cm:=k0 [] (A8 SL (A8 UL CM))
def Do:a? 138 [.str,i64,i64] [.str] Aq:=k0 [(138,[e? 4 [.t 0 .str,7] 0 [.t 0 .str]])] CM
def UM:a? 139 [i64] [.str] HX:=k0 [] CM
def MF:a? 140 [.str] [(.int .u32)] FX:=k0 [(140,[c? 10 [.t 3 (.int .u32)],e? 7 [.t 3 (.int .u32),5] 2 [.t 3 (.int .u32)],e? 3 [.t 3 (.int .u32),4] 0 [.t 3 (.int .u32)]])] CM
def Hh:a? 84 [BE] [.str,i64] Cn:=k0 [(84,[c? 11 [7],e? 7 [.t 5 .str,6] 0 [.t 5 .str]])] (A8 H9 (A8 Do (A8 UM (A8 MF CM))))
def dF:a? 432 [F3,Dt] [.bool] MO:=k0 [(432,[c? 7 [.t 59 .bool],d? 13 [.t 4 .bool,.x 2] [g? 2 Dt],hn 2 11 [.x 2] [(.normal,[g? 2 Dt]),(.ret,[.t 4 .bool,.x 2])],hn 2 9 [.x 2] [(.normal,[g? 2 Dt]),(.ret,[.t 4 .bool,.x 2])],hn 2 8 [.x 2] [(.normal,[g? 2 Dt]),(.ret,[.t 4 .bool,.x 2])]])] CM
def dD:a? 401 [F3] [.bool] MN:=k0 [(401,[f? 5 [4] [.t 2 .bool] 0 [],f? 10 [5] [.t 2 .bool] 2 [],f? 15 [6] [.t 2 .bool] 4 []])] (A8 dF CM)
def Np:a? 356 [F3,i64] [i64] G4:=k0 [] (A8 dD CM)
def SM:a? 402 [(.list i64),i64] [(.list i64)] Fh:=k0 [(402,[c? 6 [.u 0 i64,.g 5 0],⟨0,3,[(5,i64)],[],[],[],[.t 6 i64,.u 0 i64,.g 5 0],[(.exit 0,[.u 0 i64,.g 5 0])]⟩])] CM
def fx:a? 359 [(.list i64),i64] [(.list i64)] Fw:=k0 [(359,[c? 7 [.t 6 .bool,.u 0 i64,.g 5 0],c? 10 [.u 0 i64,.g 5 0],⟨0,4,[(5,i64)],[],[],[],[.t 6 .bool,.t 7 i64,.u 0 i64,.g 5 0],[(.exit 0,[.t 6 .bool,.u 0 i64,.g 5 0])]⟩,c? 12 [.u 0 i64,.g 5 0]])] CM
def dE:a? 322 [F3,i64,.str] [F3,i64] Qp:=k0 [(322,[c? 16 [.u 8 Dt,.u 9 Dt,.g 10 8,.p 7 [.o 4,.d i64,.o 5,.d .bool,.o 9]],⟨0,13,[(10,Dt)],[(7,4,Dt)],[],[],[.t 11 i64,.u 8 Dt,.u 4 .str,.u 5 i64,.u 9 Dt,.g 10 8,.p 7 [.o 4,.d i64,.o 5,.d .bool,.o 9],.p 2 Q?,.p 3 Q?],[(.exit 0,[.u 8 Dt,.u 4 .str,.u 5 i64,.u 9 Dt,.g 10 8,.p 7 [.o 4,.d i64,.o 5,.d .bool,.o 9],.p 2 Q?,.p 3 Q?])]⟩,c? 29 [.t 12 .bool,.u 4 .str,.p 7 i?,.p 2 e!,.p 3 e!],c? 26 [.t 12 .bool,.u 4 .str,.p 2 e!,.p 3 e!,.p 7 i?],c? 24 [.t 12 .bool,.u 4 .str,.p 2 e!,.p 3 e!,.p 7 i?],⟨0,20,[],[],[5],[],[.t 12 .bool,.t 13 i64,.u 4 .str,.u 6 Dt,.u 4 .str,.u 6 Dt,.u 4 .str,.u 9 Dt,.p 2 e!,.p 3 e!,.p 7 i?],[(.exit 2,[.t 12 .bool,.u 4 .str,.u 6 Dt,.u 9 Dt,.p 2 e!,.p 3 e!,.p 7 i?])]⟩,c? 32 [.u 4 .str,.p 7 i?,.p 2 e!,.p 3 e!],c? 45 [.p 7 i?],c? 43 [.p 7 i?],c? 39 [.u 4 .str,.p 7 i?,.p 2 e!,.p 3 e!],e? 34 [14,.u 4 .str,.u 6 Dt,.u 4 .str,.u 6 Dt,.u 4 .str,.u 9 Dt,.p 2 e!,.p 3 e!,.p 7 i?] 5 [.u 4 .str,.u 6 Dt,.u 9 Dt,.p 2 e!,.p 3 e!,.p 7 i?]])] (A8 Np (A8 SM (A8 fx CM)))
def MG:a? 403 [Em,i64,UE] [Em] I1:=k0 [] CM
def dM:a? 360 [Em,i64,i64] [Em,i64] Qq:=k0 [(360,[c? 14 [g? 2 UE],c? 12 [g? 2 UE]])] (A8 Eh (A8 Gz (A8 MG CM)))
def D3:a? 365 [(.list CC),i64] [i64] Cj:=k0 [] (A8 K4 CM)
def EL:a? 153 [Ai] [.bool] BO:=k0 [] CM
def Pp:a? 334 [A9,i64] [i64] E6:=k0 [] (A8 CW (A8 JJ (A8 KT CM)))
def ah:a? 366 [Bj,Ai] [Bj,i64,i64] K9:=k0 [] (A8 B8 (A8 Gy (A8 EB CM)))
def HW:a? 367 [Bj,i64] [Ai,i64] FY:=k0 [] (A8 B8 (A8 Gy CM))
def Nq:a? 405 [(.list CC),i64] [(.list CC)] G7:=k0 [(405,[c? 6 [.u 0 CC,.g 5 0],⟨0,3,[(5,CC)],[],[],[],[.t 6 i64,.u 0 CC,.g 5 0],[(.exit 0,[.u 0 CC,.g 5 0])]⟩])] CM
def S5:a? 407 [CC] [CC] Iu:=k0 [(407,[c? 2 [g? 0 CC]])] CM
def Qm:a? 406 [(.list CC),i64,CC] [(.list CC)] I2:=k0 [] CM
def VC:a? 368 [(.list CC),Ai] [(.list CC),i64] Gq:=k0 [(368,[c? 24 [.u 2 i64,.g 8 2],⟨0,21,[(8,i64)],[],[],[],[.t 9 i64,.u 2 i64,.g 8 2],[(.exit 2,[.u 2 i64,.g 8 2])]⟩,d? 19 [.t 4 (.list CC),5,.x 1] [g? 1 CC],hn 2 17 [.x 1] [(.normal,[g? 1 CC]),(.ret,[.t 4 (.list CC),5,.x 1])]])] (A8 Fg (A8 EB (A8 K4 (A8 Nq (A8 S5 (A8 Qm CM))))))
def jX:a? 408 [Eg,i64,Dj] [Eg] OV:=k0 [] CM
def U9:a? 369 [Eg,Ai] [Eg,i64] IF:=k0 [] (A8 Gc (A8 EB (A8 jX CM)))
def GQ:a? 326 [A9,Ai] [A9,i64,i64] Ek:=k0 [(326,[d? 5 [5,6,g? 2 A9,.x 1] [g? 1 Ai,g? 2 A9],c? 10 [g? 1 Ai]])] (A8 CW (A8 D3 (A8 EL (A8 Pp (A8 ah (A8 HW (A8 VC (A8 U9 CM))))))))
def Zi:a? 323 [A9,i64,i64] [A9,i64] Kf:=k0 [(323,[d? 7 [7,g? 1 A9,.x 2] [g? 2 Em,g? 1 A9]])] (A8 CW (A8 Ii (A8 F7 (A8 dM (A8 GQ CM)))))
def UT:a? 295 [A7,A9,BE] [A7,i64] Mi:=k0 [] (A8 Hh (A8 dE (A8 Zi CM)))
def dc:a? 268 [A7,i64] [A7,i64] Mh:=k0 [] (A8 dR (A8 F7 (A8 UT CM)))
def dN:a? 361 [Em] [(.list CL)] MU:=k0 [(361,[c? 9 [.u 1 CL,.g 3 1],⟨0,5,[(3,CL)],[],[],[],[.t 4 i64,.u 1 CL,.g 3 1],[(.exit 0,[.u 1 CL,.g 3 1])]⟩])] (A8 Eh (A8 Gz CM))
def kJ:a? 324 [A9] [H7,i64] P9:=k0 [(324,[c? 9 [.u 3 CL,.p 2 l?],c? 14 [.u 3 CL,.p 2 l?],e? 11 [46,.u 3 CL,.p 2 l?] 2 [.u 3 CL,.p 2 l?],⟨0,5,[],[(2,3,CL)],[],[],[.t 5 i64,.u 3 CL,.p 2 l?],[(.exit 0,[.u 3 CL,.p 2 l?])]⟩])] (A8 CW (A8 KT (A8 dN CM)))
def UR:a? 362 [H7] [.bool] Hd:=k0 [(362,[f? 4 [3] [.t 2 .bool] 0 []])] (A8 Fg (A8 QM (A8 Gc CM)))
def Zh:a? 404 [.str,(.list i64)] [.str] IG:=k0 [(404,[e? 2 [.t 0 .str,5] 0 [.t 0 .str]])] (A8 Do CM)
def av:a? 363 [(.list CC)] [.str,i64] LD:=k0 [(363,[e? 5 [.t 4 .str,5] 0 [.t 4 .str]])] (A8 Fg (A8 Do (A8 Zh CM)))
def aq:a? 364 [Eg] [.str,i64] Ir:=k0 [(364,[e? 5 [.t 4 .str,5] 0 [.t 4 .str]])] (A8 Gc (A8 Do CM))
def bC:a? 325 [H7] [.str,i64] G8:=k0 [(325,[e? 9 [.t 6 .str,7] 0 [.t 6 .str]])] (A8 UR (A8 av (A8 Do (A8 aq CM))))
def gM:a? 296 [A9] [A9,i64,i64] Rg:=k0 [] (A8 kJ (A8 bC (A8 GQ (A8 KQ CM))))
def Xb:a? 269 [A7] [A7,i64,i64] L5:=k0 [] (A8 gM CM)
def fw:a? 327 [F3,i64,.str,i64] [F3,i64] Ra:=k0 [] (A8 Np (A8 SM CM))
def KO:a? 156 [.str] [.str] Dp:=k0 [] (A8 Do (A8 MF CM))
def gC:a? 370 [i64] [.str] NM:=k0 [] (A8 Do (A8 KO CM))
def gA:a? 228 [.str,Lf] [.str] Gm:=k0 [] (A8 Do CM)
def S3:a? 158 [Ai] [.str,i64] F8:=k0 [] (A8 EB (A8 Do (A8 gA CM)))
def dI:a? 371 [Ai] [.str] JO:=k0 [] (A8 S3 (A8 KO CM))
def dH:a? 328 [Bj,i64] [.str] HY:=k0 [(328,[c? 8 [.t 5 .str,.t 6 .str],e? 5 [.t 5 .str,.t 6 .str,7] 0 [.t 5 .str,.t 6 .str]])] (A8 B8 (A8 gC (A8 dI CM)))
def db:a? 297 [A7,i64,i64,i64] [F3,.str] Mg:=k0 [(297,[c? 8 [g? 3 F3],c? 4 [g? 2 A9,g? 3 F3]])] (A8 F7 (A8 Hh (A8 KR (A8 fw (A8 dH CM)))))
def Ed:a? 214 [.str,i64,i64] [i64,i64] A4:=k0 [(214,[e? 7 [.t 8 (.int .u64),9] 0 [.t 8 (.int .u64)]])] CM
def Mq:a? 212 [.str,i64] [.str,i64,i64] Bg:=k0 [] (A8 Ed (A8 MF CM))
def ON:b? 343 0 Pb [i64] [i64] BT:=k1 [] (A8 Ed CM)
def Of:b? 345 0 Pb [i64] [.str] C8:=k1 [] CM
def XD:b? 344 0 Pb [] [Lf] Cy:=k1 [] (A8 ON (A8 Of CM))
def S2:a? 304 [.str] [Ai,i64] ER:=k0 [] (A8 ON (A8 XD (A8 Of (A8 EB CM))))
def gB:a? 372 [.str] [Bj,i64] J3:=k0 [(372,[⟨0,8,[],[(1,1,Ai)],[],[],[.t 5 i64,.u 2 Ai,.p 1 [.d i64,.o 2,.d i64],.p 0 [.d Bj]],[(.ret,[.t 3 i64,.p 0 [.d Bj],.x 1,.x 2]),(.exit 0,[.u 2 Ai,.p 1 [.d i64,.o 2,.d i64],.p 0 [.d Bj]])]⟩])] (A8 Mq (A8 Ed (A8 S2 CM)))
def OO:b? 442 0 Gw [i64] [i64] Co:=k1 [] (A8 Ed CM)
def XE:b? 443 0 Gw [i64] [(.list i64)] GZ:=k1 [(443,[⟨0,3,[(5,i64)],[],[],[],[.t 6 i64,.u 1 i64,.g 5 1,.p 0 [.d Gw]],[(.exit 0,[.u 1 i64,.g 5 1,.p 0 [.d Gw]])]⟩])] (A8 OO CM)
def au:a? 440 [.str] [(.list CC),i64] LC:=k0 [(440,[⟨0,4,[(5,CC)],[],[],[],[.t 6 i64,.u 1 CC,.g 5 1,.p 0 [.d Gw]],[(.exit 0,[.u 1 CC,.g 5 1,.p 0 [.d Gw]])]⟩])] (A8 OO (A8 XE (A8 Fg CM)))
def an:a? 441 [.str] [Eg,i64] E4:=k0 [(441,[⟨0,8,[],[(1,0,Dj)],[],[],[.t 7 i64,.u 2 Dj,.p 1 [.o 2]],[(.exit 1,[.u 2 Dj,.p 1 [.o 2]])]⟩])] (A8 Ed (A8 Gc CM))
def bB:a? 437 [.str] [H7,i64] DZ:=k0 [(437,[⟨0,15,[],[(1,3,CL)],[],[],[.t 9 i64,.t 11 i64,.u 2 CL,.p 1 [.d i64,.d i64,.d (.list CC),.o 2,.d Eg]],[(.exit 0,[.t 9 i64,.u 2 CL,.p 1 [.d i64,.d i64,.d (.list CC),.o 2,.d Eg]])]⟩])] (A8 Ed (A8 au (A8 an (A8 UR CM))))
def bD:a? 433 [Bj] [H7,i64,.bool] P8:=k0 [(433,[f? 4 [5,g? 1 H7] [3,.t 4 .bool,g? 1 H7] 0 [g? 1 H7]])] (A8 B8 (A8 bB CM))
def dX:a? 409 [Bj,i64] [Fe,i64] Qr:=k0 [] (A8 bD (A8 V2 CM))
def dV:a? 434 [(.list CL),Ai] [(.list CL)] He:=k0 [(434,[c? 10 [.t 6 .bool,.u 1 CL,.g 5 1],c? 18 [g? 2 CL],hn 2 15 [.x 2] [(.normal,[g? 2 CL]),(1,[g? 2 CL])],hn 2 13 [.x 2] [(.normal,[.t 6 .bool,g? 2 CL]),(1,[.t 6 .bool,g? 2 CL])],⟨0,6,[(5,CL)],[],[],[],[.t 6 .bool,.t 7 i64,.u 1 CL,.g 5 1],[(.exit 0,[.t 6 .bool,.u 1 CL,.g 5 1])]⟩,c? 21 [.u 1 CL,.g 5 1]])] (A8 EL CM)
def gO:a? 410 [Fe,Ai] [Fe,i64] NV:=k0 [(410,[d? 2 [5,g? 2 Fe,.x 0] [g? 0 Fe,g? 2 Fe]])] (A8 D3 (A8 UQ (A8 VC (A8 U9 (A8 EL (A8 dV CM))))))
def gN:a? 438 [Bu,Bu] [.bool] Fx:=k0 [] CM
def gP:a? 435 [(.list Bu),Bu] [(.list Bu)] Rk:=k0 [(435,[e? 2 [5] 0 [5]])] (A8 gN CM)
def dW:a? 411 [Bj,(.list CC)] [(.list Bu),i64] Md:=k0 [(411,[f? 6 [.t 6 (.list Bu),8] [.t 4 (.list Bu),5] 2 [.t 6 (.list Bu)],f? 3 [.t 6 (.list Bu),7] [.t 4 (.list Bu),5] 0 [.t 6 (.list Bu)]])] (A8 HW (A8 gP CM))
def Zl:a? 373 [Bj,i64] [Fe,i64] Ki:=k0 [(373,[f? 9 [8,g? 2 Fe,g? 1 Fe] [5,g? 1 Fe,.x 2] 0 [g? 2 Fe,g? 1 Fe],c? 20 [.u 3 CC,.g 9 3],⟨0,17,[(9,CC)],[],[],[],[.t 10 i64,.u 3 CC,.g 9 3],[(.exit 2,[.u 3 CC,.g 9 3])]⟩])] (A8 B8 (A8 dX (A8 gO (A8 dW CM))))
def dZ:a? 374 [Bj,Fe,i64] [A9,i64] Me:=k0 [(374,[f? 8 [11,g? 4 A9,g? 2 A9] [7,g? 2 A9,.x 4] 0 [g? 4 A9,g? 2 A9]])] (A8 V1 (A8 CW (A8 GQ CM)))
def gU:a? 329 [F3,.str,i64,i64] [A7,i64] Rn:=k0 [] (A8 gB (A8 Zl (A8 dZ CM)))
def gV:a? 298 [F3,.str,i64,i64] [A7,i64] Ro:=k0 [] (A8 gU CM)
def am:a? 416 [Em] [Em,i64,i64] P5:=k0 [(416,[e? 5 [g? 0 Em] 0 [g? 0 Em]])] (A8 Eh (A8 MG CM))
def gG:a? 417 [Em,i64] [Em,i64] NQ:=k0 [(417,[c? 10 [.p 0 [.d i64,.o 2,.d i64]],c? 12 [.p 0 [.d i64,.o 2,.d i64]]])] (A8 Eh (A8 Gz CM))
def gJ:a? 378 [A9] [A9,BE,.bool,i64] NT:=k0 [] (A8 CW (A8 am (A8 F7 (A8 gG (A8 KR CM)))))
def gT:a? 332 [A7] [A7,i64] NY:=k0 [(332,[hn 0 1 [g? 0 A7,g? 1 A7] [(.ret,[3,g? 1 A7,.x 0])]])] (A8 gJ (A8 UT CM))
def jT:a? 379 [(.list i64),i64] [.bool] OS:=k0 [(379,[f? 2 [5] [.t 4 .bool] 0 []])] CM
def fu:a? 333 [F3,i64] [.str,i64] NK:=k0 [] (A8 Np (A8 jT CM))
def UK:a? 94 [] [.str] JL:=k0 [] (A8 UM CM)
def ae:a? 136 [.str] [BE,i64] Ez:=k0 [(136,[f? 14 [7,g? 1 BE,g? 0 BE] [3,g? 0 BE,.x 1] 1 [g? 1 BE,g? 0 BE]])] (A8 UK (A8 Ed (A8 MF (A8 Hh CM))))
def Ih:a? 83 [.str,i64] [BE,i64] Ci:=k0 [] (A8 ae (A8 Qk CM))
def dO:a? 335 [Eg,i64,i64,.str] [BE,i64] MW:=k0 [] (A8 Gc (A8 Ih CM))
def dJ:a? 439 [Ai,(.list Ai)] [(.list Ai)] MQ:=k0 [] CM
def gD:a? 436 [Bj,i64,i64,i64] [(.list Ai),i64] Rb:=k0 [(436,[f? 7 [.t 10 (.list Ai),11] [.t 8 (.list Ai),9] 0 [.t 10 (.list Ai),11]])] (A8 B8 (A8 HW (A8 EL (A8 dJ CM))))
def dY:a? 418 [Bj,BE,i64] [(.list Ai),i64] WI:=k0 [] (A8 B8 (A8 H9 (A8 gD CM)))
def UN:a? 222 [BE,FU] [BE,i64] GR:=k0 [] (A8 UO CM)
def US:a? 146 [BE,Ai] [BE,i64] GV:=k0 [] (A8 EB (A8 EL (A8 H9 (A8 UN CM))))
def gR:a? 380 [Bj,BE,i64] [BE,i64,i64] Rm:=k0 [(380,[f? 5 [11,g? 1 BE,g? 2 BE] [7,8,g? 2 BE,.x 1] 0 [g? 1 BE,g? 2 BE]])] (A8 dY (A8 US CM))
def gQ:a? 336 [Bj,BE,i64] [BE,i64] Rl:=k0 [] (A8 gR CM)
def ay:a? 337 [A9,BE] [A9,i64] LH:=k0 [(337,[c? 21 [.u 9 CL,.g 10 9],⟨0,18,[(10,CL)],[],[],[],[.t 11 i64,.u 9 CL,.g 10 9],[(.exit 1,[.u 9 CL,.g 10 9])]⟩,c? 14 [.u 6 UE,g? 0 A9,.p 3 [.d i64,.o 6,.d i64],.p 5 [.d i64,.o 6,.d i64],.p 7 [.d i64,.o 6,.d i64]]])] (A8 CW (A8 Pp (A8 Eh (A8 H9 (A8 KT (A8 Gz CM))))))
def KU:a? 300 [A7,i64] [A7,i64] FO:=k0 [] (A8 CW (A8 F7 (A8 gT (A8 fu (A8 Pp (A8 dO (A8 gQ (A8 ay CM))))))))
def S7:a? 338 [A9,i64] [CC,.bool] Iv:=k0 [(338,[d? 2 [.t 5 .bool,g? 1 CC] [g? 1 CC]])] (A8 CW (A8 D3 CM))
def gS:a? 301 [A9] [(.list i64)] NW:=k0 [(301,[c? 7 [.u 1 i64,.g 3 1],⟨0,3,[(3,i64)],[],[],[],[.t 4 i64,.u 1 i64,.g 3 1],[(.exit 0,[.u 1 i64,.g 3 1])]⟩])] (A8 S7 CM)
def I9:a? 339 [A9,i64] [CC,i64] Fl:=k0 [] (A8 CW (A8 D3 CM))
def Pn:a? 383 [(.list Bu),i64,.bool,Jb] [(.list Bu)] Gp:=k0 [(383,[c? 6 [.u 1 Bu,.g 9 1],⟨0,3,[(9,Bu)],[],[],[],[.t 10 i64,.u 1 Bu,.g 9 1],[(.exit 0,[.u 1 Bu,.g 9 1])]⟩])] CM
def gE:a? 419 [Dd,i64] [.bool] NO:=k0 [(419,[f? 2 [5] [.t 4 .bool] 0 [],f? 7 [6] [.t 4 .bool] 2 []])] (A8 Ln CM)
def gF:a? 420 [(.list Bu),Bu] [(.list Bu)] NP:=k0 [(420,[c? 7 [.t 6 .bool,.u 1 Bu,.g 5 1],c? 10 [.u 1 Bu,.g 5 1],⟨0,4,[(5,Bu)],[],[],[],[.t 6 .bool,.t 7 i64,.u 1 Bu,.g 5 1],[(.exit 0,[.t 6 .bool,.u 1 Bu,.g 5 1])]⟩,c? 12 [.u 1 Bu,.g 5 1]])] (A8 U7 CM)
def Jl:a? 382 [Dd] [Dd] GA:=k0 [(382,[c? 5 [3,g? 0 Dd],e? 2 [3,g? 0 Dd] 0 [g? 0 Dd]])] (A8 gE (A8 gF CM))
def Mr:a? 340 [Dd,i64] [Dd] IE:=k0 [] (A8 Ff (A8 Pn (A8 Jl CM)))
def gL:a? 341 [A9,i64] [Ai,.bool] IH:=k0 [] (A8 I9 (A8 HW CM))
def Ze:a? 384 [FU] [FU] KY:=k0 [] CM
def ak:a? 421 [Em,BE] [Em,i64] LB:=k0 [(421,[c? 13 [g? 3 UE]])] (A8 Eh (A8 H9 (A8 Gz (A8 MG CM))))
def V3:a? 385 [A9,Ai] [A9,i64] K0:=k0 [] (A8 GQ (A8 JJ (A8 ak CM)))
def kI:a? 422 [A9,CC,Jb,i64] [Ai,.bool] P7:=k0 [(422,[f? 2 [10,g? 3 Ai] [.t 9 .bool,g? 3 Ai] 0 [g? 3 Ai]])] (A8 HW CM)
def S6:a? 386 [A9,i64,Jb] [Ai,.bool] LL:=k0 [] (A8 I9 (A8 kI CM))
def U6:a? 387 [Dd,i64,Jb] [Dd] NN:=k0 [] (A8 Ff (A8 Pn (A8 Jl CM)))
def VF:a? 342 [A9,CC,Ai] [A9,DW] Gr:=k0 [(342,[c? 15 [g? 8 A9],c? 12 [g? 8 A9]])] (A8 JJ (A8 Ze (A8 UN (A8 C6 (A8 V3 (A8 S6 (A8 U6 CM)))))))
def VE:a? 302 [A9,i64] [A9,DW] J5:=k0 [] (A8 I9 (A8 C6 (A8 GQ (A8 Mr (A8 gL (A8 VF CM))))))
def gW:a? 272 [A7] [A7,.bool,i64] NZ:=k0 [(272,[hn 0 9 [g? 0 A7,g? 1 A7] [(.ret,[.t 3 .bool,4,g? 1 A7,.x 0])]])] (A8 CW (A8 KU (A8 gS (A8 VE CM))))
def aw:a? 423 [A9,FT] [i64] LF:=k0 [(423,[c? 6 [.t 11 .bool],c? 5 [.t 11 .bool],c? 11 [g? 2 FT],c? 18 [.t 60 .bool],c? 17 [.t 60 .bool],d? 13 [4,.x 2] [g? 2 FT],d? 7 [4,.x 2] [g? 2 FT]])] CM
def I8:a? 352 [Dd,i64] [Bu,.bool] Fj:=k0 [(352,[f? 3 [6,g? 1 Bu] [.t 5 .bool,g? 1 Bu] 0 [g? 1 Bu],d? 2 [.t 5 .bool,g? 1 Bu] [g? 1 Bu]])] (A8 Ff CM)
def VD:a? 394 [i64,FT] [Bu,.bool] J4:=k0 [(394,[c? 7 [.t 20 .bool]])] CM
def Zk:a? 389 [A9,i64,FT] [i64] Kh:=k0 [] (A8 CW (A8 D3 (A8 aw (A8 I8 (A8 VD CM)))))
def bA:a? 390 [A9,i64] [A9,DW] LK:=k0 [(390,[hn 2 3 [.x 1,.x 2,.x 3] [(.normal,[g? 3 A9,g? 1 A9,g? 2 DW]),(.ret,[g? 1 A9,g? 2 DW,.x 3])]])] (A8 D3 (A8 Nq (A8 GQ (A8 C6 (A8 KR (A8 Mr CM))))))
def ai:a? 424 [Dd,i64] [Dd] P0:=k0 [] (A8 Ff (A8 Pn (A8 Jl CM)))
def Zj:a? 425 [A9,i64,Jb] [.bool] Kg:=k0 [(425,[f? 3 [8] [.t 6 .bool] 0 []])] (A8 D3 (A8 HW CM))
def dT:a? 391 [A9,i64,i64] [A9,DW] JS:=k0 [(391,[c? 15 [g? 3 A9],e? 12 [12,g? 3 A9] 0 [g? 3 A9]])] (A8 ai (A8 D3 (A8 Nq (A8 Mr (A8 GQ (A8 C6 (A8 Zj (A8 U6 CM))))))))
def S4:a? 426 [(.list CC),i64] [i64,i64] Is:=k0 [] (A8 Fg (A8 K4 CM))
def gI:a? 392 [(.list CC),i64] [(.list CC),i64] NS:=k0 [] (A8 S4 (A8 Qm CM))
def gH:a? 393 [(.list CC),i64,i64] [(.list CC),i64] NR:=k0 [] (A8 S4 (A8 S5 (A8 Qm CM)))
def dK:a? 427 [Dd,Bu] [i64] JP:=k0 [(427,[f? 4 [5] [4] 0 []])] (A8 Po CM)
def Zf:a? 395 [Dd,Bu] [Dd,.bool,i64] Oz:=k0 [] (A8 Ff (A8 UP (A8 I8 (A8 Po (A8 dK (A8 Jl CM))))))
def jV:a? 428 [Em,i64] [Em] OT:=k0 [] (A8 F7 (A8 MG CM))
def az:a? 396 [A9,i64,FT] [A9,DW] LJ:=k0 [(396,[c? 9 [g? 5 FU]])] (A8 JJ (A8 jV (A8 V3 (A8 C6 CM))))
def U8:a? 400 [(.list i64),i64] [(.list i64)] Fw:=k0 [(400,[c? 7 [.t 6 .bool,.u 0 i64,.g 5 0],c? 10 [.u 0 i64,.g 5 0],⟨0,4,[(5,i64)],[],[],[],[.t 6 .bool,.t 7 i64,.u 0 i64,.g 5 0],[(.exit 0,[.t 6 .bool,.u 0 i64,.g 5 0])]⟩,c? 12 [.u 0 i64,.g 5 0]])] CM
def Zg:a? 429 [Dd] [(.list i64)] Ka:=k0 [(429,[e? 4 [.t 3 (.list i64),4] 0 [.t 3 (.list i64)],c? 3 [.t 3 (.list i64)]])] (A8 Ff (A8 U8 CM))
def Ql:a? 353 [Dd,i64] [(.list i64)] I0:=k0 [(353,[c? 9 [.t 7 (.list i64)],e? 6 [.t 7 (.list i64),8] 0 [.t 7 (.list i64)],c? 14 [.t 7 (.list i64)],e? 11 [.t 7 (.list i64),9] 2 [.t 7 (.list i64)]])] (A8 I8 (A8 Ln (A8 U8 CM)))
def aj:A6 (.c0 430 [Dd,(.list i64),i64] [(.list i64)] P3):=AGv (P:=Tryz.prog) (F:=430) (ds:=[Dd,(.list i64),i64]) (rs:=[(.list i64)]) (f:=FE) (hs:=ii [(430,[f? 4 [30] [.t 6 (.list i64)] 0 [],e? 15 [.t 12 .bool,49] 4 [.t 12 .bool],f? 11 [43] [.t 6 (.list i64)] 2 []])]) (n:=13) (A8 Ql CM) (λg x=>by kernel_rfl)
def dL:a? 397 [Dd,i64] [(.list i64)] MR:=k0 [(397,[f? 2 [5] [.t 4 (.list i64)] 0 []])] (A8 Zg (A8 aj CM))
def dS:a? 431 [(.list i64)] [i64] Mb:=k0 [] CM
def jY:a? 398 [A9,i64] [i64] OW:=k0 [] (A8 Ql (A8 dS CM))
def kH:a? 349 [A9,i64,FT] [A9,DW] P6:=k0 [(349,[c? 10 [.t 46 .bool],c? 13 [.t 9 (.list CC),10]])] (A8 Zk (A8 C6 (A8 bA (A8 dT (A8 gI (A8 gH (A8 VD (A8 Zf (A8 az (A8 dL (A8 jY CM)))))))))))
def SN:a? 350 [A7,i64] [.bool] Ej:=k0 [] (A8 D3 CM)
def Ys:a? 351 [A7,i64] [A7,i64] FF:=k0 [(351,[d? 12 [5,g? 1 A7,.x 0] [g? 0 A7,g? 1 A7],f? 5 [g? 0 A7,g? 1 A7] [5,g? 1 A7,.x 0] 0 [g? 0 A7,g? 1 A7]])] (A8 CW (A8 D3 (A8 SN (A8 VE (A8 KU CM)))))
def kK:a? 315 [A7,i64,FT] [A7,DW] QA:=k0 [(315,[d? 10 [g? 2 A7,g? 3 DW,.x 0] [g? 0 A7,g? 2 A7,g? 3 DW],hn 0 1 [g? 0 A7,g? 2 A7,g? 3 DW] [(.ret,[g? 2 A7,g? 3 DW,.x 0])]])] (A8 kH (A8 KU (A8 C6 (A8 SN (A8 Ys CM)))))
def Zm:a? 316 [A9,i64] [i64,Jb,.bool] Kj:=k0 [(316,[f? 5 [28,g? 1 Jb] [4,.t 6 .bool,g? 1 Jb] 0 [g? 1 Jb]])] (A8 I8 (A8 Ql (A8 S7 CM)))
def gK:a? 354 [A9,i64,Jb] [A9,DW] NU:=k0 [] (A8 I9 (A8 C6 (A8 S6 (A8 VF CM))))
def gX:a? 317 [A7,i64,Jb] [A7,i64,i64] Na:=k0 [(317,[d? 8 [7,8,g? 2 A7,.x 0] [9,g? 0 A7,g? 2 A7],hn 0 2 [9,g? 0 A7,g? 2 A7] [(.ret,[7,8,g? 2 A7,.x 0])]])] (A8 gK (A8 KU CM))
def kL:a? 292 [A7,i64,FT] [A7,DW] QB:=k0 [(292,[hn 0 1 [g? 0 A7,g? 2 A7,g? 3 DW] [(.ret,[g? 2 A7,g? 3 DW,.x 0])]])] (A8 kK (A8 Zm (A8 gX (A8 C6 CM))))
def jc:a? 150 [A7,(.list Tp)] [A7,(.list DW),(.list Yh)] OZ:=k0 [(150,[⟨0,4,[(8,DW)],[(2,18,i64),(2,19,Yh)],[],[],[.t 9 i64,.u 3 DW,.u 4 i64,.u 5 Yh,.g 8 3,.p 2 Q!],[(.exit 0,[.u 3 DW,.u 4 i64,.u 5 Yh,.g 8 3,.p 2 Q!])]⟩]),(225,[c? 5 [.u 4 i64,.p 2 Q!],c? 19 [.p 2 Q!]]),(266,[c? 2 [.p 2 Q!]]),(267,[c? 9 [.u 5 Yh,.p 2 Q!]]),(271,[e? 4 [9,.u 4 i64,.p 2 Q!] 0 [.u 4 i64,.p 2 Q!]])] (A8 da (A8 bE (A8 C6 (A8 dc (A8 Xb (A8 Ii (A8 KQ (A8 db (A8 gV (A8 gW (A8 kL CM)))))))))))
def Wc:b? 89 0 Am [i64,.bool] [A7] Hy:=k1 [] (A8 Bp (A8 ja (A8 Vs (A8 jc CM))))
def W9:b? 48 0 Am [i64,.bool] [A9] IU:=k1 [] (A8 Wc CM)
def kG:b? 19 0 Am [i64] [i64,Bj] Ls:=k1 [] (A8 W9 (A8 Ii (A8 KQ CM)))
def cz:b? 50 0 Am [i64] [(.list i64)] MK:=k1 [(50,[c? 6 [.u 1 i64,.g 5 1],e? 3 [6,.u 1 i64,.g 5 1,g? 0 Am] 0 [.u 1 i64,.g 5 1,g? 0 Am]])] (A8 Bp CM)
def EC:a? 37 [BF] [.bool] Cv:=k0 [(37,[f? 5 [3,4] [.t 2 .bool] 0 []])] (A8 S9 CM)
def Og:a? 90 [BF,i64] [i64,i64] FQ:=k0 [(90,[c? 3 [5]])] CM
def SP:a? 152 [i64,i64,i64,i64,i64] [.bool] IK:=k0 [] CM
def SO:a? 227 [Ai,Ai] [i64] DH:=k0 [] CM
def Jm:a? 154 [(.list Ai),Ai] [(.list Ai),.bool] Cc:=k0 [(154,[e? 2 [6] 0 [6]])] (A8 SO CM)
def IA:a? 155 [Bo] [.bool] Ef:=k0 [(155,[d? 12 [.t 2 .bool] [],f? 4 [3] [.t 2 .bool] 0 []])] (A8 SP (A8 EB (A8 EL (A8 SO CM))))
def gZ:a? 91 [(.list Ai),i64,i64,i64,i64,i64] [Bo,i64] J6:=k0 [(91,[f? 4 [14,g? 0 Bo] [13,g? 0 Bo] 0 [g? 0 Bo],e? 16 [.t 16 .bool,19] 4 [.t 16 .bool],e? 11 [.t 16 .bool,17,g? 1 Bo] 2 [.t 16 .bool,g? 1 Bo]])] (A8 SP (A8 EB (A8 EL (A8 Jm (A8 IA CM)))))
def gY:a? 157 [Bo] [.str] IJ:=k0 [] (A8 Do CM)
def S8:a? 92 [Bo] [.str,i64] G9:=k0 [(92,[e? 5 [.t 4 .str,5] 0 [.t 4 .str]])] (A8 IA (A8 gY (A8 KO (A8 S3 CM))))
def gf:a? 51 [BF,Bj,i64] [BF,i64] E7:=k0 [(51,[f? 15 [11,g? 2 BF] [7,g? 2 BF] 0 [g? 2 BF],f? 22 [13,.u 4 DU,.p 3 o?,g? 2 BF] [7,g? 2 BF,.x 3,.x 4] 2 [.u 4 DU,.p 3 o?,g? 2 BF]])] (A8 EC (A8 B8 (A8 Og (A8 gZ (A8 S8 CM)))))
def bI:a? 303 [.str,i64,i64] [i64] Ba:=k0 [] (A8 Ed CM)
def bF:a? 275 [.str] [Bo,i64] GD:=k0 [(275,[⟨0,11,[],[(1,5,Ai)],[],[],[.t 5 i64,.t 9 i64,.u 2 Ai,.p 1 [.d i64,.d i64,.d i64,.d i64,.d i64,.o 2],.p 0 [.d Bo]],[(.ret,[.t 3 i64,.p 0 [.d Bo],.x 1,.x 2]),(.exit 0,[.t 5 i64,.u 2 Ai,.p 1 [.d i64,.d i64,.d i64,.d i64,.d i64,.o 2],.p 0 [.d Bo]])]⟩])] (A8 Mq (A8 bI (A8 S2 (A8 IA CM))))
def X5:a? 276 [BF,Bo] [i64] Fz:=k0 [(276,[f? 2 [5] [4] 0 []])] (A8 Og CM)
def bJ:a? 229 [BF,DU] [Bo,i64] Da:=k0 [] (A8 bF (A8 X5 CM))
def Zn:a? 230 [Bo,i64] [Bo] Fm:=k0 [(230,[c? 8 [.u 3 Ai,.p 2 [.d i64,.d i64,.d i64,.d i64,.d i64,.o 3]],⟨0,5,[],[(2,5,Ai)],[],[],[.t 6 i64,.u 3 Ai,.p 2 [.d i64,.d i64,.d i64,.d i64,.d i64,.o 3]],[(.exit 0,[.u 3 Ai,.p 2 [.d i64,.d i64,.d i64,.d i64,.d i64,.o 3]])]⟩])] CM
def UU:a? 159 [BF] [(.list Bo),(.list i64),(.list .bool)] GW:=k0 [(159,[e? 14 [11] 4 [11],e? 9 [.t 6 (.list Bo),.t 7 (.list i64),8] 2 [.t 6 (.list Bo),.t 7 (.list i64)],e? 20 [12,13,.u 1 Bo,.u 2 i64,.u 3 .bool,.g 2 1,.g 3 2,.g 4 3] 6 [.u 1 Bo,.u 2 i64,.u 3 .bool,.g 2 1,.g 3 2,.g 4 3],⟨0,4,[(2,Bo),(3,i64),(4,.bool)],[],[],[],[.t 5 i64,.u 1 Bo,.u 2 i64,.u 3 .bool,.g 2 1,.g 3 2,.g 4 3],[(.exit 0,[.u 1 Bo,.u 2 i64,.u 3 .bool,.g 2 1,.g 3 2,.g 4 3])]⟩])] (A8 EC (A8 bJ (A8 Zn CM)))
def dd:a? 160 [(.list Bo),(.list .bool)] [Bo,.bool] Mj:=k0 [(160,[e? 8 [8,g? 1 Bo] 2 [g? 1 Bo],f? 3 [7,g? 1 Bo,g? 0 Bo] [.t 5 .bool,g? 0 Bo,.x 1] 0 [g? 1 Bo,g? 0 Bo]])] (A8 Jm (A8 IA CM))
def gg:a? 93 [BF,i64] [BF,.bool,i64] Nc:=k0 [(93,[e? 20 [.t 15 .bool,16] 4 [.t 15 .bool],c? 24 [.u 4 DU,.p 3 o?],⟨0,16,[],[(3,2,DU)],[],[],[.t 14 i64,.u 4 DU,.p 3 o?],[(.exit 2,[.u 4 DU,.p 3 o?])]⟩,f? 7 [10,g? 1 BF] [.t 5 .bool,6,g? 1 BF] 0 [g? 1 BF]])] (A8 EC (A8 UU (A8 dd (A8 S8 CM))))
def gh:a? 52 [BF,i64] [BF,i64] J7:=k0 [(52,[hn 0 1 [g? 0 BF,g? 1 BF] [(.ret,[5,g? 1 BF,.x 0])]])] (A8 gg CM)
def ac:b? 20 0 Am [i64,Bj] [BF] Px:=k1 [(20,[c? 7 [g? 3 BF],c? 11 [g? 3 BF],c? 9 [g? 0 Am,g? 3 BF],e? 3 [9,g? 0 Am,g? 3 BF] 0 [g? 0 Am,g? 3 BF],c? 15 [g? 3 BF],c? 13 [g? 3 BF]])] (A8 cz (A8 V4 (A8 Bp (A8 gf (A8 gh CM)))))
def ft:a? 53 [i64,i64] [BV] J2:=k0 [(53,[⟨0,3,[],[(1,2,E9)],[],[],[.t 6 i64,.u 2 E9,.p 1 W!],[(.exit 0,[.u 2 E9,.p 1 W!])]⟩])] (A8 UK CM)
def IB:a? 82 [BV] [.bool] Ds:=k0 [(82,[f? 4 [3] [.t 2 .bool] 0 []])] (A8 Ih CM)
def bO:a? 95 [BV] [.str,i64] Iw:=k0 [(95,[e? 7 [.t 5 .str,6] 0 [.t 5 .str]])] (A8 IB (A8 Do (A8 KO CM)))
def jR:a? 54 [BV] [DU] Kw:=k0 [] (A8 bO CM)
def UW:a? 96 [BV] [.bool] JU:=k0 [] (A8 IB CM)
def VG:a? 81 [BV,i64] [E9,.bool] IM:=k0 [(81,[f? 2 [6,g? 1 E9] [.t 5 .bool,g? 1 E9] 0 [g? 1 E9]])] (A8 IB CM)
def VH:a? 41 [BV,i64] [BE,i64] J8:=k0 [] (A8 IB (A8 VG (A8 Ih CM)))
def dh:a? 141 [BF,Bj,i64,i64,i64] [i64] Hf:=k0 [] (A8 EC (A8 B8 CM))
def gb:a? 147 [BF,i64] [i64,i64,.bool] Rp:=k0 [(147,[e? 4 [7] 0 [7]])] (A8 EC (A8 Og CM))
def gd:a? 148 [BF] [(.list Bo),(.list i64)] Rq:=k0 [] (A8 UU CM)
def RT:a? 87 [BF,Bj,i64] [Pc] Jv:=k0 [(87,[c? 8 [.u 4 Bo,.u 5 i64,.p 3 [.o 4,.o 5,.d Bj]],⟨0,5,[],[(3,0,Bo),(3,1,i64)],[],[],[.t 13 i64,.u 4 Bo,.u 5 i64,.p 3 [.o 4,.o 5,.d Bj]],[(.exit 0,[.u 4 Bo,.u 5 i64,.p 3 [.o 4,.o 5,.d Bj]])]⟩])] (A8 gb (A8 gd CM))
def UV:a? 220 [Bj,i64] [.bool] JT:=k0 [] CM
def gj:a? 217 [Pc,i64] [i64] Rs:=k0 [(217,[c? 6 [5],e? 3 [5,6] 0 [5],c? 8 [5]])] (A8 UV CM)
def Zo:a? 142 [Pc,i64,i64] [.bool] Km:=k0 [(142,[f? 1 [1] [.t 6 .bool] 0 []])] (A8 gj CM)
def bH:a? 221 [Bo,i64] [(.list Ai)] QD:=k0 [(221,[c? 8 [.u 1 Ai,.g 5 1],⟨0,5,[(5,Ai)],[],[],[],[.t 6 i64,.u 1 Ai,.g 5 1],[(.exit 0,[.u 1 Ai,.g 5 1])]⟩])] (A8 IA CM)
def Yt:a? 144 [(.list Bo),i64,i64,i64] [(.list Ai)] Ju:=k0 [(144,[c? 10 [.t 9 (.list Ai)],e? 7 [.t 9 (.list Ai),12] 2 [.t 9 (.list Ai)],e? 3 [.t 9 (.list Ai),10] 0 [.t 9 (.list Ai)]])] (A8 bH (A8 Jm CM))
def bL:a? 145 [Bj,i64,i64,i64] [(.list Ai)] QE:=k0 [(145,[c? 7 [.u 1 Ai,.g 9 1],⟨0,3,[(9,Ai)],[],[],[],[.t 10 i64,.u 1 Ai,.g 9 1],[(.exit 0,[.u 1 Ai,.g 9 1])]⟩])] (A8 EL CM)
def bK:a? 218 [(.list Bo),i64] [i64] LP:=k0 [(218,[f? 2 [5] [4] 0 []])] CM
def je:a? 219 [(.list Ai),Ai] [.bool] HI:=k0 [(219,[f? 2 [5] [.t 4 .bool] 0 []])] CM
def de:a? 143 [(.list Bo),Bj,(.list Ai),(.list Ai)] [(.list Ai),.bool] Ml:=k0 [(143,[f? 3 [.t 10 (.list Ai),11] [.t 8 (.list Ai),.t 9 .bool] 0 [.t 10 (.list Ai)],f? 9 [12] [.t 8 (.list Ai),.t 9 .bool] 2 []])] (A8 bK (A8 je (A8 Jm (A8 UV CM))))
def XF:a? 85 [BF,Bj,i64,i64,i64] [(.list Ai),i64] EK:=k0 [(85,[f? 11 [16] [.t 10 (.list Ai),11] 0 []])] (A8 dh (A8 RT (A8 Zo (A8 Yt (A8 bL (A8 de CM))))))
def gp:a? 86 [BE,(.list Ai)] [BE,i64] IN:=k0 [(86,[f? 2 [6,g? 0 BE,g? 1 BE] [5,g? 1 BE,.x 0] 0 [g? 0 BE,g? 1 BE]])] (A8 US CM)
def VI:a? 42 [BE,BF,Bj,i64] [BE,i64] Gs:=k0 [] (A8 EC (A8 B8 (A8 Hh (A8 XF (A8 gp CM)))))
def gl:a? 55 [BV,BF,Bj,i64,i64] [BV,i64] Nf:=k0 [(55,[c? 19 [g? 6 E9],⟨0,11,[],[(4,2,E9)],[],[],[.t 13 i64,.u 5 E9,.p 4 [.d i64,.d i64,.o 5],.p 3 [.d BV]],[(.ret,[.t 11 i64,.p 3 [.d BV],.x 4,.x 5]),(.exit 0,[.u 5 E9,.p 4 [.d i64,.d i64,.o 5],.p 3 [.d BV]])]⟩])] (A8 UW (A8 EC (A8 B8 (A8 VH (A8 VI (A8 Hh CM))))))
def dA:b? 21 0 Am [i64,BF,Bj] [(.list DU)] ML:=k1 [(21,[⟨2,4,[(9,DU)],[],[],[],[.x 4],[(.normal,[.u 4 DU,.g 9 4])]⟩,e? 7 [11,12,.u 4 DU,.g 9 4,g? 0 Am,g? 3 BV] 0 [.u 4 DU,.g 9 4,g? 0 Am,g? 3 BV]])] (A8 ft (A8 Bp (A8 jR (A8 gl CM))))
def jU:a? 22 [Bj,i64] [Bj,i64] Ky:=k0 [] (A8 B8 (A8 Gy CM))
def XB:b? 57 0 Am [.str] [.str] GY:=k1 [] (A8 Bp CM)
def c7:b? 23 0 Am [(.list DU)] [(.list DU)] EF:=k1 [] (A8 Bp (A8 XB CM))
def cy:b? 6 0 Am [] [i64,BF,Bj,Bj,(.list DU)] MJ:=k1 [(6,[c? 6 [g? 0 Am,g? 2 Bj],c? 8 [g? 0 Am,g? 1 BF],c? 10 [.t 6 (.list DU),g? 0 Am]])] (A8 kG (A8 ac (A8 dA (A8 Bp (A8 jU (A8 c7 CM))))))
def bP:a? 213 [.str,i64,i64] [i64] Ba:=k0 [] (A8 Ed CM)
def bM:a? 135 [.str] [BV,i64] C9:=k0 [(135,[⟨0,11,[],[(1,2,E9)],[],[],[.t 5 i64,.t 9 i64,.u 2 E9,.p 1 W!,.p 0 [.d BV]],[(.ret,[.t 3 i64,.p 0 [.d BV],.x 1,.x 2]),(.exit 0,[.t 5 i64,.u 2 E9,.p 1 W!,.p 0 [.d BV]])]⟩])] (A8 Mq (A8 bP (A8 Ih (A8 IB CM))))
def TA:a? 80 [(.list DU)] [(.list BV)] HA:=k0 [(80,[e? 7 [.t 5 .bool,6] 2 [.t 5 .bool],e? 14 [9] 4 [9],e? 3 [.t 3 (.list BV),4] 0 [.t 3 (.list BV)]])] (A8 bM (A8 UW CM))
def U5:b? 58 0 Am [FU] [FU] G1:=k1 [(58,[c? 9 [g? 0 Am,g? 1 FU],c? 7 [g? 0 Am,g? 1 FU],c? 5 [g? 0 Am,g? 1 FU],c? 3 [g? 0 Am,g? 1 FU]])] (A8 Bp (A8 Ig (A8 K3 CM)))
def Vr:b? 25 0 Am [Ai] [Ai] HO:=k1 [(25,[c? 19 [g? 0 Am,g? 1 Ai],c? 17 [g? 0 Am,g? 1 Ai],c? 15 [g? 0 Am,g? 1 Ai],c? 13 [g? 0 Am,g? 1 Ai],c? 11 [g? 0 Am,g? 1 Ai],c? 9 [g? 0 Am,g? 1 Ai],c? 7 [g? 0 Am,g? 1 Ai],c? 5 [g? 0 Am,g? 1 Ai],c? 3 [g? 0 Am,g? 1 Ai]])] (A8 Bp (A8 Ig (A8 U5 (A8 K3 CM))))
def XA:b? 7 0 Am [Bj] [Bj] IV:=k1 [(7,[c? 14 [.u 3 Ai,g? 0 Am,.p 1 [.d i64,.o 3,.d i64]],c? 12 [.u 3 Ai,g? 0 Am,.p 1 [.d i64,.o 3,.d i64]],c? 10 [.u 3 Ai,g? 0 Am,.p 1 [.d i64,.o 3,.d i64]],c? 8 [.u 3 Ai,g? 0 Am,.p 1 [.d i64,.o 3,.d i64]]])] (A8 Ig (A8 Bp (A8 Vr CM)))
def gq:a? 40 [(.list DU),i64] [BV,.bool] Ng:=k0 [(40,[f? 3 [7,g? 0 BV] [.t 5 .bool,g? 0 BV] 0 [g? 0 BV]])] (A8 TA CM)
def jd:a? 88 [(.list i64),i64] [(.list i64)] Sw:=k0 [(88,[e? 2 [5] 0 [5]])] CM
def gi:a? 43 [BF,Bj,i64,i64,i64] [(.list i64),i64,i64,i64] IL:=k0 [(43,[c? 7 [11,12],c? 15 [.t 21 .bool],c? 17 [.t 10 (.list i64)],e? 9 [.t 10 (.list i64),17] 0 [.t 10 (.list i64)]])] (A8 XF (A8 RT (A8 jd CM)))
def Ms:a? 10 [(.list DU),BF,Bj,i64,i64] [BE,Ic,i64] Fo:=k0 [(10,[⟨0,9,[],[],[4],[],[.t 14 i64,.p 2 [.d BE],.p 3 [.d Ic]],[(.ret,[.t 12 i64,.p 2 [.d BE],.p 3 [.d Ic]]),(.exit 0,[.p 2 [.d BE],.p 3 [.d Ic]])]⟩]),(39,[e? 9 [12] 2 [12],⟨0,4,[(8,Dj)],[],[],[],[.t 9 i64,.u 4 Dj,.g 8 4],[(.exit 0,[.u 4 Dj,.g 8 4])]⟩])] (A8 EC (A8 B8 (A8 Qk (A8 gq (A8 VH (A8 VI (A8 gi (A8 TA (A8 VG (A8 AF7 CM))))))))))
def ga:a? 44 [(.list i64),(.list i64)] [.bool] Nb:=k0 [(44,[f? 4 [5] [.t 4 .bool] 0 []])] CM
def Yu:a? 11 [Ic,Ic] [.bool] Hn:=k0 [] (A8 ga CM)
def qL:a? 12 [(.list DU),BF,Bj,i64,i64] [BE,Ic,i64] Vj:=k0 [] (A8 Pq CM)
def di:a? 13 [(.list DU),BF,Bj,i64,i64] [BE,Ic,i64] Mm:=k0 [] (A8 Ms CM)
def dj:a? 15 [(.list DU),BF,Bj,i64] [i64] Qs:=k0 [(15,[f? 4 [9] [8] 0 []])] (A8 EC (A8 B8 (A8 Ii (A8 Ms CM))))
def XC:a? 3 [(.list (.int .u8)),i64,i64] [.bool] K7:=k0 [(3,[c? 13 [16,17],f? 19 [104,g? 5 BE,g? 6 Ic] [.t 6 .bool,.x 5,.x 6] 4 [g? 5 BE,g? 6 Ic],f? 9 [15,g? 0 Am] [.t 6 .bool,.x 0] 2 [g? 0 Am],f? 6 [48,g? 0 Am] [.t 6 .bool,.x 0] 0 [g? 0 Am]]),(5,[c? 2 [.t 0 (.list (.int .u8))]])] (A8 cw (A8 cy (A8 XA (A8 Bp (A8 Pq (A8 Ms (A8 Yu (A8 qL (A8 di (A8 dm (A8 dj CM)))))))))))
end Go.Proofs.YtkgodfhnofpglaaGreat
