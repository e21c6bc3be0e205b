/- Parts of the proof; nothing is assumed. -/
import Derived.Test.YtdbincbpjobdpaaGreatK5
noncomputable section
set_option linter.all false
open Option renaming some->Z
open List renaming length->W
open Go renaming Ψ->S
open Bool renaming false->X
open Bool renaming true->E
open Option renaming none->D
open Go renaming Ω->V
open Option renaming some->δ,none->ε
open Bool renaming true->ζ,false->η
open List renaming length->θ
open Go.IntKind renaming wrap->ι
open BitVec renaming ofInt->κ,toNat->π
open Sum renaming elim->ν
open Nat renaming beq->ξ
open Int renaming toNat->ο
open Decidable renaming decide->τ
open _root_ renaming cond->z,Int->y,Bool->u,List->v,Unit->t
open Go.Ab renaming len->Y
namespace Go.Pm
open Go Go.Ab
set_option maxRecDepth 100000
noncomputable section
abbrev Cy:Type:=y×y×Bd
def Ev:Ty:=.prod (z? (z? (.one .str)))
abbrev Aq:Type:=y×y×(v Cy)
def BX:Ty:=.prod (z? (z? (.one (.list Ev))))
abbrev OM:Type:=Bd
def Yn:Ty:=.prod (.one .str)
def VW(x:y×y):V (y×y):=letI d:=κ 64 4294967295;letI c:=(π ((κ 64 x.1)&&&d));letI b:=(π ((κ 64 x.2)&&&d));letI a:=(2^(min (ο 32) 64));letI f:=Int.fdiv x.2 a;letI e:=Int.fdiv x.1 a;Z ((ι .u64 ((ι .u64 ((ι .u64 (e*f))+(Int.fdiv (ι .u64 ((ι .u64 (e*(ι .u64 ((b:Nat):y))))+(Int.fdiv (ι .u64 ((ι .u64 ((c:Nat):y))*(ι .u64 ((b:Nat):y)))) a))) a)))+(Int.fdiv (ι .u64 ((ι .u64 (((π ((κ 64 (ι .u64 ((ι .u64 (e*(ι .u64 ((b:Nat):y))))+(Int.fdiv (ι .u64 ((ι .u64 ((c:Nat):y))*(ι .u64 ((b:Nat):y)))) a))))&&&d)):Nat):y))+(ι .u64 ((ι .u64 ((c:Nat):y))*f)))) a))),ι .u64 (x.1*x.2))
def Xq(x:y×y):V (y×y):=(VW x).bind λa=>Z a
end
noncomputable section
def YE(x:t):V Bd:=(LN (([0]:S (UInt8)),256)).bind λa=>Z a
def HQ(x:Bd×y×y):V y:=(B0 x).bind λa=>Z a.1
def lM(x:Bd):Lp (y×AS×AS) ((u×AS)⊕(AS×AS)):=λa=>letI j:=a.2.1.2;letI i:=(wi (12+wi (a.1*13)));bif a.1<16 then(HQ (x,i,1)).bind λb=>(z (b==255) (Z (.inl a.2))<|z (b>12) (Z (.inr (X,0,0,GK.all (X,[]))))<|(R4 x (wi (i+1)) (wi ((wi (i+1))+b))).bind λc=>(G2 j.2 a.1).bind λd=>(G2 j.2 a.1).bind λe=>Z (.inl ((a.2.1.1,j.1,Xi j.2 a.1 (E,c)),a.2.2)):V ((AS×AS)⊕(u×AS))).bind λf=>ν (λg=>Z (.next (wi (a.1+1),g))) (λh=>Z (.done (.inl h))) f else Z (.done (.inr a.2))
def XN(x:Bd):V (AS×u):=(HQ (x,8,4)).bind λa=>(HQ (x,0,8)).bind λb=>(Ai (lM x) (0,(a,b,GK.all (X,[])),0,0,GK.all (X,[]))).bind λc=>ν (λd=>Z (d.2,d.1)) (λe=>Z (e.1,E)) c
def W7(x:AS):V u:=(IP x.1).bind λa=>z a (z (x.2.1>=0) (Z (τ (x.2.1<=1099511627776)))<|Z X)<|Z X
def jT(x:AS):Lp y (u⊕t):=λa=>letI c:=wi (a+1);bif a<16 then(G2 x.2.2 a).bind λb=>z (Y b.2>12) q?<|z (!b.1) (z (b.2 !=[]) q?<|z b.1 (z (x.2.1==0) q?<|Z (.next c))<|Z (.next c))<|z b.1 (z (x.2.1==0) q?<|Z (.next c))<|Z (.next c)else w?
def VX(x:AS):V u:=(Ai (jT x) 0).bind λa=>ν Z (λb=>Z E) a
def Km(b:OM)(x:Cj):V OM:=(z x.1 (Z (Y x.2))<|Z 255:V y).bind λa=>(O8 (b,a,1)).bind λc=>(sapp c x.2).bind λd=>(LN (([0]:S (UInt8)),wi (12-Y x.2))).bind λe=>(sapp d e).bind λf=>Z f
def eS(x:AS):Lp (y×OM) OM:=λa=>z (a.1<16) ((G2 x.2.2 a.1).bind λb=>(Km a.2 b).bind λc=>Z (.next (wi (a.1+1),c)))<|Z (.done a.2)
def Nd(x:AS):V (Bd×y):=(W7 x).bind λa=>z (!a) (Z ([],1))<|(VX x).bind λb=>z (!b) (Z ([],22))<|(O8 ([],x.2.1,8)).bind λc=>(O8 (c,x.1,4)).bind λd=>(Ai (eS x) (0,d)).bind λe=>(LN (([0]:S (UInt8)),wi (244-Y e))).bind λf=>(sapp e f).bind λg=>(O9 g).bind λh=>(O8 (g,wi h,4)).bind λi=>(O8 (i,x.2.1,8)).bind λj=>Z (j,0)
def QP(x:Bd):V (AS×y):=z (Y x !=256) (Z (p!,2))<|(YE ()).bind λa=>z (x==a) (Z (p!,7))<|(R4 x 0 8).bind λb=>(R4 x 248 (Y x)).bind λc=>z (b !=c) (Z (p!,27))<|(R4 x 0 244).bind λd=>(HQ (x,244,4)).bind λe=>(O9 d).bind λf=>z (e !=wi f) (Z (p!,3))<|(XN x).bind λg=>(Nd g.1).bind λh=>z (!g.2) (Z (p!,4))<|z (h.2 !=0) (Z (p!,4))<|z (h.1 !=x) (Z (p!,4))<|Z (g.1,0)
def Gd(x:Bd×y):V (AS×y):=(IP x.2).bind λa=>z (!a) (Z (p!,1))<|(QP x.1).bind λb=>z (b.2==7) ((C6 x.2).bind λc=>Z (c,0))<|z (b.2 !=0) (Z (p!,b.2))<|z (b.1.1 !=x.2) (Z (p!,6))<|Z (b.1,0)
def eQ(x:Aq):Lp y (u⊕t):=λa=>bif a<Y x.2.2 then(ix x.2.2 a).bind λb=>letI f:=Gd (b.2.2,b.1);bif b.1>=x.2.1 then q? else z (a>0) ((ix x.2.2 (wi (a-1))).bind λc=>z (c.1>=b.1) q?<|f.bind λd=>z (d.2 !=0) q?<|z (d.1.2.1 !=b.2.1) q?<|Z (.next (wi (a+1))))<|f.bind λe=>z (e.2 !=0) q?<|z (e.1.2.1 !=b.2.1) q?<|Z (.next (wi (a+1)))else w?
def LF(x:Aq):V u:=z (x.1<1) (Z X)<|z (x.1>1073741824) (Z X)<|z (x.2.1<1) (Z X)<|z (x.2.1>64) (Z X)<|z (Y x.2.2>x.2.1) (Z X)<|(Ai (eQ x) 0).bind λa=>ν Z (λb=>Z E) a
def W6(x:Aq):V u:=(LF x).bind λa=>z a (Z (Y x.2.2==x.2.1))<|Z X
def Qx(x:AJ×Ac):V y:=(Gk x.1).bind λa=>z (!a) (Z 54)<|(Ip x.2).bind λb=>z (!b) (Z 26)<|Z 0
def VQ(x:AS×Dw):V (AS×y):=letI g:=x.2.2;letI f:=G2 x.1.2.2 g.1;(OW x.2).bind λa=>z (!a) (Z (p!,22))<|z (x.2.1 !=x.1.1) (Z (p!,6))<|f.bind λb=>f.bind λc=>z (!(c.1==g.2.1.1&&(c.2==g.2.1.2&&E))) (Z (p!,20))<|f.bind λd=>f.bind λe=>Z ((x.1.1,x.1.2.1,Xi x.1.2.2 g.1 g.2.2),0)
def Vi(x:AS×AE):V (AS×y):=letI e:=x.2.2.2.2.2;(Gb x.2).bind λa=>z (!a) (Z (p!,12))<|(BE x.2).bind λb=>z (!b) (Z (p!,12))<|(Nd x.1).bind λc=>z (c.2 !=0) (Z (p!,c.2))<|z (e.2.2.1.1 !=x.1.1) (Z (p!,6))<|z (e.1 !=x.1.2.1) (Z (p!,13))<|(VQ (x.1,e.2.2.1)).bind λd=>z (d.2 !=0) (Z (p!,d.2))<|Z ((d.1.1,x.2.1,d.1.2.2),0)
def aY(x:AS×S AE):Lp (y×AS×AS) ((y×AS)⊕(AS×AS)):=λa=>z (a.1<Y x.2) ((ix x.2 a.1).bind λb=>z (b.1<=a.2.1.2.1) (Z (.next (wi (a.1+1),a.2)))<|(Vi (a.2.1,b)).bind λc=>z (c.2 !=0) (Z (.done (.inl (c.2,0,0,GK.all (X,[])))))<|Z (.next (wi (a.1+1),c.1,a.2.2)))<|Z (.done (.inr a.2))
def Ie(x:AS×S AE):V (AS×y):=(Ai (aY x) (0,x.1,0,0,GK.all (X,[]))).bind λa=>ν (λb=>Z (b.2,b.1)) (λc=>Z (c.1,0)) a
def J7(x:AS×AJ×Ac×y):V (AS×y):=letI e:=x.2.2;(Qx (x.2.1,e.1)).bind λa=>z (a !=0) (Z (p!,a))<|(Nd x.1).bind λb=>z (b.2 !=0) (Z (p!,b.2))<|z (x.1.2.1>e.2) (Z (p!,9))<|(Hd (x.2.1,e.1,x.1.1,x.1.2.1,e.2)).bind λc=>z (c.2 !=0) (Z (p!,c.2))<|(Ie (x.1,c.1)).bind λd=>Z d
def UZ(x:y×y):Lp (y×S Cy×y×y) (S Cy×y×y):=λa=>z (a.1<x.2) ((I7 ()).bind λb=>(app a.2.1 [(a.1,0,b)]).bind λc=>Z (.next (wi (a.1+1),c,a.2.2)))<|Z (.done a.2)
def Jz(x:y×y):V Aq:=(Ai (UZ x) (0,[],x)).bind λa=>Z (a.2.1,a.2.2,a.1)
end
noncomputable section
abbrev Gf:Type:=S AQ×S y×Ac
def PH:Ty:=.prod (.cons (.list Bp) (.cons (.list (.int .i64)) (.one Bl)))
def TX(x:Aq):Lp y (u⊕t):=λa=>bif a<Y x.2.2 then(ix x.2.2 a).bind λb=>letI f:=Co (b.2.2,b.1);bif b.1<0 then q? else z (b.1>=x.2.1) q?<|z (a>0) ((ix x.2.2 (wi (a-1))).bind λc=>z (c.1>=b.1) q?<|f.bind λd=>z (d.2 !=0) q?<|z (d.1.2.1 !=b.2.1) q?<|Z (.next (wi (a+1))))<|f.bind λe=>z (e.2 !=0) q?<|z (e.1.2.1 !=b.2.1) q?<|Z (.next (wi (a+1)))else w?
def ET(x:Aq):V u:=z (x.1<1) (Z X)<|z (x.1>1073741824) (Z X)<|z (x.2.1<1) (Z X)<|z (x.2.1>64) (Z X)<|(Ai (TX x) 0).bind λa=>ν Z (λb=>Z E) a
def Sa(x:Aq):Lp (Bd×y) Bd:=λa=>letI h:=ix x.2.2 a.2;bif a.2<Y x.2.2 then h.bind λb=>h.bind λc=>(Ao ([],b.1,2)).bind λd=>(sapp d c.2.2).bind λe=>(Dj e).bind λf=>(sapp a.1 f).bind λg=>Z (.next (g,wi (a.2+1)))else Z (.done a.1)
def Ic(x:Aq):V (Bd×y):=(ET x).bind λa=>z (!a) (Z ([],43))<|(Ao (([80,77,73,77]:S (UInt8)),x.1,4)).bind λb=>(Ao (b,x.2.1,2)).bind λc=>(Ao (c,Y x.2.2,2)).bind λd=>(Dj d).bind λe=>(Ai (Sa x) (e,0)).bind λf=>Z (f,0)
def Kn(x:Aq):V Am:=(Ic x).bind λa=>Z (2,x.1,a.1)
def JJ(x:Aq):V u:=(ET x).bind λa=>z a (Z (Y x.2.2==x.2.1))<|Z X
def Ut(x:Aq×y):Lp (y×Cy) ((u×Cy)⊕Cy):=λa=>letI e:=ix x.1.2.2 a.1;bif a.1<Y x.1.2.2 then(ET x.1).bind λb=>z b (e.bind λc=>z (c.1==x.2) (e.bind λd=>Z (.done (.inl (E,d))))<|Z (.next (wi (a.1+1),a.2)))<|Z (.done (.inr a.2))else Z (.done (.inr a.2))
def H7(x:Aq×y):V (Cy×u):=(Ai (Ut x) (0,0,0,[])).bind λa=>ν (λb=>Z (b.2,b.1)) (λc=>Z ((0,0,[]),X)) a
def J5(x:Aq×y):V (AS×y):=(ET x.1).bind λa=>z (!a) (Z (p!,43))<|(H7 x).bind λb=>z (!b.2) (Z (p!,44))<|(Co (b.1.2.2,x.2)).bind λc=>Z c
def JI(x:AJ×Ac×y×y×y):V y:=letI c:=x.2.2;(Cv x.1).bind λa=>z (!a) (Z 54)<|(B7 x.2.1).bind λb=>z (!b) (Z 26)<|z (c.1<0) (Z 1)<|z (c.1>=x.1.2.1) (Z 1)<|z (c.2.1<0) (Z 1)<|z (c.2.1>c.2.2) (Z 1)<|Z 0
def Um(x:AJ×y):Lp y y:=λa=>z (wi (a+1)<Y x.1.1) ((ix x.1.1 (wi (a+1))).bind λb=>z (b<=x.2) (Z (.next (wi (a+1))))<|Z (.done a))<|Z (.done a)
def Re(x:AJ×y):V (y×y×u):=(Cv x.1).bind λa=>z (!a) (Z (0,0,X))<|z (x.2<0) (Z (0,0,X))<|z (x.2>=x.1.2.1) (Z (0,0,X))<|(Ai (Um x) 0).bind λb=>(FA (x.1,b)).bind λc=>Z (c.1,c.2,E)
def Rf(x:AJ):V (S AQ×S y):=(GF x).bind λa=>Z (a.1,a.2.1)
def Qv(a:y×y×u)(b:S AQ×S y):Lp (y×S AQ×S y×Ac) (S AQ×S y×Ac):=λc=>z (c.1<Y b.1) ((ix b.1 c.1).bind λd=>(z (d.2.2.1==a.1) ((ix b.1 c.1).bind λe=>(ix b.2 c.1).bind λf=>(app c.2.1 [e]).bind λg=>(app c.2.2.1 [f]).bind λh=>Z (g,h,c.2.2.2))<|Z c.2).bind λi=>Z (.next (wi (c.1+1),i)))<|Z (.done c.2)
def Ju(x:AJ×Ac×y):V Gf:=(Re (x.1,x.2.2)).bind λa=>(Rf x.1).bind λb=>(Ai (Qv a b) (0,[],[],x.2.1)).bind λc=>Z c
def JH(x:Ac×y):V u:=z (x.2>=x.1.1) (Z (τ (x.2<(wi (x.1.1+Y x.1.2.1)))))<|Z X
def Us(x:Gf×y):Lp (y×y) y:=λa=>letI f:=ix x.1.1 a.2;bif a.2<Y x.1.1 then f.bind λb=>z (b.1<=x.2) (f.bind λc=>(z (x.2<=c.2.1) (f.bind λd=>Z (if(d.2.1>a.1)then d.2.1 else a.1))<|Z a.1).bind λe=>Z (.next (e,wi (a.2+1))))<|Z (.next (a.1,wi (a.2+1)))else Z (.done a.1)
def Rh(x:Gf×y):V y:=letI e:=x.1.2.2;letI d:=(wi ((wi (e.1+Y e.2.1))-1));(Ai (Us x) (wi (x.2-1),0)).bind λa=>(JH (e,x.2)).bind λb=>(z b (Z (if(d>a)then d else a))<|Z a).bind λc=>Z c
def Lh(x:Gf×y×y):Lp y (u⊕t):=λa=>z (a<x.2.2) ((Rh (x.1,wi (a+1))).bind λb=>z (b==a) q?<|Z (.next b))<|w?
def Kb(x:Gf×y×y):V u:=(Ai (Lh x) x.2.1).bind λa=>ν Z (λb=>Z E) a
def SU(x:AQ×y):Lp (y×S AE) (S AE):=letI f:=x.1.2.2.2.2.2;λa=>z (a.1<Y f) ((ix f a.1).bind λb=>(z (b.2.2.2.2.2.2.1.1==x.2) ((ix f a.1).bind λc=>(app a.2 [c]).bind λd=>Z d)<|Z a.2).bind λe=>Z (.next (wi (a.1+1),e)))<|Z (.done a.2)
def Pt(x:AQ×y):V (S AE):=(ES x.1).bind λa=>z (!a) (Z [])<|(Ai (SU x) (0,[])).bind λb=>Z b
def LB(x:S AQ×y×y×y)(a:S AE):Lp (S AE×y) (S AE):=λb=>letI h:=ix a b.2;bif b.2<Y a then h.bind λc=>z (c.1>x.2.2.1) (h.bind λd=>(z (d.1<=x.2.2.2) (h.bind λe=>(Cf (b.1,e)).bind λf=>Z f.1)<|Z b.1).bind λg=>Z (.next (g,wi (b.2+1))))<|Z (.next (b.1,wi (b.2+1)))else Z (.done b.1)
def LA(x:S AQ×y×y×y):Lp (S AE×y) (S AE):=λa=>z (a.2<Y x.1) ((ix x.1 a.2).bind λb=>(Pt (b,x.2.1)).bind λc=>(Ai (LB x c) (a.1,0)).bind λd=>Z (.next (d,wi (a.2+1))))<|Z (.done a.1)
def Jt(x:S AQ×y×y×y):V (S AE):=(Ai (LA x) ([],0)).bind λa=>Z a
def SY(x:Ac×y×y×y):Lp (y×S AE) (S AE):=λa=>letI f:=(wi (a.1+1),a.2);bif a.1<Y x.1.2.1 then(ix x.1.2.1 a.1).bind λb=>(BE b).bind λc=>z c (z (b.2.2.2.2.2.2.1.1==x.2.1) (z (b.1>x.2.2.1) ((z (b.1<=x.2.2.2) ((app a.2 [b]).bind λd=>Z d)<|Z a.2).bind λe=>Z (.next (wi (a.1+1),e)))<|Z (.next f))<|Z (.next f))<|Z (.next f)else Z (.done a.2)
def Pv(x:Ac×y×y×y):V (S AE):=(Ai (SY x) (0,[])).bind λa=>Z a
def Mq(x:S AQ×y):Lp y (y⊕t):=λa=>z (a<Y x.1) ((ix x.1 a).bind λb=>z (b.1<=x.2) ((ix x.1 a).bind λc=>z (x.2<=c.2.1) (Z (.done (.inl a)))<|Z (.next (wi (a+1))))<|Z (.next (wi (a+1))))<|w?
def LC(x:S AQ×y):V y:=(Ai (Mq x) 0).bind λa=>ν Z (λb=>Z (-1)) a
def Pu(x:S AE×AE):Lp y (u⊕t):=letI f:=x.2.2.2;letI c:=f.2.2.2;letI e:=c.2.1.2;λa=>bif a<Y x.1 then(ix x.1 a).bind λb=>letI g:=b.2.2.2;letI d:=g.2.2.2;letI h:=d.1.2.2;bif b.1==x.2.1&&(b.2.1==x.2.2.1&&(b.2.2.1==f.1&&(g.1==f.2.1&&(g.2.1==f.2.2.1&&(g.2.2.1==c.1&&(d.1.1==c.2.1.1&&(d.1.2.1==e.1&&(h.1.1==e.2.1.1&&(h.1.2==e.2.1.2&&(h.2.1==e.2.2.1&&(h.2.2==e.2.2.2&&(d.2==c.2.2&&E))))))))))))then j? else Z (.next (wi (a+1)))else w?
def Im(x:S AE×AE):V u:=(Ai (Pu x) 0).bind λa=>ν Z (λb=>Z X) a
def N4(x:S AQ×Ac×S AE×S AE):Lp (S AE×y) ((S AE×u)⊕(S AE)):=λa=>letI j:=ix x.2.2.2 a.2;bif a.2<Y x.2.2.2 then j.bind λb=>(LC (x.1,b.1)).bind λc=>z (c>=0) (j.bind λd=>(Im (x.2.2.1,d)).bind λe=>z (!e) (Z (.done (.inl ([],X))))<|j.bind λf=>(Cf (a.1,f)).bind λg=>Z (.next (g.1,wi (a.2+1))))<|j.bind λh=>(Cf (a.1,h)).bind λi=>Z (.next (i.1,wi (a.2+1)))else Z (.done (.inr a.1))
def N5(x:S AQ×Ac×S AE×S AE):Lp y ((S AE×u)⊕t):=λa=>letI f:=ix x.2.2.1 a;bif a<Y x.2.2.1 then f.bind λb=>(JH (x.2.1,b.1)).bind λc=>z c (f.bind λd=>(Im (x.2.2.2,d)).bind λe=>z (!e) (Z (.done (.inl ([],X))))<|Z (.next (wi (a+1))))<|Z (.next (wi (a+1)))else w?
def MQ(x:S AQ×Ac×S AE×S AE):V (S AE×u):=(app [] x.2.2.1).bind λa=>(Ai (N4 x) (a,0)).bind λb=>ν Z (λc=>(Ai (N5 x) 0).bind λd=>ν Z (λe=>Z (c,E)) d) b
def Qd(x:AJ×Ac×y×y×y)(a:S AE×u):Lp y ((S AE×y)⊕t):=λb=>letI j:=(ix a.1 (wi (b-1)));letI i:=ix a.1 b;letI h:=wi (b+1);bif b<Y a.1 then z (b==0) (i.bind λc=>z (c.2.2.2.2.1>x.2.2.2.1) (Z (.done (.inl ([],13))))<|z (b>0) (i.bind λd=>j.bind λe=>z (d.2.2.2.2.1 !=e.1) (Z (.done (.inl ([],13))))<|Z (.next h))<|Z (.next h))<|z (b>0) (i.bind λf=>j.bind λg=>z (f.2.2.2.2.1 !=g.1) (Z (.done (.inl ([],13))))<|Z (.next h))<|Z (.next h)else w?
def Ft(x:AJ×Ac×y×y×y):V (S AE×y):=(JI x).bind λa=>z (a !=0) (Z ([],a))<|(Ju (x.1,x.2.1,x.2.2.1)).bind λb=>(Kb (b,x.2.2.2)).bind λc=>z (!c) (Z ([],42))<|(Jt (b.1,x.2.2)).bind λd=>(Pv x.2).bind λe=>(MQ (b.1,x.2.1,d,e)).bind λf=>z (!f.2) (Z ([],41))<|(Ai (Qd x f) 0).bind λg=>ν Z (λh=>Z (f.1,0)) g
def Uv(x:AS×S AE):Lp (y×AS×AS) ((y×AS)⊕(AS×AS)):=λa=>z (a.1<Y x.2) ((ix x.2 a.1).bind λb=>z (b.1<=a.2.1.2.1) (Z (.next (wi (a.1+1),a.2)))<|(ix x.2 a.1).bind λc=>(JG (a.2.1,c)).bind λd=>z (d.2 !=0) (Z (.done (.inl (d.2,0,0,GK.all (X,[])))))<|Z (.next (wi (a.1+1),d.1,a.2.2)))<|Z (.done (.inr a.2))
def NM(x:AS×S AE):V (AS×y):=(Ai (Uv x) (0,x.1,0,0,GK.all (X,[]))).bind λa=>ν (λb=>Z (b.2,b.1)) (λc=>Z (c.1,0)) a
def H8(x:AS×AJ×Ac×y):V (AS×y):=letI f:=x.2.2;(Cv x.2.1).bind λa=>z (!a) (Z (p!,54))<|(B7 f.1).bind λb=>z (!b) (Z (p!,26))<|(DQ x.1).bind λc=>z (c.2 !=0) (Z (p!,c.2))<|z (x.1.2.1>f.2) (Z (p!,9))<|(Ft (x.2.1,f.1,x.1.1,x.1.2.1,f.2)).bind λd=>z (d.2 !=0) (Z (p!,d.2))<|(NM (x.1,d.1)).bind λe=>Z e
def Uu(x:Aq×AJ×Ac×y×y):Lp (y×S Cy×y×y×Aq) ((y×Aq)⊕(S Cy×y×y×Aq)):=λa=>z (a.1<Y x.1.2.2) ((ix x.1.2.2 a.1).bind λb=>(J5 (x.1,b.1)).bind λc=>(H8 (c.1,x.2.1,x.2.2.1,x.2.2.2.2)).bind λd=>z (d.2 !=0) (Z (.done (.inl (d.2,0,0,[]))))<|(z (d.1.2.1>0) ((DQ d.1).bind λe=>Z (d.1.1,d.1.2.1,e.1))<|Z b).bind λf=>(app a.2.1 [f]).bind λg=>Z (.next (wi (a.1+1),g,a.2.2)))<|Z (.done (.inr a.2))
def NK(x:Aq×AJ×Ac×y×y):V (Aq×y):=letI g:=x.2.2;(JJ x.1).bind λa=>z (!a) (Z ((0,0,[]),43))<|(Cv x.2.1).bind λb=>z (!b) (Z ((0,0,[]),54))<|(B7 g.1).bind λc=>z (!c) (Z ((0,0,[]),26))<|z (g.2.1<1) (Z ((0,0,[]),1))<|z (g.2.1>1073741824) (Z ((0,0,[]),1))<|z (g.2.2<0) (Z ((0,0,[]),1))<|z (g.2.2>g.1.2.2) (Z ((0,0,[]),1))<|(Ai (Uu x) (0,[],g.2.1,x.1.2.1,0,0,[])).bind λd=>ν (λe=>Z (e.2,e.1)) (λf=>Z ((f.2.1,f.2.2.1,f.1),0)) d
def TD(x:y×AJ×Ac):Lp (y×y×S Am×AT×Aq) (S Am×AT×Aq):=λa=>letI g:=a.2.2;(Af g.2.1 3).bind λb=>z (a.2.1<wi (2+b.1)) ((Af b.2 (wi (wi (x.2.2.2.2-a.1)+1))).bind λc=>(NK (g.2.2,x.2.1,x.2.2,a.2.1,wi (a.1+c.1))).bind λd=>z (d.2 !=0) (Z (.done (g.1,c.2,g.2.2)))<|(Kn d.1).bind λe=>(app g.1 [e]).bind λf=>Z (.next (wi (a.1+c.1),wi (a.2.1+1),f,c.2,d.1)))<|Z (.done (g.1,b.2,g.2.2))
def Ly(b:AT)(x:y×AJ×Ac):V (S Am×AT):=(Jz (1,x.1)).bind λa=>(Af b 3).bind λc=>(z (c.1>0) ((Kn a).bind λd=>Z ([]++([d]:S (y×y×Bd))))<|Z []:V (S Am)).bind λe=>(Ai (TD x) (0,2,e,c.2,a)).bind λf=>Z (f.1,f.2.1)
def SZ(x:Bd)(a:y):Lp (y×y×S Cy×y×y×Aq) ((y×Aq)⊕(y×S Cy×y×y×Aq)):=λb=>z (b.2.1<a) ((Bk (x,b.1)).bind λc=>z (c.2.2 !=0) (Z (.done (.inl (c.2.2,0,0,[]))))<|z (Y c.1 !=258) (Z (.done (.inl (4,0,0,[]))))<|(R4 c.1 2 (Y c.1)).bind λd=>(Bg (c.1,0,2)).bind λe=>(Co (d,e)).bind λf=>(app b.2.2.1 [(e,f.1.2.1,d)]).bind λg=>Z (.next (c.2.1,wi (b.2.1+1),g,b.2.2.2)))<|Z (.done (.inr (b.1,b.2.2)))
def Fu(x:Bd):Option (Aq×y):=(Bk (x,0)).bind λa=>z (a.2.2 !=0) (some ((0,0,[]),a.2.2))<|z (Y a.1 !=12) (some ((0,0,[]),4))<|(R4 a.1 0 4).bind λb=>z (b !=([80,77,73,77]:v (UInt8))) (some ((0,0,[]),4))<|(Bg (a.1,4,4)).bind λc=>(Bg (a.1,8,2)).bind λd=>(Bg (a.1,10,2)).bind λe=>z (e>64) (some ((0,0,[]),4))<|(Ai (SZ x e) (a.2.1,0,[],c,d,0,0,[])).bind λf=>Sum.elim (λg=>some (g.2,g.1)) (λh=>letI j:=(h.2.2.1,h.2.2.2.1,h.2.1);bif h.1 !=Y x then some ((0,0,[]),4)else(ET j).bind λi=>z (!i) (some ((0,0,[]),43))<|some (j,0)) f
def Sc(x:v Am)(a:(v Aq)×y):Lp (u×y) u:=λb=>letI f:=(wi (b.2+1));bif b.2<a.2 then z b.1 ((ix x b.2).bind λc=>z (c.1 !=2) (some (.next (true,f)))<|(ix x b.2).bind λd=>(ix x a.2).bind λe=>some (.next ((d.2.1 !=e.2.1),f)))<|some (.next (false,f))else some (.done b.1)
def Sd(a:(v Aq)×y)(b:Aq×y):Lp y y:=λc=>z (c>0) ((ix a.1 (wi (c-1))).bind λd=>z (d.1>b.1.1) (some (.next (wi (c-1))))<|some (.done c))<|some (.done c)
def Sb(x:v Am):Lp ((v Aq)×y) (v Aq):=λa=>letI o:=(ix x a.2);letI l:=(a.1,(wi (a.2+1)));bif a.2<Y x then o.bind λb=>(Ai (Sc x a) ((b.1==2),0)).bind λc=>z (!c) (some (.next l))<|o.bind λd=>(Fu d.2.2).bind λe=>z (e.2 !=0) (some (.next l))<|(JJ e.1).bind λf=>z (!f) (some (.next l))<|o.bind λg=>z (e.1.1 !=g.2.1) (some (.next l))<|(Ai (Sd a e) (Y a.1)).bind λh=>(Sr a.1 0 h).bind λi=>(Sr a.1 h (Y a.1)).bind λj=>(app [] i).bind λk=>(app k ([e.1]:v (y×y×(v (y×y×Bd))))).bind λm=>(app m j).bind λn=>some (.next (n,(wi (a.2+1))))else some (.done a.1)
def Gu(x:v Am):Option (v Aq):=(Ai (Sb x) ([],0)).bind λa=>some a
end
noncomputable section
abbrev BS:Type:=y×y×y×y×(v y)×y×y
def Fh:Ty:=.prod (z? (z? (z? (z? (.cons (.list (.int .i64)) (z? (.one (.int .i64))))))))
def AE6{α γ:Type}(c:α×α->V γ)(n:γ->u)(x:y×y):Lp (y×S α) (S α):=λa=>letI s:=(ix a.2 a.1);letI l:=(wi (a.1-1));letI v:=(ix a.2 l);(z (a.1>x.1) (s.bind λb=>s.bind λd=>v.bind λe=>v.bind λf=>(c (d,f)).bind λg=>z (n g) (Z (.inr ()))<|Z (.inl ()))<|Z (.inl ()):V (t⊕t)).bind λh=>ν (λi=>Z (.done a.2)) (λj=>v.bind λk=>v.bind λm=>letI w:=(EU a.2 a.1 m);s.bind λo=>s.bind λp=>s.bind λq=>s.bind λr=>(ix w l).bind λt=>(ix w l).bind λu=>Z (.next (wi (a.1-1),EU w l p))) h
def ABC{α γ:Type}(c:α×α->V γ)(n:γ->u)(l:S α)(x:y×y):V (S α):=(Ai (λa=>z (a.1<x.2) ((Ai (AE6 c n x) a).bind λb=>Z (.next (wi (a.1+1),b)))<|Z (.done a.2)) (wi (x.1+1),l)).bind λd=>Z d
def AJW{α:Type}(f:S α->y×y->V (S α)):Lp (y×y×y×u×u×S α) (S α):=λa=>letI d:=a.2.2;letI e:=d.2.2.2;bif wi (a.2.1-a.1)<=12 then(f e (a.1,a.2.1)).bind λb=>z (ξ (W b) (W e)) (Z (.done b))<|D else z (d.1==0) D<|(z (! d.2.1) D<|Z (d.1,e):V (y×S α)).bind λc=>D
def pdG{α:Type}(f:S α->y×y->V (S α))(l:S α)(x:y×y×y):V (S α):=(Ai (AJW f) (x.1,x.2.1,x.2.2,E,E,l)).bind λa=>Z a
def soG{α:Type}(f:S α->y×(y×y)->V (S α))(l:S α):V (S α):=(Ti (ι .u64 (Y l))).bind λa=>(f l (0,Y l,a)).bind λb=>z (ξ (W b) (W l)) (Z b)<|D
def Qp(x:Aq×Aq):V y:=(EJ (x.1.1,x.2.1)).bind λa=>Z a
def Qo(x:Be×Be):V y:=(EJ (x.2.1,x.1.1)).bind λa=>Z a
def MV(l:S y)(x:y×y):V (S y):=ABC OX (λa=>a) l x
def PB(rec:(S y×y×y×y)->(V (S y)))(l:S y)(x:y×y×y):V (S y):=pdG MV l x
def Qw(l:S y)(x:y×y×y):V (S y):=tB (λg p=>PB g p.1 p.2) (l,x)
def MS(l:S y)(x:t):V (S y):=soG Qw l
def Jh(l:S Aq)(x:y×y):V (S Aq):=ABC Qp (λa=>decide (a<0)) l x
def LH(rec:(S Aq×y×y×y)->(V (S Aq)))(l:S Aq)(x:y×y×y):V (S Aq):=pdG Jh l x
def MW(l:S Aq)(x:y×y×y):V (S Aq):=tB (λg p=>LH g p.1 p.2) (l,x)
def Gx(l:S Aq)(x:t):V (S Aq):=soG MW l
def E4(l:S Be)(x:y×y):V (S Be):=ABC Qo (λa=>decide (a<0)) l x
def MX(x:y):Lp (y×y×S Be) (y×S Be):=λa=>letI c:=a.2.1;bif c<=x then(E4 a.2.2 (a.1,c)).bind λb=>z (ξ (W b) (W a.2.2)) (Z (.next (c,wi (c+20),b)))<|D else Z (.done (a.1,a.2.2))
def U1(x:y):Lp (y×y×S Be) (y×S Be):=λa=>z (a.2.1<=x) D<|Z (.done (a.1,a.2.2))
def MY(x:y):Lp (y×S Be) (S Be):=λa=>z (a.1<x) ((Ai (U1 x) (0,wi (2*a.1),a.2)).bind λb=>(z (wi (b.1+a.1)<x) D<|Z b.2:V (S Be)).bind λc=>Z (.next (wi (a.1*2),c)))<|Z (.done a.2)
def Jc(l:S Be)(x:y):V (S Be):=(Ai (MX x) (0,20,l)).bind λa=>(E4 a.2 (a.1,x)).bind λb=>z (ξ (W b) (W a.2)) ((Ai (MY x) (20,b)).bind λc=>Z c)<|D
def Ed(l:S Be)(x:t):V (S Be):=(Jc l (Y l)).bind λa=>z (ξ (W a) (W l)) (Z a)<|D
def Rw(x:Bd):V Cy:=(R4 x 2 (Y x)).bind λa=>(B0 (x,0,2)).bind λb=>(Gd (a,b.1)).bind λc=>Z (b.1,c.1.2.1,a)
def aX(x:Bd)(a:y×y):Lp (y×y×S Cy×y×y×Aq) ((y×Aq)⊕(y×S Cy×y×y×Aq)):=λb=>z (b.2.1<a.1) ((Dq (x,b.1)).bind λc=>z (c.2.2 !=0) (Z (.done (.inl (c.2.2,0,0,[]))))<|z (Y c.1 !=258) (Z (.done (.inl (4,0,0,[]))))<|(Rw c.1).bind λd=>(app b.2.2.1 [d]).bind λe=>Z (.next (c.2.1,wi (b.2.1+1),e,b.2.2.2)))<|Z (.done (.inr (b.1,b.2.2)))
def IR(x:Bd):Option (Aq×y):=(Dq (x,0)).bind λa=>z (a.2.2 !=0) (some ((0,0,[]),a.2.2))<|z (Y a.1 !=12) (some ((0,0,[]),4))<|(FL (a.1,([80,77,73,77]:v (UInt8)))).bind λb=>z (!b) (some ((0,0,[]),4))<|(B0 (a.1,4,4)).bind λc=>(B0 (a.1,8,2)).bind λd=>(B0 (a.1,10,2)).bind λe=>z (e.1>64) (some ((0,0,[]),4))<|(Ai (aX x e) (a.2.1,0,[],c.1,d.1,0,0,[])).bind λf=>Sum.elim (λg=>some (g.2,g.1)) (λh=>z (h.1<Y x) (some ((0,0,[]),4))<|(LF (h.2.2.1,h.2.2.2.1,h.2.1)).bind λi=>z (!i) (some ((0,0,[]),43))<|some ((h.2.2.1,h.2.2.2.1,h.2.1),0)) f
def Y6(x:v Am):Lp (y×(v (y×u))×(v Aq)) ((v (y×u))×(v Aq)):=λa=>letI h:=(wi (a.1+1),a.2);bif a.1<Y x then(ix x a.1).bind λb=>letI g:=(Qf b.2.1 true a.2.1);letI f:=(wi (a.1+1),g,a.2.2);bif b.1 !=2 then some (.next h)else z (Option.getD (Lk b.2.1 a.2.1) false) (some (.next h))<|(IR b.2.2).bind λc=>z (c.2==0) ((W6 c.1).bind λd=>z d (z (c.1.1==b.2.1) ((app a.2.2 ([c.1]:v (y×y×(v (y×y×Bd))))).bind λe=>some (.next (wi (a.1+1),g,e)))<|some (.next f))<|some (.next f))<|some (.next f)else some (.done a.2)
def Kh(x:(v Am)):Option (v Aq):=(Ai (Y6 x) (0,[],[])).bind λa=>(Gx a.2 ()).bind λb=>z (Nat.beq (List.length b) (List.length a.2)) (some b)<|none
def QF(x:Cy×y):V y:=Z (wi (x.1.1-x.2))
def eR(x:Aq×y):Lp (y×y) y:=λa=>letI e:=(wi (Int.fdiv (ι .u64 (wi (a.1+a.2))) (2^(min (ο 1) 64))));bif a.1<a.2 then(ix x.1.2.2 e).bind λb=>(QF (b,x.2)).bind λc=>(z (c<0) (Z (wi (e+1),a.2))<|Z (a.1,e):V (y×y)).bind λd=>Z (.next d)else Z (.done a.1)
def TB(x:Aq×y):V (y×u):=letI d:=x.1.2.2;(Ai (eR x) (0,Y d)).bind λa=>z (a<Y d) ((ix d a).bind λb=>(QF (b,x.2)).bind λc=>Z (a,(c==0)))<|Z (a,X)
def Rv(x:Aq×y):V (Cy×u):=(LF x.1).bind λa=>z (!a) (Z ((0,0,[]),X))<|z (x.2<0) (Z ((0,0,[]),X))<|z (x.2>=x.1.2.1) (Z ((0,0,[]),X))<|(TB x).bind λb=>z (!b.2) (Z ((0,0,[]),X))<|(ix x.1.2.2 b.1).bind λc=>Z (c,E)
def Y5(x:(v Am)×y×y)(a:v Aq):Lp (y×(v Be)) (v Be):=λb=>letI f:=(wi (b.1-1),b.2);bif b.1>=0 then(ix a b.1).bind λc=>(Rv (c,x.2.1)).bind λd=>letI g:=d.1.2.1;bif d.2 then z (g<=x.2.2) ((app b.2 ([(g,c.1,g)]:v (y×y×y))).bind λe=>some (.next (wi (b.1-1),e)))<|some (.next f)else some (.next f)else some (.done b.2)
def Tf(x:(v Am)×y×y):Option (v Be):=(Kh x.1).bind λa=>(Ai (Y5 x a) ((wi (Y a-1)),[])).bind λb=>(Ed b ()).bind λc=>z (Nat.beq (List.length c) (List.length b)) (some c)<|none
def UA(b:Be)(x:Aq):V (u×Be):=Z ((x.1==b.2.1),b)
def Pa(x:Aq×y):V (AS×y):=(LF x.1).bind λa=>z (!a) (Z (p!,43))<|(Rv x).bind λb=>z (!b.2) (Z (p!,44))<|(Gd (b.1.2.2,x.2)).bind λc=>Z c
def VU(x:AJ×Ac×y×y×y)(a:y)(b:y×y×u)(c:S AQ×S y):Lp (y×S y) (S y):=letI j:=x.2.2.2;letI o:=if(a<j.2)then a else j.2;letI k:=(if(x.2.1.1>wi (j.1+1))then x.2.1.1 else wi (j.1+1));λd=>letI n:=(wi (d.1+1),d.2);bif d.1<Y c.1 then(ix c.1 d.1).bind λe=>letI m:=if(e.2.1<j.2)then e.2.1 else j.2;letI l:=(if(e.1>wi (j.1+1))then e.1 else wi (j.1+1));bif e.2.2.1==b.1 then(ix c.2 d.1).bind λf=>z (l>m) (Z (.next n))<|z (k>o) ((app d.2 [f]).bind λg=>Z (.next (wi (d.1+1),g)))<|z (l<k) ((app d.2 [f]).bind λh=>Z (.next (wi (d.1+1),h)))<|z (m>o) ((app d.2 [f]).bind λi=>Z (.next (wi (d.1+1),i)))<|Z (.next n)else Z (.next n)else Z (.done d.2)
def IQ(x:AJ×Ac×y×y×y):V (S y×y×y×y):=letI i:=x.2.2.2;letI g:=(if(x.2.1.1>wi (i.1+1))then x.2.1.1 else wi (i.1+1));(Hd x).bind λa=>z (a.2 !=0) (Z ([],0,0,a.2))<|(OZ x.2.1).bind λb=>letI h:=if(b<i.2)then b else i.2;(Ej (x.1,x.2.2.1)).bind λc=>z (!c.2.2) D<|(Ha x.1).bind λd=>(Ai (VU x b c d) (0,[])).bind λe=>(MS e ()).bind λf=>z (ξ (W f) (W e)) (z (g>h) (Z (f,0,0,0))<|Z (f,g,h,0))<|D
def Sq(a:S Aq):Lp (y×Be) ((y×Be)⊕Be):=λb=>z (b.1<Y a) ((ix a b.1).bind λc=>(UA b.2 c).bind λd=>z d.1 (Z (.done (.inl (b.1,d.2))))<|Z (.next (wi (b.1+1),d.2)))<|Z (.done (.inr b.2))
def Sp(x:(v Am)×AJ×Ac×y×y)(a:v Aq)(b:v Be):Lp (y×AS×BS) ((y×AS×BS)⊕ (AS×BS)):=letI l:=x.2.2.2;λc=>letI m:=(wi (c.1+1),c.2);bif c.1<Y b then(ix b c.1).bind λd=>(Ai (Sq a) (0,d)).bind λe=>Sum.elim (λf=>(ix a f.1).bind λg=>(Pa (g,l.1)).bind λh=>z (h.2 !=0) (some (.next m))<|(J7 (h.1,x.2.1,x.2.2.1,l.2)).bind λi=>z (i.2 !=0) (some (.next m))<|(IQ (x.2.1,x.2.2.1,l.1,h.1.2.1,l.2)).bind λj=>z (j.2.2.2==0) (some (.done (.inl (0,i.1,l.1,f.2.2.1,h.1.2.1,l.2,j.1,j.2.1,j.2.2.1))))<|some (.next m)) (λk=>none) e else some (.done (.inr c.2))
def H9(x:(v Am)×AJ×Ac×y×y):Option (AS×BS×y):=letI m:=x.2.1;letI l:=x.2.2;letI k:=l.2;(Gk m).bind λa=>z (!a) (some (p!,(0,0,0,0,[],0,0),54))<|(Ip l.1).bind λb=>z (!b) (some (p!,(0,0,0,0,[],0,0),26))<|z (k.1<0) (some (p!,(0,0,0,0,[],0,0),1))<|z (k.1>=m.2.1) (some (p!,(0,0,0,0,[],0,0),1))<|z (k.2<0) (some (p!,(0,0,0,0,[],0,0),1))<|(Kh x.1).bind λc=>(Tf (x.1,k)).bind λd=>(Ai (Sp x c d) (0,p!,0,0,0,0,[],0,0)).bind λe=>Sum.elim (λf=>some (f.2.1,f.2.2,f.1)) (λg=>(C6 k.1).bind λh=>(J7 (h,m,l.1,k.2)).bind λi=>z (i.2 !=0) (some (p!,(0,0,0,0,[],0,0),49))<|(IQ (m,l.1,k.1,h.2.1,k.2)).bind λj=>z (j.2.2.2==0) (some (i.1,(k.1,0,h.2.1,k.2,j.1,j.2.1,j.2.2.1),0))<|some (p!,(0,0,0,0,[],0,0),49)) e
end
noncomputable section
abbrev A1:Type:=y×y×S AE
def FF:Ty:=.prod (z? (z? (.one (.list Ag))))
def F6(l:S AE)(x:t):V (S AE):=AAV (λe:AE=>e.1) l
def FC(x:BS):Lp (y×y) (u⊕t):=λa=>z (a.2<Y x.2.2.2.2.1) ((ix x.2.2.2.2.1 a.2).bind λb=>z (b<=a.1) q?<|Z (.next (b,wi (a.2+1))))<|w?
def Ga(x:BS):V u:=letI h:=Ai (FC x) (0,0);letI g:=x.2.2;letI e:=g.2.2.2;letI f:=τ (e.1<=e.2);bif x.1<0 then Z X else z (x.1>=64) (Z X)<|z (x.2.1<0) (Z X)<|z (x.2.1>1073741824) (Z X)<|z (g.1<0) (Z X)<|z (g.1>g.2.1) (Z X)<|z (g.2.1>1099511627776) (Z X)<|z (x.2.1==0) (z (g.1>0) (Z X)<|h.bind λa=>ν Z (λb=>z (e.1==0) (z (e.2==0) (Z E)<|z (e.1>=1) (Z f)<|Z X)<|z (e.1>=1) (Z f)<|Z X) a)<|h.bind λc=>ν Z (λd=>z (e.1==0) (z (e.2==0) (Z E)<|z (e.1>=1) (Z f)<|Z X)<|z (e.1>=1) (Z f)<|Z X) c
def WP(x:S Am×BS)(a:S Aq):Lp (y×AS) ((u×AS)⊕AS):=λb=>z (b.1<Y a) ((ix a b.1).bind λc=>z (c.1==x.2.2.1) ((Pa (c,x.2.1)).bind λd=>z (d.2==0) (Z (.done (.inl ((d.1.2.1==x.2.2.2.1),d.1))))<|Z (.done (.inl (X,d.1))))<|Z (.next (wi (b.1+1),b.2)))<|Z (.done (.inr b.2))
def Hm(x:S Am×BS):V (AS×u):=z (x.2.2.1==0) ((C6 x.2.1).bind λa=>Z (a,E))<|(Kh x.1).bind λb=>(Ai (WP x b) (0,0,0,GK.all (X,[]))).bind λc=>ν (λd=>Z (d.2,d.1)) (λe=>Z (p!,X)) c
def Se(x:S y×y):Lp y (y⊕t):=λa=>z (a<Y x.1) ((ix x.1 a).bind λb=>z (x.2==b) (Z (.done (.inl a)))<|Z (.next (wi (a+1))))<|w?
def Pz(x:S y×y):V y:=(Ai (Se x) 0).bind λa=>ν Z (λb=>Z (-1)) a
def O3(x:AJ×Ac×BS)(a:y×y×u)(b:S AQ×S y):Lp (y×S A1) ((S A1×u)⊕(S A1)):=letI l:=x.2.2.2.2.2.2.1;λc=>bif c.1<Y l then(ix l c.1).bind λd=>(Pz (b.2,d)).bind λe=>letI k:=ix b.1 e;bif e<0 then Z (.done (.inl ([],X)))else k.bind λf=>z (f.2.2.1 !=a.1) (Z (.done (.inl ([],X))))<|k.bind λg=>k.bind λh=>k.bind λi=>(app c.2 [(g.1,h.2.1,i.2.2.2.2.2)]).bind λj=>Z (.next (wi (c.1+1),j))else Z (.done (.inr c.2))
def Eu(x:AJ×Ac×BS):V (S A1×u):=letI i:=x.2.1;letI h:=x.2.2.2.2.2.2.2;(Ej (x.1,x.2.2.1)).bind λa=>z (!a.2.2) (Z ([],X))<|(Ha x.1).bind λb=>(Ai (O3 x a b) (0,[])).bind λc=>ν Z (λd=>z (h.1==0) (Z (d,E))<|z (h.1<i.1) (Z ([],X))<|(OZ i).bind λe=>z (h.2>e) (Z ([],X))<|(Sr i.2.1 (wi (h.1-i.1)) (wi (wi (h.2-i.1)+1))).bind λf=>(app d [(h.1,h.2,f)]).bind λg=>Z (g,E)) c
def WQ(x:S A1×BS):Lp y (y⊕t):=letI c:=x.2.2.2.1+1;λa=>z (a<Y x.1) ((ix x.1 a).bind λb=>z (wi c>=b.1) (z (wi c<=b.2.1) (Z (.done (.inl a)))<|Z (.next (wi (a+1))))<|Z (.next (wi (a+1))))<|w?
def MR(x:S A1×BS)(a:y×u):Lp y (y⊕t):=λb=>z (b<Y x.1) ((ix x.1 b).bind λc=>z (a.1>=c.1) (z (a.1<=c.2.1) (Z (.done (.inl b)))<|Z (.next (wi (b+1))))<|Z (.next (wi (b+1))))<|w?
def WS(x:S A1×BS):Lp (y×u) (u⊕u):=λa=>z (a.1<=x.2.2.2.2.1) ((Ai (MR x a) 0).bind λb=>ν (λc=>z (c>=0) ((ix x.1 c).bind λd=>Z (.next (wi (d.2.1+1),a.2)))<|Z (.done (.inr X))) (λe=>Z (.done (.inr X))) b)<|Z (.done (.inl a.2))
def Hn(x:S A1×BS):V u:=z (wi (x.2.2.2.1+1)<=x.2.2.2.2.1) ((Ai (WQ x) 0).bind λa=>ν (λb=>z (b>=0) ((ix x.1 b).bind λc=>(Ai (WS x) (wi (c.2.1+1),X)).bind λd=>ν (λe=>Z E) Z d)<|Z X) (λf=>Z X) a)<|Z E
def Gw(x:S AE×S AE):Lp y (u⊕t):=λa=>bif a<Y x.1 then(ix x.1 a).bind λb=>letI f:=b.2.2.2;letI d:=f.2.2.2;letI h:=d.1.2.2;(ix x.2 a).bind λc=>letI g:=c.2.2.2;letI e:=g.2.2.2;letI i:=e.1.2.2;bif !(b.1==c.1&&(b.2.1==c.2.1&&(b.2.2.1==c.2.2.1&&(f.1==g.1&&(f.2.1==g.2.1&&(f.2.2.1==g.2.2.1&&(d.1.1==e.1.1&&(d.1.2.1==e.1.2.1&&(h.1.1==i.1.1&&(h.1.2==i.1.2&&(h.2.1==i.2.1&&(h.2.2==i.2.2&&(d.2==e.2&&E)))))))))))))then q? else Z (.next (wi (a+1)))else w?
def Fv(x:S AE×S AE):V u:=z (Y x.1 !=Y x.2) (Z X)<|(Ai (Gw x) 0).bind λa=>ν Z (λb=>Z E) a
def Gv(x:A1×BS):Lp (y×S AE) (S AE):=λa=>letI f:=(wi (a.1+1),a.2);bif a.1<Y x.1.2.2 then(ix x.1.2.2 a.1).bind λb=>(BE b).bind λc=>z c (z (b.2.2.2.2.2.2.1.1==x.2.1) (z (b.1>x.2.2.2.1) ((z (b.1<=x.2.2.2.2.1) ((app a.2 [b]).bind λd=>Z d)<|Z a.2).bind λe=>Z (.next (wi (a.1+1),e)))<|Z (.next f))<|Z (.next f))<|Z (.next f)else Z (.done a.2)
def OL(x:A1×BS):V (S AE):=(Ai (Gv x) (0,[])).bind λa=>Z a
def WL(x:A1×A1×BS):Lp (y×S AE) (S AE):=λa=>letI f:=(wi (a.1+1),a.2);bif a.1<Y x.1.2.2 then(ix x.1.2.2 a.1).bind λb=>(BE b).bind λc=>z c (z (b.2.2.2.2.2.2.1.1==x.2.2.1) (z (b.1>x.2.2.2.2.1) ((z (b.1<=x.2.2.2.2.2.1) ((app a.2 [b]).bind λd=>Z d)<|Z a.2).bind λe=>Z (.next (wi (a.1+1),e)))<|Z (.next f))<|Z (.next f))<|Z (.next f)else Z (.done a.2)
def JK(x:A1×A1×BS)(a:S AE):Lp y (y⊕t):=λb=>z (b<Y a) ((ix a b).bind λc=>(ix a b).bind λd=>z (d.1<x.2.1.1) (Z (.done (.inl b)))<|z (d.1>x.2.1.2.1) (Z (.done (.inl b)))<|Z (.next (wi (b+1))))<|w?
def JL(x:A1×A1×BS):Lp (y×y×S AE) (y×S AE):=λa=>letI h:=a.2.1;letI g:=(wi (a.1+1),a.2);letI f:=a.2.2;bif a.1<Y f then(ix f a.1).bind λb=>(ix f a.1).bind λc=>z (c.1<x.2.1.1) (Z (.next g))<|z (!(τ (c.1>x.2.1.2.1))) ((ix f h).bind λd=>(ix f h).bind λe=>Z (.next (wi (a.1+1),wi (h+1),EU f h c)))<|Z (.next g)else Z (.done a.2)
def WM(x:A1×A1×BS):Lp (y×S AE) (S AE):=λa=>letI f:=(wi (a.1+1),a.2);bif a.1<Y x.2.1.2.2 then(ix x.2.1.2.2 a.1).bind λb=>(BE b).bind λc=>z c (z (b.2.2.2.2.2.2.1.1==x.2.2.1) (z (b.1>x.2.2.2.2.1) ((z (b.1<=x.2.2.2.2.2.1) ((app a.2 [b]).bind λd=>Z d)<|Z a.2).bind λe=>Z (.next (wi (a.1+1),e)))<|Z (.next f))<|Z (.next f))<|Z (.next f)else Z (.done a.2)
def WN(x:A1×A1×BS)(a:S AE):Lp y (y⊕t):=λb=>z (b<Y a) ((ix a b).bind λc=>(ix a b).bind λd=>z (d.1<x.1.1) (Z (.done (.inl b)))<|z (d.1>x.1.2.1) (Z (.done (.inl b)))<|Z (.next (wi (b+1))))<|w?
def WO(x:A1×A1×BS):Lp (y×y×S AE) (y×S AE):=λa=>letI h:=a.2.1;letI g:=(wi (a.1+1),a.2);letI f:=a.2.2;bif a.1<Y f then(ix f a.1).bind λb=>(ix f a.1).bind λc=>z (c.1<x.1.1) (Z (.next g))<|z (!(τ (c.1>x.1.2.1))) ((ix f h).bind λd=>(ix f h).bind λe=>Z (.next (wi (a.1+1),wi (h+1),EU f h c)))<|Z (.next g)else Z (.done a.2)
def Py(x:A1×A1×BS):V u:=(Ai (WL x) (0,[])).bind λa=>(((Ai (JK x a) 0).bind λb=>ν (λc=>z (c==(-1)) (Z a)<|(Ai (JL x) (wi (c+1),c,a)).bind λd=>(wE d.2 d.1 r!).bind λe=>(Sr e 0 d.1).bind λf=>Z f) (λg=>Z a) b):V (S AE)).bind λh=>(Ai (WM x) (0,[])).bind λi=>(((Ai (WN x i) 0).bind λj=>ν (λk=>z (k==(-1)) (Z i)<|(Ai (WO x) (wi (k+1),k,i)).bind λm=>(wE m.2 m.1 r!).bind λn=>(Sr n 0 m.1).bind λo=>Z o) (λp=>Z i) j):V (S AE)).bind λq=>(Fv (h,q)).bind λr=>Z r
def Vh(x:S Am×AJ×Ac×BS)(a:A1)(b:S A1):Lp (y×AS) ((y×AS)⊕AS):=λc=>z (c.1<Y b) ((ix b c.1).bind λd=>(Py (d,a,x.2.2.2)).bind λe=>z (!e) (Z (.done (.inl (45,0,0,GK.all (X,[])))))<|Z (.next (wi (c.1+1),c.2)))<|Z (.done (.inr c.2))
def LD(x:S Am×AJ×Ac×BS)(a:S A1×u):Lp (y×AS×S AE) ((y×AS)⊕(AS×S AE)):=λb=>z (b.1<Y a.1) ((ix a.1 b.1).bind λc=>(Sr a.1 0 b.1).bind λd=>(Ai (Vh x c d) (0,b.2.1)).bind λe=>ν (λf=>Z (.done (.inl f))) (λg=>(OL (c,x.2.2.2)).bind λh=>(app b.2.2 h).bind λi=>Z (.next (wi (b.1+1),g,i))) e)<|Z (.done (.inr b.2))
def Px:Lp (y×y×S AE×y×y) (y×S AE):=λa=>letI p:=a.2.1;letI n:=a.2.2;letI o:=(ο n.2.2);letI k:=(ο n.2.1);letI j:=(List.take o (List.drop k n.1));bif a.1<(Y j)then(ix j a.1).bind λb=>(ix n.1 (((k:Nat):y)+a.1)).bind λc=>letI q:=c.2.2.2;letI l:=q.2.2.2;letI s:=l.1.2.2;(ix j (wi (a.1-1))).bind λd=>(ix n.1 (((k:Nat):y)+wi (a.1-1))).bind λe=>letI r:=e.2.2.2;letI m:=r.2.2.2;letI t:=m.1.2.2;bif !((c.1==e.1)&&((c.2.1==e.2.1)&&((c.2.2.1==e.2.2.1)&&((q.1==r.1)&&((q.2.1==r.2.1)&&((q.2.2.1==r.2.2.1)&&((l.1.1==m.1.1)&&((l.1.2.1==m.1.2.1)&&((s.1.1==t.1.1)&&((s.1.2==t.1.2)&&((s.2.1==t.2.1)&&((s.2.2==t.2.2)&&((l.2==m.2)&&E)))))))))))))then(ix j a.1).bind λf=>(ix n.1 (((k:Nat):y)+a.1)).bind λg=>(ix n.1 p).bind λh=>(ix n.1 p).bind λi=>Z (.next (wi (a.1+1),wi (p+1),EU n.1 p g,((k:Nat):y),((o:Nat):y)))else Z (.next (wi (a.1+1),p,n.1,((k:Nat):y),((o:Nat):y)))else Z (.done (p,n.1))
def Pw:Lp (y×S AE) ((S AE)⊕(S AE)):=λa=>letI r:=Y a.2;letI q:=(ο a.1);letI l:=(ix a.2 (wi (a.1-1)));bif a.1<r then(ix a.2 a.1).bind λb=>(ix a.2 a.1).bind λc=>letI m:=c.2.2.2;letI j:=m.2.2.2;letI o:=j.1.2.2;l.bind λd=>l.bind λe=>letI n:=e.2.2.2;letI k:=n.2.2.2;letI p:=k.1.2.2;bif (c.1==e.1)&&((c.2.1==e.2.1)&&((c.2.2.1==e.2.2.1)&&((m.1==n.1)&&((m.2.1==n.2.1)&&((m.2.2.1==n.2.2.1)&&((j.1.1==k.1.1)&&((j.1.2.1==k.1.2.1)&&((o.1.1==p.1.1)&&((o.1.2==p.1.2)&&((o.2.1==p.2.1)&&((o.2.2==p.2.2)&&((j.2==k.2)&&E))))))))))))then(Sr a.2 a.1 (r)).bind λf=>(Ai (Px) (1,a.1,a.2,((q:Nat):y),((((ο (r))-q):Nat):y))).bind λg=>(wE g.2 g.1 r!).bind λh=>(Sr h 0 g.1).bind λi=>Z (.done (.inl i))else Z (.next (wi (a.1+1),a.2))else Z (.done (.inr a.2))
def Dr(x:S Am×AJ×Ac×BS):V (AS×y):=letI l:=x.2.2;(Gk x.2.1).bind λa=>z (!a) (Z (p!,54))<|(Ip l.1).bind λb=>z (!b) (Z (p!,26))<|(Ga l.2).bind λc=>z (!c) (Z (p!,45))<|(Hm (x.1,l.2)).bind λd=>(Eu x.2).bind λe=>z (!d.2) (Z (p!,45))<|z (!e.2) (Z (p!,45))<|(Hn (e.1,l.2)).bind λf=>z (!f) (Z (p!,45))<|(Ai (LD x e) (0,p!,[])).bind λg=>ν (λh=>Z (h.2,h.1)) (λi=>(F6 i.2 ()).bind λj=>z (ξ (W j) (W i.2)) (z (Y i.2<2) ((Ie (d.1,j)).bind λk=>Z k)<|(Ai (Pw) (1,j)).bind λm=>ν (λn=>(Ie (d.1,n)).bind λo=>Z o) (λp=>(Ie (d.1,p)).bind λq=>Z q) m)<|D) g
def T9(x:S Am×AJ×Ac×BS×AS):V u:=(Dr (x.1,x.2.1,x.2.2.1,x.2.2.2.1)).bind λa=>z (a.2==0) (Z (AHV a.1 x.2.2.2.2))<|Z X
def Lj(x:S Am×AJ×Ac×y×y):V (BS×y):=(H9 x).bind λa=>Z a.2
end
noncomputable section
def I6(x:t):V u:=(G8 (2,([0]:S y))).bind λa=>(G6 ()).bind λb=>(Lj ([],a.1,b,1,0)).bind λc=>z (c.2==0) (z (c.1.1==1) ((Ga c.1).bind λd=>z d ((G6 ()).bind λe=>(C6 1).bind λf=>(T9 ([],a.1,e,c.1,f)).bind λg=>Z g)<|Z X)<|Z X)<|Z X
def Lw(b:AT)(x:t):V (y×AJ×Ac×Ac×S Am×AT):=(LY b 25).bind λa=>letI l:=a.2.1;(Pb a.2.2 (a.1,l)).bind λc=>letI m:=c.1.2;(Ly c.2 (a.1,c.1,l)).bind λd=>(Af d.2 2).bind λe=>(z (e.1==1) ((Af e.2 m.2.2.1).bind λf=>(Kp (l,wi (1+f.1))).bind λg=>Z (f.2,g.1))<|Z (e.2,l):V (AT×Ac)).bind λh=>(Af h.1 3).bind λi=>(z (i.1==0) ((GB i.2 m.2.1).bind λj=>Z (j.2,c.1.1,m.1,j.1,m.2.2))<|Z (i.2,c.1):V (AT×AJ)).bind λk=>Z (a.1,k.2,h.2,l,d.1,k.1)
end
noncomputable section
def Vg(x:S y×y):Lp y y:=λa=>z (a<Y x.1) ((ix x.1 a).bind λb=>z (b<x.2) (Z (.next (wi (a+1))))<|Z (.done a))<|Z (.done a)
def Sn(x:S y×y):V (S y):=(Ai (Vg x) 0).bind λa=>letI l:=Sr x.1 a (Y x.1);bif a<Y x.1 then(ix x.1 a).bind λb=>z (b==x.2) (Z x.1)<|(Sr x.1 0 a).bind λc=>l.bind λd=>(app [] c).bind λe=>(app e [x.2]).bind λf=>(app f d).bind λg=>Z g else(Sr x.1 0 a).bind λh=>l.bind λi=>(app [] h).bind λj=>(app j [x.2]).bind λk=>(app k i).bind λm=>Z m
def Ur(x:AJ×Ac×y×y×y)(a:Gf)(b:y×y):Lp (S y×y) (S y):=letI k:=x.2.2.2;λc=>bif c.2<Y a.1 then(ix a.1 c.2).bind λd=>letI j:=if(k.2<d.2.1)then k.2 else d.2.1;letI i:=(if(wi (k.1+1)>d.1)then wi (k.1+1)else d.1);(z (b.1>0) (z (i<=(if(wi (b.1-1)<j)then wi (b.1-1)else j)) (Z E)<|Z (τ ((if(wi (b.2+1)>i)then wi (b.2+1)else i)<=j)))<|Z (τ (i<=j)):V u).bind λe=>(z e ((ix a.2.1 c.2).bind λf=>(Sn (c.1,f)).bind λg=>Z g)<|Z c.1).bind λh=>Z (.next (h,wi (c.2+1)))else Z (.done c.1)
def H6(x:AJ×Ac×y×y×y):V (S y×y×y×y):=letI i:=x.2.1;letI h:=x.2.2.2;letI f:=(if(i.1>wi (h.1+1))then i.1 else wi (h.1+1));letI e:=(wi ((wi (i.1+Y i.2.1))-1));letI g:=if(e<h.2)then e else h.2;(Ft x).bind λa=>z (a.2 !=0) (Z ([],0,0,a.2))<|(Ju (x.1,i,x.2.2.1)).bind λb=>(z (f>g) (Z (0,0))<|Z (f,g):V (y×y)).bind λc=>(Ai (Ur x b c) ([],0)).bind λd=>Z (d,c.1,c.2,0)
def O2(x:S Am×y)(a:S Aq):Lp (y×Aq) ((u×Aq)⊕Aq):=λb=>z (b.1<Y a) ((ix a b.1).bind λc=>z (c.1==x.2) ((ix a b.1).bind λd=>Z (.done (.inl (E,d))))<|Z (.next (wi (b.1+1),b.2)))<|Z (.done (.inr b.2))
def NN(x:S Am×y):V (Aq×u):=(Gu x.1).bind λa=>(Ai (O2 x a) (0,0,0,[])).bind λb=>ν (λc=>Z (c.2,c.1)) (λd=>Z ((0,0,[]),X)) b
def Ri(a:y×S Be)(b:Cy×u):Lp y y:=λc=>letI f:=(ix a.2 (wi (c-1)));bif c>0 then f.bind λd=>f.bind λe=>z (e.1<b.1.2.1) (Z (.next (wi (c-1))))<|Z (.done c)else Z (.done c)
def Li(x:S Am×AJ×Ac×y×y)(a:S Aq):Lp (y×S Be) (S Be):=letI p:=ο 0;λb=>letI n:=(wi (b.1-1),b.2);letI m:=Y b.2;bif b.1>=0 then(ix a b.1).bind λc=>(H7 (c,x.2.2.2.1)).bind λd=>letI o:=d.1.2.1;bif !d.2 then Z (.next n)else z (o>x.2.2.2.2) (Z (.next n))<|(Ai (Ri b d) m).bind λe=>letI l:=ο e;(Sr b.2 0 e).bind λf=>(ix a b.1).bind λg=>(Sr b.2 e m).bind λh=>(app [] (List.take (l-p) (List.drop p b.2))).bind λi=>(app i [(o,g.1,o)]).bind λj=>(app j (List.take ((ο m)-l) (List.drop l b.2))).bind λk=>z ((W b.2)<(W k)) (Z (.next (wi (b.1-1),k)))<|D else Z (.done b.2)
def Rj(x:S Am×AJ×Ac×y×y)(a:S (y×y×y)):Lp (y×AS×BS) ((y×AS×BS)⊕(AS×BS)):=letI v:=x.2.1;letI t:=x.2.2.1;letI l:=x.2.2.2;λb=>letI u:=(wi (b.1+1),b.2);letI s:=ix a b.1;bif b.1<Y a then(C6 l.1).bind λc=>s.bind λd=>z (d.2.1>0) (s.bind λe=>(NN (x.1,e.2.1)).bind λf=>(J5 (f.1,l.1)).bind λg=>(H8 (g.1,v,t,l.2)).bind λh=>z (h.2 !=0) (Z (.next u))<|s.bind λi=>s.bind λj=>s.bind λk=>(H6 (v,t,l.1,k.1,l.2)).bind λm=>Z (.done (.inl (0,h.1,l.1,i.2.1,j.1,l.2,m.1,m.2.1,m.2.2.1))))<|(H8 (c,v,t,l.2)).bind λn=>z (n.2 !=0) (Z (.next u))<|s.bind λo=>s.bind λp=>s.bind λq=>(H6 (v,t,l.1,q.1,l.2)).bind λr=>Z (.done (.inl (0,n.1,l.1,o.2.1,p.1,l.2,r.1,r.2.1,r.2.2.1)))else Z (.done (.inr b.2))
def Kc(x:S Am×AJ×Ac×y×y):V (AS×BS×y):=letI i:=x.2.2;(Cv x.2.1).bind λa=>z (!a) (Z (p!,(0,0,0,0,[],0,0),54))<|(B7 i.1).bind λb=>z (!b) (Z (p!,(0,0,0,0,[],0,0),26))<|z (i.2.1<0) (Z (p!,(0,0,0,0,[],0,0),1))<|z (i.2.1>=x.2.1.2.1) (Z (p!,(0,0,0,0,[],0,0),1))<|z (i.2.2<0) (Z (p!,(0,0,0,0,[],0,0),1))<|(Gu x.1).bind λc=>(Ai (Li x c) (wi (Y c-1),[])).bind λd=>(app d [(0,0,0)]).bind λe=>(Ai (Rj x e) (0,p!,0,0,0,0,[],0,0)).bind λf=>ν (λg=>Z (g.2.1,g.2.2,g.1)) (λh=>Z (p!,(0,0,0,0,[],0,0),49)) f
end
noncomputable section
def OC(b:AT)(x:BS):V (BS×AT):=letI s:=x.2.1;letI q:=x.2.2.1;letI l:=x.2.2.2;letI r:=l.2.2;(app [] l.2.1).bind λa=>letI t:=(q,l.1,a,r);(Af b 8).bind λc=>letI w:=((x.1,s,t),c.2);letI v:=Af c.2 5;bif c.1==0 then(Af c.2 6).bind λd=>Z ((wi (d.1-1),s,t),d.2)else z (c.1==1) (v.bind λe=>Z ((x.1,e.1,t),e.2))<|z (c.1==2) ((Af c.2 9).bind λf=>Z ((x.1,s,f.1,l.1,a,r),f.2))<|z (c.1==3) ((Af c.2 7).bind λg=>Z ((x.1,s,q,wi (l.1+wi (g.1-3)),a,r),g.2))<|z (c.1==4) (v.bind λh=>Z ((x.1,s,q,l.1,a,wi (r.1+wi (h.1-2)),r.2),h.2))<|z (c.1==5) (v.bind λi=>Z ((x.1,s,q,l.1,a,r.1,wi (r.2+wi (i.1-2))),i.2))<|bif c.1==6 then bif Y a>0 then(Af c.2 (Y a)).bind λj=>(if(j.1=j.1)then(Sr a 0 j.1)else D).bind λk=>(Sr a (wi (j.1+1)) (Y a)).bind λm=>(app k m).bind λn=>letI u:=((x.1,s,q,l.1,n,r),j.2);bif ξ (W m) 0 then Z u else Z u else Z w else z (c.1==7) ((Af c.2 20).bind λo=>(app a [o.1]).bind λp=>Z ((x.1,s,q,l.1,p,r),o.2))<|Z w
def LW(a:y×AJ×Ac×Ac×S Am×AT)(b:AJ×y):Lp (y×AT) (u⊕AT):=letI k:=a.2.2;λc=>bif c.1<6 then(Af c.2 a.1).bind λd=>(En k.2.1).bind λe=>(Af d.2 (wi (e+1))).bind λf=>(Lj (k.2.2.1,a.2.1,k.1,d.1,f.1)).bind λg=>z (g.2 !=0) (Z (.next (wi (c.1+1),f.2)))<|(OC f.2 g.1).bind λh=>letI l:=(wi (c.1+1),h.2);(Dr (k.2.2.1,a.2.1,k.1,h.1)).bind λi=>z (i.2 !=0) (Z (.next l))<|(Kc ([],b.1,k.2.1,h.1.1,h.1.2.2.2.1)).bind λj=>z (j.2.2 !=0) q?<|z (!(AHV i.1 j.1)) q?<|Z (.next l)else Z (.done (.inr c.2))
def Is(x:S y):V u:=(I6 ()).bind λa=>z (!a) (Z X)<|(z (Y x>500) ((Sr x 0 500).bind λb=>Z b)<|Z x).bind λc=>(Lw (c,0) ()).bind λd=>(G8 (d.1,([0]:S y))).bind λe=>(Ai (LW d e) (0,d.2.2.2.2.2)).bind λf=>ν Z (λg=>Z E) f
end
noncomputable section

end
end Go.Pm
