/- Texts of wip, joined and shortened by wip/tools/pack.py; nothing is assumed. -/
import Derived.Test.YtkgodfhnofpglaaGreatDoorK5
noncomputable section
set_option linter.all false
open Option renaming some->D
open List renaming length->Z
open Go renaming Ψ->E
open Bool renaming false->X
open Option renaming none->A
open Bool renaming true->Y
open Go renaming Ω->V
open Option renaming some->δ,none->ε
open Bool renaming true->ζ,false->η
open List renaming length->θ
open Go.IntKind renaming wrap->ι
open BitVec renaming ofInt->κ,toNat->π
open Sum renaming elim->ν
open Nat renaming beq->ξ
open Int renaming toNat->ο
open Decidable renaming decide->τ
open _root_ renaming cond->W,Int->z,Bool->y,Unit->T
open Go.Ab renaming len->U
namespace Go.Pm
open Go Go.Ab
set_option maxRecDepth 100000
noncomputable section
abbrev Cp:Type:=z×z×Bc
def Ej:Ty:=.prod (z? (z? (.one .str)))
abbrev Ai:Type:=z×z×E Cp
def BO:Ty:=.prod (z? (z? (.one (.list Ej))))
abbrev Ob:Type:=Bc
def Y7:Ty:=.prod (.one .str)
def Vt(x:z×z):V (z×z):=letI d:=κ 64 4294967295;letI c:=(π ((κ 64 x.1)&&&d));letI b:=(π ((κ 64 x.2)&&&d));letI a:=(2^(min (ο 32) 64));letI f:=Int.fdiv x.2 a;letI e:=Int.fdiv x.1 a;D ((ι .u64 ((ι .u64 ((ι .u64 (e*f))+(Int.fdiv (ι .u64 ((ι .u64 (e*(ι .u64 ((b:Nat):z))))+(Int.fdiv (ι .u64 ((ι .u64 ((c:Nat):z))*(ι .u64 ((b:Nat):z)))) a))) a)))+(Int.fdiv (ι .u64 ((ι .u64 (((π ((κ 64 (ι .u64 ((ι .u64 (e*(ι .u64 ((b:Nat):z))))+(Int.fdiv (ι .u64 ((ι .u64 ((c:Nat):z))*(ι .u64 ((b:Nat):z)))) a))))&&&d)):Nat):z))+(ι .u64 ((ι .u64 ((c:Nat):z))*f)))) a))),ι .u64 (x.1*x.2))
def X7(x:z×z):V (z×z):=(Vt x).bind λa=>D a
end
noncomputable section
def YZ(x:T):V Bc:=(LW (([0]:E (UInt8)),256)).bind λa=>D a
def HE(x:Bc×z×z):V z:=(By x).bind λa=>D a.1
def mF(x:Bc):Lp (z×AV×AV) ((y×AV)⊕(AV×AV)):=λa=>letI j:=a.2.1.2;letI i:=(wi (12+wi (a.1*13)));bif a.1<16 then(HE (x,i,1)).bind λb=>(W (b==255) (D (.inl a.2))<|W (b>12) (D (.inr (X,0,0,F5.all (X,[]))))<|(US x (wi (i+1)) (wi ((wi (i+1))+b))).bind λc=>(F4 j.2 a.1).bind λd=>(F4 j.2 a.1).bind λe=>D (.inl ((a.2.1.1,j.1,Xw j.2 a.1 (Y,c)),a.2.2)):V ((AV×AV)⊕(y×AV))).bind λf=>ν (λg=>D (.next (wi (a.1+1),g))) (λh=>D (.done (.inl h))) f else D (.done (.inr a.2))
def Xd(x:Bc):V (AV×y):=(HE (x,8,4)).bind λa=>(HE (x,0,8)).bind λb=>(Ad (mF x) (0,(a,b,F5.all (X,[])),0,0,F5.all (X,[]))).bind λc=>ν (λd=>D (d.2,d.1)) (λe=>D (e.1,Y)) c
def XS(x:AV):V y:=(ID x.1).bind λa=>W a (W (x.2.1>=0) (D (τ (x.2.1<=1099511627776)))<|D X)<|D X
def j9(x:AV):Lp z (y⊕T):=λa=>letI c:=wi (a+1);bif a<16 then(F4 x.2.2 a).bind λb=>W (U b.2>12) q?<|W (!b.1) (W (b.2 !=[]) q?<|W b.1 (W (x.2.1==0) q?<|D (.next c))<|D (.next c))<|W b.1 (W (x.2.1==0) q?<|D (.next c))<|D (.next c)else w?
def Vu(x:AV):V y:=(Ad (j9 x) 0).bind λa=>ν D (λb=>D Y) a
def Kn(b:Ob)(x:Co):V Ob:=(W x.1 (D (U x.2))<|D 255:V z).bind λa=>(PO (b,a,1)).bind λc=>(sapp c x.2).bind λd=>(LW (([0]:E (UInt8)),wi (12-U x.2))).bind λe=>(sapp d e).bind λf=>D f
def fV(x:AV):Lp (z×Ob) Ob:=λa=>W (a.1<16) ((F4 x.2.2 a.1).bind λb=>(Kn a.2 b).bind λc=>D (.next (wi (a.1+1),c)))<|D (.done a.2)
def Nn(x:AV):V (Bc×z):=(XS x).bind λa=>W (!a) (D ([],1))<|(Vu x).bind λb=>W (!b) (D ([],22))<|(PO ([],x.2.1,8)).bind λc=>(PO (c,x.1,4)).bind λd=>(Ad (fV x) (0,d)).bind λe=>(LW (([0]:E (UInt8)),wi (244-U e))).bind λf=>(sapp e f).bind λg=>(PP g).bind λh=>(PO (g,wi h,4)).bind λi=>(PO (i,x.2.1,8)).bind λj=>D (j,0)
def Qi(x:Bc):V (AV×z):=W (U x !=256) (D (p!,2))<|(YZ ()).bind λa=>W (x==a) (D (p!,7))<|(US x 0 8).bind λb=>(US x 248 (U x)).bind λc=>W (b !=c) (D (p!,27))<|(US x 0 244).bind λd=>(HE (x,244,4)).bind λe=>(PP d).bind λf=>W (e !=wi f) (D (p!,3))<|(Xd x).bind λg=>(Nn g.1).bind λh=>W (!g.2) (D (p!,4))<|W (h.2 !=0) (D (p!,4))<|W (h.1 !=x) (D (p!,4))<|D (g.1,0)
def GU(x:Bc×z):V (AV×z):=(ID x.2).bind λa=>W (!a) (D (p!,1))<|(Qi x.1).bind λb=>W (b.2==7) ((EP x.2).bind λc=>D (c,0))<|W (b.2 !=0) (D (p!,b.2))<|W (b.1.1 !=x.2) (D (p!,6))<|D (b.1,0)
def fS(x:Ai):Lp z (y⊕T):=λa=>bif a<U x.2.2 then(ix x.2.2 a).bind λb=>letI f:=GU (b.2.2,b.1);bif b.1>=x.2.1 then q? else W (a>0) ((ix x.2.2 (wi (a-1))).bind λc=>W (c.1>=b.1) q?<|f.bind λd=>W (d.2 !=0) q?<|W (d.1.2.1 !=b.2.1) q?<|D (.next (wi (a+1))))<|f.bind λe=>W (e.2 !=0) q?<|W (e.1.2.1 !=b.2.1) q?<|D (.next (wi (a+1)))else w?
def LO(x:Ai):V y:=W (x.1<1) (D X)<|W (x.1>1073741824) (D X)<|W (x.2.1<1) (D X)<|W (x.2.1>64) (D X)<|W (U x.2.2>x.2.1) (D X)<|(Ad (fS x) 0).bind λa=>ν D (λb=>D Y) a
def XQ(x:Ai):V y:=(LO x).bind λa=>W a (D (U x.2.2==x.2.1))<|D X
def RI(x:AL×Aa):V z:=(Fm x.1).bind λa=>W (!a) (D 54)<|(HM x.2).bind λb=>W (!b) (D 26)<|D 0
def Vn(x:AV×Do):V (AV×z):=letI g:=x.2.2;letI f:=F4 x.1.2.2 g.1;(Ol x.2).bind λa=>W (!a) (D (p!,22))<|W (x.2.1 !=x.1.1) (D (p!,6))<|f.bind λb=>f.bind λc=>W (!(c.1==g.2.1.1&&(c.2==g.2.1.2&&Y))) (D (p!,20))<|f.bind λd=>f.bind λe=>D ((x.1.1,x.1.2.1,Xw x.1.2.2 g.1 g.2.2),0)
def V5(x:AV×AI):V (AV×z):=letI e:=x.2.2.2.2.2;(GR x.2).bind λa=>W (!a) (D (p!,12))<|(BJ x.2).bind λb=>W (!b) (D (p!,12))<|(Nn x.1).bind λc=>W (c.2 !=0) (D (p!,c.2))<|W (e.2.2.1.1 !=x.1.1) (D (p!,6))<|W (e.1 !=x.1.2.1) (D (p!,13))<|(Vn (x.1,e.2.2.1)).bind λd=>W (d.2 !=0) (D (p!,d.2))<|D ((d.1.1,x.2.1,d.1.2.2),0)
def bD(x:AV×E AI):Lp (z×AV×AV) ((z×AV)⊕(AV×AV)):=λa=>W (a.1<U x.2) ((ix x.2 a.1).bind λb=>W (b.1<=a.2.1.2.1) (D (.next (wi (a.1+1),a.2)))<|(V5 (a.2.1,b)).bind λc=>W (c.2 !=0) (D (.done (.inl (c.2,0,0,F5.all (X,[])))))<|D (.next (wi (a.1+1),c.1,a.2.2)))<|D (.done (.inr a.2))
def V7(x:AV×E AI):V (AV×z):=(Ad (bD x) (0,x.1,0,0,F5.all (X,[]))).bind λa=>ν (λb=>D (b.2,b.1)) (λc=>D (c.1,0)) a
def Jz(x:AV×AL×Aa×z):V (AV×z):=letI e:=x.2.2;(RI (x.2.1,e.1)).bind λa=>W (a !=0) (D (p!,a))<|(Nn x.1).bind λb=>W (b.2 !=0) (D (p!,b.2))<|W (x.1.2.1>e.2) (D (p!,9))<|(IE (x.2.1,e.1,x.1.1,x.1.2.1,e.2)).bind λc=>W (c.2 !=0) (D (p!,c.2))<|(V7 (x.1,c.1)).bind λd=>D d
def Up(x:z×z):Lp (z×E Cp×z×z) (E Cp×z×z):=λa=>W (a.1<x.2) ((I0 ()).bind λb=>(app a.2.1 [(a.1,0,b)]).bind λc=>D (.next (wi (a.1+1),c,a.2.2)))<|D (.done a.2)
def Jr(x:z×z):V Ai:=(Ad (Up x) (0,[],x)).bind λa=>D (a.2.1,a.2.2,a.1)
end
noncomputable section
abbrev GW:Type:=E Af×E z×Aa
def Pa:Ty:=.prod (.cons (.list B8) (.cons (.list (.int .i64)) (.one Bp)))
def Tk(x:Ai):Lp z (y⊕T):=λa=>bif a<U x.2.2 then(ix x.2.2 a).bind λb=>letI f:=Ch (b.2.2,b.1);bif b.1<0 then q? else W (b.1>=x.2.1) q?<|W (a>0) ((ix x.2.2 (wi (a-1))).bind λc=>W (c.1>=b.1) q?<|f.bind λd=>W (d.2 !=0) q?<|W (d.1.2.1 !=b.2.1) q?<|D (.next (wi (a+1))))<|f.bind λe=>W (e.2 !=0) q?<|W (e.1.2.1 !=b.2.1) q?<|D (.next (wi (a+1)))else w?
def EJ(x:Ai):V y:=W (x.1<1) (D X)<|W (x.1>1073741824) (D X)<|W (x.2.1<1) (D X)<|W (x.2.1>64) (D X)<|(Ad (Tk x) 0).bind λa=>ν D (λb=>D Y) a
def Ss(x:Ai):Lp (Bc×z) Bc:=λa=>letI h:=ix x.2.2 a.2;bif a.2<U x.2.2 then h.bind λb=>h.bind λc=>(An ([],b.1,2)).bind λd=>(sapp d c.2.2).bind λe=>(DY e).bind λf=>(sapp a.1 f).bind λg=>D (.next (g,wi (a.2+1)))else D (.done a.1)
def IQ(x:Ai):V (Bc×z):=(EJ x).bind λa=>W (!a) (D ([],43))<|(An (([80,77,73,77]:E (UInt8)),x.1,4)).bind λb=>(An (b,x.2.1,2)).bind λc=>(An (c,U x.2.2,2)).bind λd=>(DY d).bind λe=>(Ad (Ss x) (e,0)).bind λf=>D (f,0)
def Ko(x:Ai):V AS:=(IQ x).bind λa=>D (2,x.1,a.1)
def JE(x:Ai):V y:=(EJ x).bind λa=>W a (D (U x.2.2==x.2.1))<|D X
def U8(x:Ai×z):Lp (z×Cp) ((y×Cp)⊕Cp):=λa=>letI e:=ix x.1.2.2 a.1;bif a.1<U x.1.2.2 then(EJ x.1).bind λb=>W b (e.bind λc=>W (c.1==x.2) (e.bind λd=>D (.done (.inl (Y,d))))<|D (.next (wi (a.1+1),a.2)))<|D (.done (.inr a.2))else D (.done (.inr a.2))
def GO(x:Ai×z):V (Cp×y):=(Ad (U8 x) (0,0,0,[])).bind λa=>ν (λb=>D (b.2,b.1)) (λc=>D ((0,0,[]),X)) a
def Jx(x:Ai×z):V (AV×z):=(EJ x.1).bind λa=>W (!a) (D (p!,43))<|(GO x).bind λb=>W (!b.2) (D (p!,44))<|(Ch (b.1.2.2,x.2)).bind λc=>D c
def JD(x:AL×Aa×z×z×z):V z:=letI c:=x.2.2;(Ci x.1).bind λa=>W (!a) (D 54)<|(Be x.2.1).bind λb=>W (!b) (D 26)<|W (c.1<0) (D 1)<|W (c.1>=x.1.2.1) (D 1)<|W (c.2.1<0) (D 1)<|W (c.2.1>c.2.2) (D 1)<|D 0
def U5(x:AL×z):Lp z z:=λa=>W (wi (a+1)<U x.1.1) ((ix x.1.1 (wi (a+1))).bind λb=>W (b<=x.2) (D (.next (wi (a+1))))<|D (.done a))<|D (.done a)
def Rv(x:AL×z):V (z×z×y):=(Ci x.1).bind λa=>W (!a) (D (0,0,X))<|W (x.2<0) (D (0,0,X))<|W (x.2>=x.1.2.1) (D (0,0,X))<|(Ad (U5 x) 0).bind λb=>(EI (x.1,b)).bind λc=>D (c.1,c.2,Y)
def Jw(x:AL):V (E Af×E z):=(Mc x).bind λa=>D (a.1,a.2.1)
def RE(a:z×z×y)(b:E Af×E z):Lp (z×E Af×E z×Aa) (E Af×E z×Aa):=λc=>W (c.1<U b.1) ((ix b.1 c.1).bind λd=>(W (d.2.2.1==a.1) ((ix b.1 c.1).bind λe=>(ix b.2 c.1).bind λf=>(app c.2.1 [e]).bind λg=>(app c.2.2.1 [f]).bind λh=>D (g,h,c.2.2.2))<|D c.2).bind λi=>D (.next (wi (c.1+1),i)))<|D (.done c.2)
def Jj(x:AL×Aa×z):V GW:=(Rv (x.1,x.2.2)).bind λa=>(Jw x.1).bind λb=>(Ad (RE a b) (0,[],[],x.2.1)).bind λc=>D c
def JC(x:Aa×z):V y:=W (x.2>=x.1.1) (D (τ (x.2<(wi (x.1.1+U x.1.2.1)))))<|D X
def U7(x:GW×z):Lp (z×z) z:=λa=>letI f:=ix x.1.1 a.2;bif a.2<U x.1.1 then f.bind λb=>W (b.1<=x.2) (f.bind λc=>(W (x.2<=c.2.1) (f.bind λd=>D (if(d.2.1>a.1)then d.2.1 else a.1))<|D a.1).bind λe=>D (.next (e,wi (a.2+1))))<|D (.next (a.1,wi (a.2+1)))else D (.done a.1)
def Rw(x:GW×z):V z:=letI e:=x.1.2.2;letI d:=(wi ((wi (e.1+U e.2.1))-1));(Ad (U7 x) (wi (x.2-1),0)).bind λa=>(JC (e,x.2)).bind λb=>(W b (D (if(d>a)then d else a))<|D a).bind λc=>D c
def Lx(x:GW×z×z):Lp z (y⊕T):=λa=>W (a<x.2.2) ((Rw (x.1,wi (a+1))).bind λb=>W (b==a) q?<|D (.next b))<|w?
def KW(x:GW×z×z):V y:=(Ad (Lx x) x.2.1).bind λa=>ν D (λb=>D Y) a
def Sn(x:Af×z):Lp (z×E AI) (E AI):=letI f:=x.1.2.2.2.2.2;λa=>W (a.1<U f) ((ix f a.1).bind λb=>(W (b.2.2.2.2.2.2.1.1==x.2) ((ix f a.1).bind λc=>(app a.2 [c]).bind λd=>D d)<|D a.2).bind λe=>D (.next (wi (a.1+1),e)))<|D (.done a.2)
def P9(x:Af×z):V (E AI):=(Ev x.1).bind λa=>W (!a) (D [])<|(Ad (Sn x) (0,[])).bind λb=>D b
def LH(x:E Af×z×z×z)(a:E AI):Lp (E AI×z) (E AI):=λb=>letI h:=ix a b.2;bif b.2<U a then h.bind λc=>W (c.1>x.2.2.1) (h.bind λd=>(W (d.1<=x.2.2.2) (h.bind λe=>(Ck (b.1,e)).bind λf=>D f.1)<|D b.1).bind λg=>D (.next (g,wi (b.2+1))))<|D (.next (b.1,wi (b.2+1)))else D (.done b.1)
def LG(x:E Af×z×z×z):Lp (E AI×z) (E AI):=λa=>W (a.2<U x.1) ((ix x.1 a.2).bind λb=>(P9 (b,x.2.1)).bind λc=>(Ad (LH x c) (a.1,0)).bind λd=>D (.next (d,wi (a.2+1))))<|D (.done a.1)
def Ji(x:E Af×z×z×z):V (E AI):=(Ad (LG x) ([],0)).bind λa=>D a
def Sq(x:Aa×z×z×z):Lp (z×E AI) (E AI):=λa=>letI f:=(wi (a.1+1),a.2);bif a.1<U x.1.2.1 then(ix x.1.2.1 a.1).bind λb=>(BJ b).bind λc=>W c (W (b.2.2.2.2.2.2.1.1==x.2.1) (W (b.1>x.2.2.1) ((W (b.1<=x.2.2.2) ((app a.2 [b]).bind λd=>D d)<|D a.2).bind λe=>D (.next (wi (a.1+1),e)))<|D (.next f))<|D (.next f))<|D (.next f)else D (.done a.2)
def QC(x:Aa×z×z×z):V (E AI):=(Ad (Sq x) (0,[])).bind λa=>D a
def M6(x:E Af×z):Lp z (z⊕T):=λa=>W (a<U x.1) ((ix x.1 a).bind λb=>W (b.1<=x.2) ((ix x.1 a).bind λc=>W (x.2<=c.2.1) (D (.done (.inl a)))<|D (.next (wi (a+1))))<|D (.next (wi (a+1))))<|w?
def LJ(x:E Af×z):V z:=(Ad (M6 x) 0).bind λa=>ν D (λb=>D (-1)) a
def QB(x:E AI×AI):Lp z (y⊕T):=letI f:=x.2.2.2;letI c:=f.2.2.2;letI e:=c.2.1.2;λa=>bif a<U x.1 then(ix x.1 a).bind λb=>letI g:=b.2.2.2;letI d:=g.2.2.2;letI h:=d.1.2.2;bif b.1==x.2.1&&(b.2.1==x.2.2.1&&(b.2.2.1==f.1&&(g.1==f.2.1&&(g.2.1==f.2.2.1&&(g.2.2.1==c.1&&(d.1.1==c.2.1.1&&(d.1.2.1==e.1&&(h.1.1==e.2.1.1&&(h.1.2==e.2.1.2&&(h.2.1==e.2.2.1&&(h.2.2==e.2.2.2&&(d.2==c.2.2&&Y))))))))))))then j? else D (.next (wi (a+1)))else w?
def Ib(x:E AI×AI):V y:=(Ad (QB x) 0).bind λa=>ν D (λb=>D X) a
def OG(x:E Af×Aa×E AI×E AI):Lp (E AI×z) ((E AI×y)⊕(E AI)):=λa=>letI j:=ix x.2.2.2 a.2;bif a.2<U x.2.2.2 then j.bind λb=>(LJ (x.1,b.1)).bind λc=>W (c>=0) (j.bind λd=>(Ib (x.2.2.1,d)).bind λe=>W (!e) (D (.done (.inl ([],X))))<|j.bind λf=>(Ck (a.1,f)).bind λg=>D (.next (g.1,wi (a.2+1))))<|j.bind λh=>(Ck (a.1,h)).bind λi=>D (.next (i.1,wi (a.2+1)))else D (.done (.inr a.1))
def OH(x:E Af×Aa×E AI×E AI):Lp z ((E AI×y)⊕T):=λa=>letI f:=ix x.2.2.1 a;bif a<U x.2.2.1 then f.bind λb=>(JC (x.2.1,b.1)).bind λc=>W c (f.bind λd=>(Ib (x.2.2.2,d)).bind λe=>W (!e) (D (.done (.inl ([],X))))<|D (.next (wi (a+1))))<|D (.next (wi (a+1)))else w?
def Md(x:E Af×Aa×E AI×E AI):V (E AI×y):=(app [] x.2.2.1).bind λa=>(Ad (OG x) (a,0)).bind λb=>ν D (λc=>(Ad (OH x) 0).bind λd=>ν D (λe=>D (c,Y)) d) b
def Qt(x:AL×Aa×z×z×z)(a:E AI×y):Lp z ((E AI×z)⊕T):=λb=>letI j:=(ix a.1 (wi (b-1)));letI i:=ix a.1 b;letI h:=wi (b+1);bif b<U a.1 then W (b==0) (i.bind λc=>W (c.2.2.2.2.1>x.2.2.2.1) (D (.done (.inl ([],13))))<|W (b>0) (i.bind λd=>j.bind λe=>W (d.2.2.2.2.1 !=e.1) (D (.done (.inl ([],13))))<|D (.next h))<|D (.next h))<|W (b>0) (i.bind λf=>j.bind λg=>W (f.2.2.2.2.1 !=g.1) (D (.done (.inl ([],13))))<|D (.next h))<|D (.next h)else w?
def Fg(x:AL×Aa×z×z×z):V (E AI×z):=(JD x).bind λa=>W (a !=0) (D ([],a))<|(Jj (x.1,x.2.1,x.2.2.1)).bind λb=>(KW (b,x.2.2.2)).bind λc=>W (!c) (D ([],42))<|(Ji (b.1,x.2.2)).bind λd=>(QC x.2).bind λe=>(Md (b.1,x.2.1,d,e)).bind λf=>W (!f.2) (D ([],41))<|(Ad (Qt x f) 0).bind λg=>ν D (λh=>D (f.1,0)) g
def VC(x:AV×E AI):Lp (z×AV×AV) ((z×AV)⊕(AV×AV)):=λa=>W (a.1<U x.2) ((ix x.2 a.1).bind λb=>W (b.1<=a.2.1.2.1) (D (.next (wi (a.1+1),a.2)))<|(ix x.2 a.1).bind λc=>(JB (a.2.1,c)).bind λd=>W (d.2 !=0) (D (.done (.inl (d.2,0,0,F5.all (X,[])))))<|D (.next (wi (a.1+1),d.1,a.2.2)))<|D (.done (.inr a.2))
def NZ(x:AV×E AI):V (AV×z):=(Ad (VC x) (0,x.1,0,0,F5.all (X,[]))).bind λa=>ν (λb=>D (b.2,b.1)) (λc=>D (c.1,0)) a
def Hm(x:AV×AL×Aa×z):V (AV×z):=letI f:=x.2.2;(Ci x.2.1).bind λa=>W (!a) (D (p!,54))<|(Be f.1).bind λb=>W (!b) (D (p!,26))<|(DH x.1).bind λc=>W (c.2 !=0) (D (p!,c.2))<|W (x.1.2.1>f.2) (D (p!,9))<|(Fg (x.2.1,f.1,x.1.1,x.1.2.1,f.2)).bind λd=>W (d.2 !=0) (D (p!,d.2))<|(NZ (x.1,d.1)).bind λe=>D e
def U9(x:Ai×AL×Aa×z×z):Lp (z×E Cp×z×z×Ai) ((z×Ai)⊕(E Cp×z×z×Ai)):=λa=>W (a.1<U x.1.2.2) ((ix x.1.2.2 a.1).bind λb=>(Jx (x.1,b.1)).bind λc=>(Hm (c.1,x.2.1,x.2.2.1,x.2.2.2.2)).bind λd=>W (d.2 !=0) (D (.done (.inl (d.2,0,0,[]))))<|(W (d.1.2.1>0) ((DH d.1).bind λe=>D (d.1.1,d.1.2.1,e.1))<|D b).bind λf=>(app a.2.1 [f]).bind λg=>D (.next (wi (a.1+1),g,a.2.2)))<|D (.done (.inr a.2))
def NY(x:Ai×AL×Aa×z×z):V (Ai×z):=letI g:=x.2.2;(JE x.1).bind λa=>W (!a) (D ((0,0,[]),43))<|(Ci x.2.1).bind λb=>W (!b) (D ((0,0,[]),54))<|(Be g.1).bind λc=>W (!c) (D ((0,0,[]),26))<|W (g.2.1<1) (D ((0,0,[]),1))<|W (g.2.1>1073741824) (D ((0,0,[]),1))<|W (g.2.2<0) (D ((0,0,[]),1))<|W (g.2.2>g.1.2.2) (D ((0,0,[]),1))<|(Ad (U9 x) (0,[],g.2.1,x.1.2.1,0,0,[])).bind λd=>ν (λe=>D (e.2,e.1)) (λf=>D ((f.2.1,f.2.2.1,f.1),0)) d
def TS(x:z×AL×Aa):Lp (z×z×E AS×Ag×Ai) (E AS×Ag×Ai):=λa=>letI g:=a.2.2;(A2 g.2.1 3).bind λb=>W (a.2.1<wi (2+b.1)) ((A2 b.2 (wi (wi (x.2.2.2.2-a.1)+1))).bind λc=>(NY (g.2.2,x.2.1,x.2.2,a.2.1,wi (a.1+c.1))).bind λd=>W (d.2 !=0) (D (.done (g.1,c.2,g.2.2)))<|(Ko d.1).bind λe=>(app g.1 [e]).bind λf=>D (.next (wi (a.1+c.1),wi (a.2.1+1),f,c.2,d.1)))<|D (.done (g.1,b.2,g.2.2))
def MD(b:Ag)(x:z×AL×Aa):V (E AS×Ag):=(Jr (1,x.1)).bind λa=>(A2 b 3).bind λc=>(W (c.1>0) ((Ko a).bind λd=>D ([]++([d]:E (z×z×Bc))))<|D []:V (E AS)).bind λe=>(Ad (TS x) (0,2,e,c.2,a)).bind λf=>D (f.1,f.2.1)
def Sr(x:Bc)(a:z):Lp (z×z×E Cp×z×z×Ai) ((z×Ai)⊕(z×E Cp×z×z×Ai)):=λb=>W (b.2.1<a) ((Bd (x,b.1)).bind λc=>W (c.2.2 !=0) (D (.done (.inl (c.2.2,0,0,[]))))<|W (U c.1 !=258) (D (.done (.inl (4,0,0,[]))))<|(US c.1 2 (U c.1)).bind λd=>(Bl (c.1,0,2)).bind λe=>(Ch (d,e)).bind λf=>(app b.2.2.1 [(e,f.1.2.1,d)]).bind λg=>D (.next (c.2.1,wi (b.2.1+1),g,b.2.2.2)))<|D (.done (.inr (b.1,b.2.2)))
def Ef(x:Bc):V (Ai×z):=(Bd (x,0)).bind λa=>W (a.2.2 !=0) (D ((0,0,[]),a.2.2))<|W (U a.1 !=12) (D ((0,0,[]),4))<|(US a.1 0 4).bind λb=>W (b !=([80,77,73,77]:E (UInt8))) (D ((0,0,[]),4))<|(Bl (a.1,4,4)).bind λc=>(Bl (a.1,8,2)).bind λd=>(Bl (a.1,10,2)).bind λe=>W (e>64) (D ((0,0,[]),4))<|(Ad (Sr x e) (a.2.1,0,[],c,d,0,0,[])).bind λf=>ν (λg=>D (g.2,g.1)) (λh=>letI j:=(h.2.2.1,h.2.2.2.1,h.2.1);bif h.1 !=U x then D ((0,0,[]),4)else(EJ j).bind λi=>W (!i) (D ((0,0,[]),43))<|D (j,0)) f
def Sv(x:E AS)(a:E Ai×z):Lp (y×z) y:=λb=>letI f:=wi (b.2+1);bif b.2<a.2 then W b.1 ((ix x b.2).bind λc=>W (c.1 !=2) (D (.next (Y,f)))<|(ix x b.2).bind λd=>(ix x a.2).bind λe=>D (.next ((d.2.1 !=e.2.1),f)))<|D (.next (X,f))else D (.done b.1)
def Sw(a:E Ai×z)(b:Ai×z):Lp z z:=λc=>W (c>0) ((ix a.1 (wi (c-1))).bind λd=>W (d.1>b.1.1) (D (.next (wi (c-1))))<|D (.done c))<|D (.done c)
def Su(x:E AS):Lp (E Ai×z) (E Ai):=λa=>letI o:=ix x a.2;letI l:=(a.1,wi (a.2+1));bif a.2<U x then o.bind λb=>(Ad (Sv x a) ((b.1==2),0)).bind λc=>W (!c) (D (.next l))<|o.bind λd=>(Ef d.2.2).bind λe=>W (e.2 !=0) (D (.next l))<|(JE e.1).bind λf=>W (!f) (D (.next l))<|o.bind λg=>W (e.1.1 !=g.2.1) (D (.next l))<|(Ad (Sw a e) (U a.1)).bind λh=>(WB a.1 0 h).bind λi=>(WB a.1 h (U a.1)).bind λj=>(app [] i).bind λk=>(app k [e.1]).bind λm=>(app m j).bind λn=>D (.next (n,wi (a.2+1)))else D (.done a.1)
def C1(x:E AS):V (E Ai):=(Ad (Su x) ([],0)).bind λa=>D a
end
noncomputable section
abbrev Gs:Type:=z×z×z×z×E z×z×z
def RR:Ty:=.prod (z? (z? (z? (z? (.cons (.list (.int .i64)) (z? (.one (.int .i64))))))))
def AIU{α γ:Type}(c:α×α->V γ)(n:γ->y)(x:z×z):Lp (z×E α) (E α):=λa=>letI s:=(ix a.2 a.1);letI l:=(wi (a.1-1));letI v:=(ix a.2 l);(W (a.1>x.1) (s.bind λb=>s.bind λd=>v.bind λe=>v.bind λf=>(c (d,f)).bind λg=>W (n g) (D (.inr ()))<|D (.inl ()))<|D (.inl ()):V (T⊕T)).bind λh=>ν (λi=>D (.done a.2)) (λj=>v.bind λk=>v.bind λm=>letI w:=(FM a.2 a.1 m);s.bind λo=>s.bind λp=>s.bind λq=>s.bind λr=>(ix w l).bind λt=>(ix w l).bind λu=>D (.next (wi (a.1-1),FM w l p))) h
def AFV{α γ:Type}(c:α×α->V γ)(n:γ->y)(l:E α)(x:z×z):V (E α):=(Ad (λa=>W (a.1<x.2) ((Ad (AIU c n x) a).bind λb=>D (.next (wi (a.1+1),b)))<|D (.done a.2)) (wi (x.1+1),l)).bind λd=>D d
def AKd{α:Type}(f:E α->z×z->V (E α)):Lp (z×z×z×y×y×E α) (E α):=λa=>letI d:=a.2.2;letI e:=d.2.2.2;bif wi (a.2.1-a.1)<=12 then(f e (a.1,a.2.1)).bind λb=>W (ξ (Z b) (Z e)) (D (.done b))<|A else W (d.1==0) A<|(W (! d.2.1) A<|D (d.1,e):V (z×E α)).bind λc=>A
def pdG{α:Type}(f:E α->z×z->V (E α))(l:E α)(x:z×z×z):V (E α):=(Ad (AKd f) (x.1,x.2.1,x.2.2,Y,Y,l)).bind λa=>D a
def soG{α:Type}(f:E α->z×(z×z)->V (E α))(l:E α):V (E α):=(Kf (ι .u64 (U l))).bind λa=>(f l (0,U l,a)).bind λb=>W (ξ (Z b) (Z l)) (D b)<|A
def Q5(x:Ai×Ai):V z:=(EB (x.1.1,x.2.1)).bind λa=>D a
def Q4(x:BP×BP):V z:=(EB (x.2.1,x.1.1)).bind λa=>D a
def Mh(l:E z)(x:z×z):V (E z):=AFV Om (λa=>a) l x
def PR(rec:(E z×z×z×z)->(V (E z)))(l:E z)(x:z×z×z):V (E z):=pdG Mh l x
def RH(l:E z)(x:z×z×z):V (E z):=tU (λg p=>PR g p.1 p.2) (l,x)
def Mf(l:E z)(x:T):V (E z):=soG RH l
def JW(l:E Ai)(x:z×z):V (E Ai):=AFV Q5 (λa=>decide (a<0)) l x
def LQ(rec:(E Ai×z×z×z)->(V (E Ai)))(l:E Ai)(x:z×z×z):V (E Ai):=pdG JW l x
def Mi(l:E Ai)(x:z×z×z):V (E Ai):=tU (λg p=>LQ g p.1 p.2) (l,x)
def Gm(l:E Ai)(x:T):V (E Ai):=soG Mi l
def Ep(l:E BP)(x:z×z):V (E BP):=AFV Q4 (λa=>decide (a<0)) l x
def Mj(x:z):Lp (z×z×E BP) (z×E BP):=λa=>letI c:=a.2.1;bif c<=x then(Ep a.2.2 (a.1,c)).bind λb=>W (ξ (Z b) (Z a.2.2)) (D (.next (c,wi (c+20),b)))<|A else D (.done (a.1,a.2.2))
def VL(x:z):Lp (z×z×E BP) (z×E BP):=λa=>W (a.2.1<=x) A<|D (.done (a.1,a.2.2))
def Mk(x:z):Lp (z×E BP) (E BP):=λa=>W (a.1<x) ((Ad (VL x) (0,wi (2*a.1),a.2)).bind λb=>(W (wi (b.1+a.1)<x) A<|D b.2:V (E BP)).bind λc=>D (.next (wi (a.1*2),c)))<|D (.done a.2)
def JS(l:E BP)(x:z):V (E BP):=(Ad (Mj x) (0,20,l)).bind λa=>(Ep a.2 (a.1,x)).bind λb=>W (ξ (Z b) (Z a.2)) ((Ad (Mk x) (20,b)).bind λc=>D c)<|A
def ES(l:E BP)(x:T):V (E BP):=(JS l (U l)).bind λa=>W (ξ (Z a) (Z l)) (D a)<|A
def SL(x:Bc):V Cp:=(US x 2 (U x)).bind λa=>(By (x,0,2)).bind λb=>(GU (a,b.1)).bind λc=>D (b.1,c.1.2.1,a)
def bC(x:Bc)(a:z×z):Lp (z×z×E Cp×z×z×Ai) ((z×Ai)⊕(z×E Cp×z×z×Ai)):=λb=>W (b.2.1<a.1) ((Dk (x,b.1)).bind λc=>W (c.2.2 !=0) (D (.done (.inl (c.2.2,0,0,[]))))<|W (U c.1 !=258) (D (.done (.inl (4,0,0,[]))))<|(SL c.1).bind λd=>(app b.2.2.1 [d]).bind λe=>D (.next (c.2.1,wi (b.2.1+1),e,b.2.2.2)))<|D (.done (.inr (b.1,b.2.2)))
def Jq(x:Bc):V (Ai×z):=(Dk (x,0)).bind λa=>W (a.2.2 !=0) (D ((0,0,[]),a.2.2))<|W (U a.1 !=12) (D ((0,0,[]),4))<|(E5 (a.1,([80,77,73,77]:E (UInt8)))).bind λb=>W (!b) (D ((0,0,[]),4))<|(By (a.1,4,4)).bind λc=>(By (a.1,8,2)).bind λd=>(By (a.1,10,2)).bind λe=>W (e.1>64) (D ((0,0,[]),4))<|(Ad (bC x e) (a.2.1,0,[],c.1,d.1,0,0,[])).bind λf=>ν (λg=>D (g.2,g.1)) (λh=>letI j:=(h.2.2.1,h.2.2.2.1,h.2.1);bif h.1<U x then D ((0,0,[]),4)else(LO j).bind λi=>W (!i) (D ((0,0,[]),43))<|D (j,0)) f
def ZO(x:E AS):Lp (z×E (z×y)×E Ai) (E (z×y)×E Ai):=λa=>letI h:=(wi (a.1+1),a.2);bif a.1<U x then(ix x a.1).bind λb=>letI g:=Qw b.2.1 Y a.2.1;letI f:=(wi (a.1+1),g,a.2.2);bif b.1 !=2 then D (.next h)else W (Option.getD (L3 b.2.1 a.2.1) X) (D (.next h))<|(Jq b.2.2).bind λc=>W (c.2==0) ((XQ c.1).bind λd=>W d (W (c.1.1==b.2.1) ((app a.2.2 [c.1]).bind λe=>D (.next (wi (a.1+1),g,e)))<|D (.next f))<|D (.next f))<|D (.next f)else D (.done a.2)
def HK(x:E AS):V (E Ai):=(Ad (ZO x) (0,[],[])).bind λa=>(Gm a.2 ()).bind λb=>W (ξ (Z b) (Z a.2)) (D b)<|A
def QW(x:Cp×z):V z:=D (wi (x.1.1-x.2))
def fT(x:Ai×z):Lp (z×z) z:=λa=>letI e:=(wi (Int.fdiv (ι .u64 (wi (a.1+a.2))) (2^(min (ο 1) 64))));bif a.1<a.2 then(ix x.1.2.2 e).bind λb=>(QW (b,x.2)).bind λc=>(W (c<0) (D (wi (e+1),a.2))<|D (a.1,e):V (z×z)).bind λd=>D (.next d)else D (.done a.1)
def TQ(x:Ai×z):V (z×y):=letI d:=x.1.2.2;(Ad (fT x) (0,U d)).bind λa=>W (a<U d) ((ix d a).bind λb=>(QW (b,x.2)).bind λc=>D (a,(c==0)))<|D (a,X)
def Vs(x:Ai×z):V (Cp×y):=(LO x.1).bind λa=>W (!a) (D ((0,0,[]),X))<|W (x.2<0) (D ((0,0,[]),X))<|W (x.2>=x.1.2.1) (D ((0,0,[]),X))<|(TQ x).bind λb=>W (!b.2) (D ((0,0,[]),X))<|(ix x.1.2.2 b.1).bind λc=>D (c,Y)
def ZN(x:E AS×z×z)(a:E Ai):Lp (z×E BP) (E BP):=λb=>letI f:=(wi (b.1-1),b.2);bif b.1>=0 then(ix a b.1).bind λc=>(Vs (c,x.2.1)).bind λd=>letI g:=d.1.2.1;bif d.2 then W (g<=x.2.2) ((app b.2 [(g,c.1,g)]).bind λe=>D (.next (wi (b.1-1),e)))<|D (.next f)else D (.next f)else D (.done b.2)
def Tw(x:E AS×z×z):V (E BP):=(HK x.1).bind λa=>(Ad (ZN x a) (wi (U a-1),[])).bind λb=>(ES b ()).bind λc=>W (ξ (Z c) (Z b)) (D c)<|A
def UP(b:BP)(x:Ai):V (y×BP):=D ((x.1==b.2.1),b)
def YY(x:Ai×z):V (AV×z):=(LO x.1).bind λa=>W (!a) (D (p!,43))<|(Vs x).bind λb=>W (!b.2) (D (p!,44))<|(GU (b.1.2.2,x.2)).bind λc=>D c
def bA(x:AL×Aa×z×z×z)(a:z)(b:z×z×y)(c:E Af×E z):Lp (z×E z) (E z):=letI j:=x.2.2.2;letI o:=if(a<j.2)then a else j.2;letI k:=(if(x.2.1.1>wi (j.1+1))then x.2.1.1 else wi (j.1+1));λd=>letI n:=(wi (d.1+1),d.2);bif d.1<U c.1 then(ix c.1 d.1).bind λe=>letI m:=if(e.2.1<j.2)then e.2.1 else j.2;letI l:=(if(e.1>wi (j.1+1))then e.1 else wi (j.1+1));bif e.2.2.1==b.1 then(ix c.2 d.1).bind λf=>W (l>m) (D (.next n))<|W (k>o) ((app d.2 [f]).bind λg=>D (.next (wi (d.1+1),g)))<|W (l<k) ((app d.2 [f]).bind λh=>D (.next (wi (d.1+1),h)))<|W (m>o) ((app d.2 [f]).bind λi=>D (.next (wi (d.1+1),i)))<|D (.next n)else D (.next n)else D (.done d.2)
def Oo(x:AL×Aa×z×z×z):V (E z×z×z×z):=letI i:=x.2.2.2;letI g:=(if(x.2.1.1>wi (i.1+1))then x.2.1.1 else wi (i.1+1));(IE x).bind λa=>W (a.2 !=0) (D ([],0,0,a.2))<|(Ri x.2.1).bind λb=>letI h:=if(b<i.2)then b else i.2;(GQ (x.1,x.2.2.1)).bind λc=>W (!c.2.2) A<|(HJ x.1).bind λd=>(Ad (bA x b c d) (0,[])).bind λe=>(Mf e ()).bind λf=>W (ξ (Z f) (Z e)) (W (g>h) (D (f,0,0,0))<|D (f,g,h,0))<|A
def S7(a:E Ai):Lp (z×BP) ((z×BP)⊕BP):=λb=>W (b.1<U a) ((ix a b.1).bind λc=>(UP b.2 c).bind λd=>W d.1 (D (.done (.inl (b.1,d.2))))<|D (.next (wi (b.1+1),d.2)))<|D (.done (.inr b.2))
def YQ(x:E AS×AL×Aa×z×z)(a:E Ai)(b:E BP):Lp (z×AV×Gs) ((z×AV×Gs)⊕(AV×Gs)):=letI l:=x.2.2.2;λc=>letI m:=(wi (c.1+1),c.2);bif c.1<U b then(ix b c.1).bind λd=>(Ad (S7 a) (0,d)).bind λe=>ν (λf=>(ix a f.1).bind λg=>(YY (g,l.1)).bind λh=>W (h.2 !=0) (D (.next m))<|(Jz (h.1,x.2.1,x.2.2.1,l.2)).bind λi=>W (i.2 !=0) (D (.next m))<|(Oo (x.2.1,x.2.2.1,l.1,h.1.2.1,l.2)).bind λj=>W (j.2.2.2==0) (D (.done (.inl (0,i.1,l.1,f.2.2.1,h.1.2.1,l.2,j.1,j.2.1,j.2.2.1))))<|D (.next m)) (λk=>A) e else D (.done (.inr c.2))
def SM(x:E AS×AL×Aa×z×z):V (AV×Gs×z):=letI m:=x.2.1;letI l:=x.2.2;letI k:=l.2;(Fm m).bind λa=>W (!a) (D (p!,(0,0,0,0,[],0,0),54))<|(HM l.1).bind λb=>W (!b) (D (p!,(0,0,0,0,[],0,0),26))<|W (k.1<0) (D (p!,(0,0,0,0,[],0,0),1))<|W (k.1>=m.2.1) (D (p!,(0,0,0,0,[],0,0),1))<|W (k.2<0) (D (p!,(0,0,0,0,[],0,0),1))<|(HK x.1).bind λc=>(Tw (x.1,k)).bind λd=>(Ad (YQ x c d) (0,p!,0,0,0,0,[],0,0)).bind λe=>ν (λf=>D (f.2.1,f.2.2,f.1)) (λg=>(EP k.1).bind λh=>(Jz (h,m,l.1,k.2)).bind λi=>W (i.2 !=0) (D (p!,(0,0,0,0,[],0,0),49))<|(Oo (m,l.1,k.1,h.2.1,k.2)).bind λj=>W (j.2.2.2==0) (D (i.1,(k.1,0,h.2.1,k.2,j.1,j.2.1,j.2.2.1),0))<|D (p!,(0,0,0,0,[],0,0),49)) e
end
noncomputable section
abbrev yF:Type:=Ai×z
def yI:Ty:=.prod (.cons BO (.one (.int .i64)))
abbrev HW:Type:=y×E y×E z
def LL:Ty:=.prod (.cons .bool (.cons (.list .bool) (.one (.list (.int .i64)))))
abbrev af:Type:=z×z
def UU:Ty:=.prod (z? (.one (.int .i64)))
abbrev Ie:Type:=z×z×E af×E z
def PN:Ty:=.prod (z? (z? (.cons (.list UU) (.one (.list (.int .i64))))))
abbrev wL:Type:=z×z×z×z
def wM:Ty:=.prod (z? (z? (z? (.one (.int .i64)))))
abbrev zT:Type:=z×E wL
def zb:Ty:=.prod (z? (.one (.list wM)))
abbrev ah:Type:=(F5 8 z)×z×z
def lH:Ty:=.prod (.cons (.arr 7 (.int .i64)) (z? (.one (.int .i64))))
abbrev Bg:Type:=AQ×Bn×AL×E AS×yF×y×HW×Ie×zT×ah×E z×z
def E9:Ty:=.prod (.cons Az (.cons Ex (.cons BT (.cons (.list BX) (.cons yI (.cons .bool (.cons LL (.cons PN (.cons zb (.cons lH (.cons (.list (.int .i64)) (.one (.int .i64)))))))))))))
def S8(x:z×z):Lp (z×E z) (E z):=λa=>letI r:=ix a.2 a.1;letI l:=wi (a.1-1);letI s:=ix a.2 l;(W (a.1>x.1) (r.bind λb=>r.bind λc=>s.bind λd=>s.bind λe=>A)<|D (.inl ()):V (T⊕T)).bind λf=>ν (λg=>D (.done a.2)) (λh=>s.bind λi=>s.bind λj=>letI t:=FM a.2 a.1 j;r.bind λk=>r.bind λm=>r.bind λn=>r.bind λo=>(ix t l).bind λp=>(ix t l).bind λq=>D (.next (wi (a.1-1),FM t l m))) f
def Kt(x:z×z):Lp (z×E z) (E z):=λa=>W (a.1<x.2) ((Ad (S8 x) a).bind λb=>D (.next (wi (a.1+1),b)))<|D (.done a.2)
def Fj(l:E z)(x:z×z):V (E z):=(Ad (Kt x) (wi (x.1+1),l)).bind λa=>D a
def PL:Lp (z×z×z×y×y×E z) (E z):=λa=>letI d:=a.2.2;letI e:=d.2.2.2;bif wi (a.2.1-a.1)<=12 then(Fj e (a.1,a.2.1)).bind λb=>W (ξ (Z b) (Z e)) (D (.done b))<|A else W (d.1==0) A<|(W (! d.2.1) A<|D (d.1,e):V (z×E z)).bind λc=>A
def FX(rec:(E z×z×z×z)->(V (E z)))(l:E z)(x:z×z×z):V (E z):=(Ad (PL) (x.1,x.2.1,x.2.2,Y,Y,l)).bind λa=>D a
def RG(l:E z)(x:z×z×z):V (E z):=tU (λg p=>FX g p.1 p.2) (l,x)
def Iv(l:E z)(x:T):V (E z):=(Kf (ι .u64 (U l))).bind λa=>(RG l (0,U l,a)).bind λb=>W (ξ (Z b) (Z l)) (D b)<|A
def Tl(x:Ie):Lp (z×z) (y⊕z):=letI k:=x.2.2.2;λa=>letI j:=ix k a.2;bif a.2<U k then j.bind λb=>W (b<0) q?<|j.bind λc=>W (c>=wi (x.1+x.2.1)) q?<|W (a.2>0) ((ix k (wi (a.2-1))).bind λd=>j.bind λe=>W (d>=e) q?<|j.bind λf=>(W (f<x.1) (D (wi (a.1+1)))<|D a.1).bind λg=>D (.next (g,wi (a.2+1))))<|j.bind λh=>(W (h<x.1) (D (wi (a.1+1)))<|D a.1).bind λi=>D (.next (i,wi (a.2+1)))else D (.done (.inr a.1))
def Tn(x:Ie)(a:z)(b:af):Lp z (y⊕T):=λc=>W (c<a) ((ix x.2.2.1 c).bind λd=>W (d.2==b.2) q?<|D (.next (wi (c+1))))<|w?
def Tm(x:Ie):Lp z (y⊕T):=letI l:=x.2.2;λa=>bif a<U l.1 then(ix l.1 a).bind λb=>letI q:=Ct (l.2,b.1);letI p:=Ct (l.2,b.2);letI o:=Ad (Tn x a b) 0;bif b.1<0 then q? else W (b.1>=x.1) q?<|W (a>0) ((ix l.1 (wi (a-1))).bind λc=>W (c.1>=b.1) q?<|W (b.2<x.1) q?<|W (b.2>=wi (x.1+x.2.1)) q?<|p.bind λd=>W d q?<|q.bind λe=>W (!e) q?<|o.bind λf=>ν (λg=>D (.done (.inl g))) (λh=>D (.next (wi (a+1)))) f)<|W (b.2<x.1) q?<|W (b.2>=wi (x.1+x.2.1)) q?<|p.bind λi=>W i q?<|q.bind λj=>W (!j) q?<|o.bind λk=>ν (λm=>D (.done (.inl m))) (λn=>D (.next (wi (a+1)))) k else w?
def Me(x:Ie):V y:=W (x.1<1) (D X)<|W (x.1>64) (D X)<|W (x.2.1<0) (D X)<|W (x.2.1>16) (D X)<|W (wi (x.1+x.2.1)>64) (D X)<|(Ad (Tl x) (0,0)).bind λa=>ν D (λb=>(Ad (Tm x) 0).bind λc=>ν D (λd=>D (U x.2.2.1==b)) c) a
def OY(x:z×z):V (Ie×z):=(Me (x.1,x.2,[],[])).bind λa=>W (!a) (D ((0,0,[],[]),1))<|D ((x.1,x.2,[],[]),0)
def V4(x:T):V (F5 8 z):=D (F5.all 1)
def To(x:ah):Lp z (y⊕T):=λa=>letI f:=F4 x.1 a;bif a<8 then f.bind λb=>f.bind λc=>W (c<0) q?<|f.bind λd=>f.bind λe=>W (e>100) q?<|D (.next (wi (a+1)))else w?
def Qu(x:ah):V y:=letI e:=(F4 x.1 (wi (x.2.1-1)));(Ad (To x) 0).bind λa=>ν D (λb=>W (x.2.1>=1) (W (x.2.1<=8) (W (x.2.2>=0) (e.bind λc=>e.bind λd=>D (τ (x.2.2<=d)))<|D X)<|D X)<|D X) a
def OZ(x:F5 8 z):V (ah×z):=(Qu (x,1,0)).bind λa=>W (!a) (D ((F5.all 0,0,0),53))<|D ((x,1,0),0)
def Ks(x:z×z×z×E z):V (Bg×z):=(ER (x.1,x.2.1)).bind λa=>W (a.2 !=0) (D ((j!,([],0,[],X,[]),([],0,[],0,0),[],((0,0,[]),0),X,(X,[],[]),(0,0,[],[]),(0,[]),(F5.all 0,0,0),[],0),a.2))<|(Fs (wi (x.1+x.2.2.1))).bind λb=>W (b.2 !=0) (D ((j!,([],0,[],X,[]),([],0,[],0,0),[],((0,0,[]),0),X,(X,[],[]),(0,0,[],[]),(0,[]),(F5.all 0,0,0),[],0),b.2))<|(Fu (x.1,x.2.2.2)).bind λc=>W (c.2 !=0) (D ((j!,([],0,[],X,[]),([],0,[],0,0),[],((0,0,[]),0),X,(X,[],[]),(0,0,[],[]),(0,[]),(F5.all 0,0,0),[],0),c.2))<|(OY (x.1,x.2.2.1)).bind λd=>W (d.2 !=0) (D ((j!,([],0,[],X,[]),([],0,[],0,0),[],((0,0,[]),0),X,(X,[],[]),(0,0,[],[]),(0,[]),(F5.all 0,0,0),[],0),d.2))<|(V4 ()).bind λe=>(OZ e).bind λf=>D ((a.1,b.1,c.1,[],((0,0,[]),0),X,(X,[],[]),d.1,(0,[]),f.1,[],0),0)
def rX(a:z×z×z×y×y):Lp z T:=λb=>W (b>a.1) ((ix ([]:E z) b).bind λc=>(ix ([]:E z) (wi (b-1))).bind λd=>(Om (c,d)).bind λe=>W e ((ix ([]:E z) (wi (b-1))).bind λf=>(ix ([]:E z) b).bind λg=>(ix ([]:E z) b).bind λh=>A)<|D (.done ()))<|D (.done ())
def fP(a:z×z×z×y×y):Lp z T:=λb=>W (b<a.2.1) ((Ad (rX a) b).bind λc=>D (.next (wi (b+1))))<|D (.done ())
def XB:Lp (z×z×z×y×y) T:=λa=>W (wi (a.2.1-a.1)<=12) ((Ad (fP a) (wi (a.1+1))).bind λb=>D (.done ()))<|W (a.2.2.1==0) A<|W (!a.2.2.2.1) A<|A
def fQ:Lp (z×E AS) (E AS):=λa=>W (a.1<U ([]:E z)) ((ix ([]:E z) a.1).bind λb=>(app a.2 ([(1,b,[])]:E (z×z×Bc))).bind λc=>D (.next (wi (a.1+1),c)))<|D (.done a.2)
def SI(a:E Ai):Lp (z×E AS) (E AS):=λb=>W (b.1<U a) ((ix a b.1).bind λc=>(app b.2 [(2,c.1,[])]).bind λd=>D (.next (wi (b.1+1),d)))<|D (.done b.2)
def fR(a:E z)(b:E z):Lp (z×E AS) (E AS):=λc=>W (c.1<U a) ((ix b c.1).bind λd=>(ix b c.1).bind λe=>(app c.2 [(1,e,[])]).bind λf=>D (.next (wi (c.1+1),f)))<|D (.done c.2)
def rY(a:E z)(b:E z):Lp z T:=λc=>letI i:=(ix b (wi (c-1)));bif c<U a then(ix b c).bind λd=>(ix b c).bind λe=>i.bind λf=>i.bind λg=>W (e==g) ((WB b c (U b)).bind λh=>A)<|D (.next (wi (c+1)))else D (.done ())
def XP(x:Bg):V (E AS):=letI l:=HK x.2.2.2.1;(HJ x.2.2.1).bind λa=>W (U a.2=0) ((Kf (ι .u64 (U ([]:E z)))).bind λb=>(Ad (XB) (0,U ([]:E z),b,Y,Y)).bind λc=>(Ad (fQ) (0,[])).bind λd=>l.bind λe=>(Ad (SI e) (0,d)).bind λf=>D f)<|(app [] a.2).bind λg=>(Mf g ()).bind λh=>letI q:=Ad (fR g h) (0,[]);bif ξ (Z h) (Z g)then W (U g<2) (q.bind λi=>l.bind λj=>(Ad (SI j) (0,i)).bind λk=>D k)<|(Ad (rY g h) 1).bind λm=>q.bind λn=>l.bind λo=>(Ad (SI o) (0,n)).bind λp=>D p else A
def Uo(x:z):V z:=W (x==0) (D 0)<|A
def Qq(x:z):V z:=(Uo x).bind λa=>D a
def jz(x:z×z):Lp (z×E z) (E z):=λa=>W (a.1<(wi (1*(2^(min (ο x.1) 64))))) ((Qq (ι .u64 a.1)).bind λb=>W (b==x.2) ((app a.2 [a.1]).bind λc=>D (.next (wi (a.1+1),c)))<|D (.next (wi (a.1+1),a.2)))<|D (.done a.2)
def YX(x:z×z):V (E z):=W (x.1<0) A<|(Ad (jz x) (0,[])).bind λa=>(Iv a ()).bind λb=>W (ξ (Z b) (Z a)) (D b)<|A
def Li(x:Bg×E AS)(a:AS):Lp z (z⊕T):=λb=>W (b<U x.2) ((ix x.2 b).bind λc=>W (c.1==a.1) (W (c.2.1==a.2.1) (D (.done (.inl b)))<|D (.next (wi (b+1))))<|D (.next (wi (b+1))))<|w?
def Pt(x:Bg×E AS):Lp z (z⊕T):=λa=>W (a<U ([]:E AS)) ((ix ([]:E AS) a).bind λb=>(Ad (Li x b) 0).bind λc=>ν (λd=>W (d>=0) (D (.done (.inl a)))<|D (.next (wi (a+1)))) (λe=>D (.next (wi (a+1)))) c)<|w?
def Lj(x:Bg×E AS)(a:E AS):Lp z (z⊕T):=λb=>W (b<U a) ((ix a b).bind λc=>(ix a b).bind λd=>(Ad (Li x d) 0).bind λe=>ν (λf=>W (f>=0) (D (.done (.inl b)))<|D (.next (wi (b+1)))) (λg=>D (.next (wi (b+1)))) e)<|w?
def Lk(x:Bg×E AS):Lp (z×z×E AS) (z×E AS):=λa=>letI m:=a.2.2;letI k:=ix m a.2.1;bif a.1<U m then(ix m a.1).bind λb=>(ix m a.1).bind λc=>letI l:=(wi (a.1+1),wi (a.2.1+1),FM m a.2.1 c);(Ad (Li x c) 0).bind λd=>ν (λe=>W (!(τ (e>=0))) (k.bind λf=>k.bind λg=>D (.next l))<|D (.next (wi (a.1+1),a.2))) (λh=>k.bind λi=>k.bind λj=>D (.next l)) d else D (.done a.2)
def QS(x:Bg×Ψ AS):V Bg:=letI I:=Ad (Pt x) 0;letI D:=x.1.1;letI A:=x.1.2;letI F:=A.2.2;letI l:=A.2.1;letI E:=l.2.1;letI C:=l.2.2;(W (U C.1=0) (I.bind λa=>ν (λb=>W (b==(-1)) (δ (D,A.1,(l.1,E,[],C.2),F))<|ε) (λc=>δ (D,A.1,(l.1,E,[],C.2),F)) a)<|(app [] C.1).bind λd=>letI s:=(D,A.1,(l.1,E,d,C.2),F);(Ad (Lj x d) 0).bind λe=>ν (λf=>W (f==(-1)) (δ s)<|(Ad (Lk x) (wi (f+1),f,d)).bind λg=>(ABi g.2 g.1 (0,0,[])).bind λh=>(WB h 0 g.1).bind λi=>δ (D,A.1,(l.1,E,i,C.2),F)) (λj=>δ s) e:V Bg).bind λk=>letI G:=k.2.1;letI z:=k.2.2;letI H:=z.2.2;(W (U z.2.1=0) (I.bind λm=>ν (λn=>W (n==(-1)) (δ (k.1,G,z.1,[],H))<|ε) (λo=>δ (k.1,G,z.1,[],H)) m)<|(app [] z.2.1).bind λp=>letI B:=(k.1,G,z.1,p,H);(Ad (Lj x p) 0).bind λq=>ν (λr=>W (r==(-1)) (δ B)<|(Ad (Lk x) (wi (r+1),r,p)).bind λt=>(ABi t.2 t.1 (0,0,[])).bind λu=>(WB u 0 t.1).bind λv=>δ (k.1,G,z.1,v,H)) (λw=>δ B) q:V Bg).bind λy=>δ y
def S6(a:Bg):Lp z (y⊕T):=λb=>W (b<a.2.2.1.2.1) ((SM (a.2.2.2.1,a.2.2.1,a.1.2.2.1,b,a.1.2.2.1.2.2)).bind λc=>W (c.2.2 !=0) q?<|D (.next (wi (b+1))))<|w?
def Fo(x:Bg×E AS):V y:=(Fm x.1.2.2.1).bind λa=>W (!a) (D X)<|(HM x.1.1.2.2.1).bind λb=>W (!b) (D X)<|(QS x).bind λc=>(Ad (S6 c) 0).bind λd=>ν D (λe=>D Y) d
def jy(a:(Int×(List (List AS))×(List Int)))(b:Int):Lp Int (Int ⊕ Unit):=λc=>bif c<len a.2.2 then(ix a.2.2 c).bind λd=>(ix a.2.2 c).bind λe=>bif (wi (((BitVec.toNat ((BitVec.ofInt 64 e)&&&(BitVec.ofInt 64 b))):Nat):Int))==e then some (.done (.inl c))else some (.next (wi (c+1)))else some (.done (.inr ()))
def X2(a:E AS)(b:z):Lp (z×E AS) (E AS):=λc=>W (c.1<U a) ((ix a c.1).bind λd=>W (c.1<0) A<|W ((wi (((π ((κ 64 (Int.fdiv b (2^(min (ο c.1) 64))))&&&(κ 64 1))):Nat):z))==1) ((app c.2 [d]).bind λe=>D (.next (wi (c.1+1),e)))<|D (.next (wi (c.1+1),c.2)))<|D (.done c.2)
def jx(x:(Bg×Int))(a:(List AS))(b:(List Int)):Lp (Int×(List (List AS))×(List Int)) ((List (List AS))×(List Int)):=λc=>bif c.1<len b then(ix b c.1).bind λd=>(Ad (jy c d) 0).bind λe=>Sum.elim (λf=>bif f>=0 then some (.next (wi (c.1+1),c.2))else(Ad (X2 a d) (0,[])).bind λg=>(Fo (x.1,g)).bind λh=>bif !h then(app c.2.2 ([d]:List Int)).bind λi=>(app c.2.1 ([g]:List (List (Int×Int×Bc)))).bind λj=>some (.next (wi (c.1+1),j,i))else some (.next (wi (c.1+1),c.2))) (λk=>(Ad (X2 a d) (0,[])).bind λm=>(Fo (x.1,m)).bind λn=>bif !n then(app c.2.2 ([d]:List Int)).bind λo=>(app c.2.1 ([m]:List (List (Int×Int×Bc)))).bind λp=>some (.next (wi (c.1+1),p,o))else some (.next (wi (c.1+1),c.2))) e else some (.done c.2)
def jw(x:(Bg×Int))(a:(List AS)):Lp (Int×(List (List AS))×(List Int)) ((List (List AS))×(List Int)):=λb=>bif b.1<=x.2 then(YX (len a,b.1)).bind λc=>(Ad (jx x a c) (0,b.2)).bind λd=>some (.next (wi (b.1+1),d))else some (.done b.2)
def Vq(x:Bg×z):V (E (E AS)×z):=(Fm x.1.2.2.1).bind λa=>W (!a) (D ([],54))<|(HM x.1.1.2.2.1).bind λb=>W (!b) (D ([],26))<|W (x.2<0) (D ([],1))<|W (x.2>3) (D ([],1))<|(XP x.1).bind λc=>W (U c>12) (D ([],21))<|(Ad (jw x c) (0,[],[])).bind λd=>D (d.1,0)
def SJ(x:Bg):V (z×z):=(Vq (x,3)).bind λa=>W (a.2 !=0) (D (0,a.2))<|W (U a.1==0) (D (3,0))<|(ix a.1 0).bind λb=>D (wi (U b-1),0)
def Iz(x:T):V y:=(Ks (2,1,0,([0]:E z))).bind λa=>(SJ a.1).bind λb=>W (b.2==0) (W (b.1==3) ((Fo (a.1,[])).bind λc=>D c)<|D X)<|D X
def TR(a:z×Aa×Ag):Lp (z×Ag×AL) (Ag×AL):=λb=>W (b.1>0) ((A2 b.2.1 14).bind λc=>(GN (b.2.2,a.2.1,wi (1+c.1))).bind λd=>(W (d.2==0) (D d.1)<|D b.2.2).bind λe=>D (.next (wi (b.1-1),c.2,e)))<|D (.done b.2)
def MC(b:Ag)(x:T):V (Bg×Ag):=(Ll b 20).bind λa=>(ER (a.1,1)).bind λc=>(Fu (a.1,([0]:E z))).bind λd=>(A2 a.2.2 4).bind λe=>(Ad (TR a) (e.1,e.2,d.1)).bind λf=>(MD f.1 (a.1,f.2,a.2.1)).bind λg=>(A2 g.2 4).bind λh=>(W (h.1>0) ((A2 h.2 f.2.2.2.2.1).bind λi=>(Gx (a.2.1,wi (1+i.1))).bind λj=>D (i.2,j.1))<|D (h.2,a.2.1):V (Ag×Aa)).bind λk=>(Ks (a.1,1,0,([0]:E z))).bind λm=>D (((c.1.1,c.1.2.1,k.2,c.1.2.2.2),m.1.2.1,f.2,g.1,m.1.2.2.2.2),k.1)
end
noncomputable section
def QA(x:E z×z):Lp z z:=λa=>W (a<U x.1) ((ix x.1 a).bind λb=>W (b<x.2) (D (.next (wi (a+1))))<|D (.done a))<|D (.done a)
def E4(x:E z×z):V (E z):=(Ad (QA x) 0).bind λa=>letI l:=WB x.1 a (U x.1);bif a<U x.1 then(ix x.1 a).bind λb=>W (b==x.2) (D x.1)<|(WB x.1 0 a).bind λc=>l.bind λd=>(app [] c).bind λe=>(app e [x.2]).bind λf=>(app f d).bind λg=>D g else(WB x.1 0 a).bind λh=>l.bind λi=>(app [] h).bind λj=>(app j [x.2]).bind λk=>(app k i).bind λm=>D m
def U6(x:AL×Aa×z×z×z)(a:GW)(b:z×z):Lp (E z×z) (E z):=letI k:=x.2.2.2;λc=>bif c.2<U a.1 then(ix a.1 c.2).bind λd=>letI j:=if(k.2<d.2.1)then k.2 else d.2.1;letI i:=(if(wi (k.1+1)>d.1)then wi (k.1+1)else d.1);(W (b.1>0) (W (i<=(if(wi (b.1-1)<j)then wi (b.1-1)else j)) (D Y)<|D (τ ((if(wi (b.2+1)>i)then wi (b.2+1)else i)<=j)))<|D (τ (i<=j)):V y).bind λe=>(W e ((ix a.2.1 c.2).bind λf=>(E4 (c.1,f)).bind λg=>D g)<|D c.1).bind λh=>D (.next (h,wi (c.2+1)))else D (.done c.1)
def Hl(x:AL×Aa×z×z×z):V (E z×z×z×z):=letI i:=x.2.1;letI h:=x.2.2.2;letI f:=(if(i.1>wi (h.1+1))then i.1 else wi (h.1+1));letI e:=(wi ((wi (i.1+U i.2.1))-1));letI g:=if(e<h.2)then e else h.2;(Fg x).bind λa=>W (a.2 !=0) (D ([],0,0,a.2))<|(Jj (x.1,i,x.2.2.1)).bind λb=>(W (f>g) (D (0,0))<|D (f,g):V (z×z)).bind λc=>(Ad (U6 x b c) ([],0)).bind λd=>D (d,c.1,c.2,0)
def PE(x:E AS×z)(a:E Ai):Lp (z×Ai) ((y×Ai)⊕Ai):=λb=>W (b.1<U a) ((ix a b.1).bind λc=>W (c.1==x.2) ((ix a b.1).bind λd=>D (.done (.inl (Y,d))))<|D (.next (wi (b.1+1),b.2)))<|D (.done (.inr b.2))
def Na(x:E AS×z):V (Ai×y):=(C1 x.1).bind λa=>(Ad (PE x a) (0,0,0,[])).bind λb=>ν (λc=>D (c.2,c.1)) (λd=>D ((0,0,[]),X)) b
def Rx(a:z×E BP)(b:Cp×y):Lp z z:=λc=>letI f:=(ix a.2 (wi (c-1)));bif c>0 then f.bind λd=>f.bind λe=>W (e.1<b.1.2.1) (D (.next (wi (c-1))))<|D (.done c)else D (.done c)
def Ly(x:E AS×AL×Aa×z×z)(a:E Ai):Lp (z×E BP) (E BP):=letI p:=ο 0;λb=>letI n:=(wi (b.1-1),b.2);letI m:=U b.2;bif b.1>=0 then(ix a b.1).bind λc=>(GO (c,x.2.2.2.1)).bind λd=>letI o:=d.1.2.1;bif !d.2 then D (.next n)else W (o>x.2.2.2.2) (D (.next n))<|(Ad (Rx b d) m).bind λe=>letI l:=ο e;(WB b.2 0 e).bind λf=>(ix a b.1).bind λg=>(WB b.2 e m).bind λh=>(app [] (List.take (l-p) (List.drop p b.2))).bind λi=>(app i [(o,g.1,o)]).bind λj=>(app j (List.take ((ο m)-l) (List.drop l b.2))).bind λk=>W ((Z b.2)<(Z k)) (D (.next (wi (b.1-1),k)))<|A else D (.done b.2)
def Ry(x:E AS×AL×Aa×z×z)(a:E (z×z×z)):Lp (z×AV×Gs) ((z×AV×Gs)⊕(AV×Gs)):=letI v:=x.2.1;letI t:=x.2.2.1;letI l:=x.2.2.2;λb=>letI u:=(wi (b.1+1),b.2);letI s:=ix a b.1;bif b.1<U a then(EP l.1).bind λc=>s.bind λd=>W (d.2.1>0) (s.bind λe=>(Na (x.1,e.2.1)).bind λf=>(Jx (f.1,l.1)).bind λg=>(Hm (g.1,v,t,l.2)).bind λh=>W (h.2 !=0) (D (.next u))<|s.bind λi=>s.bind λj=>s.bind λk=>(Hl (v,t,l.1,k.1,l.2)).bind λm=>D (.done (.inl (0,h.1,l.1,i.2.1,j.1,l.2,m.1,m.2.1,m.2.2.1))))<|(Hm (c,v,t,l.2)).bind λn=>W (n.2 !=0) (D (.next u))<|s.bind λo=>s.bind λp=>s.bind λq=>(Hl (v,t,l.1,q.1,l.2)).bind λr=>D (.done (.inl (0,n.1,l.1,o.2.1,p.1,l.2,r.1,r.2.1,r.2.2.1)))else D (.done (.inr b.2))
def KY(x:E AS×AL×Aa×z×z):V (AV×Gs×z):=letI i:=x.2.2;(Ci x.2.1).bind λa=>W (!a) (D (p!,(0,0,0,0,[],0,0),54))<|(Be i.1).bind λb=>W (!b) (D (p!,(0,0,0,0,[],0,0),26))<|W (i.2.1<0) (D (p!,(0,0,0,0,[],0,0),1))<|W (i.2.1>=x.2.1.2.1) (D (p!,(0,0,0,0,[],0,0),1))<|W (i.2.2<0) (D (p!,(0,0,0,0,[],0,0),1))<|(C1 x.1).bind λc=>(Ad (Ly x c) (wi (U c-1),[])).bind λd=>(app d [(0,0,0)]).bind λe=>(Ad (Ry x e) (0,p!,0,0,0,0,[],0,0)).bind λf=>ν (λg=>D (g.2.1,g.2.2,g.1)) (λh=>D (p!,(0,0,0,0,[],0,0),49)) f
end
noncomputable section
abbrev Bx:Type:=z×E z×E z
def HI:Ty:=.prod (z? (.cons (.list (.int .i64)) (.one (.list (.int .i64)))))
def PJ(x:E AS×E AS)(a:z×E AS):Lp (y×z) y:=λb=>letI g:=wi (b.2+1);bif b.2<U x.2 then W b.1 (D (.next (Y,g)))<|(ix x.2 b.2).bind λc=>(ix x.1 a.1).bind λd=>W (c.1==d.1) ((ix x.2 b.2).bind λe=>(ix x.1 a.1).bind λf=>D (.next ((e.2.1==f.2.1),g)))<|D (.next (X,g))else D (.done b.1)
def VE(x:E AS×E AS):Lp (z×E AS) (E AS):=λa=>W (a.1<U x.1) ((Ad (PJ x a) (X,0)).bind λb=>(W (!b) ((ix x.1 a.1).bind λc=>(app a.2 [c]).bind λd=>D d)<|D a.2).bind λe=>D (.next (wi (a.1+1),e)))<|D (.done a.2)
def Hp(x:E AS×E AS):V (E AS):=(Ad (VE x) (0,[])).bind λa=>D a
def PH(x:Bg×E AS):V Bg:=letI c:=x.1.2.2;(Hp (c.1.2.2.1,x.2)).bind λa=>(Hp (c.2.1,x.2)).bind λb=>D (x.1.1,x.1.2.1,(c.1.1,c.1.2.1,a,c.1.2.2.2),b,c.2.2)
def RF(a:Bg):Lp z (y⊕T):=λb=>W (b<a.2.2.1.2.1) ((KY (a.2.2.2.1,a.2.2.1,a.1.2.2.1,b,a.1.2.2.1.2.2)).bind λc=>W (c.2.2 !=0) q?<|D (.next (wi (b+1))))<|w?
def Jk(x:Bg×E AS):V y:=(PH x).bind λa=>(Ci a.2.2.1).bind λb=>W (!b) (D X)<|(Be a.1.2.2.1).bind λc=>W (!c) (D X)<|(Ad (RF a) 0).bind λd=>ν D (λe=>D Y) d
def VD(x:z×E Ah):Lp (z×z) z:=λa=>W (a.2<U x.2) ((ix x.2 a.2).bind λb=>D (.next ((if(b.2.1<a.1)then b.2.1 else a.1),wi (a.2+1))))<|D (.done a.1)
def Ho(x:z×E Ah):V z:=(Ad (VD x) (x.1,0)).bind λa=>D a
def R0(x:z×E Ak)(a:z×z):Lp (z×z) z:=λb=>(ix x.2 a.2).bind λc=>W (b.2<U c.2.2.2.2.1) ((ix x.2 a.2).bind λd=>(ix d.2.2.2.2.1 b.2).bind λe=>D (.next ((if(e<b.1)then e else b.1),wi (b.2+1))))<|D (.done b.1)
def Rz(x:z×E Ak):Lp (z×z) z:=λa=>W (a.2<U x.2) ((Ad (R0 x a) (a.1,0)).bind λb=>D (.next (b,wi (a.2+1))))<|D (.done a.1)
def Hn(x:z×E Ak):V z:=(Ad (Rz x) (x.1,0)).bind λa=>D a
def jZ(x:E y):Lp z (y⊕T):=λa=>W (a<U x) ((ix x a).bind λb=>W (!b) q?<|D (.next (wi (a+1))))<|w?
def YP(x:E y):V y:=(Ad (jZ x) 0).bind λa=>ν D (λb=>D Y) a
def dG(x:HW)(a:z)(b:z):Lp z (y⊕T):=λc=>W (c<a) ((ix x.2.2 c).bind λd=>W (d==b) q?<|D (.next (wi (c+1))))<|w?
def dF(x:HW):Lp z (y⊕T):=λa=>W (a<U x.2.2) ((ix x.2.2 a).bind λb=>W (b<0) q?<|W (b>=U x.2.1) q?<|(ix x.2.1 b).bind λc=>W c q?<|(Ad (dG x a b) 0).bind λd=>ν (λe=>D (.done (.inl e))) (λf=>D (.next (wi (a+1)))) d)<|w?
def kz(x:HW):V y:=letI d:=U x.2.1;bif !x.1 then W (d==0) (D (U x.2.2==0))<|D X else W (d<1) (D X)<|W (d>16) (D X)<|(YP x.2.1).bind λa=>W a (D X)<|(Ad (dF x) 0).bind λb=>ν D (λc=>D Y) b
def dH(x:Bc):Lp (z×E y×y×E z×HW) ((y×HW)⊕(E y×y×E z×HW)):=λa=>W (a.1<U x) ((six x a.1).bind λb=>W (b>1) (D (.done (.inl (X,X,[],[]))))<|(six x a.1).bind λc=>(app a.2.1 [(c==1)]).bind λd=>D (.next (wi (a.1+1),d,a.2.2)))<|D (.done (.inr a.2))
def Wn(x:Bc):V (HW×y):=W (U x<4) (D ((X,[],[]),X))<|(US x 0 2).bind λa=>W (a !=([77,68]:E (UInt8))) (D ((X,[],[]),X))<|(six x 2).bind λb=>W (b>1) (D ((X,[],[]),X))<|(six x 3).bind λc=>W (U x !=(wi (4+wi c))) (D ((X,[],[]),X))<|(six x 2).bind λd=>(Ad (dH x) (4,[],(d==1),[],X,[],[])).bind λe=>ν (λf=>D (f.2,f.1)) (λg=>A) e
def Sx(x:Aa):Lp (z×HW) ((z×y×HW)⊕HW):=λa=>letI g:=(wi (a.1-1),a.2);letI f:=ix x.2.1 a.1;bif a.1>=0 then f.bind λb=>W (b.2.1 !=8) (D (.next g))<|f.bind λc=>(Wn c.2.2.2.2.2.2.2).bind λd=>W d.2 (f.bind λe=>D (.done (.inl (e.1,Y,d.1))))<|D (.next g)else D (.done (.inr a.2))
def LK(x:Aa):V (HW×z×y):=(Be x).bind λa=>W (!a) (D ((X,[],[]),0,X))<|(Ad (Sx x) (wi (U x.2.1-1),X,[],[])).bind λb=>ν (λc=>D (c.2.2,c.1,c.2.1)) (λd=>D ((X,[],[]),0,X)) b
def dI(x:Bc)(a:z):Lp (z×E af×z×z×E z) (E af×z×z×E z):=λb=>W (b.1<wi a) ((six x (wi (5+wi (2*b.1)))).bind λc=>(six x (wi (6+wi (2*b.1)))).bind λd=>(app b.2.1 [(wi c,wi d)]).bind λe=>D (.next (wi (b.1+1),e,b.2.2)))<|D (.done b.2)
def Wo(x:Bc):V (Ie×y):=W (U x<6) (D ((0,0,[],[]),X))<|(US x 0 2).bind λa=>W (a !=([81,77]:E (UInt8))) (D ((0,0,[],[]),X))<|(six x 2).bind λb=>(six x 3).bind λc=>(six x 4).bind λd=>letI g:=(wi (5+(wi (2*wi d))));bif U x<=g then D ((0,0,[],[]),X)else(six x g).bind λe=>W (U x !=(wi ((wi (g+1))+wi e))) (D ((0,0,[],[]),X))<|(Ad (dI x d) (0,[],wi b,wi c,[])).bind λf=>A
def Sy(x:Aa):Lp (z×Ie) ((z×y×Ie)⊕Ie):=λa=>letI g:=(wi (a.1-1),a.2);letI f:=ix x.2.1 a.1;bif a.1>=0 then f.bind λb=>W (b.2.1 !=8) (D (.next g))<|f.bind λc=>(Wo c.2.2.2.2.2.2.2).bind λd=>W d.2 (f.bind λe=>D (.done (.inl (e.1,Y,d.1))))<|D (.next g)else D (.done (.inr a.2))
def IR(x:Aa):V (Ie×z×y):=(Be x).bind λa=>W (!a) (D ((0,0,[],[]),0,X))<|(Ad (Sy x) (wi (U x.2.1-1),0,0,[],[])).bind λb=>ν (λc=>D (c.2.2,c.1,c.2.1)) (λd=>D ((0,0,[],[]),0,X)) b
def Kr(x:AQ×AL):V (z×z):=letI v:=x.1.2.2;letI s:=v.1;letI l:=(if(wi (s.2.2+1)<x.2.2.2.2.1)then wi (s.2.2+1)else x.2.2.2.2.1);(Bf x.1).bind λa=>W (!a) (D (0,15))<|(Ci x.2).bind λb=>W (!b) (D (0,54))<|(EG (s,0)).bind λc=>(FU c).bind λd=>(FL (d.1,x.1.1)).bind λe=>letI u:=e.1.2.2;bif e.2 !=0 then D (0,e.2)else(W (u.1==0) (D (if(s.1<l)then s.1 else l))<|D (if(u.1<l)then u.1 else l):V z).bind λf=>(Ho (f,u.2.2.2.1)).bind λg=>(Ho (g,v.2.2.2.2.2)).bind λh=>(I6 v.2.1).bind λi=>(Ho (h,i)).bind λj=>(Hn (j,u.2.1)).bind λk=>(Hn (k,v.2.2.2.1)).bind λm=>(LK d.1).bind λn=>W n.2.2 ((W n.1.1 (D (if(n.2.1<m)then n.2.1 else m))<|D m).bind λo=>(IR d.1).bind λp=>W p.2.2 ((W (U p.1.2.2.2>0) (D (if(p.2.1<o)then p.2.1 else o))<|D o).bind λq=>D ((if(s.1>q)then s.1 else q),0))<|D ((if(s.1>o)then s.1 else o),0))<|(IR d.1).bind λr=>W r.2.2 ((W (U r.1.2.2.2>0) (D (if(r.2.1<m)then r.2.1 else m))<|D m).bind λt=>D ((if(s.1>t)then s.1 else t),0))<|D ((if(s.1>m)then s.1 else m),0)
def V3(x:Aa×E Af×z×z)(a:z):Lp (y×z) y:=λb=>letI g:=ix x.2.1 b.2;letI f:=wi (b.2+1);bif b.2<U x.2.1 then W b.1 (D (.next (Y,f)))<|g.bind λc=>W (c.2.2.1==x.2.2.1) (g.bind λd=>W (d.1<=a) (g.bind λe=>D (.next ((τ (a<=e.2.1)),f)))<|D (.next (X,f)))<|D (.next (X,f))else D (.done b.1)
def V2(x:Aa×E Af×z×z):Lp z ((z×y)⊕T):=λa=>W (a<(wi (x.1.1+U x.1.2.1))) ((Ad (V3 x a) (X,0)).bind λb=>W (!b) (D (.done (.inl (a,Y))))<|D (.next (wi (a+1))))<|w?
def Oa(x:Aa×E Af×z×z):V (z×y):=(Ad (V2 x) (if(x.1.1>wi (x.2.2.2+1))then x.1.1 else wi (x.2.2.2+1))).bind λa=>ν D (λb=>D (0,X)) a
def Tq(a:E BP×z)(b:Cp×y):Lp z z:=λc=>W (c>0) ((ix a.1 (wi (c-1))).bind λd=>W (d.1<b.1.2.1) (D (.next (wi (c-1))))<|D (.done c))<|D (.done c)
def OJ(x:AQ×AL×E AS×z)(a:z×z×Bx)(b:E Ai):Lp (E BP×z) (E BP):=λc=>letI l:=wi (c.2-1);bif c.2>=0 then(ix b c.2).bind λd=>(GO (d,a.2.1)).bind λe=>letI n:=e.1.2.1;bif !e.2 then D (.next (c.1,l))else W (n>x.1.2.2.1.2.2) (D (.next (c.1,l)))<|(Ad (Tq c e) (U c.1)).bind λf=>(WB c.1 0 f).bind λg=>(ix b c.2).bind λh=>(WB c.1 f (U c.1)).bind λi=>(app [] g).bind λj=>(app j [(n,h.1,n)]).bind λk=>(app k i).bind λm=>D (.next (m,l))else D (.done c.1)
def OK(a:E BP×z):Lp (z×Bx) Bx:=λb=>W (b.1<U a.1) ((ix a.1 b.1).bind λc=>(E4 (b.2.2.2,c.2.1)).bind λd=>D (.next (wi (b.1+1),b.2.1,b.2.2.1,d)))<|D (.done b.2)
def OI(x:AQ×AL×E AS×z)(a:z×z):Lp (z×z×Bx) (z×Bx):=letI k:=x.2.2;λb=>bif b.2.1<=a.2 then(C1 k.1).bind λc=>(Ad (OJ x b c) ([],wi (U c-1))).bind λd=>(W (U d>=k.2) ((WB d 0 k.2).bind λe=>(ix e (wi (k.2-1))).bind λf=>D (e,f.1))<|D (d,0):V (E BP×z)).bind λg=>(Ad (OK g) (0,b.2.2)).bind λh=>letI j:=(wi (b.2.1+1),h);bif b.1<0 then D (.next (g.2,j))else(W (g.2<b.1) (D g.2)<|D b.1).bind λi=>D (.next (i,j))else D (.done (b.1,b.2.2))
def OL(a:E Af×E z)(b:z×z)(c:z×Bx):Lp (z×z×Bx) (z×Bx):=λd=>letI n:=d.2.2;letI l:=d.2.1;letI p:=wi (l+1);letI o:=ix a.1 l;bif l<U a.1 then o.bind λe=>W (e.2.2.1 !=b.1) (D (.next (d.1,p,n)))<|o.bind λf=>(W (f.2.1>c.1) ((ix a.2 l).bind λg=>(E4 (n.2.1,g)).bind λh=>D (n.1,h,n.2.2))<|D n).bind λi=>W (d.1<0) (D (.next (l,p,i)))<|o.bind λj=>(ix a.1 d.1).bind λk=>(W (j.2.1>k.2.1) (D l)<|D d.1).bind λm=>D (.next (m,p,i))else D (.done (d.1,n))
def Tp(x:AQ×AL×E AS×z)(a:E Af×E z):Lp (z×Bx) Bx:=λb=>W (b.1<U x.2.1.1) ((EI (x.2.1,b.1)).bind λc=>(Ad (OI x c) ((-1),c.1,b.2)).bind λd=>(Ad (OL a c d) ((-1),0,d.2)).bind λe=>(W (e.1>=0) ((ix a.2 e.1).bind λf=>(E4 (e.2.2.1,f)).bind λg=>D (e.2.1,g,e.2.2.2))<|D e.2).bind λh=>(Oa (x.1.2.2.1,a.1,c.1,d.1)).bind λi=>(W i.2 (D ((if(i.1<h.1)then i.1 else h.1),h.2))<|D h).bind λj=>D (.next (wi (b.1+1),j)))<|D (.done b.2)
def JF(x:AQ×AL×E AS×z):V (Bx×z):=(Kr (x.1,x.2.1)).bind λa=>W (a.2 !=0) (D ((0,[],[]),a.2))<|W (x.2.2.2<1) (D ((0,[],[]),1))<|W (x.2.2.2>256) (D ((0,[],[]),1))<|(Jw x.2.1).bind λb=>(Ad (Tp x b) (0,a.1,[],[])).bind λc=>D (c,0)
def PF(x:AQ×AL×E AS×z)(a:Bx×z):Lp (z×E AS) (E AS):=letI h:=x.2.1.2.2.1;λb=>W (b.1<U h) ((ix h b.1).bind λc=>(Ct (a.1.2.1,c.2.1)).bind λd=>(W d ((ix h b.1).bind λe=>(app b.2 [e]).bind λf=>D f)<|D b.2).bind λg=>D (.next (wi (b.1+1),g)))<|D (.done b.2)
def GB(x:AQ×AL×E AS×z)(a:z×E AS):Lp (y×z) y:=λb=>W (b.2<U a.2) (W b.1 ((ix a.2 b.2).bind λc=>(ix a.2 b.2).bind λd=>(ix x.2.2.1 a.1).bind λe=>D (.next ((d.2.1 !=e.2.1),wi (b.2+1))))<|D (.next (X,wi (b.2+1))))<|D (.done b.1)
def PG(x:AQ×AL×E AS×z)(a:Bx×z):Lp (z×E AS) (E AS):=λb=>letI l:=ix x.2.2.1 b.1;bif b.1<U x.2.2.1 then l.bind λc=>W (c.1==2) (l.bind λd=>(Ct (a.1.2.2,d.2.1)).bind λe=>(Ad (GB x b) (e,0)).bind λf=>(W f (l.bind λg=>(app b.2 [g]).bind λh=>D h)<|D b.2).bind λi=>D (.next (wi (b.1+1),i)))<|(Ad (GB x b) (X,0)).bind λj=>(W j (l.bind λk=>(app b.2 [k]).bind λm=>D m)<|D b.2).bind λn=>D (.next (wi (b.1+1),n))else D (.done b.2)
def Nb(x:AQ×AL×E AS×z):V (AQ×AL×E AS×z):=(JF x).bind λa=>W (a.2 !=0) (D (j!,([],0,[],0,0),[],a.2))<|(Gx (x.1.2.2.1,a.1.1)).bind λb=>(Ad (PF x a) (0,[])).bind λc=>(Ad (PG x a) (0,[])).bind λd=>D ((x.1.1,x.1.2.1,b.1,x.1.2.2.2),(x.2.1.1,x.2.1.2.1,c,x.2.1.2.2.2),d,0)
def QY(a:Bg×Ag)(b:E Ai):Lp z (y⊕T):=λc=>W (c<U b) ((ix b c).bind λd=>(Jk (a.1,([(2,d.1,[])]:E (z×z×Bc)))).bind λe=>W (!e) j?<|D (.next (wi (c+1))))<|w?
def QZ(a:Bg×Ag)(b:AQ×AL×E AS×z)(c:E Ai):Lp z (y⊕T):=λd=>W (d<U c) ((ix c d).bind λe=>(Fo ((b.1,a.1.2.1,b.2.1,b.2.2.1,a.1.2.2.2.2),([(2,e.1,[])]:E (z×z×Bc)))).bind λf=>W (!f) q?<|D (.next (wi (d+1))))<|w?
def Mp(x:E z):V y:=(Iz ()).bind λa=>W (!a) (D X)<|(W (U x>500) ((WB x 0 500).bind λb=>D b)<|D x).bind λc=>(MC (c,0) ()).bind λd=>letI l:=d.1.2.2;(C1 l.2.1).bind λe=>W (U e<2) (D Y)<|(Ad (QY d e) 0).bind λf=>ν D (λg=>(Nb (d.1.1,l.1,l.2.1,2)).bind λh=>W (h.2.2.2 !=0) (D Y)<|(C1 h.2.2.1).bind λi=>(Ad (QZ d h i) 0).bind λj=>ν D (λk=>(Fo ((h.1,d.1.2.1,h.2.1,h.2.2.1,l.2.2),[])).bind λm=>D m) j) f
end
noncomputable section

end
end Go.Pm
