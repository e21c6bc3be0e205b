import Derived.Test.YtdbincbpjobdpaaGreatK5
noncomputable section
set_option linter.all false
open Option renaming some->Y
open List renaming length->W
open Go renaming Ψ->S
open Bool renaming false->X
open Bool renaming true->E
open Option renaming none->D
open Go renaming Ω->Z
open Option renaming some->δ,none->ε
open Bool renaming true->ζ,false->η
open List renaming length->θ
open Go.IntKind renaming wrap->ι
open BitVec renaming ofInt->κ,toNat->π
open Sum renaming elim->ν
open Nat renaming beq->ξ
open Int renaming toNat->ο
open Decidable renaming decide->τ
open _root_ renaming cond->z,Int->y,Bool->u,Unit->t
open Go.Ab renaming len->V
namespace Go.Pm
open Go Go.Ab
set_option maxRecDepth 100000
noncomputable section
abbrev C0:Type:=y×y×Bd
def Et:Ty:=.prod (z? (z? (.one .str)))
abbrev Aq:Type:=y×y×S C0
def BV:Ty:=.prod (z? (z? (.one (.list Et))))
abbrev OJ:Type:=Bd
def Yp:Ty:=.prod (.one .str)
def VV(x:y×y):Z (y×y):=letI d:=κ 64 4294967295;letI c:=(π ((κ 64 x.1)&&&d));letI b:=(π ((κ 64 x.2)&&&d));letI a:=(2^(min (ο 32) 64));letI f:=Int.fdiv x.2 a;letI e:=Int.fdiv x.1 a;Y ((ι .u64 ((ι .u64 ((ι .u64 (e*f))+(Int.fdiv (ι .u64 ((ι .u64 (e*(ι .u64 ((b:Nat):y))))+(Int.fdiv (ι .u64 ((ι .u64 ((c:Nat):y))*(ι .u64 ((b:Nat):y)))) a))) a)))+(Int.fdiv (ι .u64 ((ι .u64 (((π ((κ 64 (ι .u64 ((ι .u64 (e*(ι .u64 ((b:Nat):y))))+(Int.fdiv (ι .u64 ((ι .u64 ((c:Nat):y))*(ι .u64 ((b:Nat):y)))) a))))&&&d)):Nat):y))+(ι .u64 ((ι .u64 ((c:Nat):y))*f)))) a))),ι .u64 (x.1*x.2))
def Xo(x:y×y):Z (y×y):=(VV x).bind λa=>Y a
end
noncomputable section
def YD(x:t):Z Bd:=(LO (([0]:S (UInt8)),256)).bind λa=>Y a
def HO(x:Bd×y×y):Z y:=(B0 x).bind λa=>Y a.1
def lI(x:Bd):Lp (y×AQ×AQ) ((u×AQ)⊕(AQ×AQ)):=λa=>letI j:=a.2.1.2;letI i:=(wi (12+wi (a.1*13)));bif a.1<16 then(HO (x,i,1)).bind λb=>(z (b==255) (Y (.inl a.2))<|z (b>12) (Y (.inr (X,0,0,GG.all (X,[]))))<|(R3 x (wi (i+1)) (wi ((wi (i+1))+b))).bind λc=>(Gy j.2 a.1).bind λd=>(Gy j.2 a.1).bind λe=>Y (.inl ((a.2.1.1,j.1,Xe j.2 a.1 (E,c)),a.2.2)):Z ((AQ×AQ)⊕(u×AQ))).bind λf=>ν (λg=>Y (.next (wi (a.1+1),g))) (λh=>Y (.done (.inl h))) f else Y (.done (.inr a.2))
def XJ(x:Bd):Z (AQ×u):=(HO (x,8,4)).bind λa=>(HO (x,0,8)).bind λb=>(Ag (lI x) (0,(a,b,GG.all (X,[])),0,0,GG.all (X,[]))).bind λc=>ν (λd=>Y (d.2,d.1)) (λe=>Y (e.1,E)) c
def W6(x:AQ):Z u:=(IP x.1).bind λa=>z a (z (x.2.1>=0) (Y (τ (x.2.1<=1099511627776)))<|Y X)<|Y X
def jS(x:AQ):Lp y (u⊕t):=λa=>letI c:=wi (a+1);bif a<16 then(Gy x.2.2 a).bind λb=>z (V b.2>12) q?<|z (!b.1) (z (b.2 !=[]) q?<|z b.1 (z (x.2.1==0) q?<|Y (.next c))<|Y (.next c))<|z b.1 (z (x.2.1==0) q?<|Y (.next c))<|Y (.next c)else w?
def VW(x:AQ):Z u:=(Ag (jS x) 0).bind λa=>ν Y (λb=>Y E) a
def Kn(b:OJ)(x:Ck):Z OJ:=(z x.1 (Y (V x.2))<|Y 255:Z y).bind λa=>(O4 (b,a,1)).bind λc=>(sapp c x.2).bind λd=>(LO (([0]:S (UInt8)),wi (12-V x.2))).bind λe=>(sapp d e).bind λf=>Y f
def eV(x:AQ):Lp (y×OJ) OJ:=λa=>z (a.1<16) ((Gy x.2.2 a.1).bind λb=>(Kn a.2 b).bind λc=>Y (.next (wi (a.1+1),c)))<|Y (.done a.2)
def Nb(x:AQ):Z (Bd×y):=(W6 x).bind λa=>z (!a) (Y ([],1))<|(VW x).bind λb=>z (!b) (Y ([],22))<|(O4 ([],x.2.1,8)).bind λc=>(O4 (c,x.1,4)).bind λd=>(Ag (eV x) (0,d)).bind λe=>(LO (([0]:S (UInt8)),wi (244-V e))).bind λf=>(sapp e f).bind λg=>(O5 g).bind λh=>(O4 (g,wi h,4)).bind λi=>(O4 (i,x.2.1,8)).bind λj=>Y (j,0)
def QL(x:Bd):Z (AQ×y):=z (V x !=256) (Y (p!,2))<|(YD ()).bind λa=>z (x==a) (Y (p!,7))<|(R3 x 0 8).bind λb=>(R3 x 248 (V x)).bind λc=>z (b !=c) (Y (p!,27))<|(R3 x 0 244).bind λd=>(HO (x,244,4)).bind λe=>(O5 d).bind λf=>z (e !=wi f) (Y (p!,3))<|(XJ x).bind λg=>(Nb g.1).bind λh=>z (!g.2) (Y (p!,4))<|z (h.2 !=0) (Y (p!,4))<|z (h.1 !=x) (Y (p!,4))<|Y (g.1,0)
def Gb(x:Bd×y):Z (AQ×y):=(IP x.2).bind λa=>z (!a) (Y (p!,1))<|(QL x.1).bind λb=>z (b.2==7) ((Cu x.2).bind λc=>Y (c,0))<|z (b.2 !=0) (Y (p!,b.2))<|z (b.1.1 !=x.2) (Y (p!,6))<|Y (b.1,0)
def eT(x:Aq):Lp y (u⊕t):=λa=>bif a<V x.2.2 then(ix x.2.2 a).bind λb=>letI f:=Gb (b.2.2,b.1);bif b.1>=x.2.1 then q? else z (a>0) ((ix x.2.2 (wi (a-1))).bind λc=>z (c.1>=b.1) q?<|f.bind λd=>z (d.2 !=0) q?<|z (d.1.2.1 !=b.2.1) q?<|Y (.next (wi (a+1))))<|f.bind λe=>z (e.2 !=0) q?<|z (e.1.2.1 !=b.2.1) q?<|Y (.next (wi (a+1))) else w?
def LG(x:Aq):Z u:=z (x.1<1) (Y X)<|z (x.1>1073741824) (Y X)<|z (x.2.1<1) (Y X)<|z (x.2.1>64) (Y X)<|z (V x.2.2>x.2.1) (Y X)<|(Ag (eT x) 0).bind λa=>ν Y (λb=>Y E) a
def W5(x:Aq):Z u:=(LG x).bind λa=>z a (Y (V x.2.2==x.2.1))<|Y X
def Qs(x:AJ×Aa):Z y:=(Fz x.1).bind λa=>z (!a) (Y 54)<|(Ha x.2).bind λb=>z (!b) (Y 26)<|Y 0
def VO(x:AQ×Dw):Z (AQ×y):=letI g:=x.2.2;letI f:=Gy x.1.2.2 g.1;(OT x.2).bind λa=>z (!a) (Y (p!,22))<|z (x.2.1 !=x.1.1) (Y (p!,6))<|f.bind λb=>f.bind λc=>z (!(c.1==g.2.1.1&&(c.2==g.2.1.2&&E))) (Y (p!,20))<|f.bind λd=>f.bind λe=>Y ((x.1.1,x.1.2.1,Xe x.1.2.2 g.1 g.2.2),0)
def Vh(x:AQ×AE):Z (AQ×y):=letI e:=x.2.2.2.2.2;(GZ x.2).bind λa=>z (!a) (Y (p!,12))<|(BE x.2).bind λb=>z (!b) (Y (p!,12))<|(Nb x.1).bind λc=>z (c.2 !=0) (Y (p!,c.2))<|z (e.2.2.1.1 !=x.1.1) (Y (p!,6))<|z (e.1 !=x.1.2.1) (Y (p!,13))<|(VO (x.1,e.2.2.1)).bind λd=>z (d.2 !=0) (Y (p!,d.2))<|Y ((d.1.1,x.2.1,d.1.2.2),0)
def aa(x:AQ×S AE):Lp (y×AQ×AQ) ((y×AQ)⊕(AQ×AQ)):=λa=>z (a.1<V x.2) ((ix x.2 a.1).bind λb=>z (b.1<=a.2.1.2.1) (Y (.next (wi (a.1+1),a.2)))<|(Vh (a.2.1,b)).bind λc=>z (c.2 !=0) (Y (.done (.inl (c.2,0,0,GG.all (X,[])))))<|Y (.next (wi (a.1+1),c.1,a.2.2)))<|Y (.done (.inr a.2))
def Ie(x:AQ×S AE):Z (AQ×y):=(Ag (aa x) (0,x.1,0,0,GG.all (X,[]))).bind λa=>ν (λb=>Y (b.2,b.1)) (λc=>Y (c.1,0)) a
def J7(x:AQ×AJ×Aa×y):Z (AQ×y):=letI e:=x.2.2;(Qs (x.2.1,e.1)).bind λa=>z (a !=0) (Y (p!,a))<|(Nb x.1).bind λb=>z (b.2 !=0) (Y (p!,b.2))<|z (x.1.2.1>e.2) (Y (p!,9))<|(HZ (x.2.1,e.1,x.1.1,x.1.2.1,e.2)).bind λc=>z (c.2 !=0) (Y (p!,c.2))<|(Ie (x.1,c.1)).bind λd=>Y d
def UV(x:y×y):Lp (y×S C0×y×y) (S C0×y×y):=λa=>z (a.1<x.2) ((I7 ()).bind λb=>(app a.2.1 [(a.1,0,b)]).bind λc=>Y (.next (wi (a.1+1),c,a.2.2)))<|Y (.done a.2)
def Jz(x:y×y):Z Aq:=(Ag (UV x) (0,[],x)).bind λa=>Y (a.2.1,a.2.2,a.1)
end
noncomputable section
abbrev Gc:Type:=S AS×S y×Aa
def PF:Ty:=.prod (.cons (.list Bo) (.cons (.list (.int .i64)) (.one Bk)))
def TW(x:Aq):Lp y (u⊕t):=λa=>bif a<V x.2.2 then(ix x.2.2 a).bind λb=>letI f:=Co (b.2.2,b.1);bif b.1<0 then q? else z (b.1>=x.2.1) q?<|z (a>0) ((ix x.2.2 (wi (a-1))).bind λc=>z (c.1>=b.1) q?<|f.bind λd=>z (d.2 !=0) q?<|z (d.1.2.1 !=b.2.1) q?<|Y (.next (wi (a+1))))<|f.bind λe=>z (e.2 !=0) q?<|z (e.1.2.1 !=b.2.1) q?<|Y (.next (wi (a+1))) else w?
def EQ(x:Aq):Z u:=z (x.1<1) (Y X)<|z (x.1>1073741824) (Y X)<|z (x.2.1<1) (Y X)<|z (x.2.1>64) (Y X)<|(Ag (TW x) 0).bind λa=>ν Y (λb=>Y E) a
def SZ(x:Aq):Lp (Bd×y) Bd:=λa=>letI h:=ix x.2.2 a.2;bif a.2<V x.2.2 then h.bind λb=>h.bind λc=>(An ([],b.1,2)).bind λd=>(sapp d c.2.2).bind λe=>(Di e).bind λf=>(sapp a.1 f).bind λg=>Y (.next (g,wi (a.2+1)))else Y (.done a.1)
def Ic(x:Aq):Z (Bd×y):=(EQ x).bind λa=>z (!a) (Y ([],43))<|(An (([80,77,73,77]:S (UInt8)),x.1,4)).bind λb=>(An (b,x.2.1,2)).bind λc=>(An (c,V x.2.2,2)).bind λd=>(Di d).bind λe=>(Ag (SZ x) (e,0)).bind λf=>Y (f,0)
def Ko(x:Aq):Z Am:=(Ic x).bind λa=>Y (2,x.1,a.1)
def JJ(x:Aq):Z u:=(EQ x).bind λa=>z a (Y (V x.2.2==x.2.1))<|Y X
def Uo(x:Aq×y):Lp (y×C0) ((u×C0)⊕C0):=λa=>letI e:=ix x.1.2.2 a.1;bif a.1<V x.1.2.2 then(EQ x.1).bind λb=>z b (e.bind λc=>z (c.1==x.2) (e.bind λd=>Y (.done (.inl (E,d))))<|Y (.next (wi (a.1+1),a.2)))<|Y (.done (.inr a.2))else Y (.done (.inr a.2))
def H9(x:Aq×y):Z (C0×u):=(Ag (Uo x) (0,0,0,[])).bind λa=>ν (λb=>Y (b.2,b.1)) (λc=>Y ((0,0,[]),X)) a
def J5(x:Aq×y):Z (AQ×y):=(EQ x.1).bind λa=>z (!a) (Y (p!,43))<|(H9 x).bind λb=>z (!b.2) (Y (p!,44))<|(Co (b.1.2.2,x.2)).bind λc=>Y c
def JI(x:AJ×Aa×y×y×y):Z y:=letI c:=x.2.2;(Cy x.1).bind λa=>z (!a) (Y 54)<|(B6 x.2.1).bind λb=>z (!b) (Y 26)<|z (c.1<0) (Y 1)<|z (c.1>=x.1.2.1) (Y 1)<|z (c.2.1<0) (Y 1)<|z (c.2.1>c.2.2) (Y 1)<|Y 0
def Ui(x:AJ×y):Lp y y:=λa=>z (wi (a+1)<V x.1.1) ((ix x.1.1 (wi (a+1))).bind λb=>z (b<=x.2) (Y (.next (wi (a+1))))<|Y (.done a))<|Y (.done a)
def Ra(x:AJ×y):Z (y×y×u):=v? (Cy x.1) (0,0,X)<|z (x.2<0) (Y (0,0,X))<|z (x.2>=x.1.2.1) (Y (0,0,X))<|(Ag (Ui x) 0).bind λb=>(E8 (x.1,b)).bind λc=>Y (c.1,c.2,E)
def Rb(x:AJ):Z (S AS×S y):=(GF x).bind λa=>Y (a.1,a.2.1)
def Qq(a:y×y×u)(b:S AS×S y):Lp (y×S AS×S y×Aa) (S AS×S y×Aa):=λc=>z (c.1<V b.1) ((ix b.1 c.1).bind λd=>(z (d.2.2.1==a.1) ((ix b.1 c.1).bind λe=>(ix b.2 c.1).bind λf=>(app c.2.1 [e]).bind λg=>(app c.2.2.1 [f]).bind λh=>Y (g,h,c.2.2.2))<|Y c.2).bind λi=>Y (.next (wi (c.1+1),i)))<|Y (.done c.2)
def Jt(x:AJ×Aa×y):Z Gc:=(Ra (x.1,x.2.2)).bind λa=>(Rb x.1).bind λb=>(Ag (Qq a b) (0,[],[],x.2.1)).bind λc=>Y c
def JH(x:Aa×y):Z u:=z (x.2>=x.1.1) (Y (τ (x.2<(wi (x.1.1+V x.1.2.1)))))<|Y X
def Un(x:Gc×y):Lp (y×y) y:=λa=>letI f:=ix x.1.1 a.2;bif a.2<V x.1.1 then f.bind λb=>z (b.1<=x.2) (f.bind λc=>(z (x.2<=c.2.1) (f.bind λd=>Y (if(d.2.1>a.1)then d.2.1 else a.1))<|Y a.1).bind λe=>Y (.next (e,wi (a.2+1))))<|Y (.next (a.1,wi (a.2+1)))else Y (.done a.1)
def Re(x:Gc×y):Z y:=letI e:=x.1.2.2;letI d:=(wi ((wi (e.1+V e.2.1))-1));(Ag (Un x) (wi (x.2-1),0)).bind λa=>(JH (e,x.2)).bind λb=>(z b (Y (if(d>a)then d else a))<|Y a).bind λc=>Y c
def Lj(x:Gc×y×y):Lp y (u⊕t):=λa=>z (a<x.2.2) ((Re (x.1,wi (a+1))).bind λb=>z (b==a) q?<|Y (.next b))<|w?
def Ke(x:Gc×y×y):Z u:=(Ag (Lj x) x.2.1).bind λa=>ν Y (λb=>Y E) a
def SS(x:AS×y):Lp (y×S AE) (S AE):=letI f:=x.1.2.2.2.2.2;λa=>z (a.1<V f) ((ix f a.1).bind λb=>(z (b.2.2.2.2.2.2.1.1==x.2) ((ix f a.1).bind λc=>(app a.2 [c]).bind λd=>Y d)<|Y a.2).bind λe=>Y (.next (wi (a.1+1),e)))<|Y (.done a.2)
def Pp(x:AS×y):Z (S AE):=(EP x.1).bind λa=>z (!a) (Y [])<|(Ag (SS x) (0,[])).bind λb=>Y b
def LC(x:S AS×y×y×y)(a:S AE):Lp (S AE×y) (S AE):=λb=>letI h:=ix a b.2;bif b.2<V a then h.bind λc=>z (c.1>x.2.2.1) (h.bind λd=>(z (d.1<=x.2.2.2) (h.bind λe=>(Cg (b.1,e)).bind λf=>Y f.1)<|Y b.1).bind λg=>Y (.next (g,wi (b.2+1))))<|Y (.next (b.1,wi (b.2+1)))else Y (.done b.1)
def LB(x:S AS×y×y×y):Lp (S AE×y) (S AE):=λa=>z (a.2<V x.1) ((ix x.1 a.2).bind λb=>(Pp (b,x.2.1)).bind λc=>(Ag (LC x c) (a.1,0)).bind λd=>Y (.next (d,wi (a.2+1))))<|Y (.done a.1)
def Js(x:S AS×y×y×y):Z (S AE):=(Ag (LB x) ([],0)).bind λa=>Y a
def SX(x:Aa×y×y×y):Lp (y×S AE) (S AE):=λa=>letI f:=(wi (a.1+1),a.2);bif a.1<V x.1.2.1 then(ix x.1.2.1 a.1).bind λb=>(BE b).bind λc=>z c (z (b.2.2.2.2.2.2.1.1==x.2.1) (z (b.1>x.2.2.1) ((z (b.1<=x.2.2.2) ((app a.2 [b]).bind λd=>Y d)<|Y a.2).bind λe=>Y (.next (wi (a.1+1),e)))<|Y (.next f))<|Y (.next f))<|Y (.next f)else Y (.done a.2)
def Pr(x:Aa×y×y×y):Z (S AE):=(Ag (SX x) (0,[])).bind λa=>Y a
def Mt(x:S AS×y):Lp y (y⊕t):=λa=>z (a<V x.1) ((ix x.1 a).bind λb=>z (b.1<=x.2) ((ix x.1 a).bind λc=>z (x.2<=c.2.1) (Y (.done (.inl a)))<|Y (.next (wi (a+1))))<|Y (.next (wi (a+1))))<|w?
def LD(x:S AS×y):Z y:=(Ag (Mt x) 0).bind λa=>ν Y (λb=>Y (-1)) a
def Pq(x:S AE×AE):Lp y (u⊕t):=letI f:=x.2.2.2;letI c:=f.2.2.2;letI e:=c.2.1.2;λa=>bif a<V x.1 then(ix x.1 a).bind λb=>letI g:=b.2.2.2;letI d:=g.2.2.2;letI h:=d.1.2.2;bif b.1==x.2.1&&(b.2.1==x.2.2.1&&(b.2.2.1==f.1&&(g.1==f.2.1&&(g.2.1==f.2.2.1&&(g.2.2.1==c.1&&(d.1.1==c.2.1.1&&(d.1.2.1==e.1&&(h.1.1==e.2.1.1&&(h.1.2==e.2.1.2&&(h.2.1==e.2.2.1&&(h.2.2==e.2.2.2&&(d.2==c.2.2&&E))))))))))))then j? else Y (.next (wi (a+1))) else w?
def Im(x:S AE×AE):Z u:=(Ag (Pq x) 0).bind λa=>ν Y (λb=>Y X) a
def N2(x:S AS×Aa×S AE×S AE):Lp (S AE×y) ((S AE×u)⊕(S AE)):=λa=>letI j:=ix x.2.2.2 a.2;bif a.2<V x.2.2.2 then j.bind λb=>(LD (x.1,b.1)).bind λc=>z (c>=0) (j.bind λd=>v? (Im (x.2.2.1,d)) (.done (.inl ([],X)))<|j.bind λf=>(Cg (a.1,f)).bind λg=>Y (.next (g.1,wi (a.2+1))))<|j.bind λh=>(Cg (a.1,h)).bind λi=>Y (.next (i.1,wi (a.2+1)))else Y (.done (.inr a.1))
def N3(x:S AS×Aa×S AE×S AE):Lp y ((S AE×u)⊕t):=λa=>letI f:=ix x.2.2.1 a;bif a<V x.2.2.1 then f.bind λb=>(JH (x.2.1,b.1)).bind λc=>z c (f.bind λd=>v? (Im (x.2.2.2,d)) (.done (.inl ([],X)))<|Y (.next (wi (a+1))))<|Y (.next (wi (a+1))) else w?
def MU(x:S AS×Aa×S AE×S AE):Z (S AE×u):=(app [] x.2.2.1).bind λa=>(Ag (N2 x) (a,0)).bind λb=>ν Y (λc=>(Ag (N3 x) 0).bind λd=>ν Y (λe=>Y (c,E)) d) b
def QX(x:AJ×Aa×y×y×y)(a:S AE×u):Lp y ((S AE×y)⊕t):=λb=>letI j:=(ix a.1 (wi (b-1)));letI i:=ix a.1 b;letI h:=wi (b+1);bif b<V a.1 then z (b==0) (i.bind λc=>z (c.2.2.2.2.1>x.2.2.2.1) (Y (.done (.inl ([],13))))<|z (b>0) (i.bind λd=>j.bind λe=>z (d.2.2.2.2.1 !=e.1) (Y (.done (.inl ([],13))))<|Y (.next h))<|Y (.next h))<|z (b>0) (i.bind λf=>j.bind λg=>z (f.2.2.2.2.1 !=g.1) (Y (.done (.inl ([],13))))<|Y (.next h))<|Y (.next h)else w?
def Fp(x:AJ×Aa×y×y×y):Z (S AE×y):=(JI x).bind λa=>z (a !=0) (Y ([],a))<|(Jt (x.1,x.2.1,x.2.2.1)).bind λb=>(Ke (b,x.2.2.2)).bind λc=>z (!c) (Y ([],42))<|(Js (b.1,x.2.2)).bind λd=>(Pr x.2).bind λe=>(MU (b.1,x.2.1,d,e)).bind λf=>z (!f.2) (Y ([],41))<|(Ag (QX x f) 0).bind λg=>ν Y (λh=>Y (f.1,0)) g
def Ur(x:AQ×S AE):Lp (y×AQ×AQ) ((y×AQ)⊕(AQ×AQ)):=λa=>z (a.1<V x.2) ((ix x.2 a.1).bind λb=>z (b.1<=a.2.1.2.1) (Y (.next (wi (a.1+1),a.2)))<|(ix x.2 a.1).bind λc=>(JG (a.2.1,c)).bind λd=>z (d.2 !=0) (Y (.done (.inl (d.2,0,0,GG.all (X,[])))))<|Y (.next (wi (a.1+1),d.1,a.2.2)))<|Y (.done (.inr a.2))
def NO(x:AQ×S AE):Z (AQ×y):=(Ag (Ur x) (0,x.1,0,0,GG.all (X,[]))).bind λa=>ν (λb=>Y (b.2,b.1)) (λc=>Y (c.1,0)) a
def IA(x:AQ×AJ×Aa×y):Z (AQ×y):=letI f:=x.2.2;(Cy x.2.1).bind λa=>z (!a) (Y (p!,54))<|(B6 f.1).bind λb=>z (!b) (Y (p!,26))<|(DN x.1).bind λc=>z (c.2 !=0) (Y (p!,c.2))<|z (x.1.2.1>f.2) (Y (p!,9))<|(Fp (x.2.1,f.1,x.1.1,x.1.2.1,f.2)).bind λd=>z (d.2 !=0) (Y (p!,d.2))<|(NO (x.1,d.1)).bind λe=>Y e
def Up(x:Aq×AJ×Aa×y×y):Lp (y×S C0×y×y×Aq) ((y×Aq)⊕(S C0×y×y×Aq)):=λa=>z (a.1<V x.1.2.2) ((ix x.1.2.2 a.1).bind λb=>(J5 (x.1,b.1)).bind λc=>(IA (c.1,x.2.1,x.2.2.1,x.2.2.2.2)).bind λd=>z (d.2 !=0) (Y (.done (.inl (d.2,0,0,[]))))<|(z (d.1.2.1>0) ((DN d.1).bind λe=>Y (d.1.1,d.1.2.1,e.1))<|Y b).bind λf=>(app a.2.1 [f]).bind λg=>Y (.next (wi (a.1+1),g,a.2.2)))<|Y (.done (.inr a.2))
def NN(x:Aq×AJ×Aa×y×y):Z (Aq×y):=letI g:=x.2.2;(JJ x.1).bind λa=>z (!a) (Y ((0,0,[]),43))<|(Cy x.2.1).bind λb=>z (!b) (Y ((0,0,[]),54))<|(B6 g.1).bind λc=>z (!c) (Y ((0,0,[]),26))<|z (g.2.1<1) (Y ((0,0,[]),1))<|z (g.2.1>1073741824) (Y ((0,0,[]),1))<|z (g.2.2<0) (Y ((0,0,[]),1))<|z (g.2.2>g.1.2.2) (Y ((0,0,[]),1))<|(Ag (Up x) (0,[],g.2.1,x.1.2.1,0,0,[])).bind λd=>ν (λe=>Y (e.2,e.1)) (λf=>Y ((f.2.1,f.2.2.1,f.1),0)) d
def TC(x:y×AJ×Aa):Lp (y×y×S Am×AU×Aq) (S Am×AU×Aq):=λa=>letI g:=a.2.2;(Aj g.2.1 3).bind λb=>z (a.2.1<wi (2+b.1)) ((Aj b.2 (wi (wi (x.2.2.2.2-a.1)+1))).bind λc=>(NN (g.2.2,x.2.1,x.2.2,a.2.1,wi (a.1+c.1))).bind λd=>z (d.2 !=0) (Y (.done (g.1,c.2,g.2.2)))<|(Ko d.1).bind λe=>(app g.1 [e]).bind λf=>Y (.next (wi (a.1+c.1),wi (a.2.1+1),f,c.2,d.1)))<|Y (.done (g.1,b.2,g.2.2))
def L5(b:AU)(x:y×AJ×Aa):Z (S Am×AU):=(Jz (1,x.1)).bind λa=>(Aj b 3).bind λc=>(z (c.1>0) ((Ko a).bind λd=>Y ([]++([d]:S (y×y×Bd))))<|Y []:Z (S Am)).bind λe=>(Ag (TC x) (0,2,e,c.2,a)).bind λf=>Y (f.1,f.2.1)
def SY(x:Bd)(a:y):Lp (y×y×S C0×y×y×Aq) ((y×Aq)⊕(y×S C0×y×y×Aq)):=λb=>z (b.2.1<a) ((Bl (x,b.1)).bind λc=>z (c.2.2 !=0) (Y (.done (.inl (c.2.2,0,0,[]))))<|z (V c.1 !=258) (Y (.done (.inl (4,0,0,[]))))<|(R3 c.1 2 (V c.1)).bind λd=>(Bg (c.1,0,2)).bind λe=>(Co (d,e)).bind λf=>(app b.2.2.1 [(e,f.1.2.1,d)]).bind λg=>Y (.next (c.2.1,wi (b.2.1+1),g,b.2.2.2)))<|Y (.done (.inr (b.1,b.2.2)))
def Fq(x:Bd):Z (Aq×y):=(Bl (x,0)).bind λa=>z (a.2.2 !=0) (Y ((0,0,[]),a.2.2))<|z (V a.1 !=12) (Y ((0,0,[]),4))<|(R3 a.1 0 4).bind λb=>z (b !=([80,77,73,77]:S (UInt8))) (Y ((0,0,[]),4))<|(Bg (a.1,4,4)).bind λc=>(Bg (a.1,8,2)).bind λd=>(Bg (a.1,10,2)).bind λe=>z (e>64) (Y ((0,0,[]),4))<|(Ag (SY x e) (a.2.1,0,[],c,d,0,0,[])).bind λf=>ν (λg=>Y (g.2,g.1)) (λh=>letI j:=(h.2.2.1,h.2.2.2.1,h.2.1);bif h.1 !=V x then Y ((0,0,[]),4)else(EQ j).bind λi=>z (!i) (Y ((0,0,[]),43))<|Y (j,0)) f
def Sb(x:S Am)(a:S Aq×y):Lp (u×y) u:=λb=>letI f:=wi (b.2+1);bif b.2<a.2 then z b.1 ((ix x b.2).bind λc=>z (c.1 !=2) (Y (.next (E,f)))<|(ix x b.2).bind λd=>(ix x a.2).bind λe=>Y (.next ((d.2.1 !=e.2.1),f)))<|Y (.next (X,f))else Y (.done b.1)
def Sc(a:S Aq×y)(b:Aq×y):Lp y y:=λc=>z (c>0) ((ix a.1 (wi (c-1))).bind λd=>z (d.1>b.1.1) (Y (.next (wi (c-1))))<|Y (.done c))<|Y (.done c)
def Sa(x:S Am):Lp (S Aq×y) (S Aq):=λa=>letI o:=ix x a.2;letI l:=(a.1,wi (a.2+1));bif a.2<V x then o.bind λb=>v? (Ag (Sb x a) ((b.1==2),0)) (.next l)<|o.bind λd=>(Fq d.2.2).bind λe=>z (e.2 !=0) (Y (.next l))<|(JJ e.1).bind λf=>z (!f) (Y (.next l))<|o.bind λg=>z (e.1.1 !=g.2.1) (Y (.next l))<|(Ag (Sc a e) (V a.1)).bind λh=>(T6 a.1 0 h).bind λi=>(T6 a.1 h (V a.1)).bind λj=>(app [] i).bind λk=>(app k [e.1]).bind λm=>(app m j).bind λn=>Y (.next (n,wi (a.2+1)))else Y (.done a.1)
def Gq(x:S Am):Z (S Aq):=(Ag (Sa x) ([],0)).bind λa=>Y a
end
noncomputable section
abbrev BO:Type:=y×y×y×y×S y×y×y
def Eb:Ty:=.prod (z? (z? (z? (z? (.cons (.list (.int .i64)) (z? (.one (.int .i64))))))))
def AE5{α γ:Type}(c:α×α->Z γ)(n:γ->u)(x:y×y):Lp (y×S α) (S α):=λa=>letI s:=(ix a.2 a.1);letI l:=(wi (a.1-1));letI v:=(ix a.2 l);(z (a.1>x.1) (s.bind λb=>s.bind λd=>v.bind λe=>v.bind λf=>(c (d,f)).bind λg=>z (n g) (Y (.inr ()))<|Y (.inl ()))<|Y (.inl ()):Z (t⊕t)).bind λh=>ν (λi=>Y (.done a.2)) (λj=>v.bind λk=>v.bind λm=>letI w:=(ER a.2 a.1 m);s.bind λo=>s.bind λp=>s.bind λq=>s.bind λr=>(ix w l).bind λt=>(ix w l).bind λu=>Y (.next (wi (a.1-1),ER w l p))) h
def ABJ{α γ:Type}(c:α×α->Z γ)(n:γ->u)(l:S α)(x:y×y):Z (S α):=(Ag (λa=>z (a.1<x.2) ((Ag (AE5 c n x) a).bind λb=>Y (.next (wi (a.1+1),b)))<|Y (.done a.2)) (wi (x.1+1),l)).bind λd=>Y d
def AJV{α:Type}(f:S α->y×y->Z (S α)):Lp (y×y×y×u×u×S α) (S α):=λa=>letI d:=a.2.2;letI e:=d.2.2.2;bif wi (a.2.1-a.1)<=12 then(f e (a.1,a.2.1)).bind λb=>z (ξ (W b) (W e)) (Y (.done b))<|D else z (d.1==0) D<|(z (! d.2.1) D<|Y (d.1,e):Z (y×S α)).bind λc=>D
def pdG{α:Type}(f:S α->y×y->Z (S α))(l:S α)(x:y×y×y):Z (S α):=(Ag (AJV f) (x.1,x.2.1,x.2.2,E,E,l)).bind λa=>Y a
def soG{α:Type}(f:S α->y×(y×y)->Z (S α))(l:S α):Z (S α):=(Tg (ι .u64 (V l))).bind λa=>(f l (0,V l,a)).bind λb=>z (ξ (W b) (W l)) (Y b)<|D
def Qk(x:Aq×Aq):Z y:=(EF (x.1.1,x.2.1)).bind λa=>Y a
def Qj(x:Be×Be):Z y:=(EF (x.2.1,x.1.1)).bind λa=>Y a
def MY(l:S y)(x:y×y):Z (S y):=ABJ OU (λa=>a) l x
def O7(rec:(S y×y×y×y)->(Z (S y)))(l:S y)(x:y×y×y):Z (S y):=pdG MY l x
def Qr(l:S y)(x:y×y×y):Z (S y):=sy (λg p=>O7 g p.1 p.2) (l,x)
def MW(l:S y)(x:t):Z (S y):=soG Qr l
def Jg(l:S Aq)(x:y×y):Z (S Aq):=ABJ Qk (λa=>decide (a<0)) l x
def LJ(rec:(S Aq×y×y×y)->(Z (S Aq)))(l:S Aq)(x:y×y×y):Z (S Aq):=pdG Jg l x
def MZ(l:S Aq)(x:y×y×y):Z (S Aq):=sy (λg p=>LJ g p.1 p.2) (l,x)
def Gt(l:S Aq)(x:t):Z (S Aq):=soG MZ l
def Ez(l:S Be)(x:y×y):Z (S Be):=ABJ Qj (λa=>decide (a<0)) l x
def Ma(x:y):Lp (y×y×S Be) (y×S Be):=λa=>letI c:=a.2.1;bif c<=x then(Ez a.2.2 (a.1,c)).bind λb=>z (ξ (W b) (W a.2.2)) (Y (.next (c,wi (c+20),b)))<|D else Y (.done (a.1,a.2.2))
def Uz(x:y):Lp (y×y×S Be) (y×S Be):=λa=>z (a.2.1<=x) D<|Y (.done (a.1,a.2.2))
def Mb(x:y):Lp (y×S Be) (S Be):=λa=>z (a.1<x) ((Ag (Uz x) (0,wi (2*a.1),a.2)).bind λb=>(z (wi (b.1+a.1)<x) D<|Y b.2:Z (S Be)).bind λc=>Y (.next (wi (a.1*2),c)))<|Y (.done a.2)
def Jb(l:S Be)(x:y):Z (S Be):=(Ag (Ma x) (0,20,l)).bind λa=>(Ez a.2 (a.1,x)).bind λb=>z (ξ (W b) (W a.2)) ((Ag (Mb x) (20,b)).bind λc=>Y c)<|D
def EZ(l:S Be)(x:t):Z (S Be):=(Jb l (V l)).bind λa=>z (ξ (W a) (W l)) (Y a)<|D
def Rv(x:Bd):Z C0:=(R3 x 2 (V x)).bind λa=>(B0 (x,0,2)).bind λb=>(Gb (a,b.1)).bind λc=>Y (b.1,c.1.2.1,a)
def aZ(x:Bd)(a:y×y):Lp (y×y×S C0×y×y×Aq) ((y×Aq)⊕(y×S C0×y×y×Aq)):=λb=>z (b.2.1<a.1) ((Dr (x,b.1)).bind λc=>z (c.2.2 !=0) (Y (.done (.inl (c.2.2,0,0,[]))))<|z (V c.1 !=258) (Y (.done (.inl (4,0,0,[]))))<|(Rv c.1).bind λd=>(app b.2.2.1 [d]).bind λe=>Y (.next (c.2.1,wi (b.2.1+1),e,b.2.2.2)))<|Y (.done (.inr (b.1,b.2.2)))
def IR(x:Bd):Z (Aq×y):=(Dr (x,0)).bind λa=>z (a.2.2 !=0) (Y ((0,0,[]),a.2.2))<|z (V a.1 !=12) (Y ((0,0,[]),4))<|(FH (a.1,([80,77,73,77]:S (UInt8)))).bind λb=>z (!b) (Y ((0,0,[]),4))<|(B0 (a.1,4,4)).bind λc=>(B0 (a.1,8,2)).bind λd=>(B0 (a.1,10,2)).bind λe=>z (e.1>64) (Y ((0,0,[]),4))<|(Ag (aZ x e) (a.2.1,0,[],c.1,d.1,0,0,[])).bind λf=>ν (λg=>Y (g.2,g.1)) (λh=>letI j:=(h.2.2.1,h.2.2.2.1,h.2.1);bif h.1<V x then Y ((0,0,[]),4)else(LG j).bind λi=>z (!i) (Y ((0,0,[]),43))<|Y (j,0)) f
def Y6(x:S Am):Lp (y×S (y×u)×S Aq) (S (y×u)×S Aq):=λa=>letI h:=(wi (a.1+1),a.2);bif a.1<V x then(ix x a.1).bind λb=>letI g:=Qa b.2.1 E a.2.1;letI f:=(wi (a.1+1),g,a.2.2);bif b.1 !=2 then Y (.next h)else z (Option.getD (Lo b.2.1 a.2.1) X) (Y (.next h))<|(IR b.2.2).bind λc=>z (c.2==0) ((W5 c.1).bind λd=>z d (z (c.1.1==b.2.1) ((app a.2.2 [c.1]).bind λe=>Y (.next (wi (a.1+1),g,e)))<|Y (.next f))<|Y (.next f))<|Y (.next f)else Y (.done a.2)
def Ip(x:S Am):Z (S Aq):=(Ag (Y6 x) (0,[],[])).bind λa=>(Gt a.2 ()).bind λb=>z (ξ (W b) (W a.2)) (Y b)<|D
def QB(x:C0×y):Z y:=Y (wi (x.1.1-x.2))
def eU(x:Aq×y):Lp (y×y) y:=λa=>letI e:=(wi (Int.fdiv (ι .u64 (wi (a.1+a.2))) (2^(min (ο 1) 64))));bif a.1<a.2 then(ix x.1.2.2 e).bind λb=>(QB (b,x.2)).bind λc=>(z (c<0) (Y (wi (e+1),a.2))<|Y (a.1,e):Z (y×y)).bind λd=>Y (.next d)else Y (.done a.1)
def TA(x:Aq×y):Z (y×u):=letI d:=x.1.2.2;(Ag (eU x) (0,V d)).bind λa=>z (a<V d) ((ix d a).bind λb=>(QB (b,x.2)).bind λc=>Y (a,(c==0)))<|Y (a,X)
def VU(x:Aq×y):Z (C0×u):=v? (LG x.1) ((0,0,[]),X)<|z (x.2<0) (Y ((0,0,[]),X))<|z (x.2>=x.1.2.1) (Y ((0,0,[]),X))<|(TA x).bind λb=>z (!b.2) (Y ((0,0,[]),X))<|(ix x.1.2.2 b.1).bind λc=>Y (c,E)
def Y5(x:S Am×y×y)(a:S Aq):Lp (y×S Be) (S Be):=λb=>letI f:=(wi (b.1-1),b.2);bif b.1>=0 then(ix a b.1).bind λc=>(VU (c,x.2.1)).bind λd=>letI g:=d.1.2.1;bif d.2 then z (g<=x.2.2) ((app b.2 [(g,c.1,g)]).bind λe=>Y (.next (wi (b.1-1),e)))<|Y (.next f)else Y (.next f)else Y (.done b.2)
def Td(x:S Am×y×y):Z (S Be):=(Ip x.1).bind λa=>(Ag (Y5 x a) (wi (V a-1),[])).bind λb=>(EZ b ()).bind λc=>z (ξ (W c) (W b)) (Y c)<|D
def T5(b:Be)(x:Aq):Z (u×Be):=Y ((x.1==b.2.1),b)
def Ru(x:Aq×y):Z (AQ×y):=(LG x.1).bind λa=>z (!a) (Y (p!,43))<|(VU x).bind λb=>z (!b.2) (Y (p!,44))<|(Gb (b.1.2.2,x.2)).bind λc=>Y c
def VS(x:AJ×Aa×y×y×y)(a:y)(b:y×y×u)(c:S AS×S y):Lp (y×S y) (S y):=letI j:=x.2.2.2;letI o:=if(a<j.2)then a else j.2;letI k:=(if(x.2.1.1>wi (j.1+1))then x.2.1.1 else wi (j.1+1));λd=>letI n:=(wi (d.1+1),d.2);bif d.1<V c.1 then(ix c.1 d.1).bind λe=>letI m:=if(e.2.1<j.2)then e.2.1 else j.2;letI l:=(if(e.1>wi (j.1+1))then e.1 else wi (j.1+1));bif e.2.2.1==b.1 then(ix c.2 d.1).bind λf=>z (l>m) (Y (.next n))<|z (k>o) ((app d.2 [f]).bind λg=>Y (.next (wi (d.1+1),g)))<|z (l<k) ((app d.2 [f]).bind λh=>Y (.next (wi (d.1+1),h)))<|z (m>o) ((app d.2 [f]).bind λi=>Y (.next (wi (d.1+1),i)))<|Y (.next n)else Y (.next n)else Y (.done d.2)
def IQ(x:AJ×Aa×y×y×y):Z (S y×y×y×y):=letI i:=x.2.2.2;letI g:=(if(x.2.1.1>wi (i.1+1))then x.2.1.1 else wi (i.1+1));(HZ x).bind λa=>z (a.2 !=0) (Y ([],0,0,a.2))<|(OW x.2.1).bind λb=>letI h:=if(b<i.2)then b else i.2;(Fv (x.1,x.2.2.1)).bind λc=>z (!c.2.2) D<|(HY x.1).bind λd=>(Ag (VS x b c d) (0,[])).bind λe=>(MW e ()).bind λf=>z (ξ (W f) (W e)) (z (g>h) (Y (f,0,0,0))<|Y (f,g,h,0))<|D
def Sp(a:S Aq):Lp (y×Be) ((y×Be)⊕Be):=λb=>z (b.1<V a) ((ix a b.1).bind λc=>(T5 b.2 c).bind λd=>z d.1 (Y (.done (.inl (b.1,d.2))))<|Y (.next (wi (b.1+1),d.2)))<|Y (.done (.inr b.2))
def Sn(x:S Am×AJ×Aa×y×y)(a:S Aq)(b:S Be):Lp (y×AQ×BO) ((y×AQ×BO)⊕(AQ×BO)):=letI l:=x.2.2.2;λc=>letI m:=(wi (c.1+1),c.2);bif c.1<V b then(ix b c.1).bind λd=>(Ag (Sp a) (0,d)).bind λe=>ν (λf=>(ix a f.1).bind λg=>(Ru (g,l.1)).bind λh=>z (h.2 !=0) (Y (.next m))<|(J7 (h.1,x.2.1,x.2.2.1,l.2)).bind λi=>z (i.2 !=0) (Y (.next m))<|(IQ (x.2.1,x.2.2.1,l.1,h.1.2.1,l.2)).bind λj=>z (j.2.2.2==0) (Y (.done (.inl (0,i.1,l.1,f.2.2.1,h.1.2.1,l.2,j.1,j.2.1,j.2.2.1))))<|Y (.next m)) (λk=>D) e else Y (.done (.inr c.2))
def CV(x:S Am×AJ×Aa×y×y):Z (AQ×BO×y):=letI m:=x.2.1;letI l:=x.2.2;letI k:=l.2;(Fz m).bind λa=>z (!a) (Y (p!,(0,0,0,0,[],0,0),54))<|(Ha l.1).bind λb=>z (!b) (Y (p!,(0,0,0,0,[],0,0),26))<|z (k.1<0) (Y (p!,(0,0,0,0,[],0,0),1))<|z (k.1>=m.2.1) (Y (p!,(0,0,0,0,[],0,0),1))<|z (k.2<0) (Y (p!,(0,0,0,0,[],0,0),1))<|(Ip x.1).bind λc=>(Td (x.1,k)).bind λd=>(Ag (Sn x c d) (0,p!,0,0,0,0,[],0,0)).bind λe=>ν (λf=>Y (f.2.1,f.2.2,f.1)) (λg=>(Cu k.1).bind λh=>(J7 (h,m,l.1,k.2)).bind λi=>z (i.2 !=0) (Y (p!,(0,0,0,0,[],0,0),49))<|(IQ (m,l.1,k.1,h.2.1,k.2)).bind λj=>z (j.2.2.2==0) (Y (i.1,(k.1,0,h.2.1,k.2,j.1,j.2.1,j.2.2.1),0))<|Y (p!,(0,0,0,0,[],0,0),49)) e
end
noncomputable section
abbrev A3:Type:=y×y×S AE
def FA:Ty:=.prod (z? (z? (.one (.list Af))))
def F5(l:S AE)(x:t):Z (S AE):=AAd (λe:AE=>e.1) l
def JK(x:BO):Lp (y×y) (u⊕t):=λa=>z (a.2<V x.2.2.2.2.1) ((ix x.2.2.2.2.1 a.2).bind λb=>z (b<=a.1) q?<|Y (.next (b,wi (a.2+1))))<|w?
def Ja(x:BO):Z u:=letI h:=Ag (JK x) (0,0);letI g:=x.2.2;letI e:=g.2.2.2;letI f:=τ (e.1<=e.2);bif x.1<0 then Y X else z (x.1>=64) (Y X)<|z (x.2.1<0) (Y X)<|z (x.2.1>1073741824) (Y X)<|z (g.1<0) (Y X)<|z (g.1>g.2.1) (Y X)<|z (g.2.1>1099511627776) (Y X)<|z (x.2.1==0) (z (g.1>0) (Y X)<|h.bind λa=>ν Y (λb=>z (e.1==0) (z (e.2==0) (Y E)<|z (e.1>=1) (Y f)<|Y X)<|z (e.1>=1) (Y f)<|Y X) a)<|h.bind λc=>ν Y (λd=>z (e.1==0) (z (e.2==0) (Y E)<|z (e.1>=1) (Y f)<|Y X)<|z (e.1>=1) (Y f)<|Y X) c
def QY(x:S Am×BO)(a:S Aq):Lp (y×AQ) ((u×AQ)⊕AQ):=λb=>z (b.1<V a) ((ix a b.1).bind λc=>z (c.1==x.2.2.1) ((Ru (c,x.2.1)).bind λd=>z (d.2==0) (Y (.done (.inl ((d.1.2.1==x.2.2.2.1),d.1))))<|Y (.done (.inl (X,d.1))))<|Y (.next (wi (b.1+1),b.2)))<|Y (.done (.inr b.2))
def Ho(x:S Am×BO):Z (AQ×u):=z (x.2.2.1==0) ((Cu x.2.1).bind λa=>Y (a,E))<|(Ip x.1).bind λb=>(Ag (QY x b) (0,0,0,GG.all (X,[]))).bind λc=>ν (λd=>Y (d.2,d.1)) (λe=>Y (p!,X)) c
def Sd(x:S y×y):Lp y (y⊕t):=λa=>z (a<V x.1) ((ix x.1 a).bind λb=>z (x.2==b) (Y (.done (.inl a)))<|Y (.next (wi (a+1))))<|w?
def Pv(x:S y×y):Z y:=(Ag (Sd x) 0).bind λa=>ν Y (λb=>Y (-1)) a
def Us(x:AJ×Aa×BO)(a:y×y×u)(b:S AS×S y):Lp (y×S A3) ((S A3×u)⊕(S A3)):=letI l:=x.2.2.2.2.2.2.1;λc=>bif c.1<V l then(ix l c.1).bind λd=>(Pv (b.2,d)).bind λe=>letI k:=ix b.1 e;bif e<0 then Y (.done (.inl ([],X)))else k.bind λf=>z (f.2.2.1 !=a.1) (Y (.done (.inl ([],X))))<|k.bind λg=>k.bind λh=>k.bind λi=>(app c.2 [(g.1,h.2.1,i.2.2.2.2.2)]).bind λj=>Y (.next (wi (c.1+1),j))else Y (.done (.inr c.2))
def IB(x:AJ×Aa×BO):Z (S A3×u):=letI i:=x.2.1;letI h:=x.2.2.2.2.2.2.2;(Fv (x.1,x.2.2.1)).bind λa=>z (!a.2.2) (Y ([],X))<|(HY x.1).bind λb=>(Ag (Us x a b) (0,[])).bind λc=>ν Y (λd=>z (h.1==0) (Y (d,E))<|z (h.1<i.1) (Y ([],X))<|(OW i).bind λe=>z (h.2>e) (Y ([],X))<|(T6 i.2.1 (wi (h.1-i.1)) (wi (wi (h.2-i.1)+1))).bind λf=>(app d [(h.1,h.2,f)]).bind λg=>Y (g,E)) c
def WN(x:S A3×BO):Lp y (y⊕t):=letI c:=x.2.2.2.1+1;λa=>z (a<V x.1) ((ix x.1 a).bind λb=>z (wi c>=b.1) (z (wi c<=b.2.1) (Y (.done (.inl a)))<|Y (.next (wi (a+1))))<|Y (.next (wi (a+1))))<|w?
def MV(x:S A3×BO)(a:y×u):Lp y (y⊕t):=λb=>z (b<V x.1) ((ix x.1 b).bind λc=>z (a.1>=c.1) (z (a.1<=c.2.1) (Y (.done (.inl b)))<|Y (.next (wi (b+1))))<|Y (.next (wi (b+1))))<|w?
def WO(x:S A3×BO):Lp (y×u) (u⊕u):=λa=>z (a.1<=x.2.2.2.2.1) ((Ag (MV x a) 0).bind λb=>ν (λc=>z (c>=0) ((ix x.1 c).bind λd=>Y (.next (wi (d.2.1+1),a.2)))<|Y (.done (.inr X))) (λe=>Y (.done (.inr X))) b)<|Y (.done (.inl a.2))
def Hp(x:S A3×BO):Z u:=z (wi (x.2.2.2.1+1)<=x.2.2.2.2.1) ((Ag (WN x) 0).bind λa=>ν (λb=>z (b>=0) ((ix x.1 b).bind λc=>(Ag (WO x) (wi (c.2.1+1),X)).bind λd=>ν (λe=>Y E) Y d)<|Y X) (λf=>Y X) a)<|Y E
def Gs(x:S AE×S AE):Lp y (u⊕t):=λa=>bif a<V x.1 then(ix x.1 a).bind λb=>letI f:=b.2.2.2;letI d:=f.2.2.2;letI h:=d.1.2.2;(ix x.2 a).bind λc=>letI g:=c.2.2.2;letI e:=g.2.2.2;letI i:=e.1.2.2;bif !(b.1==c.1&&(b.2.1==c.2.1&&(b.2.2.1==c.2.2.1&&(f.1==g.1&&(f.2.1==g.2.1&&(f.2.2.1==g.2.2.1&&(d.1.1==e.1.1&&(d.1.2.1==e.1.2.1&&(h.1.1==i.1.1&&(h.1.2==i.1.2&&(h.2.1==i.2.1&&(h.2.2==i.2.2&&(d.2==e.2&&E)))))))))))))then q? else Y (.next (wi (a+1))) else w?
def Fs(x:S AE×S AE):Z u:=z (V x.1 !=V x.2) (Y X)<|(Ag (Gs x) 0).bind λa=>ν Y (λb=>Y E) a
def Gr(x:A3×BO):Lp (y×S AE) (S AE):=λa=>letI f:=(wi (a.1+1),a.2);bif a.1<V x.1.2.2 then(ix x.1.2.2 a.1).bind λb=>(BE b).bind λc=>z c (z (b.2.2.2.2.2.2.1.1==x.2.1) (z (b.1>x.2.2.2.1) ((z (b.1<=x.2.2.2.2.1) ((app a.2 [b]).bind λd=>Y d)<|Y a.2).bind λe=>Y (.next (wi (a.1+1),e)))<|Y (.next f))<|Y (.next f))<|Y (.next f)else Y (.done a.2)
def OI(x:A3×BO):Z (S AE):=(Ag (Gr x) (0,[])).bind λa=>Y a
def WJ(x:A3×A3×BO):Lp (y×S AE) (S AE):=λa=>letI f:=(wi (a.1+1),a.2);bif a.1<V x.1.2.2 then(ix x.1.2.2 a.1).bind λb=>(BE b).bind λc=>z c (z (b.2.2.2.2.2.2.1.1==x.2.2.1) (z (b.1>x.2.2.2.2.1) ((z (b.1<=x.2.2.2.2.2.1) ((app a.2 [b]).bind λd=>Y d)<|Y a.2).bind λe=>Y (.next (wi (a.1+1),e)))<|Y (.next f))<|Y (.next f))<|Y (.next f)else Y (.done a.2)
def JL(x:A3×A3×BO)(a:S AE):Lp y (y⊕t):=λb=>z (b<V a) ((ix a b).bind λc=>(ix a b).bind λd=>z (d.1<x.2.1.1) (Y (.done (.inl b)))<|z (d.1>x.2.1.2.1) (Y (.done (.inl b)))<|Y (.next (wi (b+1))))<|w?
def JM(x:A3×A3×BO):Lp (y×y×S AE) (y×S AE):=λa=>letI h:=a.2.1;letI g:=(wi (a.1+1),a.2);letI f:=a.2.2;bif a.1<V f then(ix f a.1).bind λb=>(ix f a.1).bind λc=>z (c.1<x.2.1.1) (Y (.next g))<|z (!(τ (c.1>x.2.1.2.1))) ((ix f h).bind λd=>(ix f h).bind λe=>Y (.next (wi (a.1+1),wi (h+1),ER f h c)))<|Y (.next g)else Y (.done a.2)
def WK(x:A3×A3×BO):Lp (y×S AE) (S AE):=λa=>letI f:=(wi (a.1+1),a.2);bif a.1<V x.2.1.2.2 then(ix x.2.1.2.2 a.1).bind λb=>(BE b).bind λc=>z c (z (b.2.2.2.2.2.2.1.1==x.2.2.1) (z (b.1>x.2.2.2.2.1) ((z (b.1<=x.2.2.2.2.2.1) ((app a.2 [b]).bind λd=>Y d)<|Y a.2).bind λe=>Y (.next (wi (a.1+1),e)))<|Y (.next f))<|Y (.next f))<|Y (.next f)else Y (.done a.2)
def WL(x:A3×A3×BO)(a:S AE):Lp y (y⊕t):=λb=>z (b<V a) ((ix a b).bind λc=>(ix a b).bind λd=>z (d.1<x.1.1) (Y (.done (.inl b)))<|z (d.1>x.1.2.1) (Y (.done (.inl b)))<|Y (.next (wi (b+1))))<|w?
def WM(x:A3×A3×BO):Lp (y×y×S AE) (y×S AE):=λa=>letI h:=a.2.1;letI g:=(wi (a.1+1),a.2);letI f:=a.2.2;bif a.1<V f then(ix f a.1).bind λb=>(ix f a.1).bind λc=>z (c.1<x.1.1) (Y (.next g))<|z (!(τ (c.1>x.1.2.1))) ((ix f h).bind λd=>(ix f h).bind λe=>Y (.next (wi (a.1+1),wi (h+1),ER f h c)))<|Y (.next g)else Y (.done a.2)
def Pu(x:A3×A3×BO):Z u:=(Ag (WJ x) (0,[])).bind λa=>(((Ag (JL x a) 0).bind λb=>ν (λc=>z (c==(-1)) (Y a)<|(Ag (JM x) (wi (c+1),c,a)).bind λd=>(wD d.2 d.1 r!).bind λe=>(T6 e 0 d.1).bind λf=>Y f) (λg=>Y a) b):Z (S AE)).bind λh=>(Ag (WK x) (0,[])).bind λi=>(((Ag (WL x i) 0).bind λj=>ν (λk=>z (k==(-1)) (Y i)<|(Ag (WM x) (wi (k+1),k,i)).bind λm=>(wD m.2 m.1 r!).bind λn=>(T6 n 0 m.1).bind λo=>Y o) (λp=>Y i) j):Z (S AE)).bind λq=>(Fs (h,q)).bind λr=>Y r
def Vg(x:S Am×AJ×Aa×BO)(a:A3)(b:S A3):Lp (y×AQ) ((y×AQ)⊕AQ):=λc=>z (c.1<V b) ((ix b c.1).bind λd=>v? (Pu (d,a,x.2.2.2)) (.done (.inl (45,0,0,GG.all (X,[]))))<|Y (.next (wi (c.1+1),c.2)))<|Y (.done (.inr c.2))
def LF(x:S Am×AJ×Aa×BO)(a:S A3×u):Lp (y×AQ×S AE) ((y×AQ)⊕(AQ×S AE)):=λb=>z (b.1<V a.1) ((ix a.1 b.1).bind λc=>(T6 a.1 0 b.1).bind λd=>(Ag (Vg x c d) (0,b.2.1)).bind λe=>ν (λf=>Y (.done (.inl f))) (λg=>(OI (c,x.2.2.2)).bind λh=>(app b.2.2 h).bind λi=>Y (.next (wi (b.1+1),g,i))) e)<|Y (.done (.inr b.2))
def Pt:Lp (y×y×S AE×y×y) (y×S AE):=λa=>letI p:=a.2.1;letI n:=a.2.2;letI o:=(ο n.2.2);letI k:=(ο n.2.1);letI j:=(List.take o (List.drop k n.1));bif a.1<(V j)then(ix j a.1).bind λb=>(ix n.1 (((k:Nat):y)+a.1)).bind λc=>letI q:=c.2.2.2;letI l:=q.2.2.2;letI s:=l.1.2.2;(ix j (wi (a.1-1))).bind λd=>(ix n.1 (((k:Nat):y)+wi (a.1-1))).bind λe=>letI r:=e.2.2.2;letI m:=r.2.2.2;letI t:=m.1.2.2;bif !((c.1==e.1)&&((c.2.1==e.2.1)&&((c.2.2.1==e.2.2.1)&&((q.1==r.1)&&((q.2.1==r.2.1)&&((q.2.2.1==r.2.2.1)&&((l.1.1==m.1.1)&&((l.1.2.1==m.1.2.1)&&((s.1.1==t.1.1)&&((s.1.2==t.1.2)&&((s.2.1==t.2.1)&&((s.2.2==t.2.2)&&((l.2==m.2)&&E)))))))))))))then(ix j a.1).bind λf=>(ix n.1 (((k:Nat):y)+a.1)).bind λg=>(ix n.1 p).bind λh=>(ix n.1 p).bind λi=>Y (.next (wi (a.1+1),wi (p+1),ER n.1 p g,((k:Nat):y),((o:Nat):y)))else Y (.next (wi (a.1+1),p,n.1,((k:Nat):y),((o:Nat):y)))else Y (.done (p,n.1))
def Ps:Lp (y×S AE) ((S AE)⊕(S AE)):=λa=>letI r:=V a.2;letI q:=(ο a.1);letI l:=(ix a.2 (wi (a.1-1)));bif a.1<r then(ix a.2 a.1).bind λb=>(ix a.2 a.1).bind λc=>letI m:=c.2.2.2;letI j:=m.2.2.2;letI o:=j.1.2.2;l.bind λd=>l.bind λe=>letI n:=e.2.2.2;letI k:=n.2.2.2;letI p:=k.1.2.2;bif (c.1==e.1)&&((c.2.1==e.2.1)&&((c.2.2.1==e.2.2.1)&&((m.1==n.1)&&((m.2.1==n.2.1)&&((m.2.2.1==n.2.2.1)&&((j.1.1==k.1.1)&&((j.1.2.1==k.1.2.1)&&((o.1.1==p.1.1)&&((o.1.2==p.1.2)&&((o.2.1==p.2.1)&&((o.2.2==p.2.2)&&((j.2==k.2)&&E))))))))))))then(T6 a.2 a.1 (r)).bind λf=>(Ag (Pt) (1,a.1,a.2,((q:Nat):y),((((ο (r))-q):Nat):y))).bind λg=>(wD g.2 g.1 r!).bind λh=>(T6 h 0 g.1).bind λi=>Y (.done (.inl i))else Y (.next (wi (a.1+1),a.2))else Y (.done (.inr a.2))
def F7(x:S Am×AJ×Aa×BO):Z (AQ×y):=letI l:=x.2.2;(Fz x.2.1).bind λa=>z (!a) (Y (p!,54))<|(Ha l.1).bind λb=>z (!b) (Y (p!,26))<|(Ja l.2).bind λc=>z (!c) (Y (p!,45))<|(Ho (x.1,l.2)).bind λd=>(IB x.2).bind λe=>z (!d.2) (Y (p!,45))<|z (!e.2) (Y (p!,45))<|(Hp (e.1,l.2)).bind λf=>z (!f) (Y (p!,45))<|(Ag (LF x e) (0,p!,[])).bind λg=>ν (λh=>Y (h.2,h.1)) (λi=>(F5 i.2 ()).bind λj=>z (ξ (W j) (W i.2)) (z (V i.2<2) ((Ie (d.1,j)).bind λk=>Y k)<|(Ag (Ps) (1,j)).bind λm=>ν (λn=>(Ie (d.1,n)).bind λo=>Y o) (λp=>(Ie (d.1,p)).bind λq=>Y q) m)<|D) g
def Ll(x:S Am×AJ×Aa×BO×AQ):Z u:=(F7 (x.1,x.2.1,x.2.2.1,x.2.2.2.1)).bind λa=>z (a.2==0) (Y (AJW a.1 x.2.2.2.2))<|Y X
def Lm(x:S Am×AJ×Aa×y×y):Z (BO×y):=(CV x).bind λa=>Y a.2
def X8(x:S Am×AJ×Aa×y):Lp (y×S BO×S y) (S BO×S y):=λa=>z (a.1<x.2.1.2.1) ((Lm (x.1,x.2.1,x.2.2.1,a.1,x.2.2.2)).bind λb=>(z (b.2==0) ((app a.2.1 [b.1]).bind λc=>Y (c,a.2.2))<|(app a.2.2 [a.1]).bind λd=>Y (a.2.1,d):Z (S BO×S y)).bind λe=>Y (.next (wi (a.1+1),e)))<|Y (.done a.2)
def Oz(x:S Am×AJ×Aa×y):Z (S BO×S y×y):=(Fz x.2.1).bind λa=>z (!a) (Y ([],[],54))<|(Ha x.2.2.1).bind λb=>z (!b) (Y ([],[],26))<|z (x.2.2.2<0) (Y ([],[],1))<|(Ag (X8 x) (0,[],[])).bind λc=>Y (c.1,c.2,0)
end
noncomputable section
def I6(x:t):Z u:=(Il (2,([0]:S y))).bind λa=>(G3 ()).bind λb=>(Lm ([],a.1,b,1,0)).bind λc=>z (c.2==0) (z (c.1.1==1) ((Ja c.1).bind λd=>z d ((G3 ()).bind λe=>(Cu 1).bind λf=>(Ll ([],a.1,e,c.1,f)).bind λg=>Y g)<|Y X)<|Y X)<|Y X
def L3(b:AU)(x:t):Z (y×AJ×Aa×Aa×S Am×AU):=(La b 25).bind λa=>letI l:=a.2.1;(PX a.2.2 (a.1,l)).bind λc=>letI m:=c.1.2;(L5 c.2 (a.1,c.1,l)).bind λd=>(Aj d.2 2).bind λe=>(z (e.1==1) ((Aj e.2 m.2.2.1).bind λf=>(Kq (l,wi (1+f.1))).bind λg=>Y (f.2,g.1))<|Y (e.2,l):Z (AU×Aa)).bind λh=>(Aj h.1 3).bind λi=>(z (i.1==0) ((GB i.2 m.2.1).bind λj=>Y (j.2,c.1.1,m.1,j.1,m.2.2))<|Y (i.2,c.1):Z (AU×AJ)).bind λk=>Y (a.1,k.2,h.2,l,d.1,k.1)
end
noncomputable section
def Vf(x:S y×y):Lp y y:=λa=>z (a<V x.1) ((ix x.1 a).bind λb=>z (b<x.2) (Y (.next (wi (a+1))))<|Y (.done a))<|Y (.done a)
def Sm(x:S y×y):Z (S y):=(Ag (Vf x) 0).bind λa=>letI l:=T6 x.1 a (V x.1);bif a<V x.1 then(ix x.1 a).bind λb=>z (b==x.2) (Y x.1)<|(T6 x.1 0 a).bind λc=>l.bind λd=>(app [] c).bind λe=>(app e [x.2]).bind λf=>(app f d).bind λg=>Y g else(T6 x.1 0 a).bind λh=>l.bind λi=>(app [] h).bind λj=>(app j [x.2]).bind λk=>(app k i).bind λm=>Y m
def Um(x:AJ×Aa×y×y×y)(a:Gc)(b:y×y):Lp (S y×y) (S y):=letI k:=x.2.2.2;λc=>bif c.2<V a.1 then(ix a.1 c.2).bind λd=>letI j:=if(k.2<d.2.1)then k.2 else d.2.1;letI i:=(if(wi (k.1+1)>d.1)then wi (k.1+1)else d.1);(z (b.1>0) (z (i<=(if(wi (b.1-1)<j)then wi (b.1-1)else j)) (Y E)<|Y (τ ((if(wi (b.2+1)>i)then wi (b.2+1)else i)<=j)))<|Y (τ (i<=j)):Z u).bind λe=>(z e ((ix a.2.1 c.2).bind λf=>(Sm (c.1,f)).bind λg=>Y g)<|Y c.1).bind λh=>Y (.next (h,wi (c.2+1)))else Y (.done c.1)
def H8(x:AJ×Aa×y×y×y):Z (S y×y×y×y):=letI i:=x.2.1;letI h:=x.2.2.2;letI f:=(if(i.1>wi (h.1+1))then i.1 else wi (h.1+1));letI e:=(wi ((wi (i.1+V i.2.1))-1));letI g:=if(e<h.2)then e else h.2;(Fp x).bind λa=>z (a.2 !=0) (Y ([],0,0,a.2))<|(Jt (x.1,i,x.2.2.1)).bind λb=>(z (f>g) (Y (0,0))<|Y (f,g):Z (y×y)).bind λc=>(Ag (Um x b c) ([],0)).bind λd=>Y (d,c.1,c.2,0)
def Oy(x:S Am×y)(a:S Aq):Lp (y×Aq) ((u×Aq)⊕Aq):=λb=>z (b.1<V a) ((ix a b.1).bind λc=>z (c.1==x.2) ((ix a b.1).bind λd=>Y (.done (.inl (E,d))))<|Y (.next (wi (b.1+1),b.2)))<|Y (.done (.inr b.2))
def NP(x:S Am×y):Z (Aq×u):=(Gq x.1).bind λa=>(Ag (Oy x a) (0,0,0,[])).bind λb=>ν (λc=>Y (c.2,c.1)) (λd=>Y ((0,0,[]),X)) b
def Rf(a:y×S Be)(b:C0×u):Lp y y:=λc=>letI f:=(ix a.2 (wi (c-1)));bif c>0 then f.bind λd=>f.bind λe=>z (e.1<b.1.2.1) (Y (.next (wi (c-1))))<|Y (.done c)else Y (.done c)
def Lk(x:S Am×AJ×Aa×y×y)(a:S Aq):Lp (y×S Be) (S Be):=letI p:=ο 0;λb=>letI n:=(wi (b.1-1),b.2);letI m:=V b.2;bif b.1>=0 then(ix a b.1).bind λc=>(H9 (c,x.2.2.2.1)).bind λd=>letI o:=d.1.2.1;bif !d.2 then Y (.next n)else z (o>x.2.2.2.2) (Y (.next n))<|(Ag (Rf b d) m).bind λe=>letI l:=ο e;(T6 b.2 0 e).bind λf=>(ix a b.1).bind λg=>(T6 b.2 e m).bind λh=>(app [] (List.take (l-p) (List.drop p b.2))).bind λi=>(app i [(o,g.1,o)]).bind λj=>(app j (List.take ((ο m)-l) (List.drop l b.2))).bind λk=>z ((W b.2)<(W k)) (Y (.next (wi (b.1-1),k)))<|D else Y (.done b.2)
def Rg(x:S Am×AJ×Aa×y×y)(a:S (y×y×y)):Lp (y×AQ×BO) ((y×AQ×BO)⊕(AQ×BO)):=letI v:=x.2.1;letI t:=x.2.2.1;letI l:=x.2.2.2;λb=>letI u:=(wi (b.1+1),b.2);letI s:=ix a b.1;bif b.1<V a then(Cu l.1).bind λc=>s.bind λd=>z (d.2.1>0) (s.bind λe=>(NP (x.1,e.2.1)).bind λf=>(J5 (f.1,l.1)).bind λg=>(IA (g.1,v,t,l.2)).bind λh=>z (h.2 !=0) (Y (.next u))<|s.bind λi=>s.bind λj=>s.bind λk=>(H8 (v,t,l.1,k.1,l.2)).bind λm=>Y (.done (.inl (0,h.1,l.1,i.2.1,j.1,l.2,m.1,m.2.1,m.2.2.1))))<|(IA (c,v,t,l.2)).bind λn=>z (n.2 !=0) (Y (.next u))<|s.bind λo=>s.bind λp=>s.bind λq=>(H8 (v,t,l.1,q.1,l.2)).bind λr=>Y (.done (.inl (0,n.1,l.1,o.2.1,p.1,l.2,r.1,r.2.1,r.2.2.1)))else Y (.done (.inr b.2))
def Kf(x:S Am×AJ×Aa×y×y):Z (AQ×BO×y):=letI i:=x.2.2;(Cy x.2.1).bind λa=>z (!a) (Y (p!,(0,0,0,0,[],0,0),54))<|(B6 i.1).bind λb=>z (!b) (Y (p!,(0,0,0,0,[],0,0),26))<|z (i.2.1<0) (Y (p!,(0,0,0,0,[],0,0),1))<|z (i.2.1>=x.2.1.2.1) (Y (p!,(0,0,0,0,[],0,0),1))<|z (i.2.2<0) (Y (p!,(0,0,0,0,[],0,0),1))<|(Gq x.1).bind λc=>(Ag (Lk x c) (wi (V c-1),[])).bind λd=>(app d [(0,0,0)]).bind λe=>(Ag (Rg x e) (0,p!,0,0,0,0,[],0,0)).bind λf=>ν (λg=>Y (g.2.1,g.2.2,g.1)) (λh=>Y (p!,(0,0,0,0,[],0,0),49)) f
end
noncomputable section
def KM(x:S y×y)(a:y×AJ×Aa×Aa×S Am×AU)(b:y)(c:S BO×S y×y):Lp (y×y×y) (u⊕t):=letI k:=a.2.2;λd=>letI l:=d.2.1;letI j:=d.2.2;bif j<a.1 then(Kf (k.2.2.1,a.2.1,k.1,j,Int.tmod (wi x.2) (wi (b+1)))).bind λe=>z (e.2.2 !=0) (z (l>=V c.2.1) q?<|(ix c.2.1 l).bind λf=>z (f !=j) q?<|Y (.next (d.1,wi (l+1),wi (j+1))))<|z (d.1>=V c.1) q?<|(ix c.1 d.1).bind λg=>z (g.1 !=j) q?<|(ix c.1 d.1).bind λh=>(Ll (k.2.2.1,a.2.1,k.1,h,e.1)).bind λi=>z (!i) q?<|Y (.next (wi (d.1+1),l,wi (j+1)))else w?
def Hn(x:S y×y):Z u:=(I6 ()).bind λa=>z (!a) (Y X)<|(z (V x.1>500) ((T6 x.1 0 500).bind λb=>Y b)<|Y x.1).bind λc=>(L3 (c,0) ()).bind λd=>(Em d.2.2.2.1).bind λe=>z (wi (e+1)==0) D<|(Oz (d.2.2.2.2.1,d.2.1,d.2.2.1,Int.tmod (wi x.2) (wi (e+1)))).bind λf=>z (f.2.2 !=0) (Y X)<|z ((wi (V f.1+V f.2.1)) !=d.1) (Y X)<|(Ag (KM x d e f) (0,0,0)).bind λg=>ν Y (λh=>Y E) g
end
end Go.Pm
