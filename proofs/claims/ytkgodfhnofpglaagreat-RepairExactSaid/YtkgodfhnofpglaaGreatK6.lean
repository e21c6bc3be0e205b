/- Texts of wip, joined and shortened by wip/tools/pack.py; nothing is assumed. -/
import Derived.Test.YtkgodfhnofpglaaGreatK5
noncomputable section
set_option linter.all false
open Option renaming some->D
open List renaming length->Z
open Go renaming Ψ->E
open Bool renaming false->X
open Bool renaming true->A
open Option renaming none->U
open Go renaming Ω->W
open Option renaming some->δ,none->ε
open Bool renaming true->ζ,false->η
open List renaming length->θ
open Go.IntKind renaming wrap->ι
open BitVec renaming ofInt->κ,toNat->π
open Sum renaming elim->ν
open Nat renaming beq->ξ
open Int renaming toNat->ο
open Decidable renaming decide->τ
open _root_ renaming cond->Y,Int->V,Bool->z
open Go.Ab renaming len->T
namespace Go.Pm
open Go Go.Ab
set_option maxRecDepth 100000
noncomputable section
abbrev Ck:Type:=V×V×Bc
def E9:Ty:=.prod (z? (z? (.one .str)))
abbrev Aj:Type:=V×V×E Ck
def BV:Ty:=.prod (z? (z? (.one (.list E9))))
abbrev Oa:Type:=Bc
def Yi:Ty:=.prod (.one .str)
def VY(x:V×V):W (V×V):=letI d:=κ 64 4294967295;letI c:=(π ((κ 64 x.1)&&&d));letI b:=(π ((κ 64 x.2)&&&d));letI a:=(2^(min (ο 32) 64));letI f:=Int.fdiv x.2 a;letI e:=Int.fdiv x.1 a;D ((ι .u64 ((ι .u64 ((ι .u64 (e*f))+(Int.fdiv (ι .u64 ((ι .u64 (e*(ι .u64 ((b:Nat):V))))+(Int.fdiv (ι .u64 ((ι .u64 ((c:Nat):V))*(ι .u64 ((b:Nat):V)))) a))) a)))+(Int.fdiv (ι .u64 ((ι .u64 (((π ((κ 64 (ι .u64 ((ι .u64 (e*(ι .u64 ((b:Nat):V))))+(Int.fdiv (ι .u64 ((ι .u64 ((c:Nat):V))*(ι .u64 ((b:Nat):V)))) a))))&&&d)):Nat):V))+(ι .u64 ((ι .u64 ((c:Nat):V))*f)))) a))),ι .u64 (x.1*x.2))
def Xh(x:V×V):W (V×V):=(VY x).bind λa=>D a
end
noncomputable section
def VZ(x:Unit):W Bc:=(Lc (([0]:E (UInt8)),256)).bind λa=>D a
def Fu(x:Bc×V×V):W V:=(B5 x).bind λa=>D a.1
def Y0(x:Bc):Lp (V×AT×AT) ((z×AT)⊕(AT×AT)):=λa=>letI j:=a.2.1.2;letI i:=(wi (12+wi (a.1*13)));bif a.1<16 then(Fu (x,i,1)).bind λb=>(Y (b==255) (D (.inl a.2))<|Y (b>12) (D (.inr (X,0,0,Ge.all (X,[]))))<|(SH x (wi (i+1)) (wi ((wi (i+1))+b))).bind λc=>(HF j.2 a.1).bind λd=>(HF j.2 a.1).bind λe=>D (.inl ((a.2.1.1,j.1,W6 j.2 a.1 (A,c)),a.2.2)):W ((AT×AT)⊕(z×AT))).bind λf=>ν (λg=>D (.next (wi (a.1+1),g))) (λh=>D (.done (.inl h))) f else D (.done (.inr a.2))
def RZ(x:Bc):W (AT×z):=(Fu (x,8,4)).bind λa=>(Fu (x,0,8)).bind λb=>(Ak (Y0 x) (0,(a,b,Ge.all (X,[])),0,0,Ge.all (X,[]))).bind λc=>ν (λd=>D (d.2,d.1)) (λe=>D (e.1,A)) c
def Nu(x:AT):W z:=(GJ x.1).bind λa=>Y a (Y (x.2.1>=0) (D (τ (x.2.1<=1099511627776)))<|D X)<|D X
def Xi(x:AT):Lp V (z⊕Unit):=λa=>letI c:=wi (a+1);bif a<16 then(HF x.2.2 a).bind λb=>Y (T b.2>12) q?<|Y (!b.1) (Y (b.2 !=[]) q?<|Y b.1 (Y (x.2.1==0) q?<|D (.next c))<|D (.next c))<|Y b.1 (Y (x.2.1==0) q?<|D (.next c))<|D (.next c)else w?
def Pw(x:AT):W z:=(Ak (Xi x) 0).bind λa=>ν D (λb=>D A) a
def Kv(b:Oa)(x:Cr):W Oa:=(Y x.1 (D (T x.2))<|D 255:W V).bind λa=>(PQ (b,a,1)).bind λc=>(sapp c x.2).bind λd=>(Lc (([0]:E (UInt8)),wi (12-T x.2))).bind λe=>(sapp d e).bind λf=>D f
def eJ(x:AT):Lp (V×Oa) Oa:=λa=>Y (a.1<16) ((HF x.2.2 a.1).bind λb=>(Kv a.2 b).bind λc=>D (.next (wi (a.1+1),c)))<|D (.done a.2)
def Gu(x:AT):W (Bc×V):=(Nu x).bind λa=>Y (!a) (D ([],1))<|(Pw x).bind λb=>Y (!b) (D ([],22))<|(PQ ([],x.2.1,8)).bind λc=>(PQ (c,x.1,4)).bind λd=>(Ak (eJ x) (0,d)).bind λe=>(Lc (([0]:E (UInt8)),wi (244-T e))).bind λf=>(sapp e f).bind λg=>(PR g).bind λh=>(PQ (g,wi h,4)).bind λi=>(PQ (i,x.2.1,8)).bind λj=>D (j,0)
def LV(x:Bc):W (AT×V):=Y (T x !=256) (D (p!,2))<|(VZ ()).bind λa=>Y (x==a) (D (p!,7))<|(SH x 0 8).bind λb=>(SH x 248 (T x)).bind λc=>Y (b !=c) (D (p!,27))<|(SH x 0 244).bind λd=>(Fu (x,244,4)).bind λe=>(PR d).bind λf=>Y (e !=wi f) (D (p!,3))<|(RZ x).bind λg=>(Gu g.1).bind λh=>Y (!g.2) (D (p!,4))<|Y (h.2 !=0) (D (p!,4))<|Y (h.1 !=x) (D (p!,4))<|D (g.1,0)
def Ev(x:Bc×V):W (AT×V):=(GJ x.2).bind λa=>Y (!a) (D (p!,1))<|(LV x.1).bind λb=>Y (b.2==7) ((C0 x.2).bind λc=>D (c,0))<|Y (b.2 !=0) (D (p!,b.2))<|Y (b.1.1 !=x.2) (D (p!,6))<|D (b.1,0)
def Wi(x:Aj):Lp V (z⊕Unit):=λa=>bif a<T x.2.2 then(ix x.2.2 a).bind λb=>letI f:=Ev (b.2.2,b.1);bif b.1>=x.2.1 then q? else Y (a>0) ((ix x.2.2 (wi (a-1))).bind λc=>Y (c.1>=b.1) q?<|f.bind λd=>Y (d.2 !=0) q?<|Y (d.1.2.1 !=b.2.1) q?<|D (.next (wi (a+1))))<|f.bind λe=>Y (e.2 !=0) q?<|Y (e.1.2.1 !=b.2.1) q?<|D (.next (wi (a+1)))else w?
def Ia(x:Aj):W z:=Y (x.1<1) (D X)<|Y (x.1>1073741824) (D X)<|Y (x.2.1<1) (D X)<|Y (x.2.1>64) (D X)<|Y (T x.2.2>x.2.1) (D X)<|(Ak (Wi x) 0).bind λa=>ν D (λb=>D A) a
def W5(x:Aj):W z:=(Ia x).bind λa=>Y a (D (T x.2.2==x.2.1))<|D X
def Q8(x:AJ×Ad):W V:=(IC x.1).bind λa=>Y (!a) (D 54)<|(Hu x.2).bind λb=>Y (!b) (D 26)<|D 0
def Lq(x:AT×CZ):W (AT×V):=letI g:=x.2.2;letI f:=HF x.1.2.2 g.1;(Oj x.2).bind λa=>Y (!a) (D (p!,22))<|Y (x.2.1 !=x.1.1) (D (p!,6))<|f.bind λb=>f.bind λc=>Y (!(c.1==g.2.1.1&&(c.2==g.2.1.2&&A))) (D (p!,20))<|f.bind λd=>f.bind λe=>D ((x.1.1,x.1.2.1,W6 x.1.2.2 g.1 g.2.2),0)
def LQ(x:AT×AE):W (AT×V):=letI e:=x.2.2.2.2.2;(Ft x.2).bind λa=>Y (!a) (D (p!,12))<|(BO x.2).bind λb=>Y (!b) (D (p!,12))<|(Gu x.1).bind λc=>Y (c.2 !=0) (D (p!,c.2))<|Y (e.2.2.1.1 !=x.1.1) (D (p!,6))<|Y (e.1 !=x.1.2.1) (D (p!,13))<|(Lq (x.1,e.2.2.1)).bind λd=>Y (d.2 !=0) (D (p!,d.2))<|D ((d.1.1,x.2.1,d.1.2.2),0)
def Q7(x:AT×E AE):Lp (V×AT×AT) ((V×AT)⊕(AT×AT)):=λa=>Y (a.1<T x.2) ((ix x.2 a.1).bind λb=>Y (b.1<=a.2.1.2.1) (D (.next (wi (a.1+1),a.2)))<|(LQ (a.2.1,b)).bind λc=>Y (c.2 !=0) (D (.done (.inl (c.2,0,0,Ge.all (X,[])))))<|D (.next (wi (a.1+1),c.1,a.2.2)))<|D (.done (.inr a.2))
def PN(x:AT×E AE):W (AT×V):=(Ak (Q7 x) (0,x.1,0,0,Ge.all (X,[]))).bind λa=>ν (λb=>D (b.2,b.1)) (λc=>D (c.1,0)) a
def Ho(x:AT×AJ×Ad×V):W (AT×V):=letI e:=x.2.2;(Q8 (x.2.1,e.1)).bind λa=>Y (a !=0) (D (p!,a))<|(Gu x.1).bind λb=>Y (b.2 !=0) (D (p!,b.2))<|Y (x.1.2.1>e.2) (D (p!,9))<|(EQ (x.2.1,e.1,x.1.1,x.1.2.1,e.2)).bind λc=>Y (c.2 !=0) (D (p!,c.2))<|(PN (x.1,c.1)).bind λd=>D d
def UY(x:V×V):Lp (V×E Ck×V×V) (E Ck×V×V):=λa=>Y (a.1<x.2) ((JL ()).bind λb=>(app a.2.1 [(a.1,0,b)]).bind λc=>D (.next (wi (a.1+1),c,a.2.2)))<|D (.done a.2)
def J2(x:V×V):W Aj:=(Ak (UY x) (0,[],x)).bind λa=>D (a.2.1,a.2.2,a.1)
end
noncomputable section
abbrev Gv:Type:=E AS×E V×Ad
def Pc:Ty:=.prod (.cons (.list Bo) (.cons (.list (.int .i64)) (.one Bj)))
def OL(x:Aj):Lp V (z⊕Unit):=λa=>bif a<T x.2.2 then(ix x.2.2 a).bind λb=>letI f:=Ci (b.2.2,b.1);bif b.1<0 then q? else Y (b.1>=x.2.1) q?<|Y (a>0) ((ix x.2.2 (wi (a-1))).bind λc=>Y (c.1>=b.1) q?<|f.bind λd=>Y (d.2 !=0) q?<|Y (d.1.2.1 !=b.2.1) q?<|D (.next (wi (a+1))))<|f.bind λe=>Y (e.2 !=0) q?<|Y (e.1.2.1 !=b.2.1) q?<|D (.next (wi (a+1)))else w?
def Ds(x:Aj):W z:=Y (x.1<1) (D X)<|Y (x.1>1073741824) (D X)<|Y (x.2.1<1) (D X)<|Y (x.2.1>64) (D X)<|(Ak (OL x) 0).bind λa=>ν D (λb=>D A) a
def Sk(x:Aj):Lp (Bc×V) Bc:=λa=>letI h:=ix x.2.2 a.2;bif a.2<T x.2.2 then h.bind λb=>h.bind λc=>(Aq ([],b.1,2)).bind λd=>(sapp d c.2.2).bind λe=>(Dp e).bind λf=>(sapp a.1 f).bind λg=>D (.next (g,wi (a.2+1)))else D (.done a.1)
def Iw(x:Aj):W (Bc×V):=(Ds x).bind λa=>Y (!a) (D ([],43))<|(Aq (([80,77,73,77]:E (UInt8)),x.1,4)).bind λb=>(Aq (b,x.2.1,2)).bind λc=>(Aq (c,T x.2.2,2)).bind λd=>(Dp d).bind λe=>(Ak (Sk x) (e,0)).bind λf=>D (f,0)
def Kw(x:Aj):W Ap:=(Iw x).bind λa=>D (2,x.1,a.1)
def JU(x:Aj):W z:=(Ds x).bind λa=>Y a (D (T x.2.2==x.2.1))<|D X
def Up(x:Aj×V):Lp (V×Ck) ((z×Ck)⊕Ck):=λa=>letI e:=ix x.1.2.2 a.1;bif a.1<T x.1.2.2 then(Ds x.1).bind λb=>Y b (e.bind λc=>Y (c.1==x.2) (e.bind λd=>D (.done (.inl (A,d))))<|D (.next (wi (a.1+1),a.2)))<|D (.done (.inr a.2))else D (.done (.inr a.2))
def IM(x:Aj×V):W (Ck×z):=(Ak (Up x) (0,0,0,[])).bind λa=>ν (λb=>D (b.2,b.1)) (λc=>D ((0,0,[]),X)) a
def J8(x:Aj×V):W (AT×V):=(Ds x.1).bind λa=>Y (!a) (D (p!,43))<|(IM x).bind λb=>Y (!b.2) (D (p!,44))<|(Ci (b.1.2.2,x.2)).bind λc=>D c
def Hf(x:AJ×Ad×V×V×V):W V:=letI c:=x.2.2;(Cv x.1).bind λa=>Y (!a) (D 54)<|(By x.2.1).bind λb=>Y (!b) (D 26)<|Y (c.1<0) (D 1)<|Y (c.1>=x.1.2.1) (D 1)<|Y (c.2.1<0) (D 1)<|Y (c.2.1>c.2.2) (D 1)<|D 0
def Uk(x:AJ×V):Lp V V:=λa=>Y (wi (a+1)<T x.1.1) ((ix x.1.1 (wi (a+1))).bind λb=>Y (b<=x.2) (D (.next (wi (a+1))))<|D (.done a))<|D (.done a)
def Rp(x:AJ×V):W (V×V×z):=(Cv x.1).bind λa=>Y (!a) (D (0,0,X))<|Y (x.2<0) (D (0,0,X))<|Y (x.2>=x.1.2.1) (D (0,0,X))<|(Ak (Uk x) 0).bind λb=>(FQ (x.1,b)).bind λc=>D (c.1,c.2,A)
def Rq(x:AJ):W (E AS×E V):=(GW x).bind λa=>D (a.1,a.2.1)
def Q5(a:V×V×z)(b:E AS×E V):Lp (V×E AS×E V×Ad) (E AS×E V×Ad):=λc=>Y (c.1<T b.1) ((ix b.1 c.1).bind λd=>(Y (d.2.2.1==a.1) ((ix b.1 c.1).bind λe=>(ix b.2 c.1).bind λf=>(app c.2.1 [e]).bind λg=>(app c.2.2.1 [f]).bind λh=>D (g,h,c.2.2.2))<|D c.2).bind λi=>D (.next (wi (c.1+1),i)))<|D (.done c.2)
def Jv(x:AJ×Ad×V):W Gv:=(Rp (x.1,x.2.2)).bind λa=>(Rq x.1).bind λb=>(Ak (Q5 a b) (0,[],[],x.2.1)).bind λc=>D c
def JT(x:Ad×V):W z:=Y (x.2>=x.1.1) (D (τ (x.2<(wi (x.1.1+T x.1.2.1)))))<|D X
def Uo(x:Gv×V):Lp (V×V) V:=λa=>letI f:=ix x.1.1 a.2;bif a.2<T x.1.1 then f.bind λb=>Y (b.1<=x.2) (f.bind λc=>(Y (x.2<=c.2.1) (f.bind λd=>D (if(d.2.1>a.1)then d.2.1 else a.1))<|D a.1).bind λe=>D (.next (e,wi (a.2+1))))<|D (.next (a.1,wi (a.2+1)))else D (.done a.1)
def Rs(x:Gv×V):W V:=letI e:=x.1.2.2;letI d:=(wi ((wi (e.1+T e.2.1))-1));(Ak (Uo x) (wi (x.2-1),0)).bind λa=>(JT (e,x.2)).bind λb=>(Y b (D (if(d>a)then d else a))<|D a).bind λc=>D c
def L7(x:Gv×V×V):Lp V (z⊕Unit):=λa=>Y (a<x.2.2) ((Rs (x.1,wi (a+1))).bind λb=>Y (b==a) q?<|D (.next b))<|w?
def Km(x:Gv×V×V):W z:=(Ak (L7 x) x.2.1).bind λa=>ν D (λb=>D A) a
def Sg(x:AS×V):Lp (V×E AE) (E AE):=letI f:=x.1.2.2.2.2.2;λa=>Y (a.1<T f) ((ix f a.1).bind λb=>(Y (b.2.2.2.2.2.2.1.1==x.2) ((ix f a.1).bind λc=>(app a.2 [c]).bind λd=>D d)<|D a.2).bind λe=>D (.next (wi (a.1+1),e)))<|D (.done a.2)
def QD(x:AS×V):W (E AE):=(Ef x.1).bind λa=>Y (!a) (D [])<|(Ak (Sg x) (0,[])).bind λb=>D b
def LN(x:E AS×V×V×V)(a:E AE):Lp (E AE×V) (E AE):=λb=>letI h:=ix a b.2;bif b.2<T a then h.bind λc=>Y (c.1>x.2.2.1) (h.bind λd=>(Y (d.1<=x.2.2.2) (h.bind λe=>(Cc (b.1,e)).bind λf=>D f.1)<|D b.1).bind λg=>D (.next (g,wi (b.2+1))))<|D (.next (b.1,wi (b.2+1)))else D (.done b.1)
def LM(x:E AS×V×V×V):Lp (E AE×V) (E AE):=λa=>Y (a.2<T x.1) ((ix x.1 a.2).bind λb=>(QD (b,x.2.1)).bind λc=>(Ak (LN x c) (a.1,0)).bind λd=>D (.next (d,wi (a.2+1))))<|D (.done a.1)
def Ju(x:E AS×V×V×V):W (E AE):=(Ak (LM x) ([],0)).bind λa=>D a
def Sj(x:Ad×V×V×V):Lp (V×E AE) (E AE):=λa=>letI f:=(wi (a.1+1),a.2);bif a.1<T x.1.2.1 then(ix x.1.2.1 a.1).bind λb=>(BO b).bind λc=>Y c (Y (b.2.2.2.2.2.2.1.1==x.2.1) (Y (b.1>x.2.2.1) ((Y (b.1<=x.2.2.2) ((app a.2 [b]).bind λd=>D d)<|D a.2).bind λe=>D (.next (wi (a.1+1),e)))<|D (.next f))<|D (.next f))<|D (.next f)else D (.done a.2)
def QE(x:Ad×V×V×V):W (E AE):=(Ak (Sj x) (0,[])).bind λa=>D a
def M6(x:E AS×V):Lp V (V⊕Unit):=λa=>Y (a<T x.1) ((ix x.1 a).bind λb=>Y (b.1<=x.2) ((ix x.1 a).bind λc=>Y (x.2<=c.2.1) (D (.done (.inl a)))<|D (.next (wi (a+1))))<|D (.next (wi (a+1))))<|w?
def LP(x:E AS×V):W V:=(Ak (M6 x) 0).bind λa=>ν D (λb=>D (-1)) a
def LO(x:E AE×AE):Lp V (z⊕Unit):=letI f:=x.2.2.2;letI c:=f.2.2.2;letI e:=c.2.1.2;λa=>bif a<T x.1 then(ix x.1 a).bind λb=>letI g:=b.2.2.2;letI d:=g.2.2.2;letI h:=d.1.2.2;bif b.1==x.2.1&&(b.2.1==x.2.2.1&&(b.2.2.1==f.1&&(g.1==f.2.1&&(g.2.1==f.2.2.1&&(g.2.2.1==c.1&&(d.1.1==c.2.1.1&&(d.1.2.1==e.1&&(h.1.1==e.2.1.1&&(h.1.2==e.2.1.2&&(h.2.1==e.2.2.1&&(h.2.2==e.2.2.2&&(d.2==c.2.2&&A))))))))))))then j? else D (.next (wi (a+1)))else w?
def HI(x:E AE×AE):W z:=(Ak (LO x) 0).bind λa=>ν D (λb=>D X) a
def OJ(x:E AS×Ad×E AE×E AE):Lp (E AE×V) ((E AE×z)⊕(E AE)):=λa=>letI j:=ix x.2.2.2 a.2;bif a.2<T x.2.2.2 then j.bind λb=>(LP (x.1,b.1)).bind λc=>Y (c>=0) (j.bind λd=>(HI (x.2.2.1,d)).bind λe=>Y (!e) (D (.done (.inl ([],X))))<|j.bind λf=>(Cc (a.1,f)).bind λg=>D (.next (g.1,wi (a.2+1))))<|j.bind λh=>(Cc (a.1,h)).bind λi=>D (.next (i.1,wi (a.2+1)))else D (.done (.inr a.1))
def OK(x:E AS×Ad×E AE×E AE):Lp V ((E AE×z)⊕Unit):=λa=>letI f:=ix x.2.2.1 a;bif a<T x.2.2.1 then f.bind λb=>(JT (x.2.1,b.1)).bind λc=>Y c (f.bind λd=>(HI (x.2.2.2,d)).bind λe=>Y (!e) (D (.done (.inl ([],X))))<|D (.next (wi (a+1))))<|D (.next (wi (a+1)))else w?
def Ml(x:E AS×Ad×E AE×E AE):W (E AE×z):=(app [] x.2.2.1).bind λa=>(Ak (OJ x) (a,0)).bind λb=>ν D (λc=>(Ak (OK x) 0).bind λd=>ν D (λe=>D (c,A)) d) b
def Mk(x:AJ×Ad×V×V×V)(a:E AE×z):Lp V ((E AE×V)⊕Unit):=λb=>letI j:=(ix a.1 (wi (b-1)));letI i:=ix a.1 b;letI h:=wi (b+1);bif b<T a.1 then Y (b==0) (i.bind λc=>Y (c.2.2.2.2.1>x.2.2.2.1) (D (.done (.inl ([],13))))<|Y (b>0) (i.bind λd=>j.bind λe=>Y (d.2.2.2.2.1 !=e.1) (D (.done (.inl ([],13))))<|D (.next h))<|D (.next h))<|Y (b>0) (i.bind λf=>j.bind λg=>Y (f.2.2.2.2.1 !=g.1) (D (.done (.inl ([],13))))<|D (.next h))<|D (.next h)else w?
def EK(x:AJ×Ad×V×V×V):W (E AE×V):=(Hf x).bind λa=>Y (a !=0) (D ([],a))<|(Jv (x.1,x.2.1,x.2.2.1)).bind λb=>(Km (b,x.2.2.2)).bind λc=>Y (!c) (D ([],42))<|(Ju (b.1,x.2.2)).bind λd=>(QE x.2).bind λe=>(Ml (b.1,x.2.1,d,e)).bind λf=>Y (!f.2) (D ([],41))<|(Ak (Mk x f) 0).bind λg=>ν D (λh=>D (f.1,0)) g
def Kn(x:AT×E AE):Lp (V×AT×AT) ((V×AT)⊕(AT×AT)):=λa=>Y (a.1<T x.2) ((ix x.2 a.1).bind λb=>Y (b.1<=a.2.1.2.1) (D (.next (wi (a.1+1),a.2)))<|(ix x.2 a.1).bind λc=>(GV (a.2.1,c)).bind λd=>Y (d.2 !=0) (D (.done (.inl (d.2,0,0,Ge.all (X,[])))))<|D (.next (wi (a.1+1),d.1,a.2.2)))<|D (.done (.inr a.2))
def IN(x:AT×E AE):W (AT×V):=(Ak (Kn x) (0,x.1,0,0,Ge.all (X,[]))).bind λa=>ν (λb=>D (b.2,b.1)) (λc=>D (c.1,0)) a
def Gs(x:AT×AJ×Ad×V):W (AT×V):=letI f:=x.2.2;(Cv x.2.1).bind λa=>Y (!a) (D (p!,54))<|(By f.1).bind λb=>Y (!b) (D (p!,26))<|(Cn x.1).bind λc=>Y (c.2 !=0) (D (p!,c.2))<|Y (x.1.2.1>f.2) (D (p!,9))<|(EK (x.2.1,f.1,x.1.1,x.1.2.1,f.2)).bind λd=>Y (d.2 !=0) (D (p!,d.2))<|(IN (x.1,d.1)).bind λe=>D e
def Ur(x:Aj×AJ×Ad×V×V):Lp (V×E Ck×V×V×Aj) ((V×Aj)⊕(E Ck×V×V×Aj)):=λa=>Y (a.1<T x.1.2.2) ((ix x.1.2.2 a.1).bind λb=>(J8 (x.1,b.1)).bind λc=>(Gs (c.1,x.2.1,x.2.2.1,x.2.2.2.2)).bind λd=>Y (d.2 !=0) (D (.done (.inl (d.2,0,0,[]))))<|(Y (d.1.2.1>0) ((Cn d.1).bind λe=>D (d.1.1,d.1.2.1,e.1))<|D b).bind λf=>(app a.2.1 [f]).bind λg=>D (.next (wi (a.1+1),g,a.2.2)))<|D (.done (.inr a.2))
def Nf(x:Aj×AJ×Ad×V×V):W (Aj×V):=letI g:=x.2.2;(JU x.1).bind λa=>Y (!a) (D ((0,0,[]),43))<|(Cv x.2.1).bind λb=>Y (!b) (D ((0,0,[]),54))<|(By g.1).bind λc=>Y (!c) (D ((0,0,[]),26))<|Y (g.2.1<1) (D ((0,0,[]),1))<|Y (g.2.1>1073741824) (D ((0,0,[]),1))<|Y (g.2.2<0) (D ((0,0,[]),1))<|Y (g.2.2>g.1.2.2) (D ((0,0,[]),1))<|(Ak (Ur x) (0,[],g.2.1,x.1.2.1,0,0,[])).bind λd=>ν (λe=>D (e.2,e.1)) (λf=>D ((f.2.1,f.2.2.1,f.1),0)) d
def TJ(x:V×AJ×Ad):Lp (V×V×E Ap×AL×Aj) (E Ap×AL×Aj):=λa=>letI g:=a.2.2;(Ae g.2.1 3).bind λb=>Y (a.2.1<wi (2+b.1)) ((Ae b.2 (wi (wi (x.2.2.2.2-a.1)+1))).bind λc=>(Nf (g.2.2,x.2.1,x.2.2,a.2.1,wi (a.1+c.1))).bind λd=>Y (d.2 !=0) (D (.done (g.1,c.2,g.2.2)))<|(Kw d.1).bind λe=>(app g.1 [e]).bind λf=>D (.next (wi (a.1+c.1),wi (a.2.1+1),f,c.2,d.1)))<|D (.done (g.1,b.2,g.2.2))
def ML(b:AL)(x:V×AJ×Ad):W (E Ap×AL):=(J2 (1,x.1)).bind λa=>(Ae b 3).bind λc=>(Y (c.1>0) ((Kw a).bind λd=>D ([]++([d]:E (V×V×Bc))))<|D []:W (E Ap)).bind λe=>(Ak (TJ x) (0,2,e,c.2,a)).bind λf=>D (f.1,f.2.1)
def M7(x:Bc)(a:V):Lp (V×V×E Ck×V×V×Aj) ((V×Aj)⊕(V×E Ck×V×V×Aj)):=λb=>Y (b.2.1<a) ((Bg (x,b.1)).bind λc=>Y (c.2.2 !=0) (D (.done (.inl (c.2.2,0,0,[]))))<|Y (T c.1 !=258) (D (.done (.inl (4,0,0,[]))))<|(SH c.1 2 (T c.1)).bind λd=>(Ba (c.1,0,2)).bind λe=>(Ci (d,e)).bind λf=>(app b.2.2.1 [(e,f.1.2.1,d)]).bind λg=>D (.next (c.2.1,wi (b.2.1+1),g,b.2.2.2)))<|D (.done (.inr (b.1,b.2.2)))
def C9(x:Bc):W (Aj×V):=(Bg (x,0)).bind λa=>Y (a.2.2 !=0) (D ((0,0,[]),a.2.2))<|Y (T a.1 !=12) (D ((0,0,[]),4))<|(SH a.1 0 4).bind λb=>Y (b !=([80,77,73,77]:E (UInt8))) (D ((0,0,[]),4))<|(Ba (a.1,4,4)).bind λc=>(Ba (a.1,8,2)).bind λd=>(Ba (a.1,10,2)).bind λe=>Y (e>64) (D ((0,0,[]),4))<|(Ak (M7 x e) (a.2.1,0,[],c,d,0,0,[])).bind λf=>ν (λg=>D (g.2,g.1)) (λh=>letI j:=(h.2.2.1,h.2.2.2.1,h.2.1);bif h.1 !=T x then D ((0,0,[]),4)else(Ds j).bind λi=>Y (!i) (D ((0,0,[]),43))<|D (j,0)) f
def Sm(x:E Ap)(a:E Aj×V):Lp (z×V) z:=λb=>letI f:=wi (b.2+1);bif b.2<a.2 then Y b.1 ((ix x b.2).bind λc=>Y (c.1 !=2) (D (.next (A,f)))<|(ix x b.2).bind λd=>(ix x a.2).bind λe=>D (.next ((d.2.1 !=e.2.1),f)))<|D (.next (X,f))else D (.done b.1)
def Sn(a:E Aj×V)(b:Aj×V):Lp V V:=λc=>Y (c>0) ((ix a.1 (wi (c-1))).bind λd=>Y (d.1>b.1.1) (D (.next (wi (c-1))))<|D (.done c))<|D (.done c)
def Sl(x:E Ap):Lp (E Aj×V) (E Aj):=λa=>letI o:=ix x a.2;letI l:=(a.1,wi (a.2+1));bif a.2<T x then o.bind λb=>(Ak (Sm x a) ((b.1==2),0)).bind λc=>Y (!c) (D (.next l))<|o.bind λd=>(C9 d.2.2).bind λe=>Y (e.2 !=0) (D (.next l))<|(JU e.1).bind λf=>Y (!f) (D (.next l))<|o.bind λg=>Y (e.1.1 !=g.2.1) (D (.next l))<|(Ak (Sn a e) (T a.1)).bind λh=>(Wp a.1 0 h).bind λi=>(Wp a.1 h (T a.1)).bind λj=>(app [] i).bind λk=>(app k [e.1]).bind λm=>(app m j).bind λn=>D (.next (n,wi (a.2+1)))else D (.done a.1)
def HA(x:E Ap):W (E Aj):=(Ak (Sl x) ([],0)).bind λa=>D a
end
noncomputable section
abbrev D4:Type:=V×V×V×V×E V×V×V
def Ic:Ty:=.prod (z? (z? (z? (z? (.cons (.list (.int .i64)) (z? (.one (.int .i64))))))))
def AEx{α γ:Type}(c:α×α->W γ)(n:γ->z)(x:V×V):Lp (V×E α) (E α):=λa=>letI s:=(ix a.2 a.1);letI l:=(wi (a.1-1));letI v:=(ix a.2 l);(Y (a.1>x.1) (s.bind λb=>s.bind λd=>v.bind λe=>v.bind λf=>(c (d,f)).bind λg=>Y (n g) (D (.inr ()))<|D (.inl ()))<|D (.inl ()):W (Unit⊕Unit)).bind λh=>ν (λi=>D (.done a.2)) (λj=>v.bind λk=>v.bind λm=>letI w:=(Es a.2 a.1 m);s.bind λo=>s.bind λp=>s.bind λq=>s.bind λr=>(ix w l).bind λt=>(ix w l).bind λu=>D (.next (wi (a.1-1),Es w l p))) h
def AAs{α γ:Type}(c:α×α->W γ)(n:γ->z)(l:E α)(x:V×V):W (E α):=(Ak (λa=>Y (a.1<x.2) ((Ak (AEx c n x) a).bind λb=>D (.next (wi (a.1+1),b)))<|D (.done a.2)) (wi (x.1+1),l)).bind λd=>D d
def AJU{α:Type}(f:E α->V×V->W (E α)):Lp (V×V×V×z×z×E α) (E α):=λa=>letI d:=a.2.2;letI e:=d.2.2.2;bif wi (a.2.1-a.1)<=12 then(f e (a.1,a.2.1)).bind λb=>Y (ξ (Z b) (Z e)) (D (.done b))<|U else Y (d.1==0) U<|(Y (! d.2.1) U<|D (d.1,e):W (V×E α)).bind λc=>U
def pdG{α:Type}(f:E α->V×V->W (E α))(l:E α)(x:V×V×V):W (E α):=(Ak (AJU f) (x.1,x.2.1,x.2.2,A,A,l)).bind λa=>D a
def soG{α:Type}(f:E α->V×(V×V)->W (E α))(l:E α):W (E α):=(Tk (ι .u64 (T l))).bind λa=>(f l (0,T l,a)).bind λb=>Y (ξ (Z b) (Z l)) (D b)<|U
def NH(x:Aj×Aj):W V:=(Du (x.1.1,x.2.1)).bind λa=>D a
def KW(x:Bb×Bb):W V:=(Du (x.2.1,x.1.1)).bind λa=>D a
def Mo(l:E V)(x:V×V):W (E V):=AAs RY (λa=>a) l x
def PU(rec:(E V×V×V×V)->(W (E V)))(l:E V)(x:V×V×V):W (E V):=pdG Mo l x
def Q6(l:E V)(x:V×V×V):W (E V):=sh (λg p=>PU g p.1 p.2) (l,x)
def Mn(l:E V)(x:Unit):W (E V):=soG Q6 l
def Jk(l:E Aj)(x:V×V):W (E Aj):=AAs NH (λa=>decide (a<0)) l x
def LY(rec:(E Aj×V×V×V)->(W (E Aj)))(l:E Aj)(x:V×V×V):W (E Aj):=pdG Jk l x
def Mp(l:E Aj)(x:V×V×V):W (E Aj):=sh (λg p=>LY g p.1 p.2) (l,x)
def FK(l:E Aj)(x:Unit):W (E Aj):=soG Mp l
def EE(l:E Bb)(x:V×V):W (E Bb):=AAs KW (λa=>decide (a<0)) l x
def IX(x:V):Lp (V×V×E Bb) (V×E Bb):=λa=>letI c:=a.2.1;bif c<=x then(EE a.2.2 (a.1,c)).bind λb=>Y (ξ (Z b) (Z a.2.2)) (D (.next (c,wi (c+20),b)))<|U else D (.done (a.1,a.2.2))
def Ux(x:V):Lp (V×V×E Bb) (V×E Bb):=λa=>Y (a.2.1<=x) U<|D (.done (a.1,a.2.2))
def IY(x:V):Lp (V×E Bb) (E Bb):=λa=>Y (a.1<x) ((Ak (Ux x) (0,wi (2*a.1),a.2)).bind λb=>(Y (wi (b.1+a.1)<x) U<|D b.2:W (E Bb)).bind λc=>D (.next (wi (a.1*2),c)))<|D (.done a.2)
def HB(l:E Bb)(x:V):W (E Bb):=(Ak (IX x) (0,20,l)).bind λa=>(EE a.2 (a.1,x)).bind λb=>Y (ξ (Z b) (Z a.2)) ((Ak (IY x) (20,b)).bind λc=>D c)<|U
def DA(l:E Bb)(x:Unit):W (E Bb):=(HB l (T l)).bind λa=>Y (ξ (Z a) (Z l)) (D a)<|U
def La(x:Bc):W Ck:=(SH x 2 (T x)).bind λa=>(B5 (x,0,2)).bind λb=>(Ev (a,b.1)).bind λc=>D (b.1,c.1.2.1,a)
def VW(x:Bc)(a:V×V):Lp (V×V×E Ck×V×V×Aj) ((V×Aj)⊕(V×E Ck×V×V×Aj)):=λb=>Y (b.2.1<a.1) ((De (x,b.1)).bind λc=>Y (c.2.2 !=0) (D (.done (.inl (c.2.2,0,0,[]))))<|Y (T c.1 !=258) (D (.done (.inl (4,0,0,[]))))<|(La c.1).bind λd=>(app b.2.2.1 [d]).bind λe=>D (.next (c.2.1,wi (b.2.1+1),e,b.2.2.2)))<|D (.done (.inr (b.1,b.2.2)))
def Ex(x:Bc):W (Aj×V):=(De (x,0)).bind λa=>Y (a.2.2 !=0) (D ((0,0,[]),a.2.2))<|Y (T a.1 !=12) (D ((0,0,[]),4))<|(FZ (a.1,([80,77,73,77]:E (UInt8)))).bind λb=>Y (!b) (D ((0,0,[]),4))<|(B5 (a.1,4,4)).bind λc=>(B5 (a.1,8,2)).bind λd=>(B5 (a.1,10,2)).bind λe=>Y (e.1>64) (D ((0,0,[]),4))<|(Ak (VW x e) (a.2.1,0,[],c.1,d.1,0,0,[])).bind λf=>ν (λg=>D (g.2,g.1)) (λh=>letI j:=(h.2.2.1,h.2.2.2.1,h.2.1);bif h.1<T x then D ((0,0,[]),4)else(Ia j).bind λi=>Y (!i) (D ((0,0,[]),43))<|D (j,0)) f
def T5(x:E Ap):Lp (V×E (V×z)×E Aj) (E (V×z)×E Aj):=λa=>letI h:=(wi (a.1+1),a.2);bif a.1<T x then(ix x a.1).bind λb=>letI g:=PP b.2.1 A a.2.1;letI f:=(wi (a.1+1),g,a.2.2);bif b.1 !=2 then D (.next h)else Y (Option.getD (LR b.2.1 a.2.1) X) (D (.next h))<|(Ex b.2.2).bind λc=>Y (c.2==0) ((W5 c.1).bind λd=>Y d (Y (c.1.1==b.2.1) ((app a.2.2 [c.1]).bind λe=>D (.next (wi (a.1+1),g,e)))<|D (.next f))<|D (.next f))<|D (.next f)else D (.done a.2)
def Hr(x:E Ap):W (E Aj):=(Ak (T5 x) (0,[],[])).bind λa=>(FK a.2 ()).bind λb=>Y (ξ (Z b) (Z a.2)) (D b)<|U
def QW(x:Ck×V):W V:=D (wi (x.1.1-x.2))
def eG(x:Aj×V):Lp (V×V) V:=λa=>letI e:=(wi (Int.fdiv (ι .u64 (wi (a.1+a.2))) (2^(min (ο 1) 64))));bif a.1<a.2 then(ix x.1.2.2 e).bind λb=>(QW (b,x.2)).bind λc=>(Y (c<0) (D (wi (e+1),a.2))<|D (a.1,e):W (V×V)).bind λd=>D (.next d)else D (.done a.1)
def TH(x:Aj×V):W (V×z):=letI d:=x.1.2.2;(Ak (eG x) (0,T d)).bind λa=>Y (a<T d) ((ix d a).bind λb=>(QW (b,x.2)).bind λc=>D (a,(c==0)))<|D (a,X)
def VX(x:Aj×V):W (Ck×z):=(Ia x.1).bind λa=>Y (!a) (D ((0,0,[]),X))<|Y (x.2<0) (D ((0,0,[]),X))<|Y (x.2>=x.1.2.1) (D ((0,0,[]),X))<|(TH x).bind λb=>Y (!b.2) (D ((0,0,[]),X))<|(ix x.1.2.2 b.1).bind λc=>D (c,A)
def T4(x:E Ap×V×V)(a:E Aj):Lp (V×E Bb) (E Bb):=λb=>letI f:=(wi (b.1-1),b.2);bif b.1>=0 then(ix a b.1).bind λc=>(VX (c,x.2.1)).bind λd=>letI g:=d.1.2.1;bif d.2 then Y (g<=x.2.2) ((app b.2 [(g,c.1,g)]).bind λe=>D (.next (wi (b.1-1),e)))<|D (.next f)else D (.next f)else D (.done b.2)
def M8(x:E Ap×V×V):W (E Bb):=(Hr x.1).bind λa=>(Ak (T4 x a) (wi (T a-1),[])).bind λb=>(DA b ()).bind λc=>Y (ξ (Z c) (Z b)) (D c)<|U
def UB(b:Bb)(x:Aj):W (z×Bb):=D ((x.1==b.2.1),b)
def X6(x:Aj×V):W (AT×V):=(Ia x.1).bind λa=>Y (!a) (D (p!,43))<|(VX x).bind λb=>Y (!b.2) (D (p!,44))<|(Ev (b.1.2.2,x.2)).bind λc=>D c
def Qz(x:AJ×Ad×V×V×V)(a:V)(b:V×V×z)(c:E AS×E V):Lp (V×E V) (E V):=letI j:=x.2.2.2;letI o:=if(a<j.2)then a else j.2;letI k:=(if(x.2.1.1>wi (j.1+1))then x.2.1.1 else wi (j.1+1));λd=>letI n:=(wi (d.1+1),d.2);bif d.1<T c.1 then(ix c.1 d.1).bind λe=>letI m:=if(e.2.1<j.2)then e.2.1 else j.2;letI l:=(if(e.1>wi (j.1+1))then e.1 else wi (j.1+1));bif e.2.2.1==b.1 then(ix c.2 d.1).bind λf=>Y (l>m) (D (.next n))<|Y (k>o) ((app d.2 [f]).bind λg=>D (.next (wi (d.1+1),g)))<|Y (l<k) ((app d.2 [f]).bind λh=>D (.next (wi (d.1+1),h)))<|Y (m>o) ((app d.2 [f]).bind λi=>D (.next (wi (d.1+1),i)))<|D (.next n)else D (.next n)else D (.done d.2)
def Hi(x:AJ×Ad×V×V×V):W (E V×V×V×V):=letI i:=x.2.2.2;letI g:=(if(x.2.1.1>wi (i.1+1))then x.2.1.1 else wi (i.1+1));(EQ x).bind λa=>Y (a.2 !=0) (D ([],0,0,a.2))<|(On x.2.1).bind λb=>letI h:=if(b<i.2)then b else i.2;(GI (x.1,x.2.2.1)).bind λc=>Y (!c.2.2) U<|(Hq x.1).bind λd=>(Ak (Qz x b c d) (0,[])).bind λe=>(Mn e ()).bind λf=>Y (ξ (Z f) (Z e)) (Y (g>h) (D (f,0,0,0))<|D (f,g,h,0))<|U
def Sx(a:E Aj):Lp (V×Bb) ((V×Bb)⊕Bb):=λb=>Y (b.1<T a) ((ix a b.1).bind λc=>(UB b.2 c).bind λd=>Y d.1 (D (.done (.inl (b.1,d.2))))<|D (.next (wi (b.1+1),d.2)))<|D (.done (.inr b.2))
def HJ(x:E Ap×AJ×Ad×V×V)(a:E Aj)(b:E Bb):Lp (V×AT×D4) ((V×AT×D4)⊕(AT×D4)):=letI l:=x.2.2.2;λc=>letI m:=(wi (c.1+1),c.2);bif c.1<T b then(ix b c.1).bind λd=>(Ak (Sx a) (0,d)).bind λe=>ν (λf=>(ix a f.1).bind λg=>(X6 (g,l.1)).bind λh=>Y (h.2 !=0) (D (.next m))<|(Ho (h.1,x.2.1,x.2.2.1,l.2)).bind λi=>Y (i.2 !=0) (D (.next m))<|(Hi (x.2.1,x.2.2.1,l.1,h.1.2.1,l.2)).bind λj=>Y (j.2.2.2==0) (D (.done (.inl (0,i.1,l.1,f.2.2.1,h.1.2.1,l.2,j.1,j.2.1,j.2.2.1))))<|D (.next m)) (λk=>U) e else D (.done (.inr c.2))
def Dz(x:E Ap×AJ×Ad×V×V):W (AT×D4×V):=letI m:=x.2.1;letI l:=x.2.2;letI k:=l.2;(IC m).bind λa=>Y (!a) (D (p!,(0,0,0,0,[],0,0),54))<|(Hu l.1).bind λb=>Y (!b) (D (p!,(0,0,0,0,[],0,0),26))<|Y (k.1<0) (D (p!,(0,0,0,0,[],0,0),1))<|Y (k.1>=m.2.1) (D (p!,(0,0,0,0,[],0,0),1))<|Y (k.2<0) (D (p!,(0,0,0,0,[],0,0),1))<|(Hr x.1).bind λc=>(M8 (x.1,k)).bind λd=>(Ak (HJ x c d) (0,p!,0,0,0,0,[],0,0)).bind λe=>ν (λf=>D (f.2.1,f.2.2,f.1)) (λg=>(C0 k.1).bind λh=>(Ho (h,m,l.1,k.2)).bind λi=>Y (i.2 !=0) (D (p!,(0,0,0,0,[],0,0),49))<|(Hi (m,l.1,k.1,h.2.1,k.2)).bind λj=>Y (j.2.2.2==0) (D (i.1,(k.1,0,h.2.1,k.2,j.1,j.2.1,j.2.2.1),0))<|D (p!,(0,0,0,0,[],0,0),49)) e
def Nh(x:E Ap×AJ×Ad×V):Lp V (V⊕Unit):=λa=>Y (a>=0) ((Dz (x.1,x.2.1,x.2.2.1,x.2.2.2,a)).bind λb=>Y (b.2.2==0) (D (.done (.inl a)))<|Y (b.2.2==49) (D (.next (wi (a-1))))<|D (.done (.inl (-1))))<|w?
def MA(x:E Ap×AJ×Ad×V):W V:=(On x.2.2.1).bind λa=>(Ak (Nh x) a).bind λb=>ν D (λc=>D (-1)) b
def JK(x:Unit):W z:=(I3 (2,([0]:E V))).bind λa=>(GO ()).bind λb=>(Dz ([],a.1,b,1,0)).bind λc=>Y (c.2.2==0) ((C0 1).bind λd=>Y (AFY c.1 d) ((GO ()).bind λe=>(MA ([],a.1,e,1)).bind λf=>Y (f==0) ((GO ()).bind λg=>(MA ([],a.1,g,2)).bind λh=>D (h==(-1)))<|D X)<|D X)<|D X
def MJ(b:AL)(x:Unit):W (V×AJ×Ad×Ad×E Ap×AL):=(Ls b 25).bind λa=>letI l:=a.2.1;(Px a.2.2 (a.1,l)).bind λc=>letI p:=c.1.2;(ML c.2 (a.1,c.1,l)).bind λd=>(Ae d.2 2).bind λe=>(Y (e.1==1) ((Ae e.2 p.2.2.1).bind λf=>(Ky (l,wi (1+f.1))).bind λg=>D (f.2,g.1))<|D (e.2,l):W (AL×Ad)).bind λh=>(Ae h.1 3).bind λi=>(Y (i.1==0) ((EF i.2 p.2.1).bind λj=>D (j.2,c.1.1,p.1,j.1,p.2.2))<|D (i.2,c.1):W (AL×AJ)).bind λk=>(Ae k.1 3).bind λm=>(Y (m.1==0) ((EF m.2 d.1).bind λn=>D n)<|D (d.1,m.2):W (E Ap×AL)).bind λo=>D (a.1,k.2,h.2,l,o)
end
noncomputable section
def Vi(x:E V×V):Lp V V:=λa=>Y (a<T x.1) ((ix x.1 a).bind λb=>Y (b<x.2) (D (.next (wi (a+1))))<|D (.done a))<|D (.done a)
def Sw(x:E V×V):W (E V):=(Ak (Vi x) 0).bind λa=>letI l:=Wp x.1 a (T x.1);bif a<T x.1 then(ix x.1 a).bind λb=>Y (b==x.2) (D x.1)<|(Wp x.1 0 a).bind λc=>l.bind λd=>(app [] c).bind λe=>(app e [x.2]).bind λf=>(app f d).bind λg=>D g else(Wp x.1 0 a).bind λh=>l.bind λi=>(app [] h).bind λj=>(app j [x.2]).bind λk=>(app k i).bind λm=>D m
def PK(x:AJ×Ad×V×V×V)(a:Gv)(b:V×V):Lp (E V×V) (E V):=letI k:=x.2.2.2;λc=>bif c.2<T a.1 then(ix a.1 c.2).bind λd=>letI j:=if(k.2<d.2.1)then k.2 else d.2.1;letI i:=(if(wi (k.1+1)>d.1)then wi (k.1+1)else d.1);(Y (b.1>0) (Y (i<=(if(wi (b.1-1)<j)then wi (b.1-1)else j)) (D A)<|D (τ ((if(wi (b.2+1)>i)then wi (b.2+1)else i)<=j)))<|D (τ (i<=j)):W z).bind λe=>(Y e ((ix a.2.1 c.2).bind λf=>(Sw (c.1,f)).bind λg=>D g)<|D c.1).bind λh=>D (.next (h,wi (c.2+1)))else D (.done c.1)
def IL(x:AJ×Ad×V×V×V):W (E V×V×V×V):=letI i:=x.2.1;letI h:=x.2.2.2;letI f:=(if(i.1>wi (h.1+1))then i.1 else wi (h.1+1));letI e:=(wi ((wi (i.1+T i.2.1))-1));letI g:=if(e<h.2)then e else h.2;(EK x).bind λa=>Y (a.2 !=0) (D ([],0,0,a.2))<|(Jv (x.1,i,x.2.2.1)).bind λb=>(Y (f>g) (D (0,0))<|D (f,g):W (V×V)).bind λc=>(Ak (PK x b c) ([],0)).bind λd=>D (d,c.1,c.2,0)
def PL(x:E Ap×V)(a:E Aj):Lp (V×Aj) ((z×Aj)⊕Aj):=λb=>Y (b.1<T a) ((ix a b.1).bind λc=>Y (c.1==x.2) ((ix a b.1).bind λd=>D (.done (.inl (A,d))))<|D (.next (wi (b.1+1),b.2)))<|D (.done (.inr b.2))
def Ng(x:E Ap×V):W (Aj×z):=(HA x.1).bind λa=>(Ak (PL x a) (0,0,0,[])).bind λb=>ν (λc=>D (c.2,c.1)) (λd=>D ((0,0,[]),X)) b
def L9(a:V×E Bb)(b:Ck×z):Lp V V:=λc=>letI f:=(ix a.2 (wi (c-1)));bif c>0 then f.bind λd=>f.bind λe=>Y (e.1<b.1.2.1) (D (.next (wi (c-1))))<|D (.done c)else D (.done c)
def L8(x:E Ap×AJ×Ad×V×V)(a:E Aj):Lp (V×E Bb) (E Bb):=letI p:=ο 0;λb=>letI n:=(wi (b.1-1),b.2);letI m:=T b.2;bif b.1>=0 then(ix a b.1).bind λc=>(IM (c,x.2.2.2.1)).bind λd=>letI o:=d.1.2.1;bif !d.2 then D (.next n)else Y (o>x.2.2.2.2) (D (.next n))<|(Ak (L9 b d) m).bind λe=>letI l:=ο e;(Wp b.2 0 e).bind λf=>(ix a b.1).bind λg=>(Wp b.2 e m).bind λh=>(app [] (List.take (l-p) (List.drop p b.2))).bind λi=>(app i [(o,g.1,o)]).bind λj=>(app j (List.take ((ο m)-l) (List.drop l b.2))).bind λk=>Y ((Z b.2)<(Z k)) (D (.next (wi (b.1-1),k)))<|U else D (.done b.2)
def D6(x:E Ap×AJ×Ad×V×V)(a:E (V×V×V)):Lp (V×AT×D4) ((V×AT×D4)⊕(AT×D4)):=letI v:=x.2.1;letI t:=x.2.2.1;letI l:=x.2.2.2;λb=>letI u:=(wi (b.1+1),b.2);letI s:=ix a b.1;bif b.1<T a then(C0 l.1).bind λc=>s.bind λd=>Y (d.2.1>0) (s.bind λe=>(Ng (x.1,e.2.1)).bind λf=>(J8 (f.1,l.1)).bind λg=>(Gs (g.1,v,t,l.2)).bind λh=>Y (h.2 !=0) (D (.next u))<|s.bind λi=>s.bind λj=>s.bind λk=>(IL (v,t,l.1,k.1,l.2)).bind λm=>D (.done (.inl (0,h.1,l.1,i.2.1,j.1,l.2,m.1,m.2.1,m.2.2.1))))<|(Gs (c,v,t,l.2)).bind λn=>Y (n.2 !=0) (D (.next u))<|s.bind λo=>s.bind λp=>s.bind λq=>(IL (v,t,l.1,q.1,l.2)).bind λr=>D (.done (.inl (0,n.1,l.1,o.2.1,p.1,l.2,r.1,r.2.1,r.2.2.1)))else D (.done (.inr b.2))
def Fo(x:E Ap×AJ×Ad×V×V):W (AT×D4×V):=letI i:=x.2.2;(Cv x.2.1).bind λa=>Y (!a) (D (p!,(0,0,0,0,[],0,0),54))<|(By i.1).bind λb=>Y (!b) (D (p!,(0,0,0,0,[],0,0),26))<|Y (i.2.1<0) (D (p!,(0,0,0,0,[],0,0),1))<|Y (i.2.1>=x.2.1.2.1) (D (p!,(0,0,0,0,[],0,0),1))<|Y (i.2.2<0) (D (p!,(0,0,0,0,[],0,0),1))<|(HA x.1).bind λc=>(Ak (L8 x c) (wi (T c-1),[])).bind λd=>(app d [(0,0,0)]).bind λe=>(Ak (D6 x e) (0,p!,0,0,0,0,[],0,0)).bind λf=>ν (λg=>D (g.2.1,g.2.2,g.1)) (λh=>D (p!,(0,0,0,0,[],0,0),49)) f
end
noncomputable section
def G1(b:AL)(x:CZ):W (CZ×AL):=(Ae b 4).bind λa=>(Y (a.1==0) ((Bl a.2 ()).bind λc=>D (c.2,c.1,x.2))<|(Y (a.1==1) ((Bl a.2 ()).bind λd=>D (d.2,x.1,d.1,x.2.2))<|(Y (a.1==2) ((Ae a.2 2).bind λe=>(Er e.2 ()).bind λf=>D (f.2,x.1,x.2.1,((e.1==1),f.1),x.2.2.2))<|(Y (a.1==3) ((Ae a.2 2).bind λg=>(Er g.2 ()).bind λh=>D (h.2,x.1,x.2.1,x.2.2.1,(g.1==1),h.1))<|D (a.2,x):W (AL×CZ)).bind λi=>D i:W (AL×CZ)).bind λj=>D j:W (AL×CZ)).bind λk=>D k:W (AL×CZ)).bind λm=>D (m.2,m.1)
def HO(b:AL)(x:AE):W (AE×AL):=letI A:=x.2.1;letI z:=x.2.2.1;letI l:=x.2.2.2;letI C:=l.2.1;letI y:=l.2.2;(Ae b 9).bind λa=>letI s:=Bl a.2 ();(Y (a.1==0) (s.bind λc=>D (c.2,c.1,x.2))<|(Y (a.1==1) ((Ae a.2 11).bind λd=>D (d.2,x.1,wi (d.1-1),x.2.2))<|(Y (a.1==2) (s.bind λe=>D (e.2,x.1,A,e.1,l))<|(Y (a.1==3) (s.bind λf=>D (f.2,x.1,A,z,f.1,l.2))<|(Y (a.1==4) (s.bind λg=>D (g.2,x.1,A,z,l.1,g.1,y))<|(Y (a.1==5) (s.bind λh=>D (h.2,x.1,A,z,l.1,C,h.1,y.2))<|(Y (a.1==6) ((G1 a.2 y.2.1).bind λi=>D (i.2,x.1,A,z,l.1,C,y.1,i.1,y.2.2))<|(Y (a.1==7) ((Er a.2 ()).bind λj=>D (j.2,x.1,A,z,l.1,C,y.1,y.2.1,j.1))<|(bif a.1==8 then(Ae a.2 2).bind λk=>letI B:=wi (8192+k.1);(mk 0 B B).bind λm=>D (k.2,x.1,A,z,l.1,C,y.1,y.2.1,Ew m)else D (a.2,x):W (AL×AE)).bind λn=>D n:W (AL×AE)).bind λo=>D o:W (AL×AE)).bind λp=>D p:W (AL×AE)).bind λq=>D q:W (AL×AE)).bind λr=>D r:W (AL×AE)).bind λt=>D t:W (AL×AE)).bind λu=>D u:W (AL×AE)).bind λv=>D v:W (AL×AE)).bind λw=>D (w.2,w.1)
def IV(b:AL)(x:Ad):W (Ad×AL):=letI G:=(x.1,x.2.2);letI s:=Ψ AE;(app [] x.2.1).bind λa=>Y (T a==0) ((Bl b ()).bind λc=>(Bl c.2 ()).bind λd=>δ ((c.1,a,d.1),d.2))<|(Ae b 8).bind λe=>Y (e.1==0) ((Bl e.2 ()).bind λf=>(Bl f.2 ()).bind λg=>δ ((f.1,a,g.1),g.2))<|(Ae e.2 (T a)).bind λh=>letI l:=ix a h.1;(Ae h.2 4).bind λi=>(Y (i.1==0) ((Bl i.2 ()).bind λj=>δ (a,j.2,x.1,j.1))<|(Y (i.1==1) (l.bind λk=>l.bind λm=>(Ae i.2 m.1).bind λn=>l.bind λo=>l.bind λp=>δ (Es a h.1 (p.1,p.2.1,p.2.2.1,n.1,p.2.2.2.2),n.2,G))<|(Y (i.1==2) (l.bind λq=>l.bind λr=>(Ae i.2 r.1).bind λt=>l.bind λu=>l.bind λv=>δ (Es a h.1 (v.1,v.2.1,v.2.2.1,v.2.2.2.1,t.1,v.2.2.2.2.2),t.2,G))<|(Y (i.1==3) (l.bind λw=>l.bind λy=>(HO i.2 y).bind λz=>l.bind λA=>l.bind λB=>δ (Es a h.1 z.1,z.2,G))<|δ (a,i.2,G):W (s×AL×V×V)).bind λC=>δ C:W (s×AL×V×V)).bind λD=>δ D:W (s×AL×V×V)).bind λE=>δ E:W (s×AL×V×V)).bind λF=>δ ((F.2.2.1,F.1,F.2.2.2),F.2.1)
def PE(x:E V×E V):Lp V (z⊕Unit):=λa=>Y (a<T x.1) ((ix x.1 a).bind λb=>(ix x.2 a).bind λc=>Y (b !=c) q?<|D (.next (wi (a+1))))<|w?
def Nb(x:E V×E V):W z:=Y (T x.1 !=T x.2) (D X)<|(Ak (PE x) 0).bind λa=>ν D (λb=>D A) a
def Hn(x:D4×D4):W z:=letI c:=x.2.2.2;letI b:=x.1.2.2;bif x.1.1==x.2.1 then Y (x.1.2.1==x.2.2.1) (Y (b.1==c.1) (Y (b.2.1==c.2.1) (Y (b.2.2.2.1==c.2.2.2.1) (Y (b.2.2.2.2==c.2.2.2.2) ((Nb (b.2.2.1,c.2.2.1)).bind λa=>D a)<|D X)<|D X)<|D X)<|D X)<|D X else D X
def Vj(x:E Ap×AJ×Ad×V×V):W (AT×D4×V):=(Dz x).bind λa=>Y (a.2.2 !=0) (D (p!,(0,0,0,0,[],0,0),a.2.2))<|Y (a.1.2.1 !=x.2.2.2.2) (D (p!,(0,0,0,0,[],0,0),49))<|D (a.1,a.2.1,0)
def Mm(x:E Ap×AJ×Ad×V×V):W (AT×D4×V):=(Fo x).bind λa=>Y (a.2.2==0) (Y (a.1.2.1 !=x.2.2.2.2) (D (p!,(0,0,0,0,[],0,0),49))<|D a)<|D a
def Hm(x:E Ap×AJ×Ad×V):Lp V (V⊕Unit):=λa=>Y (a>=0) ((Fo (x.1,x.2.1,x.2.2.1,x.2.2.2,a)).bind λb=>Y (b.2.2==0) (D (.done (.inl a)))<|D (.next (wi (a-1))))<|w?
def Qs(x:E Ap×AJ×Ad×V):W V:=letI f:=x.2.2;(Cv x.2.1).bind λa=>Y (!a) (D (-1))<|(By f.1).bind λb=>Y (!b) (D (-1))<|Y (f.2<0) (D (-1))<|Y (f.2>=x.2.1.2.1) (D (-1))<|(E0 f.1).bind λc=>(Ak (Hm x) c).bind λd=>ν D (λe=>D (-1)) d
def Ou(a:V×AJ×Ad×Ad×E Ap×AL)(b:V×(E (V×V×V×V×V×V×(V×V×(z×Bc)×z×Bc)×Bc))×V)(c:V×V)(d:AT×D4×V):Lp (V×AT×D4) (z⊕(AT×D4)):=letI l:=d.1.2.1;λe=>bif e.1<T ([c.2,l]:E V)then(ix ([c.2,l]:E V) e.1).bind λf=>(ix ([c.2,l]:E V) e.1).bind λg=>letI k:=(a.2.2.2.2.1,a.2.1,b,c.1,g);(Vj k).bind λh=>(Mm k).bind λi=>Y (!(AFY h.1 i.1)) q?<|Y (h.2.2 !=i.2.2) q?<|(Hn (h.2.1,i.2.1)).bind λj=>Y (!j) q?<|D (.next (wi (e.1+1),h.1,h.2.1))else D (.done (.inr e.2))
def Ot(x:E V×V×V)(a:V×AJ×Ad×Ad×E Ap×AL)(b:V×(E (V×V×V×V×V×V×(V×V×(z×Bc)×z×Bc)×Bc))×V):Lp (V×AL) (z⊕AL):=λc=>bif c.1<4 then(Ae c.2 a.1).bind λd=>(Ae d.2 40).bind λe=>(Y (c.1==3) (D x.2)<|D (d.1,e.1):W (V×V)).bind λf=>letI l:=(a.2.2.2.2.1,a.2.1,b,f);(Dz l).bind λg=>(Fo l).bind λh=>Y (!(AFY g.1 h.1)) q?<|Y (g.2.2 !=h.2.2) q?<|(Hn (g.2.1,h.2.1)).bind λi=>Y (!i) q?<|(Ak (Ou a b f h) (0,g.1,g.2.1)).bind λj=>ν (λk=>D (.done (.inl k))) (λm=>D (.next (wi (c.1+1),e.2))) j else D (.done (.inr c.2))
def Oq(x:E V×V×V)(a:V×AJ×Ad×Ad×E Ap×AL)(b:Ad×AL):Lp (V×AL) (z⊕AL):=λc=>Y (c.1<(T ([a.2.2.1,b.1]:E (V×(E (V×V×V×V×V×V×(V×V×(z×Bc)×z×Bc)×Bc))×V)))) ((ix ([a.2.2.1,b.1]:E (V×(E (V×V×V×V×V×V×(V×V×(z×Bc)×z×Bc)×Bc))×V)) c.1).bind λd=>(Ak (Ot x a d) (0,c.2)).bind λe=>ν (λf=>D (.done (.inl f))) (λg=>D (.next (wi (c.1+1),g))) e)<|D (.done (.inr c.2))
def K7(x:E V×V×V):W z:=(JK ()).bind λa=>Y (!a) (D X)<|(Y (T x.1>500) ((Wp x.1 0 500).bind λb=>D b)<|D x.1).bind λc=>(MJ (c,0) ()).bind λd=>letI l:=d.2.2;(IV l.2.2.2 l.1).bind λe=>(Ak (Oq x d e) (0,e.2)).bind λf=>ν D (λg=>(Ae g d.1).bind λh=>letI k:=(l.2.2.1,d.2.1,l.1,h.1);(MA k).bind λi=>(Qs k).bind λj=>D (i==j)) f
end
end Go.Pm
