/- Texts of wip, joined and shortened by wip/tools/pack.py; nothing is assumed. -/
import Derived.Test.YtdbincbpjobdpaaGreatK8
noncomputable section
set_option linter.all false
open Option renaming some->Z
open List renaming length->U
open Go renaming Ψ->S
open Bool renaming false->Y
open Bool renaming true->V
open Option renaming none->W
open Go renaming Ω->T
open Option renaming some->δ,none->ε
open Bool renaming true->ζ,false->η
open List renaming length->θ
open Go.IntKind renaming wrap->ι
open BitVec renaming ofInt->κ,toNat->π
open Sum renaming elim->ν
open Nat renaming beq->ξ
open Int renaming toNat->ο
open Decidable renaming decide->τ
namespace Go.Pm
open Go Go.Ab
set_option maxRecDepth 100000
noncomputable section
abbrev DX:Type:=Int×Int×BZ
def GB:Ty:=.prod (z? (z? (.one .str)))
abbrev A7:Type:=Int×Int×S DX
def Bi:Ty:=.prod (z? (z? (.one (.list GB))))
abbrev N1:Type:=BZ
def YX:Ty:=.prod (.one .str)
def U4(x:Int×Int):T (Int×Int):=letI d:=κ 64 4294967295;letI c:=(π ((κ 64 x.1)&&&d));letI b:=(π ((κ 64 x.2)&&&d));letI a:=(2^(min (ο 32) 64));letI f:=Int.fdiv x.2 a;letI e:=Int.fdiv x.1 a;Z ((ι .u64 ((ι .u64 ((ι .u64 (e*f))+(Int.fdiv (ι .u64 ((ι .u64 (e*(ι .u64 ((b:Nat):Int))))+(Int.fdiv (ι .u64 ((ι .u64 ((c:Nat):Int))*(ι .u64 ((b:Nat):Int)))) a))) a)))+(Int.fdiv (ι .u64 ((ι .u64 (((π ((κ 64 (ι .u64 ((ι .u64 (e*(ι .u64 ((b:Nat):Int))))+(Int.fdiv (ι .u64 ((ι .u64 ((c:Nat):Int))*(ι .u64 ((b:Nat):Int)))) a))))&&&d)):Nat):Int))+(ι .u64 ((ι .u64 ((c:Nat):Int))*f)))) a))),ι .u64 (x.1*x.2))
def XV(x:Int×Int):T (Int×Int):=(U4 x).bind λa=>Z a
end
noncomputable section
def Xv(x:Unit):T BZ:=(LA (([0]:S (UInt8)),256)).bind λa=>Z a
def HP(x:BZ×Int×Int):T Int:=(Bx x).bind λa=>Z a.1
def kS(x:BZ):Lp (Int×AT×AT) ((Bool×AT)⊕(AT×AT)):=λa=>letI j:=a.2.1.2;letI i:=(wi (12+wi (a.1*13)));bif a.1<16 then(HP (x,i,1)).bind λb=>(bif b==255 then Z (.inl a.2)else bif b>12 then Z (.inr (Y,0,0,Gd.all (Y,[])))else(SL x (wi (i+1)) (wi ((wi (i+1))+b))).bind λc=>(G1 j.2 a.1).bind λd=>(G1 j.2 a.1).bind λe=>Z (.inl ((a.2.1.1,j.1,XK j.2 a.1 (V,c)),a.2.2)):T ((AT×AT)⊕(Bool×AT))).bind λf=>ν (λg=>Z (.next (wi (a.1+1),g))) (λh=>Z (.done (.inl h))) f else Z (.done (.inr a.2))
def Ww(x:BZ):T (AT×Bool):=(HP (x,8,4)).bind λa=>(HP (x,0,8)).bind λb=>(Aj (kS x) (0,(a,b,Gd.all (Y,[])),0,0,Gd.all (Y,[]))).bind λc=>ν (λd=>Z (d.2,d.1)) (λe=>Z (e.1,V)) c
def Wj(x:AT):T Bool:=(IQ x.1).bind λa=>bif a then bif x.2.1>=0 then Z (τ (x.2.1<=1099511627776))else Z Y else Z Y
def im(x:AT):Lp Int (Bool⊕Unit):=λa=>letI c:=wi (a+1);bif a<16 then(G1 x.2.2 a).bind λb=>bif len b.2>12 then q? else bif !b.1 then bif b.2 !=[]then q? else bif b.1 then bif x.2.1==0 then q? else Z (.next c)else Z (.next c)else bif b.1 then bif x.2.1==0 then q? else Z (.next c)else Z (.next c)else w?
def U5(x:AT):T Bool:=(Aj (im x) 0).bind λa=>ν Z (λb=>Z V) a
def Kf(b:N1)(x:Cj):T N1:=(bif x.1 then Z (len x.2)else Z 255:T Int).bind λa=>(Og (b,a,1)).bind λc=>(sapp c x.2).bind λd=>(LA (([0]:S (UInt8)),wi (12-len x.2))).bind λe=>(sapp d e).bind λf=>Z f
def dt(x:AT):Lp (Int×N1) N1:=λa=>bif a.1<16 then(G1 x.2.2 a.1).bind λb=>(Kf a.2 b).bind λc=>Z (.next (wi (a.1+1),c))else Z (.done a.2)
def NI(x:AT):T (BZ×Int):=(Wj x).bind λa=>bif !a then Z ([],1)else(U5 x).bind λb=>bif !b then Z ([],22)else(Og ([],x.2.1,8)).bind λc=>(Og (c,x.1,4)).bind λd=>(Aj (dt x) (0,d)).bind λe=>(LA (([0]:S (UInt8)),wi (244-len e))).bind λf=>(sapp e f).bind λg=>(Oh g).bind λh=>(Og (g,wi h,4)).bind λi=>(Og (i,x.2.1,8)).bind λj=>Z (j,0)
def P3(x:BZ):T (AT×Int):=bif len x !=256 then Z (p!,2)else(Xv ()).bind λa=>bif x==a then Z (p!,7)else(SL x 0 8).bind λb=>(SL x 248 (len x)).bind λc=>bif b !=c then Z (p!,27)else(SL x 0 244).bind λd=>(HP (x,244,4)).bind λe=>(Oh d).bind λf=>bif e !=wi f then Z (p!,3)else(Ww x).bind λg=>(NI g.1).bind λh=>bif !g.2 then Z (p!,4)else bif h.2 !=0 then Z (p!,4)else bif h.1 !=x then Z (p!,4)else Z (g.1,0)
def Gg(x:BZ×Int):T (AT×Int):=(IQ x.2).bind λa=>bif !a then Z (p!,1)else(P3 x.1).bind λb=>bif b.2==7 then(DR x.2).bind λc=>Z (c,0)else bif b.2 !=0 then Z (p!,b.2)else bif b.1.1 !=x.2 then Z (p!,6)else Z (b.1,0)
def dp(x:A7):Lp Int (Bool⊕Unit):=λa=>bif a<len x.2.2 then(ix x.2.2 a).bind λb=>letI f:=Gg (b.2.2,b.1);bif b.1>=x.2.1 then q? else bif a>0 then(ix x.2.2 (wi (a-1))).bind λc=>bif c.1>=b.1 then q? else f.bind λd=>bif d.2 !=0 then q? else bif d.1.2.1 !=b.2.1 then q? else Z (.next (wi (a+1))) else f.bind λe=>bif e.2 !=0 then q? else bif e.1.2.1 !=b.2.1 then q? else Z (.next (wi (a+1))) else w?
def K4(x:A7):T Bool:=bif x.1<1 then Z Y else bif x.1>1073741824 then Z Y else bif x.2.1<1 then Z Y else bif x.2.1>64 then Z Y else bif len x.2.2>x.2.1 then Z Y else(Aj (dp x) 0).bind λa=>ν Z (λb=>Z V) a
def Wi(x:A7):T Bool:=(K4 x).bind λa=>bif a then Z (len x.2.2==x.2.1)else Z Y
def Qb(x:AI×AZ):T Int:=(F6 x.1).bind λa=>bif !a then Z 54 else(Ha x.2).bind λb=>bif !b then Z 26 else Z 0
def Uy(x:AT×Dz):T (AT×Int):=letI g:=x.2.2;letI f:=G1 x.1.2.2 g.1;(OB x.2).bind λa=>bif !a then Z (p!,22)else bif x.2.1 !=x.1.1 then Z (p!,6)else f.bind λb=>f.bind λc=>bif !(c.1==g.2.1.1&&(c.2==g.2.1.2&&V))then Z (p!,20)else f.bind λd=>f.bind λe=>Z ((x.1.1,x.1.2.1,XK x.1.2.2 g.1 g.2.2),0)
def VI(x:AT×AE):T (AT×Int):=letI e:=x.2.2.2.2.2;(Ge x.2).bind λa=>bif !a then Z (p!,12)else(BF x.2).bind λb=>bif !b then Z (p!,12)else(NI x.1).bind λc=>bif c.2 !=0 then Z (p!,c.2)else bif e.2.2.1.1 !=x.1.1 then Z (p!,6)else bif e.1 !=x.1.2.1 then Z (p!,13)else(Uy (x.1,e.2.2.1)).bind λd=>bif d.2 !=0 then Z (p!,d.2)else Z ((d.1.1,x.2.1,d.1.2.2),0)
def aH(x:AT×S AE):Lp (Int×AT×AT) ((Int×AT)⊕(AT×AT)):=λa=>bif a.1<len x.2 then(ix x.2 a.1).bind λb=>bif b.1<=a.2.1.2.1 then Z (.next (wi (a.1+1),a.2))else(VI (a.2.1,b)).bind λc=>bif c.2 !=0 then Z (.done (.inl (c.2,0,0,Gd.all (Y,[]))))else Z (.next (wi (a.1+1),c.1,a.2.2))else Z (.done (.inr a.2))
def If(x:AT×S AE):T (AT×Int):=(Aj (aH x) (0,x.1,0,0,Gd.all (Y,[]))).bind λa=>ν (λb=>Z (b.2,b.1)) (λc=>Z (c.1,0)) a
def J0(x:AT×AI×AZ×Int):T (AT×Int):=letI e:=x.2.2;(Qb (x.2.1,e.1)).bind λa=>bif a !=0 then Z (p!,a)else(NI x.1).bind λb=>bif b.2 !=0 then Z (p!,b.2)else bif x.1.2.1>e.2 then Z (p!,9)else(HZ (x.2.1,e.1,x.1.1,x.1.2.1,e.2)).bind λc=>bif c.2 !=0 then Z (p!,c.2)else(If (x.1,c.1)).bind λd=>Z d
def UA(x:Int×Int):Lp (Int×S DX×Int×Int) (S DX×Int×Int):=λa=>bif a.1<x.2 then(I3 ()).bind λb=>(app a.2.1 [(a.1,0,b)]).bind λc=>Z (.next (wi (a.1+1),c,a.2.2))else Z (.done a.2)
def Fc(x:Int×Int):T A7:=(Aj (UA x) (0,[],x)).bind λa=>Z (a.2.1,a.2.2,a.1)
end
noncomputable section
abbrev II:Type:=S AS×S Int×AZ
def Ov:Ty:=.prod (.cons (.list Bl) (.cons (.list (.int .i64)) (.one Bh)))
def S7(x:A7):Lp Int (Bool⊕Unit):=λa=>bif a<len x.2.2 then(ix x.2.2 a).bind λb=>letI f:=Cw (b.2.2,b.1);bif b.1<0 then q? else bif b.1>=x.2.1 then q? else bif a>0 then(ix x.2.2 (wi (a-1))).bind λc=>bif c.1>=b.1 then q? else f.bind λd=>bif d.2 !=0 then q? else bif d.1.2.1 !=b.2.1 then q? else Z (.next (wi (a+1))) else f.bind λe=>bif e.2 !=0 then q? else bif e.1.2.1 !=b.2.1 then q? else Z (.next (wi (a+1))) else w?
def FE(x:A7):T Bool:=bif x.1<1 then Z Y else bif x.1>1073741824 then Z Y else bif x.2.1<1 then Z Y else bif x.2.1>64 then Z Y else(Aj (S7 x) 0).bind λa=>ν Z (λb=>Z V) a
def R6(x:A7):Lp (BZ×Int) BZ:=λa=>letI h:=ix x.2.2 a.2;bif a.2<len x.2.2 then h.bind λb=>h.bind λc=>(An ([],b.1,2)).bind λd=>(sapp d c.2.2).bind λe=>(Dh e).bind λf=>(sapp a.1 f).bind λg=>Z (.next (g,wi (a.2+1)))else Z (.done a.1)
def Ie(x:A7):T (BZ×Int):=(FE x).bind λa=>bif !a then Z ([],43)else(An (([80,77,73,77]:S (UInt8)),x.1,4)).bind λb=>(An (b,x.2.1,2)).bind λc=>(An (c,len x.2.2,2)).bind λd=>(Dh d).bind λe=>(Aj (R6 x) (e,0)).bind λf=>Z (f,0)
def Ii(x:A7):T Aq:=(Ie x).bind λa=>Z (2,x.1,a.1)
def MB(x:A7):T Bool:=(FE x).bind λa=>bif a then Z (len x.2.2==x.2.1)else Z Y
def UU(x:A7×Int):Lp (Int×DX) ((Bool×DX)⊕DX):=λa=>letI e:=ix x.1.2.2 a.1;bif a.1<len x.1.2.2 then(FE x.1).bind λb=>bif b then e.bind λc=>bif c.1==x.2 then e.bind λd=>Z (.done (.inl (V,d)))else Z (.next (wi (a.1+1),a.2))else Z (.done (.inr a.2))else Z (.done (.inr a.2))
def M2(x:A7×Int):T (DX×Bool):=(Aj (UU x) (0,0,0,[])).bind λa=>ν (λb=>Z (b.2,b.1)) (λc=>Z ((0,0,[]),Y)) a
def M3(x:A7×Int):T (AT×Int):=(FE x.1).bind λa=>bif !a then Z (p!,43)else(M2 x).bind λb=>bif !b.2 then Z (p!,44)else(Cw (b.1.2.2,x.2)).bind λc=>Z c
def QG(x:AI×AZ×Int×Int×Int):T Int:=letI c:=x.2.2;(C7 x.1).bind λa=>bif !a then Z 54 else(B5 x.2.1).bind λb=>bif !b then Z 26 else bif c.1<0 then Z 1 else bif c.1>=x.1.2.1 then Z 1 else bif c.2.1<0 then Z 1 else bif c.2.1>c.2.2 then Z 1 else Z 0
def UP(x:AI×Int):Lp Int Int:=λa=>bif wi (a+1)<len x.1.1 then(ix x.1.1 (wi (a+1))).bind λb=>bif b<=x.2 then Z (.next (wi (a+1))) else Z (.done a)else Z (.done a)
def RG(x:AI×Int):T (Int×Int×Bool):=v? (C7 x.1) (0,0,Y)<|bif x.2<0 then Z (0,0,Y)else bif x.2>=x.1.2.1 then Z (0,0,Y)else(Aj (UP x) 0).bind λb=>(FC (x.1,b)).bind λc=>Z (c.1,c.2,V)
def RH(x:AI):T (S AS×S Int):=(GJ x).bind λa=>Z (a.1,a.2.1)
def QZ(a:Int×Int×Bool)(b:S AS×S Int):Lp (Int×S AS×S Int×AZ) (S AS×S Int×AZ):=λc=>bif c.1<len b.1 then(ix b.1 c.1).bind λd=>(bif d.2.2.1==a.1 then(ix b.1 c.1).bind λe=>(ix b.2 c.1).bind λf=>(app c.2.1 [e]).bind λg=>(app c.2.2.1 [f]).bind λh=>Z (g,h,c.2.2.2)else Z c.2).bind λi=>Z (.next (wi (c.1+1),i))else Z (.done c.2)
def Nj(x:AI×AZ×Int):T II:=(RG (x.1,x.2.2)).bind λa=>(RH x.1).bind λb=>(Aj (QZ a b) (0,[],[],x.2.1)).bind λc=>Z c
def JF(x:AZ×Int):T Bool:=bif x.2>=x.1.1 then Z (τ (x.2<(wi (x.1.1+len x.1.2.1))))else Z Y
def UT(x:II×Int):Lp (Int×Int) Int:=λa=>letI f:=ix x.1.1 a.2;bif a.2<len x.1.1 then f.bind λb=>bif b.1<=x.2 then f.bind λc=>(bif x.2<=c.2.1 then f.bind λd=>Z (if(d.2.1>a.1)then d.2.1 else a.1)else Z a.1).bind λe=>Z (.next (e,wi (a.2+1)))else Z (.next (a.1,wi (a.2+1)))else Z (.done a.1)
def RK(x:II×Int):T Int:=letI e:=x.1.2.2;letI d:=(wi ((wi (e.1+len e.2.1))-1));(Aj (UT x) (wi (x.2-1),0)).bind λa=>(JF (e,x.2)).bind λb=>(bif b then Z (if(d>a)then d else a)else Z a).bind λc=>Z c
def RJ(x:II×Int×Int):Lp Int (Bool⊕Unit):=λa=>bif a<x.2.2 then(RK (x.1,wi (a+1))).bind λb=>bif b==a then q? else Z (.next b)else w?
def Oc(x:II×Int×Int):T Bool:=(Aj (RJ x) x.2.1).bind λa=>ν Z (λb=>Z V) a
def R1(x:AS×Int):Lp (Int×S AE) (S AE):=letI f:=x.1.2.2.2.2.2;λa=>bif a.1<len f then(ix f a.1).bind λb=>(bif b.2.2.2.2.2.2.1.1==x.2 then(ix f a.1).bind λc=>(app a.2 [c]).bind λd=>Z d else Z a.2).bind λe=>Z (.next (wi (a.1+1),e))else Z (.done a.2)
def PX(x:AS×Int):T (S AE):=(EQ x.1).bind λa=>bif !a then Z []else(Aj (R1 x) (0,[])).bind λb=>Z b
def QY(x:S AS×Int×Int×Int)(a:S AE):Lp (S AE×Int) (S AE):=λb=>letI h:=ix a b.2;bif b.2<len a then h.bind λc=>bif c.1>x.2.2.1 then h.bind λd=>(bif d.1<=x.2.2.2 then h.bind λe=>(DH (b.1,e)).bind λf=>Z f.1 else Z b.1).bind λg=>Z (.next (g,wi (b.2+1)))else Z (.next (b.1,wi (b.2+1)))else Z (.done b.1)
def QX(x:S AS×Int×Int×Int):Lp (S AE×Int) (S AE):=λa=>bif a.2<len x.1 then(ix x.1 a.2).bind λb=>(PX (b,x.2.1)).bind λc=>(Aj (QY x c) (a.1,0)).bind λd=>Z (.next (d,wi (a.2+1)))else Z (.done a.1)
def Ni(x:S AS×Int×Int×Int):T (S AE):=(Aj (QX x) ([],0)).bind λa=>Z a
def R5(x:AZ×Int×Int×Int):Lp (Int×S AE) (S AE):=λa=>letI f:=(wi (a.1+1),a.2);bif a.1<len x.1.2.1 then(ix x.1.2.1 a.1).bind λb=>(BF b).bind λc=>bif c then bif b.2.2.2.2.2.2.1.1==x.2.1 then bif b.1>x.2.2.1 then(bif b.1<=x.2.2.2 then(app a.2 [b]).bind λd=>Z d else Z a.2).bind λe=>Z (.next (wi (a.1+1),e))else Z (.next f)else Z (.next f)else Z (.next f)else Z (.done a.2)
def PZ(x:AZ×Int×Int×Int):T (S AE):=(Aj (R5 x) (0,[])).bind λa=>Z a
def R4(x:S AS×Int):Lp Int (Int⊕Unit):=λa=>bif a<len x.1 then(ix x.1 a).bind λb=>bif b.1<=x.2 then(ix x.1 a).bind λc=>bif x.2<=c.2.1 then Z (.done (.inl a))else Z (.next (wi (a+1))) else Z (.next (wi (a+1))) else w?
def PY(x:S AS×Int):T Int:=(Aj (R4 x) 0).bind λa=>ν Z (λb=>Z (-1)) a
def VG(x:S AE×AE):Lp Int (Bool⊕Unit):=letI f:=x.2.2.2;letI c:=f.2.2.2;letI e:=c.2.1.2;λa=>bif a<len x.1 then(ix x.1 a).bind λb=>letI g:=b.2.2.2;letI d:=g.2.2.2;letI h:=d.1.2.2;bif b.1==x.2.1&&(b.2.1==x.2.2.1&&(b.2.2.1==f.1&&(g.1==f.2.1&&(g.2.1==f.2.2.1&&(g.2.2.1==c.1&&(d.1.1==c.2.1.1&&(d.1.2.1==e.1&&(h.1.1==e.2.1.1&&(h.1.2==e.2.1.2&&(h.2.1==e.2.2.1&&(h.2.2==e.2.2.2&&(d.2==c.2.2&&V))))))))))))then j? else Z (.next (wi (a+1))) else w?
def Nz(x:S AE×AE):T Bool:=(Aj (VG x) 0).bind λa=>ν Z (λb=>Z Y) a
def S5(x:S AS×AZ×S AE×S AE):Lp (S AE×Int) ((S AE×Bool)⊕(S AE)):=λa=>letI j:=ix x.2.2.2 a.2;bif a.2<len x.2.2.2 then j.bind λb=>(PY (x.1,b.1)).bind λc=>bif c>=0 then j.bind λd=>v? (Nz (x.2.2.1,d)) (.done (.inl ([],Y)))<|j.bind λf=>(DH (a.1,f)).bind λg=>Z (.next (g.1,wi (a.2+1)))else j.bind λh=>(DH (a.1,h)).bind λi=>Z (.next (i.1,wi (a.2+1)))else Z (.done (.inr a.1))
def S6(x:S AS×AZ×S AE×S AE):Lp Int ((S AE×Bool)⊕Unit):=λa=>letI f:=ix x.2.2.1 a;bif a<len x.2.2.1 then f.bind λb=>(JF (x.2.1,b.1)).bind λc=>bif c then f.bind λd=>v? (Nz (x.2.2.2,d)) (.done (.inl ([],Y)))<|Z (.next (wi (a+1))) else Z (.next (wi (a+1))) else w?
def QF(x:S AS×AZ×S AE×S AE):T (S AE×Bool):=(app [] x.2.2.1).bind λa=>(Aj (S5 x) (a,0)).bind λb=>ν Z (λc=>(Aj (S6 x) 0).bind λd=>ν Z (λe=>Z (c,V)) d) b
def Vz(x:AI×AZ×Int×Int×Int)(a:S AE×Bool):Lp Int ((S AE×Int)⊕Unit):=λb=>letI j:=(ix a.1 (wi (b-1)));letI i:=ix a.1 b;letI h:=wi (b+1);bif b<len a.1 then bif b==0 then i.bind λc=>bif c.2.2.2.2.1>x.2.2.2.1 then Z (.done (.inl ([],13)))else bif b>0 then i.bind λd=>j.bind λe=>bif d.2.2.2.2.1 !=e.1 then Z (.done (.inl ([],13)))else Z (.next h)else Z (.next h)else bif b>0 then i.bind λf=>j.bind λg=>bif f.2.2.2.2.1 !=g.1 then Z (.done (.inl ([],13)))else Z (.next h)else Z (.next h)else w?
def Ti(x:AI×AZ×Int×Int×Int):T (S AE×Int):=(QG x).bind λa=>bif a !=0 then Z ([],a)else(Nj (x.1,x.2.1,x.2.2.1)).bind λb=>(Oc (b,x.2.2.2)).bind λc=>bif !c then Z ([],42)else(Ni (b.1,x.2.2)).bind λd=>(PZ x.2).bind λe=>(QF (b.1,x.2.1,d,e)).bind λf=>bif !f.2 then Z ([],41)else(Aj (Vz x f) 0).bind λg=>ν Z (λh=>Z (f.1,0)) g
def UW(x:AT×S AE):Lp (Int×AT×AT) ((Int×AT)⊕(AT×AT)):=λa=>bif a.1<len x.2 then(ix x.2 a.1).bind λb=>bif b.1<=a.2.1.2.1 then Z (.next (wi (a.1+1),a.2))else(ix x.2 a.1).bind λc=>(JE (a.2.1,c)).bind λd=>bif d.2 !=0 then Z (.done (.inl (d.2,0,0,Gd.all (Y,[]))))else Z (.next (wi (a.1+1),d.1,a.2.2))else Z (.done (.inr a.2))
def M5(x:AT×S AE):T (AT×Int):=(Aj (UW x) (0,x.1,0,0,Gd.all (Y,[]))).bind λa=>ν (λb=>Z (b.2,b.1)) (λc=>Z (c.1,0)) a
def RN(x:AT×AI×AZ×Int):T (AT×Int):=letI f:=x.2.2;(C7 x.2.1).bind λa=>bif !a then Z (p!,54)else(B5 f.1).bind λb=>bif !b then Z (p!,26)else(DF x.1).bind λc=>bif c.2 !=0 then Z (p!,c.2)else bif x.1.2.1>f.2 then Z (p!,9)else(Ti (x.2.1,f.1,x.1.1,x.1.2.1,f.2)).bind λd=>bif d.2 !=0 then Z (p!,d.2)else(M5 (x.1,d.1)).bind λe=>Z e
def UV(x:A7×AI×AZ×Int×Int):Lp (Int×S DX×Int×Int×A7) ((Int×A7)⊕(S DX×Int×Int×A7)):=λa=>bif a.1<len x.1.2.2 then(ix x.1.2.2 a.1).bind λb=>(M3 (x.1,b.1)).bind λc=>(RN (c.1,x.2.1,x.2.2.1,x.2.2.2.2)).bind λd=>bif d.2 !=0 then Z (.done (.inl (d.2,0,0,[])))else(bif d.1.2.1>0 then(DF d.1).bind λe=>Z (d.1.1,d.1.2.1,e.1)else Z b).bind λf=>(app a.2.1 [f]).bind λg=>Z (.next (wi (a.1+1),g,a.2.2))else Z (.done (.inr a.2))
def M4(x:A7×AI×AZ×Int×Int):T (A7×Int):=letI g:=x.2.2;(MB x.1).bind λa=>bif !a then Z ((0,0,[]),43)else(C7 x.2.1).bind λb=>bif !b then Z ((0,0,[]),54)else(B5 g.1).bind λc=>bif !c then Z ((0,0,[]),26)else bif g.2.1<1 then Z ((0,0,[]),1)else bif g.2.1>1073741824 then Z ((0,0,[]),1)else bif g.2.2<0 then Z ((0,0,[]),1)else bif g.2.2>g.1.2.2 then Z ((0,0,[]),1)else(Aj (UV x) (0,[],g.2.1,x.1.2.1,0,0,[])).bind λd=>ν (λe=>Z (e.2,e.1)) (λf=>Z ((f.2.1,f.2.2.1,f.1),0)) d
def Sk(x:Int×AI×AZ):Lp (Int×Int×S Aq×AV×A7) (S Aq×AV×A7):=λa=>letI g:=a.2.2;(Ak g.2.1 3).bind λb=>bif a.2.1<wi (2+b.1)then(Ak b.2 (wi (wi (x.2.2.2.2-a.1)+1))).bind λc=>(M4 (g.2.2,x.2.1,x.2.2,a.2.1,wi (a.1+c.1))).bind λd=>bif d.2 !=0 then Z (.done (g.1,c.2,g.2.2))else(Ii d.1).bind λe=>(app g.1 [e]).bind λf=>Z (.next (wi (a.1+c.1),wi (a.2.1+1),f,c.2,d.1))else Z (.done (g.1,b.2,g.2.2))
def Lk(b:AV)(x:Int×AI×AZ):T (S Aq×AV):=(Fc (1,x.1)).bind λa=>(Ak b 3).bind λc=>(bif c.1>0 then(Ii a).bind λd=>Z ([]++([d]:S (Int×Int×BZ)))else Z []:T (S Aq)).bind λe=>(Aj (Sk x) (0,2,e,c.2,a)).bind λf=>Z (f.1,f.2.1)
end
noncomputable section
abbrev BU:Type:=Int×Int×Int×Int×S Int×Int×Int
def GC:Ty:=.prod (z? (z? (z? (z? (.cons (.list (.int .i64)) (z? (.one (.int .i64))))))))
def AEo{α γ:Type}(c:α×α->T γ)(n:γ->Bool)(x:Int×Int):Lp (Int×S α) (S α):=λa=>letI s:=(ix a.2 a.1);letI l:=(wi (a.1-1));letI v:=(ix a.2 l);(bif a.1>x.1 then s.bind λb=>s.bind λd=>v.bind λe=>v.bind λf=>(c (d,f)).bind λg=>bif n g then Z (.inr ())else Z (.inl ())else Z (.inl ()):T (Unit⊕Unit)).bind λh=>ν (λi=>Z (.done a.2)) (λj=>v.bind λk=>v.bind λm=>letI w:=(ER a.2 a.1 m);s.bind λo=>s.bind λp=>s.bind λq=>s.bind λr=>(ix w l).bind λt=>(ix w l).bind λu=>Z (.next (wi (a.1-1),ER w l p))) h
def AAy{α γ:Type}(c:α×α->T γ)(n:γ->Bool)(l:S α)(x:Int×Int):T (S α):=(Aj (λa=>bif a.1<x.2 then(Aj (AEo c n x) a).bind λb=>Z (.next (wi (a.1+1),b))else Z (.done a.2)) (wi (x.1+1),l)).bind λd=>Z d
def AJR{α:Type}(f:S α->Int×Int->T (S α)):Lp (Int×Int×Int×Bool×Bool×S α) (S α):=λa=>letI d:=a.2.2;letI e:=d.2.2.2;bif wi (a.2.1-a.1)<=12 then(f e (a.1,a.2.1)).bind λb=>bif ξ (U b) (U e)then Z (.done b)else W else bif d.1==0 then W else(bif ! d.2.1 then W else Z (d.1,e):T (Int×S α)).bind λc=>W
def pdG{α:Type}(f:S α->Int×Int->T (S α))(l:S α)(x:Int×Int×Int):T (S α):=(Aj (AJR f) (x.1,x.2.1,x.2.2,V,V,l)).bind λa=>Z a
def soG{α:Type}(f:S α->Int×(Int×Int)->T (S α))(l:S α):T (S α):=(TH (ι .u64 (len l))).bind λa=>(f l (0,len l,a)).bind λb=>bif ξ (U b) (U l)then Z b else W
def QR(x:A7×A7):T Int:=(EK (x.1.1,x.2.1)).bind λa=>Z a
def QQ(x:Bk×Bk):T Int:=(EK (x.2.1,x.1.1)).bind λa=>Z a
def ME(l:S Int)(x:Int×Int):T (S Int):=AAy OC (λa=>a) l x
def Oi(rec:(S Int×Int×Int×Int)->(T (S Int)))(l:S Int)(x:Int×Int×Int):T (S Int):=pdG ME l x
def Qa(l:S Int)(x:Int×Int×Int):T (S Int):=sQ (λg p=>Oi g p.1 p.2) (l,x)
def MD(l:S Int)(x:Unit):T (S Int):=soG Qa l
def Jb(l:S A7)(x:Int×Int):T (S A7):=AAy QR (λa=>decide (a<0)) l x
def K6(rec:(S A7×Int×Int×Int)->(T (S A7)))(l:S A7)(x:Int×Int×Int):T (S A7):=pdG Jb l x
def MF(l:S A7)(x:Int×Int×Int):T (S A7):=sQ (λg p=>K6 g p.1 p.2) (l,x)
def Gx(l:S A7)(x:Unit):T (S A7):=soG MF l
def E4(l:S Bk)(x:Int×Int):T (S Bk):=AAy QQ (λa=>decide (a<0)) l x
def MG(x:Int):Lp (Int×Int×S Bk) (Int×S Bk):=λa=>letI c:=a.2.1;bif c<=x then(E4 a.2.2 (a.1,c)).bind λb=>bif ξ (U b) (U a.2.2)then Z (.next (c,wi (c+20),b))else W else Z (.done (a.1,a.2.2))
def Ud(x:Int):Lp (Int×Int×S Bk) (Int×S Bk):=λa=>bif a.2.1<=x then W else Z (.done (a.1,a.2.2))
def MH(x:Int):Lp (Int×S Bk) (S Bk):=λa=>bif a.1<x then(Aj (Ud x) (0,wi (2*a.1),a.2)).bind λb=>(bif wi (b.1+a.1)<x then W else Z b.2:T (S Bk)).bind λc=>Z (.next (wi (a.1*2),c))else Z (.done a.2)
def JX(l:S Bk)(x:Int):T (S Bk):=(Aj (MG x) (0,20,l)).bind λa=>(E4 a.2 (a.1,x)).bind λb=>bif ξ (U b) (U a.2)then(Aj (MH x) (20,b)).bind λc=>Z c else W
def Ea(l:S Bk)(x:Unit):T (S Bk):=(JX l (len l)).bind λa=>bif ξ (U a) (U l)then Z a else W
def Rb(x:BZ):T DX:=(SL x 2 (len x)).bind λa=>(Bx (x,0,2)).bind λb=>(Gg (a,b.1)).bind λc=>Z (b.1,c.1.2.1,a)
def aG(x:BZ)(a:Int×Int):Lp (Int×Int×S DX×Int×Int×A7) ((Int×A7)⊕(Int×S DX×Int×Int×A7)):=λb=>bif b.2.1<a.1 then(Dr (x,b.1)).bind λc=>bif c.2.2 !=0 then Z (.done (.inl (c.2.2,0,0,[])))else bif len c.1 !=258 then Z (.done (.inl (4,0,0,[])))else(Rb c.1).bind λd=>(app b.2.2.1 [d]).bind λe=>Z (.next (c.2.1,wi (b.2.1+1),e,b.2.2.2))else Z (.done (.inr (b.1,b.2.2)))
def IT(x:BZ):T (A7×Int):=(Dr (x,0)).bind λa=>bif a.2.2 !=0 then Z ((0,0,[]),a.2.2)else bif len a.1 !=12 then Z ((0,0,[]),4)else(FM (a.1,([80,77,73,77]:S (UInt8)))).bind λb=>bif !b then Z ((0,0,[]),4)else(Bx (a.1,4,4)).bind λc=>(Bx (a.1,8,2)).bind λd=>(Bx (a.1,10,2)).bind λe=>bif e.1>64 then Z ((0,0,[]),4)else(Aj (aG x e) (a.2.1,0,[],c.1,d.1,0,0,[])).bind λf=>ν (λg=>Z (g.2,g.1)) (λh=>letI j:=(h.2.2.1,h.2.2.2.1,h.2.1);bif h.1<len x then Z ((0,0,[]),4)else(K4 j).bind λi=>bif !i then Z ((0,0,[]),43)else Z (j,0)) f
def Yp(x:S Aq):Lp (Int×S (Int×Bool)×S A7) (S (Int×Bool)×S A7):=λa=>letI h:=(wi (a.1+1),a.2);bif a.1<len x then(ix x a.1).bind λb=>letI g:=QJ b.2.1 V a.2.1;letI f:=(wi (a.1+1),g,a.2.2);bif b.1 !=2 then Z (.next h)else bif Option.getD (LY b.2.1 a.2.1) Y then Z (.next h)else(IT b.2.2).bind λc=>bif c.2==0 then(Wi c.1).bind λd=>bif d then bif c.1.1==b.2.1 then(app a.2.2 [c.1]).bind λe=>Z (.next (wi (a.1+1),g,e))else Z (.next f)else Z (.next f)else Z (.next f)else Z (.done a.2)
def Io(x:S Aq):T (S A7):=(Aj (Yp x) (0,[],[])).bind λa=>(Gx a.2 ()).bind λb=>bif ξ (U b) (U a.2)then Z b else W
def Pu(x:DX×Int):T Int:=Z (wi (x.1.1-x.2))
def dr(x:A7×Int):Lp (Int×Int) Int:=λa=>letI e:=(wi (Int.fdiv (ι .u64 (wi (a.1+a.2))) (2^(min (ο 1) 64))));bif a.1<a.2 then(ix x.1.2.2 e).bind λb=>(Pu (b,x.2)).bind λc=>(bif c<0 then Z (wi (e+1),a.2)else Z (a.1,e):T (Int×Int)).bind λd=>Z (.next d)else Z (.done a.1)
def Si(x:A7×Int):T (Int×Bool):=letI d:=x.1.2.2;(Aj (dr x) (0,len d)).bind λa=>bif a<len d then(ix d a).bind λb=>(Pu (b,x.2)).bind λc=>Z (a,(c==0))else Z (a,Y)
def U3(x:A7×Int):T (DX×Bool):=v? (K4 x.1) ((0,0,[]),Y)<|bif x.2<0 then Z ((0,0,[]),Y)else bif x.2>=x.1.2.1 then Z ((0,0,[]),Y)else(Si x).bind λb=>bif !b.2 then Z ((0,0,[]),Y)else(ix x.1.2.2 b.1).bind λc=>Z (c,V)
def Yo(x:S Aq×Int×Int)(a:S A7):Lp (Int×S Bk) (S Bk):=λb=>letI f:=(wi (b.1-1),b.2);bif b.1>=0 then(ix a b.1).bind λc=>(U3 (c,x.2.1)).bind λd=>letI g:=d.1.2.1;bif d.2 then bif g<=x.2.2 then(app b.2 [(g,c.1,g)]).bind λe=>Z (.next (wi (b.1-1),e))else Z (.next f)else Z (.next f)else Z (.done b.2)
def TE(x:S Aq×Int×Int):T (S Bk):=(Io x.1).bind λa=>(Aj (Yo x a) (wi (len a-1),[])).bind λb=>(Ea b ()).bind λc=>bif ξ (U c) (U b)then Z c else W
def Tk(b:Bk)(x:A7):T (Bool×Bk):=Z ((x.1==b.2.1),b)
def Ra(x:A7×Int):T (AT×Int):=(K4 x.1).bind λa=>bif !a then Z (p!,43)else(U3 x).bind λb=>bif !b.2 then Z (p!,44)else(Gg (b.1.2.2,x.2)).bind λc=>Z c
def U1(x:AI×AZ×Int×Int×Int)(a:Int)(b:Int×Int×Bool)(c:S AS×S Int):Lp (Int×S Int) (S Int):=letI j:=x.2.2.2;letI o:=if(a<j.2)then a else j.2;letI k:=(if(x.2.1.1>wi (j.1+1))then x.2.1.1 else wi (j.1+1));λd=>letI n:=(wi (d.1+1),d.2);bif d.1<len c.1 then(ix c.1 d.1).bind λe=>letI m:=if(e.2.1<j.2)then e.2.1 else j.2;letI l:=(if(e.1>wi (j.1+1))then e.1 else wi (j.1+1));bif e.2.2.1==b.1 then(ix c.2 d.1).bind λf=>bif l>m then Z (.next n)else bif k>o then(app d.2 [f]).bind λg=>Z (.next (wi (d.1+1),g))else bif l<k then(app d.2 [f]).bind λh=>Z (.next (wi (d.1+1),h))else bif m>o then(app d.2 [f]).bind λi=>Z (.next (wi (d.1+1),i))else Z (.next n)else Z (.next n)else Z (.done d.2)
def IR(x:AI×AZ×Int×Int×Int):T (S Int×Int×Int×Int):=letI i:=x.2.2.2;letI g:=(if(x.2.1.1>wi (i.1+1))then x.2.1.1 else wi (i.1+1));(HZ x).bind λa=>bif a.2 !=0 then Z ([],0,0,a.2)else(OE x.2.1).bind λb=>letI h:=if(b<i.2)then b else i.2;(Fz (x.1,x.2.2.1)).bind λc=>bif !c.2.2 then W else(HY x.1).bind λd=>(Aj (U1 x b c d) (0,[])).bind λe=>(MD e ()).bind λf=>bif ξ (U f) (U e)then bif g>h then Z (f,0,0,0)else Z (f,g,h,0)else W
def SI(a:S A7):Lp (Int×Bk) ((Int×Bk)⊕Bk):=λb=>bif b.1<len a then(ix a b.1).bind λc=>(Tk b.2 c).bind λd=>bif d.1 then Z (.done (.inl (b.1,d.2)))else Z (.next (wi (b.1+1),d.2))else Z (.done (.inr b.2))
def SH(x:S Aq×AI×AZ×Int×Int)(a:S A7)(b:S Bk):Lp (Int×AT×BU) ((Int×AT×BU)⊕(AT×BU)):=letI l:=x.2.2.2;λc=>letI m:=(wi (c.1+1),c.2);bif c.1<len b then(ix b c.1).bind λd=>(Aj (SI a) (0,d)).bind λe=>ν (λf=>(ix a f.1).bind λg=>(Ra (g,l.1)).bind λh=>bif h.2 !=0 then Z (.next m)else(J0 (h.1,x.2.1,x.2.2.1,l.2)).bind λi=>bif i.2 !=0 then Z (.next m)else(IR (x.2.1,x.2.2.1,l.1,h.1.2.1,l.2)).bind λj=>bif j.2.2.2==0 then Z (.done (.inl (0,i.1,l.1,f.2.2.1,h.1.2.1,l.2,j.1,j.2.1,j.2.2.1)))else Z (.next m)) (λk=>W) e else Z (.done (.inr c.2))
def Cc(x:S Aq×AI×AZ×Int×Int):T (AT×BU×Int):=letI m:=x.2.1;letI l:=x.2.2;letI k:=l.2;(F6 m).bind λa=>bif !a then Z (p!,(0,0,0,0,[],0,0),54)else(Ha l.1).bind λb=>bif !b then Z (p!,(0,0,0,0,[],0,0),26)else bif k.1<0 then Z (p!,(0,0,0,0,[],0,0),1)else bif k.1>=m.2.1 then Z (p!,(0,0,0,0,[],0,0),1)else bif k.2<0 then Z (p!,(0,0,0,0,[],0,0),1)else(Io x.1).bind λc=>(TE (x.1,k)).bind λd=>(Aj (SH x c d) (0,p!,0,0,0,0,[],0,0)).bind λe=>ν (λf=>Z (f.2.1,f.2.2,f.1)) (λg=>(DR k.1).bind λh=>(J0 (h,m,l.1,k.2)).bind λi=>bif i.2 !=0 then Z (p!,(0,0,0,0,[],0,0),49)else(IR (m,l.1,k.1,h.2.1,k.2)).bind λj=>bif j.2.2.2==0 then Z (i.1,(k.1,0,h.2.1,k.2,j.1,j.2.1,j.2.2.1),0)else Z (p!,(0,0,0,0,[],0,0),49)) e
end
noncomputable section
abbrev A0:Type:=Int×Int×S AE
def FG:Ty:=.prod (z? (z? (.one (.list Af))))
def F9(l:S AE)(x:Unit):T (S AE):=AAH (λe:AE=>e.1) l
def JG(x:BU):Lp (Int×Int) (Bool⊕Unit):=λa=>bif a.2<len x.2.2.2.2.1 then(ix x.2.2.2.2.1 a.2).bind λb=>bif b<=a.1 then q? else Z (.next (b,wi (a.2+1)))else w?
def JW(x:BU):T Bool:=letI h:=Aj (JG x) (0,0);letI g:=x.2.2;letI e:=g.2.2.2;letI f:=τ (e.1<=e.2);bif x.1<0 then Z Y else bif x.1>=64 then Z Y else bif x.2.1<0 then Z Y else bif x.2.1>1073741824 then Z Y else bif g.1<0 then Z Y else bif g.1>g.2.1 then Z Y else bif g.2.1>1099511627776 then Z Y else bif x.2.1==0 then bif g.1>0 then Z Y else h.bind λa=>ν Z (λb=>bif e.1==0 then bif e.2==0 then Z V else bif e.1>=1 then Z f else Z Y else bif e.1>=1 then Z f else Z Y) a else h.bind λc=>ν Z (λd=>bif e.1==0 then bif e.2==0 then Z V else bif e.1>=1 then Z f else Z Y else bif e.1>=1 then Z f else Z Y) c
def QH(x:S Aq×BU)(a:S A7):Lp (Int×AT) ((Bool×AT)⊕AT):=λb=>bif b.1<len a then(ix a b.1).bind λc=>bif c.1==x.2.2.1 then(Ra (c,x.2.1)).bind λd=>bif d.2==0 then Z (.done (.inl ((d.1.2.1==x.2.2.2.1),d.1)))else Z (.done (.inl (Y,d.1)))else Z (.next (wi (b.1+1),b.2))else Z (.done (.inr b.2))
def Hn(x:S Aq×BU):T (AT×Bool):=bif x.2.2.1==0 then(DR x.2.1).bind λa=>Z (a,V)else(Io x.1).bind λb=>(Aj (QH x b) (0,0,0,Gd.all (Y,[]))).bind λc=>ν (λd=>Z (d.2,d.1)) (λe=>Z (p!,Y)) c
def R7(x:S Int×Int):Lp Int (Int⊕Unit):=λa=>bif a<len x.1 then(ix x.1 a).bind λb=>bif x.2==b then Z (.done (.inl a))else Z (.next (wi (a+1))) else w?
def K3(x:S Int×Int):T Int:=(Aj (R7 x) 0).bind λa=>ν Z (λb=>Z (-1)) a
def UX(x:AI×AZ×BU)(a:Int×Int×Bool)(b:S AS×S Int):Lp (Int×S A0) ((S A0×Bool)⊕(S A0)):=letI l:=x.2.2.2.2.2.2.1;λc=>bif c.1<len l then(ix l c.1).bind λd=>(K3 (b.2,d)).bind λe=>letI k:=ix b.1 e;bif e<0 then Z (.done (.inl ([],Y)))else k.bind λf=>bif f.2.2.1 !=a.1 then Z (.done (.inl ([],Y)))else k.bind λg=>k.bind λh=>k.bind λi=>(app c.2 [(g.1,h.2.1,i.2.2.2.2.2)]).bind λj=>Z (.next (wi (c.1+1),j))else Z (.done (.inr c.2))
def H9(x:AI×AZ×BU):T (S A0×Bool):=letI i:=x.2.1;letI h:=x.2.2.2.2.2.2.2;(Fz (x.1,x.2.2.1)).bind λa=>bif !a.2.2 then Z ([],Y)else(HY x.1).bind λb=>(Aj (UX x a b) (0,[])).bind λc=>ν Z (λd=>bif h.1==0 then Z (d,V)else bif h.1<i.1 then Z ([],Y)else(OE i).bind λe=>bif h.2>e then Z ([],Y)else(Xf i.2.1 (wi (h.1-i.1)) (wi (wi (h.2-i.1)+1))).bind λf=>(app d [(h.1,h.2,f)]).bind λg=>Z (g,V)) c
def V4(x:S A0×BU):Lp Int (Int⊕Unit):=letI c:=x.2.2.2.1+1;λa=>bif a<len x.1 then(ix x.1 a).bind λb=>bif wi c>=b.1 then bif wi c<=b.2.1 then Z (.done (.inl a))else Z (.next (wi (a+1))) else Z (.next (wi (a+1))) else w?
def MC(x:S A0×BU)(a:Int×Bool):Lp Int (Int⊕Unit):=λb=>bif b<len x.1 then(ix x.1 b).bind λc=>bif a.1>=c.1 then bif a.1<=c.2.1 then Z (.done (.inl b))else Z (.next (wi (b+1))) else Z (.next (wi (b+1))) else w?
def V5(x:S A0×BU):Lp (Int×Bool) (Bool⊕Bool):=λa=>bif a.1<=x.2.2.2.2.1 then(Aj (MC x a) 0).bind λb=>ν (λc=>bif c>=0 then(ix x.1 c).bind λd=>Z (.next (wi (d.2.1+1),a.2))else Z (.done (.inr Y))) (λe=>Z (.done (.inr Y))) b else Z (.done (.inl a.2))
def Ho(x:S A0×BU):T Bool:=bif wi (x.2.2.2.1+1)<=x.2.2.2.2.1 then(Aj (V4 x) 0).bind λa=>ν (λb=>bif b>=0 then(ix x.1 b).bind λc=>(Aj (V5 x) (wi (c.2.1+1),Y)).bind λd=>ν (λe=>Z V) Z d else Z Y) (λf=>Z Y) a else Z V
def Gw(x:S AE×S AE):Lp Int (Bool⊕Unit):=λa=>bif a<len x.1 then(ix x.1 a).bind λb=>letI f:=b.2.2.2;letI d:=f.2.2.2;letI h:=d.1.2.2;(ix x.2 a).bind λc=>letI g:=c.2.2.2;letI e:=g.2.2.2;letI i:=e.1.2.2;bif !(b.1==c.1&&(b.2.1==c.2.1&&(b.2.2.1==c.2.2.1&&(f.1==g.1&&(f.2.1==g.2.1&&(f.2.2.1==g.2.2.1&&(d.1.1==e.1.1&&(d.1.2.1==e.1.2.1&&(h.1.1==i.1.1&&(h.1.2==i.1.2&&(h.2.1==i.2.1&&(h.2.2==i.2.2&&(d.2==e.2&&V)))))))))))))then q? else Z (.next (wi (a+1))) else w?
def Fw(x:S AE×S AE):T Bool:=bif len x.1 !=len x.2 then Z Y else(Aj (Gw x) 0).bind λa=>ν Z (λb=>Z V) a
def Gv(x:A0×BU):Lp (Int×S AE) (S AE):=λa=>letI f:=(wi (a.1+1),a.2);bif a.1<len x.1.2.2 then(ix x.1.2.2 a.1).bind λb=>(BF b).bind λc=>bif c then bif b.2.2.2.2.2.2.1.1==x.2.1 then bif b.1>x.2.2.2.1 then(bif b.1<=x.2.2.2.2.1 then(app a.2 [b]).bind λd=>Z d else Z a.2).bind λe=>Z (.next (wi (a.1+1),e))else Z (.next f)else Z (.next f)else Z (.next f)else Z (.done a.2)
def N0(x:A0×BU):T (S AE):=(Aj (Gv x) (0,[])).bind λa=>Z a
def V0(x:A0×A0×BU):Lp (Int×S AE) (S AE):=λa=>letI f:=(wi (a.1+1),a.2);bif a.1<len x.1.2.2 then(ix x.1.2.2 a.1).bind λb=>(BF b).bind λc=>bif c then bif b.2.2.2.2.2.2.1.1==x.2.2.1 then bif b.1>x.2.2.2.2.1 then(bif b.1<=x.2.2.2.2.2.1 then(app a.2 [b]).bind λd=>Z d else Z a.2).bind λe=>Z (.next (wi (a.1+1),e))else Z (.next f)else Z (.next f)else Z (.next f)else Z (.done a.2)
def JH(x:A0×A0×BU)(a:S AE):Lp Int (Int⊕Unit):=λb=>bif b<len a then(ix a b).bind λc=>(ix a b).bind λd=>bif d.1<x.2.1.1 then Z (.done (.inl b))else bif d.1>x.2.1.2.1 then Z (.done (.inl b))else Z (.next (wi (b+1))) else w?
def JI(x:A0×A0×BU):Lp (Int×Int×S AE) (Int×S AE):=λa=>letI h:=a.2.1;letI g:=(wi (a.1+1),a.2);letI f:=a.2.2;bif a.1<len f then(ix f a.1).bind λb=>(ix f a.1).bind λc=>bif c.1<x.2.1.1 then Z (.next g)else bif !(τ (c.1>x.2.1.2.1))then(ix f h).bind λd=>(ix f h).bind λe=>Z (.next (wi (a.1+1),wi (h+1),ER f h c))else Z (.next g)else Z (.done a.2)
def V1(x:A0×A0×BU):Lp (Int×S AE) (S AE):=λa=>letI f:=(wi (a.1+1),a.2);bif a.1<len x.2.1.2.2 then(ix x.2.1.2.2 a.1).bind λb=>(BF b).bind λc=>bif c then bif b.2.2.2.2.2.2.1.1==x.2.2.1 then bif b.1>x.2.2.2.2.1 then(bif b.1<=x.2.2.2.2.2.1 then(app a.2 [b]).bind λd=>Z d else Z a.2).bind λe=>Z (.next (wi (a.1+1),e))else Z (.next f)else Z (.next f)else Z (.next f)else Z (.done a.2)
def V2(x:A0×A0×BU)(a:S AE):Lp Int (Int⊕Unit):=λb=>bif b<len a then(ix a b).bind λc=>(ix a b).bind λd=>bif d.1<x.1.1 then Z (.done (.inl b))else bif d.1>x.1.2.1 then Z (.done (.inl b))else Z (.next (wi (b+1))) else w?
def V3(x:A0×A0×BU):Lp (Int×Int×S AE) (Int×S AE):=λa=>letI h:=a.2.1;letI g:=(wi (a.1+1),a.2);letI f:=a.2.2;bif a.1<len f then(ix f a.1).bind λb=>(ix f a.1).bind λc=>bif c.1<x.1.1 then Z (.next g)else bif !(τ (c.1>x.1.2.1))then(ix f h).bind λd=>(ix f h).bind λe=>Z (.next (wi (a.1+1),wi (h+1),ER f h c))else Z (.next g)else Z (.done a.2)
def Pc(x:A0×A0×BU):T Bool:=(Aj (V0 x) (0,[])).bind λa=>(((Aj (JH x a) 0).bind λb=>ν (λc=>bif c==(-1)then Z a else(Aj (JI x) (wi (c+1),c,a)).bind λd=>(vp d.2 d.1 r!).bind λe=>(Xf e 0 d.1).bind λf=>Z f) (λg=>Z a) b):T (S AE)).bind λh=>(Aj (V1 x) (0,[])).bind λi=>(((Aj (V2 x i) 0).bind λj=>ν (λk=>bif k==(-1)then Z i else(Aj (V3 x) (wi (k+1),k,i)).bind λm=>(vp m.2 m.1 r!).bind λn=>(Xf n 0 m.1).bind λo=>Z o) (λp=>Z i) j):T (S AE)).bind λq=>(Fw (h,q)).bind λr=>Z r
def VH(x:S Aq×AI×AZ×BU)(a:A0)(b:S A0):Lp (Int×AT) ((Int×AT)⊕AT):=λc=>bif c.1<len b then(ix b c.1).bind λd=>v? (Pc (d,a,x.2.2.2)) (.done (.inl (45,0,0,Gd.all (Y,[]))))<|Z (.next (wi (c.1+1),c.2))else Z (.done (.inr c.2))
def K2(x:S Aq×AI×AZ×BU)(a:S A0×Bool):Lp (Int×AT×S AE) ((Int×AT)⊕(AT×S AE)):=λb=>bif b.1<len a.1 then(ix a.1 b.1).bind λc=>(Xf a.1 0 b.1).bind λd=>(Aj (VH x c d) (0,b.2.1)).bind λe=>ν (λf=>Z (.done (.inl f))) (λg=>(N0 (c,x.2.2.2)).bind λh=>(app b.2.2 h).bind λi=>Z (.next (wi (b.1+1),g,i))) e else Z (.done (.inr b.2))
def Pb:Lp (Int×Int×S AE×Int×Int) (Int×S AE):=λa=>letI p:=a.2.1;letI n:=a.2.2;letI o:=(ο n.2.2);letI k:=(ο n.2.1);letI j:=(List.take o (List.drop k n.1));bif a.1<(len j)then(ix j a.1).bind λb=>(ix n.1 (((k:Nat):Int)+a.1)).bind λc=>letI q:=c.2.2.2;letI l:=q.2.2.2;letI s:=l.1.2.2;(ix j (wi (a.1-1))).bind λd=>(ix n.1 (((k:Nat):Int)+wi (a.1-1))).bind λe=>letI r:=e.2.2.2;letI m:=r.2.2.2;letI t:=m.1.2.2;bif !((c.1==e.1)&&((c.2.1==e.2.1)&&((c.2.2.1==e.2.2.1)&&((q.1==r.1)&&((q.2.1==r.2.1)&&((q.2.2.1==r.2.2.1)&&((l.1.1==m.1.1)&&((l.1.2.1==m.1.2.1)&&((s.1.1==t.1.1)&&((s.1.2==t.1.2)&&((s.2.1==t.2.1)&&((s.2.2==t.2.2)&&((l.2==m.2)&&V)))))))))))))then(ix j a.1).bind λf=>(ix n.1 (((k:Nat):Int)+a.1)).bind λg=>(ix n.1 p).bind λh=>(ix n.1 p).bind λi=>Z (.next (wi (a.1+1),wi (p+1),ER n.1 p g,((k:Nat):Int),((o:Nat):Int)))else Z (.next (wi (a.1+1),p,n.1,((k:Nat):Int),((o:Nat):Int)))else Z (.done (p,n.1))
def Pa:Lp (Int×S AE) ((S AE)⊕(S AE)):=λa=>letI r:=len a.2;letI q:=(ο a.1);letI l:=(ix a.2 (wi (a.1-1)));bif a.1<r then(ix a.2 a.1).bind λb=>(ix a.2 a.1).bind λc=>letI m:=c.2.2.2;letI j:=m.2.2.2;letI o:=j.1.2.2;l.bind λd=>l.bind λe=>letI n:=e.2.2.2;letI k:=n.2.2.2;letI p:=k.1.2.2;bif (c.1==e.1)&&((c.2.1==e.2.1)&&((c.2.2.1==e.2.2.1)&&((m.1==n.1)&&((m.2.1==n.2.1)&&((m.2.2.1==n.2.2.1)&&((j.1.1==k.1.1)&&((j.1.2.1==k.1.2.1)&&((o.1.1==p.1.1)&&((o.1.2==p.1.2)&&((o.2.1==p.2.1)&&((o.2.2==p.2.2)&&((j.2==k.2)&&V))))))))))))then(Xf a.2 a.1 (r)).bind λf=>(Aj (Pb) (1,a.1,a.2,((q:Nat):Int),((((ο (r))-q):Nat):Int))).bind λg=>(vp g.2 g.1 r!).bind λh=>(Xf h 0 g.1).bind λi=>Z (.done (.inl i))else Z (.next (wi (a.1+1),a.2))else Z (.done (.inr a.2))
def EZ(x:S Aq×AI×AZ×BU):T (AT×Int):=letI l:=x.2.2;(F6 x.2.1).bind λa=>bif !a then Z (p!,54)else(Ha l.1).bind λb=>bif !b then Z (p!,26)else(JW l.2).bind λc=>bif !c then Z (p!,45)else(Hn (x.1,l.2)).bind λd=>(H9 x.2).bind λe=>bif !d.2 then Z (p!,45)else bif !e.2 then Z (p!,45)else(Ho (e.1,l.2)).bind λf=>bif !f then Z (p!,45)else(Aj (K2 x e) (0,p!,[])).bind λg=>ν (λh=>Z (h.2,h.1)) (λi=>(F9 i.2 ()).bind λj=>bif ξ (U j) (U i.2)then bif len i.2<2 then(If (d.1,j)).bind λk=>Z k else(Aj (Pa) (1,j)).bind λm=>ν (λn=>(If (d.1,n)).bind λo=>Z o) (λp=>(If (d.1,p)).bind λq=>Z q) m else W) g
def Tj(x:S Aq×AI×AZ×BU×AT):T Bool:=(EZ (x.1,x.2.1,x.2.2.1,x.2.2.2.1)).bind λa=>bif a.2==0 then Z (AHJ a.1 x.2.2.2.2)else Z Y
def LW(x:S Aq×AI×AZ×Int×Int):T (BU×Int):=(Cc x).bind λa=>Z a.2
def Xp(x:S Aq×AI×AZ×Int):Lp (Int×S BU×S Int) (S BU×S Int):=λa=>bif a.1<x.2.1.2.1 then(LW (x.1,x.2.1,x.2.2.1,a.1,x.2.2.2)).bind λb=>(bif b.2==0 then(app a.2.1 [b.1]).bind λc=>Z (c,a.2.2)else(app a.2.2 [a.1]).bind λd=>Z (a.2.1,d):T (S BU×S Int)).bind λe=>Z (.next (wi (a.1+1),e))else Z (.done a.2)
def Od(x:S Aq×AI×AZ×Int):T (S BU×S Int×Int):=(F6 x.2.1).bind λa=>bif !a then Z ([],[],54)else(Ha x.2.2.1).bind λb=>bif !b then Z ([],[],26)else bif x.2.2.2<0 then Z ([],[],1)else(Aj (Xp x) (0,[],[])).bind λc=>Z (c.1,c.2,0)
end
noncomputable section
def I2(x:Unit):T Bool:=(Il (2,([0]:S Int))).bind λa=>(G6 ()).bind λb=>(LW ([],a.1,b,1,0)).bind λc=>bif c.2==0 then bif c.1.1==1 then(JW c.1).bind λd=>bif d then(G6 ()).bind λe=>(DR 1).bind λf=>(Tj ([],a.1,e,c.1,f)).bind λg=>Z g else Z Y else Z Y else Z Y
def Li(b:AV)(x:Unit):T (Int×AI×AZ×AZ×S Aq×AV):=(Fm b 25).bind λa=>letI l:=a.2.1;(PD a.2.2 (a.1,l)).bind λc=>letI m:=c.1.2;(Lk c.2 (a.1,c.1,l)).bind λd=>(Ak d.2 2).bind λe=>(bif e.1==1 then(Ak e.2 m.2.2.1).bind λf=>(Kh (l,wi (1+f.1))).bind λg=>Z (f.2,g.1)else Z (e.2,l):T (AV×AZ)).bind λh=>(Ak h.1 3).bind λi=>(bif i.1==0 then(GF i.2 m.2.1).bind λj=>Z (j.2,c.1.1,m.1,j.1,m.2.2)else Z (i.2,c.1):T (AV×AI)).bind λk=>Z (a.1,k.2,h.2,l,d.1,k.1)
end
noncomputable section
def Hm:Lp (Int×AZ) AZ:=λa=>bif a.1>0 then(Gq (a.2,0,8,0,0,0,0,(0,0,(Y,[]),Y,[]),[])).bind λb=>Z (.next (wi (a.1-1),b.1))else Z (.done a.2)
def LL(a:Int×AI×AZ×AZ×S Aq×AV)(b:AZ)(c:S (Int×Int×BZ))(d:S BU×S Int×Int):Lp Int (Bool⊕Unit):=λe=>bif e<len d.1 then(ix d.1 e).bind λf=>(EZ (a.2.2.2.2.1,a.2.1,a.2.2.1,f)).bind λg=>(ix d.1 e).bind λh=>(EZ (c,a.2.1,b,h)).bind λi=>bif g.2 !=0 then q? else bif i.2 !=0 then q? else bif !(AHJ g.1 i.1)then q? else Z (.next (wi (e+1))) else w?
def GR(x:S Int×Int):T Bool:=(I2 ()).bind λa=>bif !a then Z Y else(bif len x.1>500 then(Xf x.1 0 500).bind λb=>Z b else Z x.1).bind λc=>(Li (c,0) ()).bind λd=>letI l:=d.2.2;(El l.2.1).bind λe=>bif wi (e+1)==0 then W else(Ak l.2.2.2 4).bind λf=>(Aj (Hm) (f.1,l.1)).bind λg=>(app [] l.2.2.1).bind λh=>(Fc (50,d.1)).bind λi=>(Ii i).bind λj=>(app h [j]).bind λk=>(Od (l.2.2.1,d.2.1,l.1,Int.tmod (wi x.2) (wi (e+1)))).bind λm=>(Aj (LL d g k m) 0).bind λn=>ν Z (λo=>Z (m.2.2==0)) n
end
end Go.Pm
