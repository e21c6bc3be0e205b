/- Texts of wip, joined and shortened by wip/tools/pack.py; nothing is assumed. -/
import Derived.Test.YtimajmppopkomaaGreatK7
import Derived.KernelRfl
noncomputable section
set_option linter.all false
namespace Go.Pm
open Go Go.Ab
set_option maxRecDepth 100000
noncomputable section
abbrev Dh:Type:=Int×Int×BY
def FE:Ty:=.prod (.cons (.int .i64) (.cons (.int .i64) (.one .str)))
abbrev BN:Type:=Int×Int×(List Dh)
def Cr:Ty:=.prod (.cons (.int .i64) (.cons (.int .i64) (.one (.list FE))))
abbrev Na:Type:=BY
def Wt:Ty:=.prod (.one .str)
def Tx(x:Int×Int):Option (Int×Int):=letI d:=(BitVec.ofInt 64 4294967295);letI c:=(BitVec.toNat ((BitVec.ofInt 64 x.1)&&&d));letI b:=(BitVec.toNat ((BitVec.ofInt 64 x.2)&&&d));letI a:=(2^(min (Int.toNat 32) 64));letI f:=(Int.fdiv x.2 a);letI e:=(Int.fdiv x.1 a);some ((IntKind.wrap .u64 ((IntKind.wrap .u64 ((IntKind.wrap .u64 (e*f))+(Int.fdiv (IntKind.wrap .u64 ((IntKind.wrap .u64 (e*(IntKind.wrap .u64 ((b:Nat):Int))))+(Int.fdiv (IntKind.wrap .u64 ((IntKind.wrap .u64 ((c:Nat):Int))*(IntKind.wrap .u64 ((b:Nat):Int)))) a))) a)))+(Int.fdiv (IntKind.wrap .u64 ((IntKind.wrap .u64 (((BitVec.toNat ((BitVec.ofInt 64 (IntKind.wrap .u64 ((IntKind.wrap .u64 (e*(IntKind.wrap .u64 ((b:Nat):Int))))+(Int.fdiv (IntKind.wrap .u64 ((IntKind.wrap .u64 ((c:Nat):Int))*(IntKind.wrap .u64 ((b:Nat):Int)))) a))))&&&d)):Nat):Int))+(IntKind.wrap .u64 ((IntKind.wrap .u64 ((c:Nat):Int))*f)))) a))),(IntKind.wrap .u64 (x.1*x.2)))
def Vx(x:Int×Int):Option (Int×Int):=(Tx x).bind λa=>some a
end
noncomputable section
def WL(x:Unit):Option BY:=(Kj (([0]:List (UInt8)),256)).bind λa=>some a
def HB(x:BY×Int×Int):Option Int:=(CQ x).bind λa=>some a.1
def gf(x:BY):Lp (Int×AW×AW) ((Bool×AW)⊕ (AW×AW)):=λa=>letI j:=a.2.1.2;letI i:=(wi (12+wi (a.1*13)));bif a.1<16 then(HB (x,i,1)).bind λb=>(bif b==255 then some (.inl a.2)else bif b>12 then some (.inr (false,0,0,(Ho.all (false,[]))))else(UN x (wi (i+1)) (wi ((wi (i+1))+b))).bind λc=>(Gr j.2 a.1).bind λd=>(Gr j.2 a.1).bind λe=>some (.inl ((a.2.1.1,j.1,(Vq j.2 a.1 (true,c))),a.2.2)):Option ((AW×AW)⊕ (Bool×AW))).bind λf=>Sum.elim (λg=>some (.next (wi (a.1+1),g))) (λh=>some (.done (.inl h))) f else some (.done (.inr a.2))
def Vc(x:BY):Option (AW×Bool):=(HB (x,8,4)).bind λa=>(HB (x,0,8)).bind λb=>(Af (gf x) (0,(a,b,(Ho.all (false,[]))),0,0,(Ho.all (false,[])))).bind λc=>Sum.elim (λd=>some (d.2,d.1)) (λe=>some (e.1,true)) c
def VP(x:AW):Option Bool:=(Hz x.1).bind λa=>bif a then bif x.2.1>=0 then some (decide (x.2.1<=1099511627776))else some false else some false
def fE(x:AW):Lp Int (Bool ⊕ Unit):=λa=>letI c:=(wi (a+1));bif a<16 then(Gr x.2.2 a).bind λb=>bif len b.2>12 then some (.done (.inl false))else bif !b.1 then bif b.2 !=[]then some (.done (.inl false))else bif b.1 then bif x.2.1==0 then some (.done (.inl false))else some (.next c)else some (.next c)else bif b.1 then bif x.2.1==0 then some (.done (.inl false))else some (.next c)else some (.next c)else some (.done (.inr ()))
def Tz(x:AW):Option Bool:=(Af (fE x) 0).bind λa=>Sum.elim some (λb=>some true) a
def J7(b:Na)(x:Cg):Option Na:=(bif x.1 then some (len x.2)else some 255:Option Int).bind λa=>(OH (b,a,1)).bind λc=>(sapp c x.2).bind λd=>(Kj (([0]:List (UInt8)),(wi (12-len x.2)))).bind λe=>(sapp d e).bind λf=>some f
def bO(x:AW):Lp (Int×Na) Na:=λa=>bif a.1<16 then(Gr x.2.2 a.1).bind λb=>(J7 a.2 b).bind λc=>some (.next (wi (a.1+1),c))else some (.done a.2)
def Kc(x:AW):Option (BY×Int):=(VP x).bind λa=>bif !a then some ([],1)else(Tz x).bind λb=>bif !b then some ([],22)else(OH ([],x.2.1,8)).bind λc=>(OH (c,x.1,4)).bind λd=>(Af (bO x) (0,d)).bind λe=>(Kj (([0]:List (UInt8)),(wi (244-len e)))).bind λf=>(sapp e f).bind λg=>(OI g).bind λh=>(OH (g,(wi h),4)).bind λi=>(OH (i,x.2.1,8)).bind λj=>some (j,0)
def PP(x:BY):Option (AW×Int):=bif len x !=256 then some (p!,2)else(WL ()).bind λa=>bif x==a then some (p!,7)else(UN x 0 8).bind λb=>(UN x 248 (len x)).bind λc=>bif b !=c then some (p!,27)else(UN x 0 244).bind λd=>(HB (x,244,4)).bind λe=>(OI d).bind λf=>bif e !=wi f then some (p!,3)else(Vc x).bind λg=>(Kc g.1).bind λh=>bif !g.2 then some (p!,4)else bif h.2 !=0 then some (p!,4)else bif h.1 !=x then some (p!,4)else some (g.1,0)
def HJ(x:BY×Int):Option (AW×Int):=(Hz x.2).bind λa=>bif !a then some (p!,1)else(PP x.1).bind λb=>bif b.2==7 then(IM x.2).bind λc=>some (c,0)else bif b.2 !=0 then some (p!,b.2)else bif b.1.1 !=x.2 then some (p!,6)else some (b.1,0)
def bM(x:BN):Lp Int (Bool ⊕ Unit):=λa=>bif a<len x.2.2 then(ix x.2.2 a).bind λb=>letI f:=(HJ (b.2.2,b.1));bif b.1>=x.2.1 then some (.done (.inl false))else bif a>0 then(ix x.2.2 (wi (a-1))).bind λc=>bif c.1>=b.1 then some (.done (.inl false))else f.bind λd=>bif d.2 !=0 then some (.done (.inl false))else bif d.1.2.1 !=b.2.1 then some (.done (.inl false))else some (.next (wi (a+1)))else f.bind λe=>bif e.2 !=0 then some (.done (.inl false))else bif e.1.2.1 !=b.2.1 then some (.done (.inl false))else some (.next (wi (a+1)))else some (.done (.inr ()))
def Rj(x:BN):Option Bool:=bif x.1<1 then some false else bif x.1>1073741824 then some false else bif x.2.1<1 then some false else bif x.2.1>64 then some false else bif len x.2.2>x.2.1 then some false else(Af (bM x) 0).bind λa=>Sum.elim some (λb=>some true) a
def VO(x:BN):Option Bool:=(Rj x).bind λa=>bif a then some (len x.2.2==x.2.1)else some false
def Mc(x:AK×Ah):Option Int:=(JA x.1).bind λa=>bif !a then some 54 else(L8 x.2).bind λb=>bif !b then some 26 else some 0
def QF(x:AW×Dx):Option (AW×Int):=letI g:=x.2.2;letI f:=(Gr x.1.2.2 g.1);(Nl x.2).bind λa=>bif !a then some (p!,22)else bif x.2.1 !=x.1.1 then some (p!,6)else f.bind λb=>f.bind λc=>bif !((c.1==g.2.1.1)&&((c.2==g.2.1.2)&&true))then some (p!,20)else f.bind λd=>f.bind λe=>some ((x.1.1,x.1.2.1,(Vq x.1.2.2 g.1 g.2.2)),0)
def UD(x:AW×AD):Option (AW×Int):=letI e:=x.2.2.2.2.2;(GY x.2).bind λa=>bif !a then some (p!,12)else(BB x.2).bind λb=>bif !b then some (p!,12)else(Kc x.1).bind λc=>bif c.2 !=0 then some (p!,c.2)else bif e.2.2.1.1 !=x.1.1 then some (p!,6)else bif e.1 !=x.1.2.1 then some (p!,13)else(QF (x.1,e.2.2.1)).bind λd=>bif d.2 !=0 then some (p!,d.2)else some ((d.1.1,x.2.1,d.1.2.2),0)
def Yg(x:AW×(List AD)):Lp (Int×AW×AW) ((Int×AW)⊕ (AW×AW)):=λa=>bif a.1<len x.2 then(ix x.2 a.1).bind λb=>bif b.1<=a.2.1.2.1 then some (.next (wi (a.1+1),a.2))else(UD (a.2.1,b)).bind λc=>bif c.2 !=0 then some (.done (.inl (c.2,0,0,(Ho.all (false,[])))))else some (.next (wi (a.1+1),c.1,a.2.2))else some (.done (.inr a.2))
def UH(x:AW×(List AD)):Option (AW×Int):=(Af (Yg x) (0,x.1,0,0,(Ho.all (false,[])))).bind λa=>Sum.elim (λb=>some (b.2,b.1)) (λc=>some (c.1,0)) a
def UG(x:AW×AK×Ah×Int):Option (AW×Int):=letI e:=x.2.2;(Mc (x.2.1,e.1)).bind λa=>bif a !=0 then some (p!,a)else(Kc x.1).bind λb=>bif b.2 !=0 then some (p!,b.2)else bif x.1.2.1>e.2 then some (p!,9)else(MF (x.2.1,e.1,x.1.1,x.1.2.1,e.2)).bind λc=>bif c.2 !=0 then some (p!,c.2)else(UH (x.1,c.1)).bind λd=>some d
def Qm(x:Dh×AK×Ah×Int):Option (Dh×Int):=(HJ (x.1.2.2,x.1.1)).bind λa=>bif a.2 !=0 then some ((0,0,[]),a.2)else(UG (a.1,x.2)).bind λb=>bif b.2 !=0 then some (x.1,b.2)else bif b.1.2.1==0 then some (x.1,b.2)else(Kc b.1).bind λc=>some ((x.1.1,b.1.2.1,c.1),c.2)
def Yf(x:BN×AK×Ah×Int×Int):Lp (Int×(List Dh)×Int×Int×Int) ((Int×Int×Int)⊕ ((List Dh)×Int×Int×Int)):=λa=>bif a.1<len x.1.2.2 then(ix x.1.2.2 a.1).bind λb=>(Qm (b,x.2.1,x.2.2.1,x.2.2.2.2)).bind λc=>bif c.2 !=0 then none else(app a.2.1 ([c.1]:List (Int×Int×BY))).bind λd=>some (.next (wi (a.1+1),d,a.2.2))else some (.done (.inr a.2))
def HG(x:BN×AK×Ah×Int×Int):Option (BN×Int):=letI f:=x.2.2;(VO x.1).bind λa=>bif !a then some ((0,0,[]),43)else(Mc (x.2.1,f.1)).bind λb=>bif b !=0 then bif b !=0 then some ((0,0,[]),b)else some ((0,0,[]),b)else bif f.2.1<1 then some ((0,0,[]),1)else bif f.2.1>1073741824 then some ((0,0,[]),1)else bif f.2.2<0 then some ((0,0,[]),1)else bif f.2.2>f.1.2.2 then some ((0,0,[]),1)else(Af (Yf x) (0,[],f.2.1,x.1.2.1,b)).bind λc=>Sum.elim (λd=>bif d.2.2 !=0 then some ((0,0,[]),d.2.2)else none) (λe=>some ((e.2.1,e.2.2.1,e.1),0)) c
def S6(x:Int×Int):Lp (Int×(List Dh)×Int×Int) ((List Dh)×Int×Int):=λa=>bif a.1<x.2 then(Ij ()).bind λb=>(app a.2.1 ([(a.1,0,b)]:List (Int×Int×BY))).bind λc=>some (.next (wi (a.1+1),c,a.2.2))else some (.done a.2)
def FY(x:Int×Int):Option BN:=(Af (S6 x) (0,[],x)).bind λa=>some (a.2.1,a.2.2,a.1)
def Ii(x:Unit):Option Bool:=(FY (1,2)).bind λa=>(Gv ()).bind λb=>(KJ ([],0) (2,b)).bind λc=>(Gv ()).bind λd=>(HG (a,c.1,d,2,0)).bind λe=>bif e.2==0 then bif e.1.1==2 then some (len e.1.2.2==2)else some false else some false
def TQ(x:BN×BN):Lp Int (Bool ⊕ Unit):=λa=>bif a<len x.1.2.2 then(ix x.1.2.2 a).bind λb=>(ix x.2.2.2 a).bind λc=>bif !((b.1==c.1)&&((b.2.1==c.2.1)&&((b.2.2==c.2.2)&&true)))then some (.done (.inl false))else some (.next (wi (a+1)))else some (.done (.inr ()))
def Ja(x:BN×BN):Option Bool:=bif x.1.1 !=x.2.1 then some false else bif x.1.2.1 !=x.2.2.1 then some false else bif len x.1.2.2 !=len x.2.2.2 then some false else(Af (TQ x) 0).bind λa=>Sum.elim some (λb=>some true) a
end
noncomputable section
abbrev Hp:Type:=(List AP)×(List Int)×Ah
def OO:Ty:=.prod (.cons (.list BU) (.cons (.list (.int .i64)) (.one Bx)))
def R5(x:BN):Lp Int (Bool ⊕ Unit):=λa=>bif a<len x.2.2 then(ix x.2.2 a).bind λb=>letI f:=(CZ (b.2.2,b.1));bif b.1<0 then some (.done (.inl false))else bif b.1>=x.2.1 then some (.done (.inl false))else bif a>0 then(ix x.2.2 (wi (a-1))).bind λc=>bif c.1>=b.1 then some (.done (.inl false))else f.bind λd=>bif d.2 !=0 then some (.done (.inl false))else bif d.1.2.1 !=b.2.1 then some (.done (.inl false))else some (.next (wi (a+1)))else f.bind λe=>bif e.2 !=0 then some (.done (.inl false))else bif e.1.2.1 !=b.2.1 then some (.done (.inl false))else some (.next (wi (a+1)))else some (.done (.inr ()))
def EV(x:BN):Option Bool:=bif x.1<1 then some false else bif x.1>1073741824 then some false else bif x.2.1<1 then some false else bif x.2.1>64 then some false else(Af (R5 x) 0).bind λa=>Sum.elim some (λb=>some true) a
def RJ(x:BN):Lp (BY×Int) BY:=λa=>letI h:=(ix x.2.2 a.2);bif a.2<len x.2.2 then h.bind λb=>h.bind λc=>(Aj ([],b.1,2)).bind λd=>(sapp d c.2.2).bind λe=>(DX e).bind λf=>(sapp a.1 f).bind λg=>some (.next (g,(wi (a.2+1))))else some (.done a.1)
def IF(x:BN):Option (BY×Int):=(EV x).bind λa=>bif !a then some ([],43)else(Aj (([80,77,73,77]:List (UInt8)),x.1,4)).bind λb=>(Aj (b,x.2.1,2)).bind λc=>(Aj (c,(len x.2.2),2)).bind λd=>(DX d).bind λe=>(Af (RJ x) (e,0)).bind λf=>some (f,0)
def J8(x:BN):Option BJ:=(IF x).bind λa=>some (2,x.1,a.1)
def Iv(x:BN):Option Bool:=(EV x).bind λa=>bif a then some (len x.2.2==x.2.1)else some false
def TO(x:BN×Int):Lp (Int×Dh) ((Bool×Dh)⊕ Dh):=λa=>letI e:=(ix x.1.2.2 a.1);bif a.1<len x.1.2.2 then(EV x.1).bind λb=>bif b then e.bind λc=>bif c.1==x.2 then e.bind λd=>some (.done (.inl (true,d)))else some (.next (wi (a.1+1),a.2))else some (.done (.inr a.2))else some (.done (.inr a.2))
def Qb(x:BN×Int):Option (Dh×Bool):=(Af (TO x) (0,0,0,[])).bind λa=>Sum.elim (λb=>some (b.2,b.1)) (λc=>some ((0,0,[]),false)) a
def MY(x:BN×Int):Option (AW×Int):=(EV x.1).bind λa=>bif !a then some (p!,43)else(Qb x).bind λb=>bif !b.2 then some (p!,44)else(CZ (b.1.2.2,x.2)).bind λc=>some c
def Pb(x:AK×Ah×Int×Int×Int):Option Int:=letI c:=x.2.2;(C1 x.1).bind λa=>bif !a then some 54 else(B9 x.2.1).bind λb=>bif !b then some 26 else bif c.1<0 then some 1 else bif c.1>=x.1.2.1 then some 1 else bif c.2.1<0 then some 1 else bif c.2.1>c.2.2 then some 1 else some 0
def TJ(x:AK×Int):Lp Int Int:=λa=>bif wi (a+1)<len x.1.1 then(ix x.1.1 (wi (a+1))).bind λb=>bif b<=x.2 then some (.next (wi (a+1)))else some (.done a)else some (.done a)
def QU(x:AK×Int):Option (Int×Int×Bool):=(C1 x.1).bind λa=>bif !a then some (0,0,false)else bif x.2<0 then some (0,0,false)else bif x.2>=x.1.2.1 then some (0,0,false)else(Af (TJ x) 0).bind λb=>(E2 (x.1,b)).bind λc=>some (c.1,c.2,true)
def QV(x:AK):Option ((List AP)×(List Int)):=(F8 x).bind λa=>some (a.1,a.2.1)
def Ps(a:Int×Int×Bool)(b:(List AP)×(List Int)):Lp (Int×(List AP)×(List Int)×Ah) ((List AP)×(List Int)×Ah):=λc=>bif c.1<len b.1 then(ix b.1 c.1).bind λd=>(bif d.2.2.1==a.1 then(ix b.1 c.1).bind λe=>(ix b.2 c.1).bind λf=>(app c.2.1 ([e]:List (Int×Int×Int×Int×Int×(List (Int×Int×Int×Int×Int×Int×(Int×Int×(Bool×BY)×Bool×BY)×BY))))).bind λg=>(app c.2.2.1 ([f]:List Int)).bind λh=>some (g,h,c.2.2.2)else some c.2:Option ((List AP)×(List Int)×Ah)).bind λi=>some (.next (wi (c.1+1),i))else some (.done c.2)
def NG(x:AK×Ah×Int):Option Hp:=(QU (x.1,x.2.2)).bind λa=>(QV x.1).bind λb=>(Af (Ps a b) (0,[],[],x.2.1)).bind λc=>some c
def Iu(x:Ah×Int):Option Bool:=bif x.2>=x.1.1 then some (decide (x.2<(wi (x.1.1+len x.1.2.1))))else some false
def TN(x:Hp×Int):Lp (Int×Int) Int:=λa=>letI f:=(ix x.1.1 a.2);bif a.2<len x.1.1 then f.bind λb=>bif b.1<=x.2 then f.bind λc=>(bif x.2<=c.2.1 then f.bind λd=>some (if(d.2.1>a.1)then d.2.1 else a.1)else some a.1:Option Int).bind λe=>some (.next (e,(wi (a.2+1))))else some (.next (a.1,(wi (a.2+1))))else some (.done a.1)
def Qa(x:Hp×Int):Option Int:=letI e:=x.1.2.2;letI d:=(wi ((wi (e.1+len e.2.1))-1));(Af (TN x) (wi (x.2-1),0)).bind λa=>(Iu (e,x.2)).bind λb=>(bif b then some (if(d>a)then d else a)else some a:Option Int).bind λc=>some c
def QZ(x:Hp×Int×Int):Lp Int (Bool ⊕ Unit):=λa=>bif a<x.2.2 then(Qa (x.1,(wi (a+1)))).bind λb=>bif b==a then some (.done (.inl false))else some (.next b)else some (.done (.inr ()))
def OB(x:Hp×Int×Int):Option Bool:=(Af (QZ x) x.2.1).bind λa=>Sum.elim some (λb=>some true) a
def RD(x:AP×Int):Lp (Int×(List AD)) (List AD):=letI f:=x.1.2.2.2.2.2;λa=>bif a.1<len f then(ix f a.1).bind λb=>(bif b.2.2.2.2.2.2.1.1==x.2 then(ix f a.1).bind λc=>(app a.2 ([c]:List (Int×Int×Int×Int×Int×Int×(Int×Int×(Bool×BY)×Bool×BY)×BY))).bind λd=>some d else some a.2:Option (List AD)).bind λe=>some (.next (wi (a.1+1),e))else some (.done a.2)
def Oy(x:AP×Int):Option (List AD):=(EU x.1).bind λa=>bif !a then some []else(Af (RD x) (0,[])).bind λb=>some b
def Pr(x:(List AP)×Int×Int×Int)(a:List AD):Lp ((List AD)×Int) (List AD):=λb=>letI h:=(ix a b.2);bif b.2<len a then h.bind λc=>bif c.1>x.2.2.1 then h.bind λd=>(bif d.1<=x.2.2.2 then h.bind λe=>(DB (b.1,e)).bind λf=>some f.1 else some b.1:Option (List AD)).bind λg=>some (.next (g,(wi (b.2+1))))else some (.next (b.1,(wi (b.2+1))))else some (.done b.1)
def Pq(x:(List AP)×Int×Int×Int):Lp ((List AD)×Int) (List AD):=λa=>bif a.2<len x.1 then(ix x.1 a.2).bind λb=>(Oy (b,x.2.1)).bind λc=>(Af (Pr x c) (a.1,0)).bind λd=>some (.next (d,(wi (a.2+1))))else some (.done a.1)
def NF(x:(List AP)×Int×Int×Int):Option (List AD):=(Af (Pq x) ([],0)).bind λa=>some a
def RH(x:Ah×Int×Int×Int):Lp (Int×(List AD)) (List AD):=λa=>letI f:=(wi (a.1+1),a.2);bif a.1<len x.1.2.1 then(ix x.1.2.1 a.1).bind λb=>(BB b).bind λc=>bif c then bif b.2.2.2.2.2.2.1.1==x.2.1 then bif b.1>x.2.2.1 then(bif b.1<=x.2.2.2 then(app a.2 ([b]:List (Int×Int×Int×Int×Int×Int×(Int×Int×(Bool×BY)×Bool×BY)×BY))).bind λd=>some d else some a.2:Option (List AD)).bind λe=>some (.next (wi (a.1+1),e))else some (.next f)else some (.next f)else some (.next f)else some (.done a.2)
def O0(x:Ah×Int×Int×Int):Option (List AD):=(Af (RH x) (0,[])).bind λa=>some a
def RG(x:(List AP)×Int):Lp Int (Int ⊕ Unit):=λa=>bif a<len x.1 then(ix x.1 a).bind λb=>bif b.1<=x.2 then(ix x.1 a).bind λc=>bif x.2<=c.2.1 then some (.done (.inl a))else some (.next (wi (a+1)))else some (.next (wi (a+1)))else some (.done (.inr ()))
def Oz(x:(List AP)×Int):Option Int:=(Af (RG x) 0).bind λa=>Sum.elim some (λb=>some (-1)) a
def UA(x:(List AD)×AD):Lp Int (Bool ⊕ Unit):=letI f:=x.2.2.2;letI c:=f.2.2.2;letI e:=c.2.1.2;λa=>bif a<len x.1 then(ix x.1 a).bind λb=>letI g:=b.2.2.2;letI d:=g.2.2.2;letI h:=d.1.2.2;bif (b.1==x.2.1)&&((b.2.1==x.2.2.1)&&((b.2.2.1==f.1)&&((g.1==f.2.1)&&((g.2.1==f.2.2.1)&&((g.2.2.1==c.1)&&((d.1.1==c.2.1.1)&&((d.1.2.1==e.1)&&((h.1.1==e.2.1.1)&&((h.1.2==e.2.1.2)&&((h.2.1==e.2.2.1)&&((h.2.2==e.2.2.2)&&((d.2==c.2.2)&&true))))))))))))then some (.done (.inl true))else some (.next (wi (a+1)))else some (.done (.inr ()))
def NW(x:(List AD)×AD):Option Bool:=(Af (UA x) 0).bind λa=>Sum.elim some (λb=>some false) a
def R3(x:(List AP)×Ah×(List AD)×(List AD)):Lp ((List AD)×Int) (((List AD)×Bool)⊕ (List AD)):=λa=>letI j:=(ix x.2.2.2 a.2);bif a.2<len x.2.2.2 then j.bind λb=>(Oz (x.1,b.1)).bind λc=>bif c>=0 then j.bind λd=>(NW (x.2.2.1,d)).bind λe=>bif !e then some (.done (.inl ([],false)))else j.bind λf=>(DB (a.1,f)).bind λg=>some (.next (g.1,(wi (a.2+1))))else j.bind λh=>(DB (a.1,h)).bind λi=>some (.next (i.1,(wi (a.2+1))))else some (.done (.inr a.1))
def R4(x:(List AP)×Ah×(List AD)×(List AD)):Lp Int (((List AD)×Bool)⊕ Unit):=λa=>letI f:=(ix x.2.2.1 a);bif a<len x.2.2.1 then f.bind λb=>(Iu (x.2.1,b.1)).bind λc=>bif c then f.bind λd=>(NW (x.2.2.2,d)).bind λe=>bif !e then some (.done (.inl ([],false)))else some (.next (wi (a+1)))else some (.next (wi (a+1)))else some (.done (.inr ()))
def Pa(x:(List AP)×Ah×(List AD)×(List AD)):Option ((List AD)×Bool):=(app [] x.2.2.1).bind λa=>(Af (R3 x) (a,0)).bind λb=>Sum.elim some (λc=>(Af (R4 x) 0).bind λd=>Sum.elim some (λe=>some (c,true)) d) b
def Us(x:AK×Ah×Int×Int×Int)(a:(List AD)×Bool):Lp Int (((List AD)×Int)⊕ Unit):=λb=>letI j:=(ix a.1 (wi (b-1)));letI i:=(ix a.1 b);letI h:=(wi (b+1));bif b<len a.1 then bif b==0 then i.bind λc=>bif c.2.2.2.2.1>x.2.2.2.1 then some (.done (.inl ([],13)))else bif b>0 then i.bind λd=>j.bind λe=>bif d.2.2.2.2.1 !=e.1 then some (.done (.inl ([],13)))else some (.next h)else some (.next h)else bif b>0 then i.bind λf=>j.bind λg=>bif f.2.2.2.2.1 !=g.1 then some (.done (.inl ([],13)))else some (.next h)else some (.next h)else some (.done (.inr ()))
def Sd(x:AK×Ah×Int×Int×Int):Option ((List AD)×Int):=(Pb x).bind λa=>bif a !=0 then some ([],a)else(NG (x.1,x.2.1,x.2.2.1)).bind λb=>(OB (b,x.2.2.2)).bind λc=>bif !c then some ([],42)else(NF (b.1,x.2.2)).bind λd=>(O0 x.2).bind λe=>(Pa (b.1,x.2.1,d,e)).bind λf=>bif !f.2 then some ([],41)else(Af (Us x f) 0).bind λg=>Sum.elim some (λh=>some (f.1,0)) g
def TS(x:AW×(List AD)):Lp (Int×AW×AW) ((Int×AW)⊕ (AW×AW)):=λa=>bif a.1<len x.2 then(ix x.2 a.1).bind λb=>bif b.1<=a.2.1.2.1 then some (.next (wi (a.1+1),a.2))else(ix x.2 a.1).bind λc=>(It (a.2.1,c)).bind λd=>bif d.2 !=0 then some (.done (.inl (d.2,0,0,(Ho.all (false,[])))))else some (.next (wi (a.1+1),d.1,a.2.2))else some (.done (.inr a.2))
def Ma(x:AW×(List AD)):Option (AW×Int):=(Af (TS x) (0,x.1,0,0,(Ho.all (false,[])))).bind λa=>Sum.elim (λb=>some (b.2,b.1)) (λc=>some (c.1,0)) a
def Qd(x:AW×AK×Ah×Int):Option (AW×Int):=letI f:=x.2.2;(C1 x.2.1).bind λa=>bif !a then some (p!,54)else(B9 f.1).bind λb=>bif !b then some (p!,26)else(C9 x.1).bind λc=>bif c.2 !=0 then some (p!,c.2)else bif x.1.2.1>f.2 then some (p!,9)else(Sd (x.2.1,f.1,x.1.1,x.1.2.1,f.2)).bind λd=>bif d.2 !=0 then some (p!,d.2)else(Ma (x.1,d.1)).bind λe=>some e
def TR(x:BN×AK×Ah×Int×Int):Lp (Int×(List Dh)×Int×Int×BN) ((Int×BN)⊕ ((List Dh)×Int×Int×BN)):=λa=>bif a.1<len x.1.2.2 then(ix x.1.2.2 a.1).bind λb=>(MY (x.1,b.1)).bind λc=>(Qd (c.1,x.2.1,x.2.2.1,x.2.2.2.2)).bind λd=>bif d.2 !=0 then some (.done (.inl (d.2,0,0,[])))else(bif d.1.2.1>0 then(C9 d.1).bind λe=>some (d.1.1,d.1.2.1,e.1)else some b:Option Dh).bind λf=>(app a.2.1 ([f]:List (Int×Int×BY))).bind λg=>some (.next (wi (a.1+1),g,a.2.2))else some (.done (.inr a.2))
def MZ(x:BN×AK×Ah×Int×Int):Option (BN×Int):=letI g:=x.2.2;(Iv x.1).bind λa=>bif !a then some ((0,0,[]),43)else(C1 x.2.1).bind λb=>bif !b then some ((0,0,[]),54)else(B9 g.1).bind λc=>bif !c then some ((0,0,[]),26)else bif g.2.1<1 then some ((0,0,[]),1)else bif g.2.1>1073741824 then some ((0,0,[]),1)else bif g.2.2<0 then some ((0,0,[]),1)else bif g.2.2>g.1.2.2 then some ((0,0,[]),1)else(Af (TR x) (0,[],g.2.1,x.1.2.1,0,0,[])).bind λd=>Sum.elim (λe=>some (e.2,e.1)) (λf=>some ((f.2.1,f.2.2.1,f.1),0)) d
def Rl(x:Int×AK×Ah):Lp (Int×Int×(List BJ)×Aa×BN) ((List BJ)×Aa×BN):=λa=>letI g:=a.2.2;(Ap g.2.1 3).bind λb=>bif a.2.1<wi (2+b.1)then(Ap b.2 (wi (wi (x.2.2.2.2-a.1)+1))).bind λc=>(MZ (g.2.2,x.2.1,x.2.2,a.2.1,(wi (a.1+c.1)))).bind λd=>bif d.2 !=0 then some (.done (g.1,c.2,g.2.2))else(J8 d.1).bind λe=>(app g.1 ([e]:List (Int×Int×BY))).bind λf=>some (.next (wi (a.1+c.1),(wi (a.2.1+1)),f,c.2,d.1))else some (.done (g.1,b.2,g.2.2))
def LA(b:Aa)(x:Int×AK×Ah):Option ((List BJ)×Aa):=(FY (1,x.1)).bind λa=>(Ap b 3).bind λc=>(bif c.1>0 then(J8 a).bind λd=>some ([]++([d]:List (Int×Int×BY)))else some []:Option (List BJ)).bind λe=>(Af (Rl x) (0,2,e,c.2,a)).bind λf=>some (f.1,f.2.1)
def RI(x:BY)(a:Int):Lp (Int×Int×(List Dh)×Int×Int×BN) ((Int×BN)⊕ (Int×(List Dh)×Int×Int×BN)):=λb=>bif b.2.1<a then(BT (x,b.1)).bind λc=>bif c.2.2 !=0 then some (.done (.inl (c.2.2,0,0,[])))else bif len c.1 !=258 then some (.done (.inl (4,0,0,[])))else(UN c.1 2 (len c.1)).bind λd=>(BR (c.1,0,2)).bind λe=>(CZ (d,e)).bind λf=>(app b.2.2.1 ([(e,f.1.2.1,d)]:List (Int×Int×BY))).bind λg=>some (.next (c.2.1,(wi (b.2.1+1)),g,b.2.2.2))else some (.done (.inr (b.1,b.2.2)))
def IE(x:BY):Option (BN×Int):=(BT (x,0)).bind λa=>bif a.2.2 !=0 then some ((0,0,[]),a.2.2)else bif len a.1 !=12 then some ((0,0,[]),4)else(UN a.1 0 4).bind λb=>bif b !=([80,77,73,77]:List (UInt8))then some ((0,0,[]),4)else(BR (a.1,4,4)).bind λc=>(BR (a.1,8,2)).bind λd=>(BR (a.1,10,2)).bind λe=>bif e>64 then some ((0,0,[]),4)else(Af (RI x e) (a.2.1,0,[],c,d,0,0,[])).bind λf=>Sum.elim (λg=>some (g.2,g.1)) (λh=>letI j:=(h.2.2.1,h.2.2.2.1,h.2.1);bif h.1 !=len x then some ((0,0,[]),4)else(EV j).bind λi=>bif !i then some ((0,0,[]),43)else some (j,0)) f
def RM(x:List BJ)(a:(List BN)×Int):Lp (Bool×Int) Bool:=λb=>letI f:=(wi (b.2+1));bif b.2<a.2 then bif b.1 then(ix x b.2).bind λc=>bif c.1 !=2 then some (.next (true,f))else(ix x b.2).bind λd=>(ix x a.2).bind λe=>some (.next ((d.2.1 !=e.2.1),f))else some (.next (false,f))else some (.done b.1)
def RN(a:(List BN)×Int)(b:BN×Int):Lp Int Int:=λc=>bif c>0 then(ix a.1 (wi (c-1))).bind λd=>bif d.1>b.1.1 then some (.next (wi (c-1)))else some (.done c)else some (.done c)
def RK(x:List BJ):Lp ((List BN)×Int) (List BN):=λa=>letI o:=(ix x a.2);letI l:=(a.1,(wi (a.2+1)));bif a.2<len x then o.bind λb=>(Af (RM x a) ((b.1==2),0)).bind λc=>bif !c then some (.next l)else o.bind λd=>(IE d.2.2).bind λe=>bif e.2 !=0 then some (.next l)else(Iv e.1).bind λf=>bif !f then some (.next l)else o.bind λg=>bif e.1.1 !=g.2.1 then some (.next l)else(Af (RN a e) (len a.1)).bind λh=>(cH a.1 0 h).bind λi=>(cH a.1 h (len a.1)).bind λj=>(app [] i).bind λk=>(app k ([e.1]:List (Int×Int×(List (Int×Int×BY))))).bind λm=>(app m j).bind λn=>some (.next (n,(wi (a.2+1))))else some (.done a.1)
def UB(x:List BJ):Option (List BN):=(Af (RK x) ([],0)).bind λa=>some a
def Oe(x:List BJ):Option (List BN):=(UB x).bind λa=>some a
def Nn(a:Int×Ah×Aa)(b:AK×Aa)(c:List BN)(d:BN×Int):Lp Int (Bool ⊕ Unit):=λe=>bif e<len c then(ix c e).bind λf=>(HG (f,b.1,a.2.1,9,a.2.1.2.2)).bind λg=>bif g.2 !=0 then some (.done (.inl false))else(Ja (g.1,d.1)).bind λh=>bif !h then some (.done (.inl false))else some (.next (wi (e+1)))else some (.done (.inr ()))
def KH(x:List Int):Option Bool:=(Ii ()).bind λa=>bif !a then some false else(bif len x>500 then(cH x 0 500).bind λb=>some b else some x:Option (List Int)).bind λc=>(Kv (c,0) 25).bind λd=>letI l:=d.2.1;(KJ d.2.2 (d.1,l)).bind λe=>(LA e.2 (d.1,e.1,l)).bind λf=>(Oe f.1).bind λg=>(FY (1,d.1)).bind λh=>(HG (h,e.1,l,9,l.2.2)).bind λi=>(Af (Nn d e g i) 0).bind λj=>Sum.elim some (λk=>some (i.2==0)) j
end
def bx(c:BitVec 32):BitVec 32:=if c.getLsbD 0=true then(c>>>1)^^^2197175160#32 else c>>>1
def mL:Nat->BitVec 32->BitVec 32
 |0,c=>c
 |n+1,c=>bx (mL n c)
def u5(c:BitVec 32)(b:UInt8):BitVec 32:=mL 8 (c^^^BitVec.ofNat 32 b.toNat)
def AGi(s:BY):BitVec 32:=4294967295#32^^^s.foldl u5 4294967295#32
def U5(s:BY):Int:=((AGi s).toNat:Int)
def AAC(a b:BitVec 32):bx (a^^^b)=bx a^^^bx b:=by
 unfold bx;rw[BitVec.getLsbD_xor,BitVec.ushiftRight_xor_distrib];cases a.getLsbD 0<;>cases b.getLsbD 0<;>simp;grind;grind;have:a>>>1^^^2197175160#32^^^(b>>>1^^^2197175160#32)=(a>>>1^^^b>>>1)^^^(2197175160#32^^^2197175160#32):=by ac_rfl
 grind
theorem yY: ∀(n:Nat) (a b:BitVec 32),mL n (a^^^b)=mL n a^^^mL n b
 |0,a,b=>rfl
 |n+1,a,b=>by rw[mL,mL,mL,yY n,AAC]
def dc(s:BY):0<=U5 s/\U5 s<4294967296:=by unfold U5;omega
theorem bvI(c:BitVec 32):BitVec.ofInt 32 (c.toNat:Int)=c:=q!
theorem w32(c:BitVec 32):IntKind.wrap .u32 (c.toNat:Int)=(c.toNat:Int):=by rw[tD];omega
theorem fdN(c:BitVec 32)(k:Nat)(a:k<=32):Int.fdiv (c.toNat:Int) (2^(min (Int.toNat (k:Int)) 32))=((c>>>k).toNat:Int):=by rw[show min (Int.toNat (k:Int)) 32=k by omega,iO _ (by exact_mod_cast B8 (2^k)),BitVec.toNat_ushiftRight,Nat.shiftRight_eq_div_pow];grind
theorem fd1(c:BitVec 32):Int.fdiv (c.toNat:Int) (2^(min (Int.toNat 1) 32))=((c>>>1).toNat:Int):=by grind[fdN]
def fd4(c:BitVec 32):Int.fdiv (c.toNat:Int) (2^(min (Int.toNat 4) 32))=((c>>>4).toNat:Int):=by grind[fdN]
theorem ADD(c:BitVec 32):((IntKind.wrap .u32 (((BitVec.toNat ((BitVec.ofInt 32 (c.toNat:Int))&&&(BitVec.ofInt 32 1))):Nat):Int))==1)=c.getLsbD 0:=by grind[bvI,w32,BitVec.toNat_and,BitVec.ofInt]
def AEC(c:BitVec 32):(bif ((IntKind.wrap .u32 (((BitVec.toNat ((BitVec.ofInt 32 (c.toNat:Int))&&&(BitVec.ofInt 32 1))):Nat):Int))==1)then
     some (IntKind.wrap .u32 (((BitVec.toNat ((BitVec.ofInt 32 (Int.fdiv (c.toNat:Int) (2^(min (Int.toNat 1) 32))))^^^(BitVec.ofInt 32 2197175160))):Nat):Int))
    else
    some (Int.fdiv (c.toNat:Int) (2^(min (Int.toNat 1) 32))):Option Int)=some ((bx c).toNat:Int):=by grind[ADD,fd1,bvI,w32,bx]
def AFU(c:BitVec 32):Af H6 ((c.toNat:Int),0)=some ((mL 8 c).toNat:Int):=by
 have key:Av (Af H6 ((c.toNat:Int),0)) λr=>r=((mL 8 c).toNat:Int):=by refine AS (λ(s:Int×Int)=>0<=s.2/\s.2<=8/\s.1=((mL s.2.toNat c).toNat:Int)) (λs=>(8-s.2).toNat) ⟨Ag _,d!,rfl⟩ ?_;rintro⟨g,a⟩ ⟨e,f,b⟩;dsimp only at e f b;subst b;refine AC (λd=>?_) (λd=>AB (by rw[show a.toNat=8 by omega]));rw[AEC,AE,AZ];refine AB ⟨⟨o!,o!,?_⟩,o!⟩;rw[show(a+1).toNat=a.toNat+1 by omega];rfl
 obtain⟨r,hr,rfl⟩:=key;exact hr
def AAj(c:BitVec 32)(b:UInt8):IntKind.wrap .u32 (((BitVec.toNat ((BitVec.ofInt 32 (c.toNat:Int))^^^(BitVec.ofInt 32 (IntKind.wrap .u32 (b.toNat:Int))))):Nat):Int)=((c^^^BitVec.ofNat 32 b.toNat).toNat:Int):=by grind[IntKind.wrap,tD,bvI,w32]
def AB1{x:BY}{i:Int}(a:0<=i)(c:i<x.length): ∃b:UInt8,six x i=some (b.toNat:Int)/\x.take (i+1).toNat=x.take i.toNat++[b]:=by obtain⟨k,rfl⟩:=FF a;refine⟨x[k],?_,?_⟩;grind[six];simp_all
def tH{x:BY}(h:x.length<=2199023255552):E7 x=some (U5 x):=by
 have key:Av (Af (H4 x) (4294967295,0)) λr=>r=((x.foldl u5 4294967295#32).toNat:Int):=by refine AS (λ(s:Int×Int)=>0<=s.2/\s.2<=x.length/\s.1=(((x.take s.2.toNat).foldl u5 4294967295#32).toNat:Int)) (λs=>((x.length:Int)-s.2).toNat) ⟨Ag _,d!,rfl⟩ ?_;rintro⟨f,g⟩ ⟨c,e,d⟩;dsimp only at c e d;subst d;unfold H4;simp only[len];refine AC (λa=>?_) (λa=>AB (by rw[BS o!]));have⟨b,q1,q2⟩:=AB1 c a;rw[q1,AE,AAj,AFU,AE,AZ];refine AB ⟨⟨o!,o!,?_⟩,o!⟩;rw[q2,iV];rfl
 obtain⟨r,hr,rfl⟩:=key;unfold E7;rw[hr,AE,bvI];rw[show(BitVec.ofInt 32 (if(false=true)then(-1)else(if(false=true)then((2^(32-1))-1)else((2^32)-1))))=4294967295#32 by decide,w32];rfl
def AGn{d:BitVec 32}(b:d.getLsbD 0=false)(c:d.getLsbD 1=false)(f:d.getLsbD 2=false)(g:d.getLsbD 3=false):mL 4 d=d>>>4:=by
 have st: ∀e:BitVec 32,e.getLsbD 0=false->bx e=e>>>1:=λe a=>by unfold bx;rw[if_neg (by rw[a];decide)]
 show bx (bx (bx (bx d)))=_;grind
def AE0(c:BitVec 32):(c>>>4)^^^mL 4 (c&&&15#32)=mL 4 c:=by
 have d:c=(c&&& ~~~15#32)^^^(c&&&15#32):=by apply rY;intro i a;rw[BitVec.getLsbD_xor,BitVec.getLsbD_and,BitVec.getLsbD_and,BitVec.getLsbD_not];grind
 have e:mL 4 (c&&& ~~~15#32)=c>>>4:=by
  have z: ∀i,i<4->(c&&& ~~~15#32).getLsbD i=false:=λi a=>by
   have:i=0\/i=1\/i=2\/i=3:=o!
   grind
  rw[AGn (z 0 g!) (z 1 g!) (z 2 g!) (z 3 g!)];apply rY;intro i a;have b:(15#32).getLsbD (4+i)=false:=by show(15#32).toNat.testBit (4+i)=false;grind
  grind
 grind[yY]
def AFP(c:BitVec 32):Af K8 ((c.toNat:Int),0)=some ((mL 4 c).toNat:Int):=by
 have key:Av (Af K8 ((c.toNat:Int),0)) λr=>r=((mL 4 c).toNat:Int):=by refine AS (λ(s:Int×Int)=>0<=s.2/\s.2<=4/\s.1=((mL s.2.toNat c).toNat:Int)) (λs=>(4-s.2).toNat) ⟨Ag _,d!,rfl⟩ ?_;rintro⟨g,a⟩ ⟨e,f,b⟩;dsimp only at e f b;subst b;refine AC (λd=>?_) (λd=>AB (by rw[show a.toNat=4 by omega]));rw[AEC,AE,AZ];refine AB ⟨⟨o!,o!,?_⟩,o!⟩;rw[show(a+1).toNat=a.toNat+1 by omega];rfl
 obtain⟨r,hr,rfl⟩:=key;exact hr
def AAN(t:Fin (15+1)->(Ty.int IntKind.u32).D):Prop:= ∀j:Fin 16,t j=((mL 4 (BitVec.ofNat 32 j.val)).toNat:Int)
def AGG:Av (Ku ()) AAN:=by refine AA (P:=AAN) ?_ λr hr=>AB hr;refine AS (λ(s:Int×(Fin (15+1)->(Ty.int IntKind.u32).D))=>0<=s.1/\s.1<=16/\ ∀j:Fin 16,(j.val:Int)<s.1->s.2 j=((mL 4 (BitVec.ofNat 32 j.val)).toNat:Int)) (λs=>(16-s.1).toNat) ⟨Ag _,g!,λj b=>absurd b d!⟩ ?_;rintro⟨h,i⟩ ⟨c,g,d⟩;refine AC (λa=>?_) (λa=>AB λj=>d j (by have:=j.isLt;omega));obtain⟨k,rfl⟩:=FF c;rw[(by grind[tD,BitVec.toNat_ofNat]:IntKind.wrap .u32 (k:Int)=((BitVec.ofNat 32 k).toNat:Int)),AFP,AE];refine AA (DQ o! o!) λl e=>?_;refine AA (DQ o! o!) λm f=>AB ?_;grind[AZ,Vq]
theorem AB9{t:Fin (15+1)->(Ty.int IntKind.u32).D}(b:AAN t)(c:BitVec 32):Gr t (IntKind.wrap .u32 (((BitVec.toNat ((BitVec.ofInt 32 (c.toNat:Int))&&&(BitVec.ofInt 32 15))):Nat):Int))=some ((mL 4 (c&&&15#32)).toNat:Int):=by
 rw[bvI,show BitVec.ofInt 32 15=15#32 by decide,w32];have a:(c&&&15#32).toNat<16:=by exact Nat.lt_succ_of_le Nat.and_le_right
 unfold Gr;rw[dif_pos ⟨by omega,by omega⟩];refine congrArg some ((b ⟨(c&&&15#32).toNat,a⟩).trans ?_);grind
def AF0(c:BitVec 32):IntKind.wrap .u32 (((BitVec.toNat ((BitVec.ofInt 32 (Int.fdiv (c.toNat:Int) (2^(min (Int.toNat 4) 32))))^^^(BitVec.ofInt 32 ((mL 4 (c&&&15#32)).toNat:Int)))):Nat):Int)=((mL 4 c).toNat:Int):=by rw[fd4,bvI,bvI,AE0,w32]
def yX: ∀(m n:Nat) (c:BitVec 32),mL m (mL n c)=mL (m+n) c
 |0,n,c=>by rw[mL,EQ]
 |m+1,n,c=>by rw[mL,yX m n,Nat.succ_add];rfl
def uM{x:BY}(h:x.length<=2199023255552):OI x=some (U5 x):=by
 unfold OI;have⟨t,f,a⟩:=AGG;rw[f,AE];have key:Av (Af (Tt x t) (4294967295,0)) λr=>r=((x.foldl u5 4294967295#32).toNat:Int):=by refine AS (λ(s:Int×Int)=>0<=s.2/\s.2<=x.length/\s.1=(((x.take s.2.toNat).foldl u5 4294967295#32).toNat:Int)) (λs=>((x.length:Int)-s.2).toNat) ⟨Ag _,d!,rfl⟩ ?_;rintro⟨i,j⟩ ⟨d,g,e⟩;dsimp only at d g e;subst e;unfold Tt;simp only[len];refine AC (λc=>?_) (λc=>AB (by rw[BS o!]));have⟨b,q1,q2⟩:=AB1 d c;rw[q1,AE,AAj,AB9 a,AE,AE,AF0,AB9 a,AE,AE,AF0,AZ];refine AB ⟨⟨o!,o!,?_⟩,o!⟩;rw[q2,iV,yX];rfl
 obtain⟨r,hr,rfl⟩:=key;rw[hr,AE,bvI];rw[show(BitVec.ofInt 32 (if(false=true)then(-1)else(if(false=true)then((2^(32-1))-1)else((2^32)-1))))=4294967295#32 by decide,w32];rfl
def JS(p:BY):BY:=Df (p.length:Int) 4++(p++Df (U5 (Df (p.length:Int) 4++p)) 4)
theorem GI(p:BY):(JS p).length=p.length+8:=by grind[JS,List.length_append,A0]
theorem Z6{p:BY}(h:p.length<=8392):DX p=some (JS p):=by
 unfold DX;simp only[len];rw[decide_eq_false o!,cond_false,Hl k! g! g!,AE,Cn];have b:(Df (p.length:Int) 4++p).length=p.length+4:=by grind[List.length_append,A0]
 rw[(by grind[sapp,A0]:sapp (Df (p.length:Int) (Int.toNat 4)) p=some (Df (p.length:Int) 4++p)),AE,tH o!,AE];have a:=dc (Df (p.length:Int) 4++p);rw[AZ,Hl o! g! g!,AE,Ay];rfl
def UF(al:Nat)(t:BY):BY×Int×Int:=
 if t.length<4 then([],0,5)else
 if rd (t.take 4)>8392 then([],0,2)else
 if(t.length:Int)<rd (t.take 4)+8 then([],0,5)else
 if rd ((t.drop (4+(rd (t.take 4)).toNat)).take 4)≠U5 (t.take (4+(rd (t.take 4)).toNat))then([],0,3)else
 ((t.drop 4).take (rd (t.take 4)).toNat,(al:Int)+8+rd (t.take 4),0)
def rd4{t:BY}(h:4<=t.length):0<=rd (t.take 4)/\rd (t.take 4)<4294967296:=by
 have a:(t.take 4).length=4:=by rw[Ba];omega
 have:=(xX (l:=t.take 4) o!).1 o!;rw[a]at this;exact this
theorem SN{a t:BY}(h:(a.length:Int)+t.length<=2199023255552):BT (a++t,(a.length:Int))=some (UF a.length t):=by
 have b:len (a++t)=(a.length:Int)+t.length:=by grind[List.length_append]
 have o:((a++t).length:Int)=(a.length:Int)+t.length:=b;unfold BT UF;dsimp only;rw[decide_eq_false o!,cond_false,decide_eq_false o!,cond_false,fx h g! g!];by_cases g:t.length<4;rw[if_neg o!,if_pos g];rfl;rw[if_pos o!,if_neg g,AE,show Int.toNat 4=4 from rfl];have⟨p,u⟩:=rd4 (t:=t) o!;generalize hn:rd (t.take 4)=n at*;obtain⟨m,rfl⟩:=FF p;rw[show((0:Int) !=0)=false by decide,cond_false];by_cases d:(m:Int)>8392;rw[decide_eq_true d,cond_true,if_pos d];rw[decide_eq_false d,cond_false,if_neg d,b,AZ,AZ];by_cases i:(t.length:Int)<(m:Int)+8;rw[decide_eq_true o!,cond_true,if_pos i];rw[decide_eq_false o!,cond_false,if_neg i,Dk];have f:wi (wi ((a.length:Int)+4)+(m:Int))=((a++t.take (4+m)).length:Int):=by rw[AZ (x:=(a.length:Int)+4),AZ,Ad,Ba];omega
 have j:a++t=(a++t.take (4+m))++t.drop (4+m):=by rw[Ay,EP]
 have s:((t.drop (4+m)).length:Int)=t.length-(4+m):=by rw[GF];omega
 have c:((a++t.take (4+m)).length:Int)=a.length+4+m:=by rw[Ad,Ba];omega
 have l:As (a++t,(wi (wi ((a.length:Int)+4)+(m:Int)),4))=some (rd ((t.drop (4+m)).take 4),0):=by
  rw[f];conv=>lhs;rw[j]
  rw[fx o! g! g!,if_pos o!];rfl
 have q:UN (a++t) (a.length:Int) (wi (wi ((a.length:Int)+4)+(m:Int)))=some (t.take (4+m)):=by unfold UN;rw[f,if_pos o!,c,Dk,PM,show((a.length:Int)+4+m).toNat-a.length=4+m by omega]
 have r:UN (a++t) (wi ((a.length:Int)+4)) (wi (wi ((a.length:Int)+4)+(m:Int)))=some ((t.drop 4).take m):=by unfold UN;rw[f,AZ (x:=(a.length:Int)+4),if_pos o!,c,show((a.length:Int)+4).toNat=a.length+4 by omega,aC,aD o!,Cn,Ww,show((a.length:Int)+4+m).toNat-(a.length+4)=m by omega]
 rw[l,AE,q,AE,tH (by rw[Ba];omega),AE,r];have⟨q1,q2⟩:=rd4 (t:=t.drop (4+m)) o!;have k:IntKind.wrap .u32 (rd ((t.drop (4+m)).take 4))=rd ((t.drop (4+m)).take 4):=by rw[tD];omega
 rw[k];by_cases e:rd ((t.drop (4+m)).take 4)=U5 (t.take (4+m));rw[if_neg (by simp[e]),e,bne_self_eq_false,cond_false,AE,AZ (x:=(a.length:Int)+8),AZ];rw[if_pos e,bne_iff_ne.2 e,cond_true]
theorem ABX{x:BY}{i:Int}(a:0<=i)(h:i>x.length):CQ (x,(i,4))=some (0,5):=by grind[CQ]
theorem Yo{a t:BY}(h:(a.length:Int)+t.length<=2199023255552):Fv (a++t,(a.length:Int))=some (UF a.length t):=by
 have f:len (a++t)=(a.length:Int)+t.length:=by grind[List.length_append]
 have p:((a++t).length:Int)=(a.length:Int)+t.length:=f;unfold Fv UF;dsimp only;rw[decide_eq_false o!,cond_false,decide_eq_false o!,cond_false,Yn h g! g!];by_cases i:t.length<4;rw[if_neg o!,if_pos i];rfl;rw[if_pos o!,if_neg i,AE,show Int.toNat 4=4 from rfl];have⟨q,w⟩:=rd4 (t:=t) o!;generalize hn:rd (t.take 4)=n at*;obtain⟨m,rfl⟩:=FF q;rw[show((0:Int) !=0)=false by decide,cond_false];by_cases d:(m:Int)>8392;rw[decide_eq_true d,cond_true,if_pos d];rw[decide_eq_false d,cond_false,if_neg d];have k:wi (wi ((a.length:Int)+4)+(m:Int))=(a.length:Int)+4+m:=by grind[AZ]
 by_cases j:(t.length:Int)<(m:Int)+8;rw[if_pos j];have:CQ (a++t,(wi (wi ((a.length:Int)+4)+(m:Int)),4))=some (0,5):=by
  rw[k];by_cases v:(a.length:Int)+4+m>(a++t).length;grind[ABX];have c:(a.length:Int)+4+m=((a++t.take (4+m)).length:Int):=by grind[List.length_append,List.length_take]
  have g:a++t=(a++t.take (4+m))++t.drop (4+m):=by rw[Ay,EP]
  grind[List.length_drop,Yn]
 rw[this];rfl;rw[if_neg j,Dk];have c:wi (wi ((a.length:Int)+4)+(m:Int))=((a++t.take (4+m)).length:Int):=by grind[List.length_append,List.length_take]
 have g:a++t=(a++t.take (4+m))++t.drop (4+m):=by rw[Ay,EP]
 have u:((t.drop (4+m)).length:Int)=t.length-(4+m):=by rw[GF];omega
 have b:((a++t.take (4+m)).length:Int)=a.length+4+m:=by rw[Ad,Ba];omega
 have l:CQ (a++t,(wi (wi ((a.length:Int)+4)+(m:Int)),4))=some (rd ((t.drop (4+m)).take 4),0):=by
  rw[c];conv=>lhs;rw[g]
  rw[Yn o! g! g!,if_pos o!];rfl
 have r:UN (a++t) (a.length:Int) (wi (wi ((a.length:Int)+4)+(m:Int)))=some (t.take (4+m)):=by unfold UN;rw[c,if_pos o!,b,Dk,PM,show((a.length:Int)+4+m).toNat-a.length=4+m by omega]
 have s:UN (a++t) (wi ((a.length:Int)+4)) (wi (wi ((a.length:Int)+4)+(m:Int)))=some ((t.drop 4).take m):=by unfold UN;rw[c,AZ (x:=(a.length:Int)+4),if_pos o!,b,show((a.length:Int)+4).toNat=a.length+4 by omega,aC,aD o!,Cn,Ww,show((a.length:Int)+4+m).toNat-(a.length+4)=m by omega]
 rw[l,AE,show(((rd ((t.drop (4+m)).take 4),(0:Int)):Int×Int).2 !=0)=false from rfl,cond_false,r,AE,uM (by rw[Ba];omega),AE,s];have o:=dc (t.take (4+m));rw[AZ (x:=U5 (t.take (4+m)))];by_cases e:rd ((t.drop (4+m)).take 4)=U5 (t.take (4+m));rw[if_neg (by simp[e]),e,bne_self_eq_false,cond_false,AE,k,AZ];refine congrArg some (Dj rfl (Dj ?_ rfl));dsimp only;omega;rw[if_pos e,bne_iff_ne.2 e,cond_true]
def un{a:Nat}{t:BY}(h:(UF a t).2.2=0):(UF a t).1.length<=8392/\(∃c,t=JS (UF a t).1++c)/\(UF a t).2.1=(a:Int)+8+(UF a t).1.length:=by
 unfold UF at h⊢;by_cases j:t.length<4;rw[if_pos j]at h;exact absurd h g!;rw[if_neg j]at h⊢;obtain⟨q,r⟩:=rd4 (t:=t) o!;by_cases k:rd (t.take 4)>8392;rw[if_pos k]at h;exact absurd h g!;rw[if_neg k]at h⊢;by_cases o:(t.length:Int)<rd (t.take 4)+8;rw[if_pos o]at h;exact absurd h g!;rw[if_neg o]at h⊢;by_cases b:rd ((t.drop (4+(rd (t.take 4)).toNat)).take 4)≠U5 (t.take (4+(rd (t.take 4)).toNat));rw[if_pos b]at h;exact absurd h g!;rw[if_neg b]at h⊢;have b:=Decidable.not_not.1 b;dsimp only;have e:(t.take 4).length=4:=by rw[Ba];omega
 have g:Df (rd (t.take 4)) 4=t.take 4:=by have:=uE (l:=t.take 4) o!;rwa [e]at this
 generalize hn:rd (t.take 4)=n at*;obtain⟨m,rfl⟩:=FF q;rw[Dk]at b⊢;have i:((t.drop 4).take m).length=m:=by rw[Ba,GF];omega
 refine⟨o!,?_,o!⟩;have p:t.take (4+m)=Df (m:Int) 4++(t.drop 4).take m:=by rw[List.take_add,g]
 have f:((t.drop (4+m)).take 4).length=4:=by rw[Ba,GF];omega
 have d:Df (U5 (t.take (4+m))) 4=(t.drop (4+m)).take 4:=by rw[<-b];have:=uE (l:=(t.drop (4+m)).take 4) o!;rwa [f]at this
 refine⟨t.drop (4+m+4),?_⟩;unfold JS;rw[i,<-p,d,<-Ay,<-p];conv=>lhs;rw[<-EP (4+m) t,<-EP 4 (t.drop (4+m)),Nc]
 rw[Ay]
theorem jt{c:Nat}{p a:BY}(h:p.length<=8392):UF c (JS p++a)=(p,((c:Int)+8+p.length,0)):=by
 have d:cF 4 (p.length:Int):=⟨λ_=>⟨o!,by rw[show(256:Int)^4=4294967296 by decide];omega⟩,o!⟩
 have e:=dc (Df (p.length:Int) 4++p);have b:cF 4 (U5 (Df (p.length:Int) 4++p)):=⟨λ_=>⟨o!,by rw[show(256:Int)^4=4294967296 by decide];omega⟩,o!⟩
 unfold UF;rw[(by grind[JS,List.append_assoc,List.take_left',A0]:(JS p++a).take 4=Df (p.length:Int) 4),(nQ g! d),Dk,(by grind[JS,List.append_assoc,List.take_left',List.length_append,A0]:(JS p++a).take (4+p.length)=Df (p.length:Int) 4++p),(by grind[JS,List.append_assoc,List.drop_left',List.length_append,A0]:(JS p++a).drop (4+p.length)=Df (U5 (Df (p.length:Int) 4++p)) 4++a),(by grind[JS,List.append_assoc,List.drop_left',A0]:(JS p++a).drop 4=p++(Df (U5 (Df (p.length:Int) 4++p)) 4++a)),(by rw[Ad,(GI p)]:(JS p++a).length=p.length+8+a.length),if_neg o!,if_neg o!,if_neg o!,Gs (A0 _ _),nQ g! b,if_neg k!,Gs rfl]
set_option maxHeartbeats 400000
def CI(b:Do):Prop:=b.1.length<=1099511627776/\0<=b.2.1/\b.2.1<=b.1.length
def NJ{b:Do}{x:Int}(h:CI b)(c:0<=x/\x<=8):Av (BL b x) λr=>CI r.2/\(x<=4->0<=r.1/\r.1<4294967296):=by
 unfold BL;unfold CI at*
 repeat' first
   |with_reducible apply AL<;>intro a
   |with_reducible apply AB
   |(with_reducible refine AM ?_ (Ca ?_);intro r hr)
 all_goals exact l!
def Nr{b:Do}{x:Int}(h:CI b)(d:0<=x/\x<=4294967296):Av (Ct b x) λr=>CI r.2:=by
 unfold Ct;unfold CI at*
 repeat' first
   |with_reducible apply AC<;>intro a
   |with_reducible apply AL<;>intro a
   |with_reducible apply AB
   |(with_reducible refine AM ?_ (Ch ?_ ?_ ?_);rintro r ⟨hr,c⟩)
 all_goals exact l!
def Ve{b:Do}{x:Unit}(h:CI b):Av (Cf b x) λr=>CI r.2:=by
 unfold Cf;repeat' with_reducible first|intro a|apply AC|apply AV|apply AL|apply AJ|apply AB|(refine AM ?_ (NJ ?_ ?_);intro r hr)|(refine AM ?_ (Nr ?_ ?_);intro r hr)
 all_goals ((try dsimp[len]at*);(try first|omega|assumption|grind[CI]))
theorem Zc{x:BY}(h:x.length<=1099511627776):Av (ED x) λr=>r.2=0->Lg r.1:=by
 unfold ED;have b:CI (x,0,0):=⟨h,k!,k!⟩
 repeat' with_reducible first|intro a|apply AO|apply AL|apply AJ|apply AB|(refine AM ?_ (NJ ?_ ?_);intro r hr)|(refine AM ?_ (Ve ?_);intro r hr)|(refine AM ?_ (Nr ?_ ?_);intro r hr)|(apply AA (CM);intro r hr)
 all_goals first|omega|assumption|(exact And.left v!)|grind
def V1{x:BY×List Int}{s:BY×Int}(h:0<=s.2/\s.2<=x.2.length/\x.2.length<=16777216/\x.1.length<=1073741824/\(s.1.length:Int)<=x.1.length+8*s.2):Av (Af (Kz x) s) λr=>(r.length:Int)<=x.1.length+8*x.2.length:=by
 refine AS (λ(s:BY×Int)=>0<=s.2/\s.2<=x.2.length/\x.2.length<=16777216/\x.1.length<=1073741824/\(s.1.length:Int)<=x.1.length+8*s.2) (λ(s:BY×Int)=>((x.2.length:Int)-s.2).toNat) h (λs b=>?_);unfold Kz;repeat' with_reducible first|intro a|apply AC|apply AJ|apply AB|(refine AM ?_ (DY ?_);intro r hr)|(refine AM ?_ (AI ?_ ?_);rintro r ⟨hr,c⟩)
 all_goals exact l!
def YJ{x:BY×List Int}(h:x.2.length<=16777216/\x.1.length<=1073741824):Av (Ha x) λr=>(r.length:Int)<=x.1.length+8*x.2.length:=by
 unfold Ha;repeat' with_reducible first|apply AB|(refine AM ?_ (V1 ?_);intro r hr)
 all_goals exact l!
def WX{x:List Ak}{s:BY×Int}(h:0<=s.2/\s.2<=x.length/\Xu x/\(s.1.length:Int)<=10+40000*s.2):Av (Af (Lr x) s) λr=>(r.length:Int)<=10+40000*x.length:=by
 refine AS (λ(s:BY×Int)=>0<=s.2/\s.2<=x.length/\Xu x/\(s.1.length:Int)<=10+40000*s.2) (λ(s:BY×Int)=>((x.length:Int)-s.2).toNat) h (λs c=>?_);unfold Lr;have⟨e,f,⟨b,a⟩,g⟩:=c;repeat' with_reducible first|intro d|apply AC|apply AJ|apply AB|(refine AM ?_ (DY ?_);intro r hr)|(refine AM ?_ (YJ ?_);intro r hr)|(refine AM ?_ (AI ?_ ?_);rintro r ⟨hr,i⟩)
 all_goals try (have j:=a _ _ v!)
 all_goals try unfold VTx at*
 all_goals dsimp[len]at*
 all_goals first|omega|(refine⟨⟨?_,?_,⟨b,a⟩,?_⟩,?_⟩<;>(simp (disch:=omega) only[AZ];omega))|grind
def Ru{x:List Ak}:Av (KT x) λr=>r.1.length<=16777216:=by
 unfold KT;repeat' with_reducible first|intro a|apply AO|apply AJ|apply AB|(apply AA (Dz);intro r hr)|(refine AM ?_ (DY ?_);intro r hr)|(refine AM ?_ (WX ?_);intro r hr)
 all_goals ((try dsimp[len]at*);(try first|omega|assumption|grind[Xu]))
def CJ(b:Bu):Prop:=b.1.length<=1099511627776/\0<=b.2.1/\b.2.1<=b.1.length
def GJ{b:Bu}{x:Int}(h:CJ b)(c:0<=x/\x<=8):Av (CT b x) λr=>CJ r.2/\(x<=2->0<=r.1/\r.1<65536):=by
 unfold CT;unfold CJ at*
 repeat' first
   |with_reducible apply AJ<;>intro a
   |with_reducible apply AB
   |(with_reducible refine AM ?_ (Ca ?_);intro r hr)
 all_goals exact l!
def T4  {s:Int×List Int×Bu}(h:0<=s.1/\s.1+s.2.1.length<=65536/\CJ s.2.2):Av (Af (JC) s) λr=>CJ r.2/\r.1.length<=65536:=by
 refine AS (λ(s:Int×List Int×Bu)=>0<=s.1/\s.1+s.2.1.length<=65536/\CJ s.2.2) (λ(s:Int×List Int×Bu)=>s.1.toNat) h (λs c=>?_);unfold JC;repeat' with_reducible first|intro a|apply AC|apply AO|apply AJ|apply AB|(refine AM ?_ (GJ ?_ ?_);intro r hr)|(refine AM ?_ (Ac ?_);rintro r ⟨hr,d,b⟩)
 all_goals exact l!
def Vf{b:Bu}{x:Int}(h:CJ b)(a:0<=x/\x<=2):Av (GB b x) λr=>CJ r.2:=by
 unfold GB;repeat' with_reducible first|apply AB|(refine AM ?_ (GJ ?_ ?_);intro r hr)|(refine AM ?_ (T4 ?_);intro r hr)
 all_goals exact l!
def WW  {s:Int×List Ak×Bu}(h:0<=s.1/\s.1+s.2.1.length<=65536/\CJ s.2.2):Av (Af (Lq) s) λr=>CJ r.2/\r.1.length<=65536:=by
 refine AS (λ(s:Int×List Ak×Bu)=>0<=s.1/\s.1+s.2.1.length<=65536/\CJ s.2.2) (λ(s:Int×List Ak×Bu)=>s.1.toNat) h (λs c=>?_);unfold Lq;repeat' with_reducible first|intro a|apply AC|apply AO|apply AJ|apply AB|(refine AM ?_ (GJ ?_ ?_);intro r hr)|(refine AM ?_ (Vf ?_ ?_);intro r hr)|(refine AM ?_ (Ac ?_);rintro r ⟨hr,d,b⟩)
 all_goals exact l!
def Rt{x:BY}(h:x.length<=1099511627776):Av (KR x) λr=>r.1.length<=65536/\(r.2=0->Xu r.1):=by
 unfold KR;have b:CJ (x,0,false):=⟨h,k!,k!⟩
 repeat' with_reducible first|intro a|apply AO|apply AL|apply AJ|apply AB|(refine AM ?_ (GJ ?_ ?_);intro r hr)|(refine AM ?_ (WW ?_);intro r hr)|(apply AA (Dz);intro r hr)
 all_goals exact l!
def WV{x:Bh}{s:BY×Int}(h:0<=s.2/\s.2<=x.length/\x.length<=64/\(s.1.length:Int)<=10+24*s.2):Av (Af (Ib x) s) λr=>r.length<=2000:=by
 refine AS (λ(s:BY×Int)=>0<=s.2/\s.2<=x.length/\x.length<=64/\(s.1.length:Int)<=10+24*s.2) (λ(s:BY×Int)=>((x.length:Int)-s.2).toNat) h (λs b=>?_);unfold Ib;repeat' with_reducible first|intro a|apply AC|apply AJ|apply AB|(refine AM ?_ (DY ?_);intro r hr)|(refine AM ?_ (AI ?_ ?_);rintro r ⟨hr,c⟩)
 all_goals exact l!
def Rs{x:Bh}:Av (H9 x) λr=>r.1.length<=2000:=by
 unfold H9;repeat' with_reducible first|intro a|apply AO|apply AJ|apply AB|(apply AA (GH);intro r hr)|(refine AM ?_ (DY ?_);intro r hr)|(refine AM ?_ (WV ?_);intro r hr)
 all_goals ((try dsimp[len]at*);(try first|omega|assumption|grind[ju]))
def WU{x:BY}{a:Int×Int}{s:Int×List Dq}(h:0<=s.1/\s.1<=a.1/\a.1<=65536/\x.length<=1099511627776/\s.2.length<=s.1):Av (Af (Ia x a) s) λr=>r.length<=65536:=by
 refine AS (λ(s:Int×List Dq)=>0<=s.1/\s.1<=a.1/\a.1<=65536/\x.length<=1099511627776/\s.2.length<=s.1) (λ(s:Int×List Dq)=>(a.1-s.1).toNat) h (λs d=>?_);unfold Ia;repeat' with_reducible first|intro b|apply AC|apply AJ|apply AB|(refine AM ?_ (Ca ?_);intro r hr)|(refine AM ?_ (Ac ?_);rintro r ⟨hr,e,c⟩)
 all_goals exact l!
def Rr{x:BY}(h:x.length<=1099511627776):Av (Ek x) λr=>(r.2=0->ju r.1)/\r.1.length<=65536:=by
 unfold Ek;repeat' with_reducible first|intro a|apply AC|apply AO|apply AL|apply AJ|apply AB|(refine AM ?_ (Ca ?_);intro r hr)|(refine AM ?_ (WU ?_);intro r hr)|(apply AA (GH);intro r hr)
 all_goals exact l!
def QM{x:CN}{s:Int}(h:0<=s/\s<=x.2.2.1.length/\(x.2.2.1.length:Int)<=16777216):Av (Af (NC x) s) λr=>r≠ .inl true:=by
 refine AS (λ(s:Int)=>0<=s/\s<=x.2.2.1.length/\(x.2.2.1.length:Int)<=16777216) (λ(s:Int)=>((x.2.2.1.length:Int)-s).toNat) h (λs b=>?_);unfold NC;repeat' with_reducible first|intro a|apply AC|apply AJ|apply AB|(refine AM ?_ (AI ?_ ?_);rintro r ⟨hr,c⟩)
 all_goals exact l!
def pC(x:CN):Prop:=1<=x.1/\x.1<=64/\Xu x.2.2.1/\ju x.2.2.2.2/\x.2.2.2.2.length=x.1
def N1{x:CN}(h:x.2.2.2.1.length<=16777216):Av (G7 x) λr=>r=true->pC x:=by
 unfold G7 pC
 repeat' first
   |with_reducible apply AC<;>intro a
   |with_reducible apply AO<;>intro a
   |with_reducible apply AL<;>intro a
   |(with_reducible apply A8<;>(intro u b;try subst b))
   |with_reducible apply AB
   |(with_reducible apply AA (Dz);intro r hr)
   |(with_reducible refine AM ?_ (PG ?_);intro r hr)
   |(with_reducible apply AA (GH);intro r hr)
   |(with_reducible refine AM ?_ (QM ?_);intro r hr)
 all_goals ((try dsimp[len]at*);(try first|omega|assumption|grind[Xu]))
def Wa{x:CN}{s:BY×Int}(h:0<=s.2/\s.2<=x.2.2.2.1.length/\x.2.2.2.1.length<=16777216/\(s.1.length:Int)<=100000000+24*s.2):Av (Af (Ie x) s) λr=>r.length<=1073741824:=by
 refine AS (λ(s:BY×Int)=>0<=s.2/\s.2<=x.2.2.2.1.length/\x.2.2.2.1.length<=16777216/\(s.1.length:Int)<=100000000+24*s.2) (λ(s:BY×Int)=>((x.2.2.2.1.length:Int)-s.2).toNat) h (λs b=>?_);unfold Ie;repeat' with_reducible first|intro a|apply AC|apply AJ|apply AB|(refine AM ?_ (DY ?_);intro r hr)|(refine AM ?_ (AI ?_ ?_);rintro r ⟨hr,c⟩)
 all_goals exact l!
def Zr{x:CN}(h:x.2.2.2.1.length<=16777216):Av (Gk x) λr=>r.1.length<=2147483648:=by
 unfold Gk;repeat' with_reducible first|intro a|apply AO|apply AJ|apply AB|(refine AM ?_ (N1 ?_);intro r hr)|(apply AA (Ru);intro r hr)|(refine AM ?_ (DY ?_);intro r hr)|(refine AM ?_ (Wa ?_);intro r hr)|(apply AA (Rs);intro r hr)|(refine AM ?_ (Cp ?_);rintro r ⟨hr,b⟩)
 all_goals exact l!
def X7(c:Cg):BY:=bif c.1 then Df (c.2.length:Int) 1++c.2 else Df 255 1
def B6(e:AD):BY:=
 Df e.1 8++(Df e.2.1 1++(Df e.2.2.1 4++(Df e.2.2.2.1 8++(Df e.2.2.2.2.1 8++(Df e.2.2.2.2.2.1 8++(Df e.2.2.2.2.2.2.1.1 4++(Df e.2.2.2.2.2.2.1.2.1 1++
 (X7 e.2.2.2.2.2.2.1.2.2.1++(X7 e.2.2.2.2.2.2.1.2.2.2++(Df (e.2.2.2.2.2.2.2.length:Int) 4++e.2.2.2.2.2.2.2))))))))))
theorem pb{c:Cg}(h:Ig c):(X7 c).length<=13:=by
 unfold X7;cases c.1 with
 |true=>rw[cond_true,Ad,A0];have:=h.1;omega
 |false=>grind[A0]
def yD{s:BY}{c:Cg}(h:s.length<=1099511627776)(a:c.2.length<=8192):GO (s,c)=some (s++X7 c):=by grind[GO,X7,Bool.not_false,Hl,Bool.not_true,sapp,Df,Int.toNat,List.length_append,A0,List.append_assoc]
def Lg.cells{e:AD}(h:Lg e):Ig e.2.2.2.2.2.2.1.2.2.1/\Ig e.2.2.2.2.2.2.1.2.2.2/\e.2.2.2.2.2.2.2.length<=8192/\cF 8 e.1/\cF 1 e.2.1/\cF 4 e.2.2.1/\cF 8 e.2.2.2.1/\cF 8 e.2.2.2.2.1/\cF 8 e.2.2.2.2.2.1/\cF 4 e.2.2.2.2.2.2.1.1/\cF 1 e.2.2.2.2.2.2.1.2.1:=by
 have⟨a1,a2,a3,a4,a5,a6,a7,a8,j⟩:=h;have k: ∀n:Int,0<=n->n<=1099511627776->cF 8 n:=λn l m=>⟨n!,o!⟩
 have p: ∀n:Int,0<=n->n<=1073741824->cF 4 n:=λn l m=>⟨λ_=>by rw[show(256:Int)^4=4294967296 by decide];omega,o!⟩
 have o: ∀n:Int,0<=n->n<=255->cF 1 n:=λn l m=>⟨λ_=>by rw[show(256:Int)^1=256 by decide];omega,o!⟩
 have z:Ig (false,[]):=⟨g!,.inr rfl⟩
 refine and_assoc.1 (and_assoc.1 ⟨?_,k _ o! o!,?_⟩);rcases j with⟨k1,f,d,g,c,a⟩|⟨k1,f,d,g,c,a,i,b⟩|⟨k1,f,d,g,c,a,i,b⟩|⟨k1,f,d,g,c,a,i⟩|j;exact⟨⟨a.2.2.2.2.1,a.2.2.2.2.2⟩,by rw[d];decide⟩;exact⟨⟨b.2.2.2.2.1,b.2.2.2.2.2⟩,by rw[c];decide⟩;rw[c,a];exact⟨⟨z,z⟩,g!⟩;rw[a];exact⟨⟨z,z⟩,i⟩;have⟨k1,f,d,g,c,a,i,b⟩:=j;rw[i,b];exact⟨⟨z,z⟩,g!⟩;have q:1<=e.2.1/\e.2.1<=8/\0<=e.2.2.1/\e.2.2.1<=1073741824/\0<=e.2.2.2.2.2.2.1.1/\e.2.2.2.2.2.2.1.1<64/\0<=e.2.2.2.2.2.2.1.2.1/\e.2.2.2.2.2.2.1.2.1<16:=by rcases j with⟨k1,f,d,g,c,a⟩|⟨k1,f,d,g,c,a,i,b⟩|⟨k1,f,d,g,c,a,i,b⟩|⟨k1,f,d,g,c,a,i⟩|j;have:=a.1;have:=a.2.1;have:=a.2.2.1;have:=a.2.2.2.1;omega;have:=b.1;have:=b.2.1;have:=b.2.2.1;have:=b.2.2.2.1;omega;grind[Pg];grind[Pg];grind[Pg]
 exact⟨o _ o! o!,p _ o! o!,k _ o! o!,k _ o! o!,k _ o! o!,p _ o! o!,o _ o! o!⟩
theorem Rh{e:AD}(h:Lg e):(B6 e).length<=8392:=by have⟨a,b,c,_⟩:=h.cells;grind[pb,B6,List.length_append,A0]
theorem nW{e:AD}(h:Lg e):Fj e=some (B6 e,0):=by have⟨c,d,i,_⟩:=h.cells;have l1:=pb c;have l2:=pb d;have⟨b,f,g⟩:=CM (x:=e);have a:b=true:=g.2 h;subst a;unfold Fj;rw[f,AE,C3,cond_false];rw[Hl k! g! g!,AE,Cn];rw[Hl (by simp only[Ad,A0];simp only[Int.reduceToNat];omega) g! g!,AE];rw[Hl (by simp only[Ad,A0];simp only[Int.reduceToNat];omega) g! g!,AE];rw[Hl (by simp only[Ad,A0];simp only[Int.reduceToNat];omega) g! g!,AE];rw[Hl (by simp only[Ad,A0];simp only[Int.reduceToNat];omega) g! g!,AE];rw[Hl (by simp only[Ad,A0];simp only[Int.reduceToNat];omega) g! g!,AE];rw[Hl (by simp only[Ad,A0];simp only[Int.reduceToNat];omega) g! g!,AE];rw[Hl (by simp only[Ad,A0];simp only[Int.reduceToNat];omega) g! g!,AE];rw[yD (by simp only[Ad,A0];simp only[Int.reduceToNat];omega) (by have:=c.1;omega),AE];rw[yD (by simp only[Ad,A0];simp[Int.reduceToNat];omega) (by have:=d.1;omega),AE];rw[Hl (by simp only[Ad,A0];simp[Int.reduceToNat];omega) g! g!,AE];unfold sapp;rw[if_pos (by simp only[Ad,A0];simp[Int.reduceToNat];omega),AE];simp[Ay];rfl
def CS(x p:BY)(c:BY×Int×Int):Prop:=c.1=x/\(c.2.2=0-> ∃rest,x=p++rest/\c.2.1=p.length)
def o9{t:BY}{k:Nat}(h:k<=t.length)(a:k<=8):cF k (rd (t.take k))/\Df (rd (t.take k)) k=t.take k:=by grind[List.length_take,xX,uE]
def Z2{x p:BY}{c:BY×Int×Int}{k:Nat}(h:CS x p c)(o:x.length<=1099511627776)(q:1<=k)(m:k<=8):Av (BL c (k:Int)) λr=>CS x (p++Df r.1 k) r.2/\(r.2.2.2=0->cF k r.1)/\(c.2.2≠0->r=(0,c)):=by have⟨s,l,e⟩:=c;have⟨g,i⟩:=h;dsimp only at g i;subst g;unfold BL;refine AL (λd=>AB ⟨⟨rfl,λb=>absurd b d⟩,λb=>absurd b d,λ_=>rfl⟩) (λd=>?_);dsimp only at d;subst d;have⟨a,hr,n⟩:=i rfl;subst hr n;rw[Ad]at o;rw[fx o! o! o!];by_cases j:(k:Int)<=a.length;rw[if_pos j,AE,Dk];have⟨q1,q2⟩:=o9 (t:=a) (k:=k) o! m;rw[show((0:Int) !=0)=false by decide,cond_false];refine AB ⟨⟨rfl,λ_=>⟨a.drop k,?_,?_⟩⟩,λ_=>q1,λf=>absurd rfl f⟩;grind[List.append_assoc,List.take_append_drop];grind[AZ,List.length_append,A0];rw[if_neg j,AE];rw[show((5:Int) !=0)=true by decide,cond_true];exact AB ⟨⟨rfl,λb=>absurd (show(5:Int)=0 from b) g!⟩,λb=>absurd (show(5:Int)=0 from b) g!,λf=>absurd rfl f⟩
def ABn{x p:BY}{c:BY×Int×Int}{n:Int}(h:CS x p c)(k:x.length<=1099511627776)(hn:c.2.2=0->0<=n/\n<4294967296):Av (Ct c n) λr=>CS x (p++r.1) r.2/\(r.2.2.2=0->(r.1.length:Int)=n/\c.2.2=0):=by have⟨s,g,e⟩:=c;have⟨d,f⟩:=h;dsimp only at d f hn;subst d;unfold Ct;by_cases j:e=0;subst j;have⟨a,hr,i⟩:=f rfl;have⟨l,q⟩:=hn rfl;subst hr i;obtain⟨m,rfl⟩:=FF l;rw[Ad]at k;rw[show((0:Int) !=0)=false by decide,cond_false];simp only[len];rw[show wi (((p++a).length:Int)-(p.length:Int))=a.length by rw[Ad,AZ];omega];by_cases o:(m:Int)<=a.length;rw[decide_eq_false o!,cond_false];rw[(by grind[AZ,UN,List.length_append,List.drop_left]:UN (p++a) (wi (wi ((p.length:Int)+(m:Int))-(m:Int))) (wi ((p.length:Int)+(m:Int)))=some (a.take m)),AE];refine AB ⟨⟨rfl,λ_=>⟨a.drop m,?_,?_⟩⟩,λ_=>⟨?_,by first|rfl|trivial⟩⟩;grind[List.append_assoc,List.take_append_drop];grind[AZ,List.length_append,List.length_take];grind[List.length_take];rw[decide_eq_true o!,cond_true];exact AB ⟨⟨rfl,λb=>absurd (show(5:Int)=0 from b) g!⟩,λb=>absurd (show(5:Int)=0 from b) g!⟩;grind[AB]
theorem ABk{x p:BY}{c:BY×Int×Int}(h:CS x p c)(i:x.length<=1099511627776):Av (Cf c ()) λr=>CS x (p++X7 r.1) r.2/\(r.2.2.2=0->Ig r.1):=by unfold Cf;refine AA (Z2 (k:=1) h i (by decide) (by decide)) λv n=>?_;have⟨⟨f,j⟩,q,y⟩:=n;refine AL (λd=>AB ⟨⟨f,λb=>absurd b d⟩,λb=>absurd b d⟩) (λd=>?_);have⟨e,hr,g⟩:=j d;have m:=(q d).1 (by decide);rw[show(256:Int)^1=256 by decide]at m;refine AV (λa=>AB ⟨⟨f,λ_=>⟨e,?_,?_⟩⟩,λ_=>⟨B8 _,.inr rfl⟩⟩) (λa=>?_);dsimp only;rw[a]at hr;exact hr;dsimp only;rw[a]at g;exact g;refine AC (λ_=>AB ⟨⟨f,λb=>absurd (show(4:Int)=0 from b) (by decide)⟩,λb=>absurd (show(4:Int)=0 from b) (by decide)⟩) (λl=>?_);refine AA (ABn (x:=x) (p:=p++Df v.1 1) ⟨f,j⟩ i (λ_=>⟨by omega,by omega⟩)) λw o=>AB ?_;have⟨⟨s,z⟩,t⟩:=o;refine⟨⟨s,λb=>?_⟩,λb=>?_⟩;grind[X7,Df,List.append_assoc];dsimp only at b⊢;have⟨u,_⟩:=t b;exact⟨by dsimp only;omega,.inl rfl⟩
def Xl{x p a:BY}{n:Int}{k:Nat}(e:x=p++(Df n k++a))(d:x.length<=1099511627776)(b:1<=k)(c:k<=8)(hn:cF k n):BL (x,((p.length:Int),0)) (k:Int)=some (n,(x,(((p++Df n k).length:Int),0))):=by grind[List.length,List.length_append,A0,BL,fx,Int.toNat_natCast,List.take_left',nQ,AZ]
theorem ABm{x p w a:BY}(c:x=p++(w++a))(d:x.length<=1099511627776):Ct (x,((p.length:Int),0)) (w.length:Int)=some (w,(x,(((p++w).length:Int),0))):=by
 have b:=congrArg List.length c;simp[Ad]at b;unfold Ct;dsimp only;rw[show((0:Int) !=0)=false by decide,cond_false];simp only[len];rw[show decide ((w.length:Int)>wi ((x.length:Int)-(p.length:Int)))=false from decide_eq_false (by rw[AZ];omega),cond_false];have e:UN x (wi (wi ((p.length:Int)+(w.length:Int))-(w.length:Int))) (wi ((p.length:Int)+(w.length:Int)))=some w:=by rw[AZ (x:=(p.length:Int)+(w.length:Int)),AZ];unfold UN;rw[if_pos o!,c,show((p.length:Int)+(w.length:Int)-(w.length:Int)).toNat=p.length by omega,PM,show((p.length:Int)+(w.length:Int)).toNat-p.length=w.length by omega,Uz]
 grind[AZ,List.length_append]
def ABj{x p a:BY}{c:Cg}(e:x=p++(X7 c++a))(i:x.length<=1099511627776)(k:Ig c):Cf (x,((p.length:Int),0)) ()=some (c,(x,(((p++X7 c).length:Int),0))):=by
 have⟨b,d⟩:=c;have⟨j,f⟩:=k;dsimp only at j f;unfold Cf;cases b with
 |false=>
  have l:d=[]:=by rcases f with h|h;cases h;exact h
  subst l;rw[(rfl:X7 (false,[])=Df 255 1)]at e⊢;rw[show(1:Int)=((1:Nat):Int)from rfl,Xl e i g! g! ⟨λ_=>g!,g!,g!⟩];rfl
 |true=>have g:X7 (true,d)=Df (d.length:Int) 1++d:=rfl;rw[g,Ay]at e;rw[g];rw[show(1:Int)=((1:Nat):Int)from rfl,Xl e i g! g! ⟨λ_=>by rw[show(256:Int)^1=256 by decide];omega,o!⟩,AE];grind[ABm,List.append_assoc]
def AFM{x:BY}(a:x.length<=1099511627776):Av (ED x) λr=>r.2=0->x=B6 r.1/\Ig r.1.2.2.2.2.2.2.1.2.2.1/\Ig r.1.2.2.2.2.2.2.1.2.2.2/\cF 4 (r.1.2.2.2.2.2.2.2.length:Int)/\Ck r.1=some true:=by
 unfold ED;have I:CS x [] (x,(0,0)):=⟨rfl,λ_=>⟨x,rfl,rfl⟩⟩
 refine AA (Z2 (k:=8) I a g! g!) λO y=>?_;refine AA (Z2 (k:=1) y.1 a g! g!) λP z=>?_;refine AA (Z2 (k:=4) z.1 a g! g!) λQ A=>?_;refine AA (Z2 (k:=8) A.1 a g! g!) λR B=>?_;refine AA (Z2 (k:=8) B.1 a g! g!) λS C=>?_;refine AA (Z2 (k:=8) C.1 a g! g!) λT D=>?_;refine AA (Z2 (k:=4) D.1 a g! g!) λU E=>?_;refine AA (Z2 (k:=1) E.1 a g! g!) λV F=>?_;refine D9 (ABk F.1 a) λq M o=>?_;refine D9 (ABk o.1 a) λs w p=>?_;refine AA (Z2 (k:=4) p.1 a g! g!) λj b=>?_;refine AA (ABn (n:=j.1) b.1 a (λc=>?_)) λJ f=>?_;have:=(b.2.1 c).1 g!;rw[show(256:Int)^4=4294967296 by decide]at this;exact this;refine AL (λh=>AB λc=>absurd c h) (λh=>?_);refine AL (λ_=>AB n!) (λG=>?_);refine D9 (CM) λK i _=>?_;refine AO (λ_=>AB n!) (λH=>AB λ_=>?_);subst H;obtain⟨q11,d⟩:=f.2 h;have l:s.2.2.2=0:=Sn λe=>by have:=b.2.2 e;rw[this]at d;exact e d
 have u:=p.2 l;have L:q.2.2.2=0:=Sn λe=>by
  have:s=((false,[]),q.2):=by have:=w;unfold Cf BL at this;rw[bne_iff_ne.2 e,cond_true,AE,bne_iff_ne.2 e,cond_true]at this;injection this with this;exact this.symm
  rw[this]at l;exact e l
 have t:=o.2 L;obtain⟨g,m,N⟩:=f.1.2 h;have hr:g=[]:=by simp only[len]at G;have v:=congrArg List.length m;rw[Ad]at v;exact Eg o!
 subst hr;refine⟨?_,t,u,?_,i⟩;rw[m];unfold B6;dsimp only;rw[q11];simp only[Ay,Cn,Dr];dsimp only;rw[q11];exact b.2.1 d
def ABl{e:AD}(h:Lg e):ED (B6 e)=some (e,0):=by
 obtain⟨s,t,H,w,y,z,A,B,C,D,E⟩:=h.cells;have I:=Rh h;have g:cF 4 (e.2.2.2.2.2.2.2.length:Int):=⟨λ_=>by rw[show(256:Int)^4=4294967296 by decide];omega,o!⟩
 have a:B6 e=[]++(Df e.1 8++(Df e.2.1 1++(Df e.2.2.1 4++(Df e.2.2.2.1 8++(Df e.2.2.2.2.1 8++(Df e.2.2.2.2.2.1 8++(Df e.2.2.2.2.2.2.1.1 4++(Df e.2.2.2.2.2.2.1.2.1 1++
 (X7 e.2.2.2.2.2.2.1.2.2.1++(X7 e.2.2.2.2.2.2.1.2.2.2++(Df (e.2.2.2.2.2.2.2.length:Int) 4++(e.2.2.2.2.2.2.2++[])))))))))))):=by rw[Dr];rfl
 generalize B6 e=x at*;have i:BL (x,(((0:Int)),0)) 8=_:=Xl (p:=[]) (k:=8) a o! g! g! w;rw[Cn]at i;rw[Cn]at a;have j:=Xl (k:=1) a o! g! g! y;rw[<-Ay]at a;have l:=Xl (k:=4) a o! g! g! z;rw[<-Ay]at a;have m:=Xl (k:=8) a o! g! g! A;rw[<-Ay]at a;have n:=Xl (k:=8) a o! g! g! B;rw[<-Ay]at a;have o:=Xl (k:=8) a o! g! g! C;rw[<-Ay]at a;have q:=Xl (k:=4) a o! g! g! D;rw[<-Ay]at a;have r:=Xl (k:=1) a o! g! g! E;rw[<-Ay]at a;have F:=ABj a o! s;rw[<-Ay]at a;have G:=ABj a o! t;rw[<-Ay]at a;have c:=Xl (k:=4) a o! g! g! g;rw[<-Ay]at a;have d:=ABm a o!;rw[Dr]at a;rw[<-a]at d;unfold ED;rw[i,AE];rw[show((1:Nat):Int)=1 from rfl]at j r;rw[show((4:Nat):Int)=4 from rfl]at l q c;rw[show((8:Nat):Int)=8 from rfl]at m n o;rw[j,AE,l,AE,m,AE,n,AE,o,AE,q,AE,r,AE,F,AE,G,AE,c,AE,d,AE];obtain⟨b,u,v⟩:=CM (x:=e);have f:b=true:=v.2 h;subst f;dsimp only[len];rw[show((0:Int) !=0)=false by decide,cond_false,bne_self_eq_false,cond_false];rw[show(e.1,(e.2.1,(e.2.2.1,(e.2.2.2.1,(e.2.2.2.2.1,(e.2.2.2.2.2.1,((e.2.2.2.2.2.2.1.1,(e.2.2.2.2.2.2.1.2.1,(e.2.2.2.2.2.2.1.2.2.1,e.2.2.2.2.2.2.1.2.2.2))),e.2.2.2.2.2.2.2)))))))=e from rfl,u,AE,C3,cond_false]
def Kb(l:List AD):BY:=(l.map λe=>JS (B6 e)).flatten
theorem Ri(l:List AD)(e:AD):Kb (l++[e])=Kb l++JS (B6 e):=by unfold Kb;grind
theorem lX(e:AD)(l:List AD):Kb (e::l)=JS (B6 e)++Kb l:=rfl
def og{l:List AD}(h: ∀e∈l,Lg e):(Kb l).length<=8400*l.length:=by
 induction l with
 |nil=>exact Ai _
 |cons e r b=>have c:=b λx a=>h x (A3.2 (.inr a));have d:=Rh (h e (A3.2 (.inl rfl)));rw[lX,Ad,GI,By];omega
def zZ{x p a:BY}{at_:Int}{k:Nat}(c:x=p++a)(e:at_=p.length)(i:x.length≤1099511627776)(h:1≤k)(f:k≤8)(g:k≤a.length):
  ∃n b,As (x,(at_,(k:Int)))=some (n,0)/\CQ (x,(at_,(k:Int)))=some (n,0)/\x=(p++Df n k)++b/\cF k n/\b.length+k=a.length:=by
 have d:=congrArg List.length c;rw[Ad]at d;obtain⟨q1,q2⟩:=o9 (t:=a) g f;refine⟨rd (a.take k),a.drop k,?_,?_,?_,q1,?_⟩;rw[c,e,fx o! o! o!,if_pos o!,Dk];rw[c,e,Yn o! o! o!,if_pos o!,Dk];rw[q2,Ay,EP];exact c;rw[GF];omega
def gq{x p rest:BY}{at_ n:Int}{k:Nat}(a:x=p++(Df n k++rest))(d:at_=p.length)(f:x.length≤1099511627776)(e:1≤k)(c:k≤8)(hn:cF k n):
  As (x,(at_,(k:Int)))=some (n,0)/\CQ (x,(at_,(k:Int)))=some (n,0):=by
 have b:=congrArg List.length a;simp only[Ad,A0]at b;refine⟨?_,?_⟩;rw[a,d,fx (by rw[Ad,A0];omega) o! o!,if_pos (by rw[Ad,A0];omega),Dk,Gs (A0 _ _),nQ c hn];rw[a,d,Yn (by rw[Ad,A0];omega) o! o!,if_pos (by rw[Ad,A0];omega),Dk,Gs (A0 _ _),nQ c hn]
def YD{x:List Ao×Int×Bool×Cm}{s:Int×List Ao}(h:0<=s.1/\s.1<=x.1.length/\x.1.length<=16777216/\s.2.length<=s.1):Av (Af (Nx x) s) λr=>r.length<=x.1.length:=by
 refine AS (λ(s:Int×List Ao)=>0<=s.1/\s.1<=x.1.length/\x.1.length<=16777216/\s.2.length<=s.1) (λ(s:Int×List Ao)=>((x.1.length:Int)-s.1).toNat) h (λs b=>?_);unfold Nx;repeat' with_reducible first|apply AJ<;>intro c|(apply A2;try dsimp only)|apply BX|apply Bl|apply AB|(refine AM ?_ (AI ?_ ?_);rintro r ⟨hr,e⟩)|(refine AM ?_ (Ac ?_);rintro r ⟨hr,d,a⟩)
 all_goals exact l!
def KO{x:List Ao×Int×Bool×Cm}(h:x.1.length<=16777216):Av (GQ x) λr=>r.length<=x.1.length:=by
 unfold GQ;repeat' with_reducible first|apply AB|(refine AM ?_ (YD ?_);intro r hr)
 all_goals grind
def YA{x:A1×Int}{s:Int}(h:0<=s/\s<=x.1.1.length/\(x.1.1.length:Int)<=16777216/\0<=x.2/\x.2<x.1.2.length):Av (Af (Nt x) s) λr=>True:=by
 refine AS (λ(s:Int)=>0<=s/\s<=x.1.1.length/\(x.1.1.length:Int)<=16777216/\0<=x.2/\x.2<x.1.2.length) (λ(s:Int)=>((x.1.1.length:Int)-s).toNat) h (λs a=>?_);unfold Nt;repeat' with_reducible first|apply AJ<;>intro b|apply AB|(apply AA (GP);intro r hr)|(refine AM ?_ (AI ?_ ?_);rintro r ⟨hr,c⟩)
 all_goals exact l!
def YB{x:A1×Int}{s:Int}(h:0<=s/\s<=x.2/\(x.2:Int)<=16777216/\0<=x.2/\x.2<x.1.2.length):Av (Af (Nu x) s) λr=>True:=by
 refine AS (λ(s:Int)=>0<=s/\s<=x.2/\(x.2:Int)<=16777216/\0<=x.2/\x.2<x.1.2.length) (λ(s:Int)=>((x.2:Int)-s).toNat) h (λs a=>?_);unfold Nu;repeat' with_reducible first|apply AJ<;>intro b|apply AB|(apply AA (GP);intro r hr)|(refine AM ?_ (AI ?_ ?_);rintro r ⟨hr,c⟩)
 all_goals exact l!
def dk{x:A1×Int}(h:x.1.1.length<=4096/\x.1.2.length<=4096)(b:0<=x.2/\x.2<x.1.2.length):Av (MK x) λr=>True:=by
 unfold MK;repeat' with_reducible first|(apply A8<;>(intro u a;try subst a))|apply AB|(refine AM ?_ (YA ?_);intro r hr)|(refine AM ?_ (YB ?_);intro r hr)
 all_goals grind
def YC{x:List Ao×Ao}{s:Bool×Int×List Ao}(h:0<=s.2.1/\s.2.1<=x.1.length/\x.1.length<=4096/\s.2.2.length<=s.2.1+1/\(s.1=false->(s.2.2.length:Int)<=s.2.1)):Av (Af (Nw x) s) λr=>r.2.length<=x.1.length+1/\(r.1=false->r.2.length<=x.1.length):=by
 refine AS (λ(s:Bool×Int×List Ao)=>0<=s.2.1/\s.2.1<=x.1.length/\x.1.length<=4096/\s.2.2.length<=s.2.1+1/\(s.1=false->(s.2.2.length:Int)<=s.2.1)) (λ(s:Bool×Int×List Ao)=>((x.1.length:Int)-s.2.1).toNat) h (λs c=>?_);unfold Nw;repeat' with_reducible first|intro a|apply AC|apply AO|apply AL|(apply A2;try dsimp only)|apply BX|apply Bl|apply AB|(apply AA (T1);intro r hr)|(refine AM ?_ (AI ?_ ?_);rintro r ⟨hr,f⟩)|(refine AM ?_ (Ac ?_);rintro r ⟨hr,d,b⟩)
 all_goals try (have e:=AZ (x:=s.2.1+1))
 all_goals (first|omega|grind)
def dm{x:List Ao×Ao}(h:x.1.length<=4096):Av (ML x) λr=>r.length<=x.1.length+1:=by
 unfold ML;repeat' with_reducible first|apply AO<;>intro b|(apply A2;try dsimp only)|apply BX|apply Bl|apply AB|(refine AM ?_ (YC ?_);intro r hr)|(refine AM ?_ (Ac ?_);rintro r ⟨hr,c,a⟩)
 all_goals grind
def WQ{B:Nat}(i:B<=2000){s:Int×A1}(h:0<=s.1/\s.1<=s.2.2.length/\s.2.1.length+s.2.2.length<=B):Av (Af Q2 s) λr=>r.1.length+r.2.length<=B:=by refine AS (λs=>0<=s.1/\s.1<=s.2.2.length/\s.2.1.length+s.2.2.length<=B) (λs=>s.2.2.length*3000+((s.2.2.length:Int)-s.1).toNat) h (λs d=>?_);have⟨b,e,c⟩:=d;refine AC (λa=>?_) (λa=>AB c);simp[len]at a;refine AA (dk d! ⟨b,a⟩) λv _=>?_;refine AA (P:=λv:Int×A1=>(v=s)\/(v.1= -1/\v.2.1.length<=s.2.1.length+1/\v.2.2.length+1=s.2.2.length)) ?_ λm g=>?_;refine AJ (λ_=>?_) (λ_=>AB (.inl rfl));refine AA (AI b a) λj _=>?_;refine AA (dm d!) λk c=>?_;refine AA (B5 o! b) λl f=>?_;grind[AZ,AA,B5,Ac,AB];grind[AB,AZ]
def JK{B:Nat}{x:A1}(a:B<=2000)(h:x.1.length+x.2.length<=B):Av (Fl x) λr=>r.1.length+r.2.length<=B:=by exact AA (WQ a ⟨k!,k!,h⟩) λr hr=>AB hr
theorem GL.of{x:A1}{B:Nat}(a:B<=2000)(h:x.1.length+x.2.length<=B):GL x:=⟨by omega,by omega⟩
def GL.nil:GL (([],[]):A1):=⟨k!,k!⟩
def Lm{x:A1×Int}(h:GL x.1):Av (HY x) λr=>GL r:=by refine AA (FL h) λv d=>?_;refine AO (λ_=>AB h) (λc=>?_);have g:=d c;refine AA (KO h.1) λa e=>?_;refine AA (KO h.2) λb f=>?_;refine AA (JK (B:=1024) g! ?_) λr hr=>AB (GL.of g! hr);grind[Yu]
def Zg{x:A1×Int}(h:GL x.1):Av (Oh x) λr=>GL r:=by refine AA (FL h) λv c=>?_;refine AO (λ_=>AB h) (λa=>?_);have e:=c a;refine AA (KO h.2) λb d=>?_;refine AA (JK (B:=1024) g! ?_) λr hr=>AB (GL.of g! hr);grind[Yu]
def T0{x:A1×Int×Cm}(h:GL x.1):Av (MJ x) λr=>GL r:=by refine AA (FL h) λv c=>?_;refine AO (λ_=>AB h) (λa=>?_);have e:=c a;refine AA (KO h.1) λb d=>?_;refine AA (JK (B:=1024) g! ?_) λr hr=>AB (GL.of g! hr);grind[Yu]
def Vz{x:A1×Int}{s:Int×Ao}(h:0<=s.1/\s.1<=x.1.2.length/\x.1.2.length<=16777216):Av (Af (Kx x) s) λr=>True:=by
 refine AS (λ(s:Int×Ao)=>0<=s.1/\s.1<=x.1.2.length/\x.1.2.length<=16777216) (λ(s:Int×Ao)=>((x.1.2.length:Int)-s.1).toNat) h (λs b=>?_);unfold Kx;repeat' with_reducible first|intro a|apply AC|apply AV|apply AB|(refine AM ?_ (AI ?_ ?_);rintro r ⟨hr,c⟩)
 all_goals exact l!
def IZ{x:A1×Int}(h:GL x.1):Av (FM x) λr=>r.2=true->Yu x.1:=by
 unfold FM;repeat' with_reducible first|apply AJ<;>intro b|(apply A2;try dsimp only)|apply BX|apply Bl|apply Mn|(apply A8<;>(intro u a;try subst a))|apply AB|(refine AM ?_ (FL ?_);intro r hr)|(refine AM ?_ (Vz ?_);intro r hr)
 all_goals ((try dsimp[len]at*);(try first|omega|assumption|grind[GL]))
def XS{x:A1×Ao}{s:Int}(h:0<=s/\s<=x.1.2.length/\(x.1.2.length:Int)<=16777216/\x.1.1.length<=16777216):Av (Af (M0 x) s) λr=> ∀u,r= .inl u->0<=u/\u<=x.1.2.length:=by
 refine AS (λ(s:Int)=>0<=s/\s<=x.1.2.length/\(x.1.2.length:Int)<=16777216/\x.1.1.length<=16777216) (λ(s:Int)=>((x.1.2.length:Int)-s).toNat) h (λs a=>?_);unfold M0;repeat' with_reducible first|apply AJ<;>intro b|apply AB|(refine AM ?_ (H7 ?_);intro r hr)|(refine AM ?_ (AI ?_ ?_);rintro r ⟨hr,c⟩)
 all_goals exact l!
def bV{x:A1×Ao}(h:GL x.1):Av (Ip x) λr=>0<=r/\r<=x.1.2.length:=by
 unfold Ip;repeat' with_reducible first|apply AV<;>intro b|(apply A8<;>(intro u a;try subst a))|apply AB|(refine AM ?_ (H7 ?_);intro r hr)|(refine AM ?_ (XS ?_);intro r hr)
 all_goals ((try dsimp[len]at*);(try first|omega|assumption|grind[GL]))
def X9{x:A1×Ao}(h:GL x.1):Av (Ns x) λr=>GL r.1:=by refine AA (FL h) λv o=>?_;refine AO (λ_=>AB GL.nil) (λl=>?_);have n:=o l;unfold Yu at n;refine AA Nv λ_ _=>?_;refine AO (λ_=>AB GL.nil) (λ_=>?_);refine AA (IZ h) λz _=>?_;apply AJ<;>intro m;simp_all[AJ,AB,GL.nil];refine AJ (λ_=>AB h) (λ_=>?_);refine AA (H7 h.1) λ_ _=>?_;refine AJ (λ_=>AB h) (λ_=>?_);refine AJ (λ_=>AB GL.nil) (λ_=>?_);refine AA (bV h) λp e=>?_;refine AA (B5 o! e.1 e.2) λq j=>?_;refine AA (B5 e.1 (by simp[len];omega) i!) λs a=>?_;have f:=a.2;simp[len]at f;refine AA (Ac w!) λt b=>?_;have g:=b.2.1;simp at g;refine AA (Ac w!) λu c=>?_;have i:=c.2.1;simp at i;refine AA (Ac o!) λw k=>?_;refine AA (JK (B:=1025) g! d!) λy d=>?_;refine AA (H7 d!) λ_ _=>?_;exact AB (GL.of g! d)
def YG{x:List Int×Int}{s:Bool×Int×List Int}(h:0<=s.2.1/\s.2.1<=x.1.length/\x.1.length<=4096/\s.2.2.length<=s.2.1+1/\(s.1=false->(s.2.2.length:Int)<=s.2.1)):Av (Af (Nq x) s) λr=>r.2.length<=x.1.length+1/\(r.1=false->r.2.length<=x.1.length):=by
 refine AS (λ(s:Bool×Int×List Int)=>0<=s.2.1/\s.2.1<=x.1.length/\x.1.length<=4096/\s.2.2.length<=s.2.1+1/\(s.1=false->(s.2.2.length:Int)<=s.2.1)) (λ(s:Bool×Int×List Int)=>((x.1.length:Int)-s.2.1).toNat) h (λs b=>?_);unfold Nq;repeat' with_reducible first|intro a|apply AC|apply AO|apply AL|apply AJ|(apply A2;try dsimp only)|apply BX|apply Bl|apply AB|(refine AM ?_ (AI ?_ ?_);rintro r ⟨hr,g⟩)|(refine AM ?_ (Ac ?_);rintro r ⟨hr,f,d⟩)
 all_goals try dsimp[len]at*
 all_goals try (have e:=AZ (x:=s.2.1+1))
 all_goals try (have c:=b.2.2.2.2 v!)
 all_goals (try simp[By,Bs,Bool.true_eq_false,false_implies,and_true]at*)
 all_goals first|omega|grind
def Om{x:List Int×Int}(h:x.1.length<=4096):Av (FZ x) λr=>r.length<=x.1.length+1:=by
 unfold FZ;repeat' with_reducible first|intro a|apply AO|apply AJ|(apply A2;try dsimp only)|apply BX|apply Bl|apply AB|(refine AM ?_ (YG ?_);intro r hr)|(refine AM ?_ (Ac ?_);rintro r ⟨hr,c,b⟩)
 all_goals exact l!
def V0{x:A1}{s:List Int×Int}(h:0<=s.2/\s.2<=x.2.length/\x.2.length<=4096/\s.1.length<=s.2):Av (Af (Ky x) s) λr=>r.length<=x.2.length:=by
 refine AS (λ(s:List Int×Int)=>0<=s.2/\s.2<=x.2.length/\x.2.length<=4096/\s.1.length<=s.2) (λ(s:List Int×Int)=>((x.2.length:Int)-s.2).toNat) h (λs b=>?_);unfold Ky;repeat' with_reducible first|intro a|apply AC|apply AJ|apply AB|(refine AM ?_ (Om ?_);intro r hr)|(refine AM ?_ (AI ?_ ?_);rintro r ⟨hr,c⟩)
 all_goals exact l!
def YF{x:A1}(h:GL x):Av (Jm x) λr=>r.length<=4096:=by
 unfold Jm;repeat' with_reducible first|apply AJ<;>intro a|(apply A2;try dsimp only)|apply BX|apply Bl|apply AB|(refine AM ?_ (FL ?_);intro r hr)|(refine AM ?_ (V0 ?_);intro r hr)
 all_goals ((try dsimp[len]at*);(try first|omega|assumption|grind[AZ,Yu]))
theorem Zh{x:A1×Int}{b:Ao×Bool}{s:List Int×Int}(h:0<=s.2/\s.2<=x.1.1.length/\x.1.1.length<=1024/\s.1.length<=s.2):Av (Af (Oi x b) s) λr=>r.length<=x.1.1.length:=by
 refine AS (λ(s:List Int×Int)=>0<=s.2/\s.2<=x.1.1.length/\x.1.1.length<=1024/\s.1.length<=s.2) (λ(s:List Int×Int)=>((x.1.1.length:Int)-s.2).toNat) h (λs c=>?_);unfold Oi;repeat' with_reducible first|intro a|apply AC|apply AJ|(apply A2;try dsimp only)|apply BX|apply Bl|apply AB|(refine AM ?_ (Om ?_);intro r hr)|(apply AA (GP);intro r hr)|(refine AM ?_ (AI ?_ ?_);rintro r ⟨hr,d⟩)
 all_goals exact l!
theorem Zi{x:A1×Int}{b:Ao×Bool}{s:List Int×Int}(h:0<=s.2/\s.2<=x.1.2.length/\x.1.2.length<=1024/\s.1.length<=s.2+1024):Av (Af (Oj x b) s) λr=>r.length<=4096:=by
 refine AS (λ(s:List Int×Int)=>0<=s.2/\s.2<=x.1.2.length/\x.1.2.length<=1024/\s.1.length<=s.2+1024) (λ(s:List Int×Int)=>((x.1.2.length:Int)-s.2).toNat) h (λs c=>?_);unfold Oj;repeat' with_reducible first|intro a|apply AC|apply AL|apply AJ|(apply A2;try dsimp only)|apply BX|apply Bl|apply AB|(refine AM ?_ (Om ?_);intro r hr)|(apply AA (GP);intro r hr)|(refine AM ?_ (AI ?_ ?_);rintro r ⟨hr,d⟩)
 all_goals exact l!
def LJ{x:A1×Int}(h:GL x.1):Av (IN x) λr=>r.length<=4096:=by unfold IN;refine AA (IZ h) λc b=>?_;refine AO (λ_=>AB k!) (λa=>?_);grind[Yu,AA,Zh,Zi,AB]
theorem Pn{x:A1×List Int×Int}{a:List Int}{s:Int}(h:0<=s/\s<=a.length/\(a.length:Int)<=16777216/\1<=x.2.1.length/\x.2.1.length<=4096):Av (Af (Ln x a) s) λr=> ∀u,r= .inl u->u=x.2.1:=by
 refine AS (λ(s:Int)=>0<=s/\s<=a.length/\(a.length:Int)<=16777216/\1<=x.2.1.length/\x.2.1.length<=4096) (λ(s:Int)=>((a.length:Int)-s).toNat) h (λs c=>?_);unfold Ln;repeat' with_reducible first|intro b|apply AC|apply AV|apply AJ|apply AB|(refine AM ?_ (AI ?_ ?_);rintro r ⟨hr,d⟩)
 all_goals exact l!
def WS{x:A1×List Int×Int}{b:Int}{s:Bool×Int}(h:0<=s.2/\s.2<=x.2.1.length/\x.2.1.length<=4096):Av (Af (Lo x b) s) λr=>True:=by
 refine AS (λ(s:Bool×Int)=>0<=s.2/\s.2<=x.2.1.length/\x.2.1.length<=4096) (λ(s:Bool×Int)=>((x.2.1.length:Int)-s.2).toNat) h (λs c=>?_);unfold Lo;repeat' with_reducible first|intro a|apply AC|apply AV|apply AJ|apply AB|(refine AM ?_ (AI ?_ ?_);rintro r ⟨hr,d⟩)
 all_goals exact l!
def ACf(d:Nat){x:A1×List Int×Int}(h:GL x.1)(o:1<=x.2.1.length)(A:(x.2.1.length:Int)+d=x.2.2)(p:x.2.2<=4096):Av (jQ Ep (d+1) x) λr=>r.length<=4096:=by
 induction d generalizing x with
 |zero=>show Av (Ep _ x) _;unfold Ep;have e:=AZ (x:=(x.2.1.length:Int)-1);refine AA (AI (by simp[len];rw[e];omega) (by simp[len];rw[e];omega)) λv _=>?_;refine AA (LJ h) λm f=>?_;refine AV (λ_=>?_) (λc=>absurd (by simp[len];omega) c);refine AA (Pn ⟨k!,k!,o!,o,o!⟩) λr hr=>?_;exact A8 (λu a=>AB (by rw[hr u a];omega)) (λ_ _=>AB k!)
 |succ d t=>show Av (Ep _ x) _;unfold Ep;have e:=AZ (x:=(x.2.1.length:Int)-1);refine AA (AI (by simp[len];rw[e];omega) (by simp[len];rw[e];omega)) λv _=>?_;refine AA (LJ h) λm f=>?_;refine AV (λ_=>?_) (λ_=>?_);grind[AA,Pn,A8,AB];refine AA (P:=λr=> ∀u,r= .inl u->u.length<=4096) ?_ λr hr=>A8 (λu a=>AB (hr u a)) (λ_ _=>AB k!);refine AS (λ(s:Int)=>0<=s/\s<=m.length) (λ(s:Int)=>((m.length:Int)-s).toNat) (s:=(0:Int)) ⟨g!,o!⟩ (λs q=>?_);unfold Q3;have b:=AZ (x:=s+1);refine AC (λc=>?_) (λ_=>AB (λu a=>by cases a));simp[len]at c;refine AA (AI q.1 c) λB _=>?_;refine AA (WS ⟨k!,k!,o!⟩) λw _=>?_;refine AJ (λ_=>AB ⟨by rw[b];omega,by rw[b];omega⟩) (λ_=>?_);refine AA (Ac w!) λy g=>?_;have k:=g.2.1;simp[Bs]at k;refine AA (Ac w!) λn i=>?_;have l:=i.2.1;simp[By,Bs]at l;refine AA (t (x:=(x.1,n,x.2.2)) h d! d! p) λz j=>?_;exact AC (λ_=>AB λu a=>by cases a;exact j) (λ_=>AB ⟨by rw[b];omega,by rw[b];omega⟩)
def Zj{x:A1×List Int×Int}(h:GL x.1)(a:1<=x.2.1.length)(d:(x.2.1.length:Int)<=x.2.2)(b:x.2.2<=4096):Av (Ol x) λr=>True:=by have⟨r,hr,_⟩:=ACf (x.2.2-x.2.1.length).toNat h a o! b;have⟨s,c⟩:=kM hr;exact⟨s,c,trivial⟩
def bW{x:A1×Int}(h:GL x.1):Av (LH x) λr=>True:=by unfold LH;refine AA (P:=λ_=>True) ?_ λr _=>A8 (λ_ _=>AB trivial) (λ_ _=>AB trivial);refine AS (λs=>1<=s/\s<=4097) (λs=>(4097-s).toNat) ⟨g!,g!⟩ (λs d=>?_);unfold Rp;have a:=AZ (x:=s+1);refine AA (YF h) λe c=>?_;refine AC (λb=>?_) (λ_=>AB trivial);simp[len]at b;refine AA (Zj h k! (by show(1:Int)<=s;omega) (by show s<=4096;omega)) λf _=>?_;exact AC (λ_=>AB trivial) (λ_=>AB ⟨by rw[a];omega,by rw[a];omega⟩)
def TP(l:List Ak):Nat:=(l.map λt=>t.2.2.2.2.1.length+1).sum
theorem AEZ{l:List Ak}{i:Nat}{o n:Ak}(h:l[i]? =some o):TP (l.set i n)+o.2.2.2.2.1.length=TP l+n.2.2.2.2.1.length:=by
 induction l generalizing i with
 |nil=>simp at h
 |cons t r a=>
  cases i with
  |zero=>simp at h;subst h;simp[TP];omega
  |succ i=>have:=a (i:=i) (by simpa using h);simp[TP,List.set_cons_succ,Bo,Uy]at*;omega
def rV{l:List Ak}{id:Int}:TP (l.filter λt=>t.1 !=id)<=TP l:=by
 induction l with
 |nil=>simp
 |cons t r a=>simp[U0];split;simp[TP,Bo,Uy]at*;omega;simp[TP,Bo,Uy]at*;omega
def tJ{l:List Ak}{id:Int}{i:Nat}{t:Ak}(h:l[i]? =some t)(a:t.1=id):TP (l.filter λt=>t.1 !=id)<TP l:=by
 induction l generalizing i with
 |nil=>simp at h
 |cons u r b=>
  have q:=rV (l:=r) (id:=id);cases i with
  |zero=>simp at h;subst h;simp[U0,a,bne_self_eq_false,Kf,if_false];simp[TP,Bo,Uy]at*;omega
  |succ i=>have:=b (i:=i) (by simpa using h);simp[U0];split<;>(simp[TP,Bo,Uy]at*;omega)
def XV{x:List Ak×Int}{s:Int×List Ak}(h:0<=s.1/\s.1<=x.1.length/\x.1.length<=64/\s.2.length=s.1):Av (Af (M4 x) s) λr=>r.length<=x.1.length:=by
 refine AS (λ(s:Int×List Ak)=>0<=s.1/\s.1<=x.1.length/\x.1.length<=64/\s.2.length=s.1) (λ(s:Int×List Ak)=>((x.1.length:Int)-s.1).toNat) h (λs c=>?_);unfold M4;repeat' with_reducible first|intro a|apply AC|apply AJ|apply AB|(refine AM ?_ (AI ?_ ?_);rintro r ⟨hr,e⟩)|(refine AM ?_ (Ac ?_);rintro r ⟨hr,d,b⟩)
 all_goals exact l!
def TC{x:List Ak×Int}:Av (Ir x) λr=>r.2=0->r.1.length=x.1.length+1/\r.1.length<=64:=by
 unfold Ir;repeat' with_reducible first|intro a|apply AC|apply AO|apply AV|apply AJ|apply AB|(apply AA (Dz);intro r hr)|(refine AM ?_ (IB ?_);intro r hr)|(refine AM ?_ (XV ?_);intro r hr)|(refine AM ?_ (Ac ?_);rintro r ⟨hr,b,c⟩)|(refine AM ?_ (B5 ?_ ?_ ?_);rintro r ⟨hr,b⟩)
 all_goals ((try dsimp[len]at*);(try first|omega|assumption|grind[AZ,Xu]))
def z0(l:List Ak)(id:Int):List Ak:=l.filter λt=>t.1 !=id
theorem mD(l:List Ak)(id:Int):(z0 l id).length<=l.length:=IL _ _
theorem ADZ(l:List Ak)(id:Int):TP (z0 l id)<=TP l:=rV
theorem ADa{l:List Ak}{id:Int}{i:Nat}{t:Ak}(h:l[i]? =some t)(a:t.1=id):TP (z0 l id)<TP l:=tJ h a
def bE{a:Type}{l:List a}{n:Int}{p:a->Bool}{x:a}(b:0<=n)(c:l[n.toNat]? =some x):(l.take (n+1).toNat).filter p=(l.take n.toNat).filter p++(if p x=true then [x]else []):=by
 have e:(n+1).toNat=n.toNat+1:=o!
 grind[List.take_add_one,Option.toList_some]
def gV{a:Type}{l:List a}{n:Int}{p:a->Bool}(b:0<=n):(((l.take n.toNat).filter p).length:Int)<=n:=by grind[List.length_filter_le,List.length_take]
def WY{x:List Ak×Int}{s:Int×List Ak}(h:0<=s.1/\s.1<=x.1.length/\x.1.length<=16777216/\s.2=(x.1.take s.1.toNat).filter (λt=>t.1 !=x.2)):Av (Af (Ls x) s) λr=>r=x.1.filter λt=>t.1 !=x.2:=by
 refine AS (λ(s:Int×List Ak)=>0<=s.1/\s.1<=x.1.length/\x.1.length<=16777216/\s.2=(x.1.take s.1.toNat).filter (λt=>t.1 !=x.2)) (λ(s:Int×List Ak)=>((x.1.length:Int)-s.1).toNat) h (λs f=>?_);unfold Ls;have⟨b,i,e,c⟩:=f;have a:=gV (l:=x.1) (p:=λt:Ak=>t.1 !=x.2) b;rw[<-c]at a;repeat' with_reducible first|intro d|apply AC|apply AL|apply AJ|(apply A2;try dsimp only)|apply BX|apply Bl|apply AB|(refine AM ?_ (AI ?_ ?_);rintro r ⟨hr,k⟩)|(refine AM ?_ (Ac ?_);rintro r ⟨hr,j,g⟩)
 all_goals dsimp[len]at*
 all_goals first|omega|(rw[(AZ (x:=s.1+1))];refine⟨⟨o!,o!,e,?_⟩,o!⟩;rw[bE b v!];grind)|(rw[c,BS o!])|(simp;omega)
def JM{x:List Ak×Int}(h:x.1.length<=16777216):Av (Gj x) λr=>r=z0 x.1 x.2:=by
 unfold Gj z0
 repeat' first
   |with_reducible apply AJ<;>intro a
   |(with_reducible apply A2;try dsimp only)
   |with_reducible apply BX
   |with_reducible apply Bl
   |with_reducible apply AB
   |(with_reducible refine AM ?_ (WY ?_);intro r hr)
 all_goals exact l!
def M6{x:Ak}(h:x.2.2.2.2.1.length<=16777216):Av (IC x) λr=>r.1=x.1/\r.2.2.2.2=x.2.2.2.2:=by
 unfold IC;repeat' with_reducible first|intro a|apply AC|apply AV|apply AJ|(apply A2;try dsimp only)|apply BX|apply Bl|apply AB|(refine AM ?_ (AI ?_ ?_);rintro r ⟨hr,b⟩)
 all_goals exact l!
def LN{x:List Ak×Int×Ak}(h:x.1.length<=16777216)(a:0<=x.2.1/\x.2.1<x.1.length):Av (IQ x) λr=>r=x.1.set x.2.1.toNat x.2.2:=by unfold IQ;refine AA (Ac (by simpa using h)) λr hr=>?_;have⟨hr,b,_⟩:=hr;rw[Cn]at hr;subst hr;refine AA (AI a.1 a.2) λ_ _=>?_;refine AA (AI a.1 a.2) λ_ _=>?_;exact AB rfl
def Q5{x:List Ak×AD}{a:Ak}{s:Int×List Int}(h:0<=s.1/\s.1<=a.2.2.2.2.1.length/\a.2.2.2.2.1.length<=4096/\s.2.length<=s.1):Av (Af (N0 x a) s) λr=>r.length<=a.2.2.2.2.1.length:=by
 refine AS (λ(s:Int×List Int)=>0<=s.1/\s.1<=a.2.2.2.2.1.length/\a.2.2.2.2.1.length<=4096/\s.2.length<=s.1) (λ(s:Int×List Int)=>((a.2.2.2.2.1.length:Int)-s.1).toNat) h (λs d=>?_);unfold N0;repeat' with_reducible first|intro b|apply AC|apply AL|apply AJ|(apply A2;try dsimp only)|apply BX|apply Bl|apply AB|(refine AM ?_ (AI ?_ ?_);rintro r ⟨hr,f⟩)|(refine AM ?_ (Ac ?_);rintro r ⟨hr,e,c⟩)
 all_goals exact l!
def fy(l:List Ak)(id:Int):Prop:= ∃(j:Nat) (t:Ak),l[j]? =some t/\t.1=id
theorem fy.set{l:List Ak}{i:Nat}{n:Ak}{id:Int}(h:i<l.length)(hn:n.1=id):fy (l.set i n) id:=⟨i,n,by rw[IK h],hn⟩
def xr(l:List Ak)(kind tx:Int)(m:List Ak):Prop:=m.length<=l.length/\(tx=0->m=l)/\(tx≠0->kind≠1->(kind≠4->TP m<TP l)/\TP m<=TP l)/\(tx≠0->kind=4->fy m tx)
def dr{x:List Ak×AD}:Av (GR x) λr=>r.2=0->xr x.1 x.2.2.1 x.2.2.2.1 r.1:=by
 unfold GR;repeat' with_reducible first|intro a|apply AC|apply AO|apply AV|apply AL|apply AJ|(apply A2;try dsimp only)|apply BX|apply Bl|apply Mn|(apply BK;try dsimp only)|(apply A5;try dsimp only)|(apply A8<;>(intro u c;try subst c))|apply AB|(apply AA (Dz);intro r hr)|(apply AA (CM);intro r hr)|(refine AM ?_ (IB ?_);intro r hr)|(refine AM ?_ (Q5 ?_);intro r hr)|(refine AM ?_ (JM ?_);intro r hr)|(refine AM ?_ (M6 ?_);intro r hr)|(refine AM ?_ (LN ?_ ?_);intro r hr)|(refine AM ?_ (AI ?_ ?_);rintro r ⟨hr,f⟩)|(refine AM ?_ (Ac ?_);rintro r ⟨hr,e,b⟩)
 all_goals dsimp[len]at*
 all_goals first|omega|(intro d;exact absurd d g!)|(unfold Xu VTx at*;(first|omega|grind[xr,AEZ,ADa,ADZ,mD,List.length_set,fy.set]))
variable {B:Int->Prop}
def Rv{x:List Ak×Int}:Av (IA x) λr=>r.2=0->Xu x.1/\0<=r.1/\r.1<x.1.length:=by
 unfold IA;repeat' with_reducible first|intro a|apply AC|apply AO|apply AL|apply AJ|apply AB|(apply AA (Dz);intro r hr)|(refine AM ?_ (IB ?_);intro r hr)|(refine AM ?_ (AI ?_ ?_);rintro r ⟨hr,b⟩)
 all_goals ((try dsimp[len]at*);(try first|omega|assumption|grind[AZ,Xu]))
def dt{x:List Ak×Int}:Av (MO x) λr=>r.2=0->r.1.length<=64:=by
 unfold MO;repeat' with_reducible first|intro a|apply AV|apply AL|apply AJ|apply AB|(apply AA (Rv);intro r hr)|(refine AM ?_ (LN ?_ ?_);intro r hr)|(refine AM ?_ (AI ?_ ?_);rintro r ⟨hr,e⟩)|(refine AM ?_ (Ac ?_);rintro r ⟨hr,d,b⟩)
 all_goals try dsimp[len]at*
 all_goals first|omega|(intro c;exact absurd c v!)|grind[Xu,VTx,List.length_set]
def dp{x:List Ak×Int×Int}:Av (MN x) λr=>r.2=0->r.1.length<=64:=by
 unfold MN;repeat' with_reducible first|intro a|apply AC|apply AL|apply AJ|apply AB|(apply AA (Rv);intro r hr)|(refine AM ?_ (M6 ?_);intro r hr)|(refine AM ?_ (LN ?_ ?_);intro r hr)|(refine AM ?_ (AI ?_ ?_);rintro r ⟨hr,e⟩)|(refine AM ?_ (Ac ?_);rintro r ⟨hr,b,c⟩)|(refine AM ?_ (B5 ?_ ?_ ?_);rintro r ⟨hr,b⟩)
 all_goals try dsimp[len]at*
 all_goals first|omega|(intro d;exact absurd d v!)|grind[Xu,VTx,List.length_set,AZ]
def fj{x:Bh×Int×Dq}(h:x.1.length<=16777216)(a:0<=x.2.1/\x.2.1<x.1.length):Av (NR x) λr=>r=x.1.set x.2.1.toNat x.2.2:=by unfold NR;refine AA (Ac (by simpa using h)) λr hr=>?_;have⟨hr,b,_⟩:=hr;rw[Cn]at hr;subst hr;refine AA (AI a.1 a.2) λ_ _=>?_;refine AA (AI a.1 a.2) λ_ _=>?_;exact AB rfl
def T2{x:Bh×AD}:Av (HZ x) λr=>r.2=0->r.1.length=x.1.length/\(x.2.2.1≠7->r.1=x.1)/\(x.2.2.1=7->0<=x.2.2.2.2.2.2.2.1.1/\ ∃w,x.1[x.2.2.2.2.2.2.2.1.1.toNat]? =some w/\r.1=x.1.set x.2.2.2.2.2.2.2.1.1.toNat ((if x.2.2.2.2.2.2.1>w.1 then x.2.2.2.2.2.2.1 else w.1),w.2)):=by
 unfold HZ;refine AA GH λv i=>?_;refine AO (λa=>AB n!) (λa=>?_);refine AA CM λl k=>?_;refine AO (λa=>AB n!) (λf=>?_);refine AL (λa=>AB λ_=>⟨rfl,λ_=>rfl,λe=>absurd e a⟩) (λd=>?_);have i:Lg x.2:=q!
 have c:0<=x.2.2.2.2.2.2.2.1.1:=by grind[Lg,UX,OP,Pg]
 refine AC (λa=>AB n!) (λg=>?_);simp[len]at g;refine AA (AI c) λw j=>?_;refine AA (fj (by have:=(by grind:ju x.1).2;dsimp only;omega) ⟨c,d!⟩) λu h=>AB λ_=>?_;subst h;exact⟨k!,λe=>absurd d e,λ_=>⟨c,w,j.1,rfl⟩⟩
def KV{x:AQ×Int}(h:SB x.1):Av (Em x) λr=>BZ x.1=some true->KP x.1.1 x.1.2.2.1.2.1 x.1.2.2.2.1.2.1 x.1.2.2.2.2.2.2.2 x.1.2.2.2.2.2.2.1->0<=x.2->x.2<x.1.1->r=Bw x.1.2.2.1.2.1 x.2:=by unfold Em;refine D9 (Bz h) λv u t=>?_;refine AO (λa=>AB λe=>?_) (λa=>?_);rw[u,a]at e;cases e;refine AC (λa=>AB λ_ _ p=>absurd p o!) (λp=>?_);refine AC (λa=>AB λ_ _ _ q=>absurd q o!) (λq=>?_);refine AA Iq λg s=>?_;refine AJ (λa=>AB λ_ c d j=>?_) (λk=>?_);have⟨_,_,_,e,f,n,b⟩:=s.1 a;have:=(c x.2 d j).1 f n (by rw[b];exact e);rw[b]at this;rw[this];exact Pe _ _;refine AA (Jp h) λl o=>?_;refine AJ (λa=>AB λ_ c d j=>(c x.2 d j).2.1 _ (o.1 a).1 (o.1 a).2) (λm=>?_);refine AA (AI o! (by have:=(t a).2.2.2.2.2.2.2;omega)) λr hr=>AB λ_ c d j=>?_;exact((c x.2 d j).2.2 r hr.1).2 (o.2 m) λf n e=>by have⟨i,w⟩:=Eh n;exact absurd ⟨i,f,w,e⟩ (s.2 k (t a).2.2.2.1)
def LX(a b:Ah):Prop:=b.1=a.1/\a.2.2<=b.2.2/\ ∃t,b.2.1=a.2.1++t
def LX.refl(a:Ah):LX a a:=⟨rfl,Ag _,[],k!⟩
def LX.trans{a b c:Ah}(h:LX a b)(g:LX b c):LX a c:=by have⟨i,k,t,j⟩:=h;have⟨d,f,u,e⟩:=g;exact⟨d.trans i,mR k f,t++u,by rw[e,j,Ay]⟩
def LX.get{a b:Ah}(h:LX a b){i:Nat}{e:AD}(f:a.2.1[i]? =some e):b.2.1[i]? =some e:=by have⟨c,_,t,d⟩:=h;grind[List.getElem?_append_left,Nat.lt_or_ge,List.getElem?_eq_none]
def AGa(k:AQ)(z:AD)(m:AQ):Prop:=
 ∃e,m.2.2.1.2.1=k.2.2.1.2.1++[e]/\e.1=k.2.2.1.1+k.2.2.1.2.1.length/\e.2.1=z.2.1/\e.2.2.2.2.2=z.2.2.2.2.2/\
  (KP k.1 k.2.2.1.2.1 k.2.2.2.1.2.1 k.2.2.2.2.2.2.2 k.2.2.2.2.2.2.1->(e.2.1=1\/e.2.1=2)->0<=e.2.2.2.2.2.2.1.1->e.2.2.2.2.2.2.1.1<k.1->e.2.2.2.2.1=Bw k.2.2.1.2.1 e.2.2.2.2.2.2.1.1)/\
  (z.2.1≠7->m.2.2.2.2.2.2.1=k.2.2.2.2.2.2.1)/\
  (z.2.1=7->0<=z.2.2.2.2.2.2.1.1/\ ∃w,k.2.2.2.2.2.2.1[z.2.2.2.2.2.2.1.1.toNat]? =some w/\m.2.2.2.2.2.2.1=k.2.2.2.2.2.2.1.set z.2.2.2.2.2.2.1.1.toNat ((if z.2.2.2.2.2.1>w.1 then z.2.2.2.2.2.1 else w.1),w.2))
def wR(k:AQ)(z:AD)(m:AQ):Prop:=
 m.1=k.1/\LX k.2.2.1 m.2.2.1/\D8 m.2.2.1/\m.2.2.2.1=k.2.2.2.1/\m.2.2.2.2.1=k.2.2.2.2.1/\xr k.2.2.2.2.2.1 z.2.1 z.2.2.1 m.2.2.2.2.2.1/\m.2.2.2.2.2.2.2=k.2.2.2.2.2.2.2/\SB m/\AGa k z m
def F6{x:AQ×AD}(h:SB x.1):Av (Eb x) λr=>r.2.2=0->VK x.1/\wR x.1 x.2 r.1/\r.2.1=x.1.2.2.1.1+x.1.2.2.1.2.1.length:=by
 unfold Eb;refine D9 (Bz h) λv q E=>?_;refine AO (λa=>AB n!) (λa=>?_);have n:=E a;rw[a]at q;refine AA (P:=λs=>(∃u,s= .inl u/\u.2.1≠0)\/ ∃u,s= .inr u/\u.1.2.1=x.2.2.1/\u.1.2.2.1=x.2.2.2.1/\u.1.2.2.2.2.2=x.2.2.2.2.2.2) ?_ λs D=>?_
 ·repeat' with_reducible first|intro a|apply AC|apply AO|apply AL|apply AJ|(apply A2;try dsimp only)|apply BX|apply Bl|apply Mn|(apply BK;try dsimp only)|(apply A5;try dsimp only)|(apply A8<;>(intro u b;try subst b))|apply AB|(refine AM ?_ (Fo ?_);intro r hr)|(refine AM ?_ (AI ?_ ?_);rintro r ⟨hr,N⟩)
  all_goals ((try dsimp[len]at*);(try first|omega|assumption|grind[AZ,SB]))
 rcases D with⟨u,rfl,b⟩|⟨u,rfl,b⟩;exact BK (AB λc=>absurd c b);apply A5;refine AA (B7) λO A=>?_;refine AA (P:=λv:AD=>v.2.1=x.2.2.1/\v.2.2.1=x.2.2.2.1/\v.2.2.2.2.2=x.2.2.2.2.2.2/\(KP x.1.1 x.1.2.2.1.2.1 x.1.2.2.2.1.2.1 x.1.2.2.2.2.2.2.2 x.1.2.2.2.2.2.2.1->(v.2.1=1\/v.2.1=2)->0<=v.2.2.2.2.2.2.1.1->v.2.2.2.2.2.2.1.1<x.1.1->v.2.2.2.2.1=Bw x.1.2.2.1.2.1 v.2.2.2.2.2.2.1.1)) ?_ λt d=>?_;refine AJ (λa=>?_) (λa=>AB ⟨b.1,b.2.1,b.2.2,λ_ n=>absurd (A.2 n) (by simp[a])⟩);exact AA (KV h) λw F=>AB ⟨b.1,b.2.1,b.2.2,λo _ G H=>F q o G H⟩;refine AA (Zf) λi B=>?_;refine AL (λa=>AB (λc=>absurd c a)) (λa=>?_);have⟨a1,a2,a3,a4,a5,a6⟩:=B a;dsimp only at a2 a3 a4 a5 a6;refine AA (G5) λp e=>?_;refine AA (dr) λI l=>?_;refine AL (λa=>AB (λc=>absurd c a)) (λf=>?_);refine AA (T2) λJ m=>?_;refine AL (λa=>AB (λc=>absurd c a)) (λg=>?_);refine AB λ_=>⟨n,?_⟩
 have L:=a2.1;have M:i.1.2.1.length=x.1.2.2.1.2.1.length+1:=by rw[a3];simp
 have⟨K,y,k,z⟩:=e.1 (e.2 a1 d! d!);dsimp only at y k z;have C:p.1=(i.2.1,t.2):=by
  have:(i.2.1-i.1.1).toNat=x.1.2.2.1.2.1.length:=o!
  rw[this,a3]at k;simpa using k.symm
 have hn:=l f;have j:=(m g).2;rw[C]at hn j;dsimp only at hn j;rw[d.1,d.2.1]at hn;rw[d.1,d.2.2.1]at j;exact⟨⟨rfl,⟨a4,Int.le_of_eq a6.symm,_,a3⟩,a1,rfl,rfl,hn,rfl,⟨h.1,by have:=hn.1;have:=h.2.1;dsimp only at*;omega,h.2.2⟩,(i.2.1,t.2),a3,a5,d.1,d.2.2.1,d.2.2.2,j⟩,a5⟩
def wR.ki{k m:AQ}{z:AD}(h:wR k z m)(b:KI B k)(a:z.2.1≠1/\z.2.1≠2/\z.2.1≠6/\z.2.1≠7):KI B m:=by obtain⟨a1,_,_,a4,_,_,a7,_,e,c,g,d,i,j,f,l⟩:=h;unfold KI;rw[a1,a4,a7,c,f a.2.2.2];rw[<-d]at a;exact⟨b.1.app ⟨λh=>o!,λh=>o!,λh=>o!⟩,b.2.1.app ⟨a.1,a.2.1⟩,b.2.2⟩
def wR.sk{k m:AQ}{z:AD}(h:wR k z m)(a:SK B k)(b:z.2.1≠1/\z.2.1≠2/\z.2.1≠6/\z.2.1≠7):SK B m:=h.2.2.2.2.2.2.2.1.sk (h.ki a.ki b)
end Go.Pm
namespace Go.Pm
open Go Go.Ab
set_option maxHeartbeats 400000
def DI(d:Bf):Prop:=d.1.length<=64/\(∀(i:Nat) (s:BY),d.1[i]? =some s->s.length=256)/\d.2.2.1=[]/\d.2.2.2.2=[]
def WP{x:Int}{s:Int×List BY}(h:0<=s.1/\s.1<=x/\x<=64/\s.2.length=s.1/\ ∀(i:Nat) (t:BY),s.2[i]? =some t->t=Gn (List.replicate (Int.toNat 256) 0)):Av (Af (Ll x) s) λr=>(r.length:Int)=x/\ ∀(i:Nat) (t:BY),r[i]? =some t->t=Gn (List.replicate (Int.toNat 256) 0):=by
 refine AS (λ(s:Int×List BY)=>0<=s.1/\s.1<=x/\x<=64/\s.2.length=s.1/\ ∀(i:Nat) (t:BY),s.2[i]? =some t->t=Gn (List.replicate (Int.toNat 256) 0)) (λ(s:Int×List BY)=>(x-s.1).toNat) h (λs c=>?_);unfold Ll;have⟨f,g,a,j,b⟩:=c;have k:(Gn (List.replicate (Int.toNat 256) 0)).length=256:=by rw[cU,I6];rfl
 repeat' with_reducible first|intro d|apply AC|apply AJ|apply AB|(refine AM ?_ (Ac ?_);rintro r ⟨hr,l,e⟩)
 all_goals first|omega|(generalize Gn (List.replicate (Int.toNat 256) 0)=bs at*;simp;omega)|(generalize Gn (List.replicate (Int.toNat 256) 0)=bs at*;rw[(AZ (x:=s.1+1))];refine⟨⟨o!,o!,a,q!,?_⟩,o!⟩;grind)|(exact⟨o!,b⟩)
def Rn{x:Int}(h:0<=x/\x<=64):Av (Of x) λr=>(r.length:Int)=x/\ ∀(i:Nat) (t:BY),r[i]? =some t->t=Gn (List.replicate (Int.toNat 256) 0):=by exact AA (WP ⟨Ag _,h.1,h.2,rfl,λi t a=>by simp at a⟩) λr hr=>AB hr
def fe{x:Int}:Av (J9 x) λr=>r.2=0->DI r.1/\r.1.1.length=x/\ ∀(i:Nat) (t:BY),r.1.1[i]? =some t->t=Gn (List.replicate (Int.toNat 256) 0):=by refine AC (λb=>AB n!) (λb=>AC (λb=>AB n!) (λc=>AA (Rn o!) λr hr=>AB λ_=>⟨⟨d!,λi t d=>?_,rfl,rfl⟩,hr⟩));rw[hr.2 i t d,cU,I6];rfl
def bS{x:Bf×Cw}:Av (LD x) λr=>True:=by
 unfold LD;repeat' with_reducible first|intro a|apply AC|apply AV|apply AJ|(apply A2;try dsimp only)|apply BX|apply Bl|apply Mn|(apply BK;try dsimp only)|(apply A5;try dsimp only)|(apply A8<;>(intro u b;try subst b))|apply AB
 all_goals trivial
def XK{x:Bf}{s:Int}(h:0<=s/\s<=x.1.length/\(x.1.length:Int)<=16777216):Av (Af (Mp x) s) λr=>r≠ .inl true:=by
 refine AS (λ(s:Int)=>0<=s/\s<=x.1.length/\(x.1.length:Int)<=16777216) (λ(s:Int)=>((x.1.length:Int)-s).toNat) h (λs b=>?_);unfold Mp;repeat' with_reducible first|intro a|apply AC|apply AL|apply AJ|apply AB|(refine AM ?_ (AI ?_ ?_);rintro r ⟨hr,c⟩)
 all_goals exact l!
def XL{x:Bf}{s:Int}(h:0<=s/\s<=x.2.2.1.length/\(x.2.2.1.length:Int)<=16777216):Av (Af (Mq x) s) λr=>r≠ .inl true:=by
 refine AS (λ(s:Int)=>0<=s/\s<=x.2.2.1.length/\(x.2.2.1.length:Int)<=16777216) (λ(s:Int)=>((x.2.2.1.length:Int)-s).toNat) h (λs b=>?_);unfold Mq;repeat' with_reducible first|intro a|apply AC|apply AJ|apply AB|(refine AM ?_ (AI ?_ ?_);rintro r ⟨hr,c⟩)
 all_goals ((try dsimp[len]at*);(try first|omega|assumption|grind[AZ]|((try simp (disch:=omega) only[AZ,len]at*)<;>(try intros)<;>(try and_intros)<;>(try intros)<;>(first|omega|assumption|grind))))
def XM{x:Bf}{s:Int}(h:0<=s/\s<=x.2.2.2.2.length/\(x.2.2.2.2.length:Int)<=16777216):Av (Af (Mr x) s) λr=>r≠ .inl true:=by
 refine AS (λ(s:Int)=>0<=s/\s<=x.2.2.2.2.length/\(x.2.2.2.2.length:Int)<=16777216) (λ(s:Int)=>((x.2.2.2.2.length:Int)-s).toNat) h (λs b=>?_);unfold Mr;repeat' with_reducible first|intro a|apply AC|apply AO|apply AJ|apply AB|(apply AA (bS);intro r hr)|(refine AM ?_ (AI ?_ ?_);rintro r ⟨hr,c⟩)
 all_goals exact l!
def bQ{x:Bf}(h:x.2.2.1.length<=16777216):Av (LC x) λr=>r=true->1<=x.1.length/\x.1.length<=64:=by
 unfold LC;repeat' with_reducible first|intro a|apply AC|apply AJ|(apply BK;try dsimp only)|(apply A5;try dsimp only)|(apply A8<;>(intro u b;try subst b))|apply AB|(refine AM ?_ (XK ?_);intro r hr)|(refine AM ?_ (XL ?_);intro r hr)|(refine AM ?_ (XM ?_);intro r hr)
 all_goals exact l!
def Mv{x:Bf×Int}(h:x.1.2.2.1.length<=16777216):Av (Ge x) λr=>r=0->0<=x.2/\x.2<x.1.1.length/\x.1.1.length<=64:=by
 unfold Ge;repeat' with_reducible first|intro a|apply AC|apply AO|apply AJ|apply AB|(refine AM ?_ (bQ ?_);intro r hr)
 all_goals exact l!
def Vy{x:List Int×Int}{s:Int×List Int}(h:0<=s.1/\s.1<=x.1.length/\x.1.length<=16777216/\s.2.length<=s.1):Av (Af (Kw x) s) λr=>r.length<=x.1.length:=by
 refine AS (λ(s:Int×List Int)=>0<=s.1/\s.1<=x.1.length/\x.1.length<=16777216/\s.2.length<=s.1) (λ(s:Int×List Int)=>((x.1.length:Int)-s.1).toNat) h (λs c=>?_);unfold Kw;repeat' with_reducible first|intro a|apply AC|apply AL|apply AJ|(apply A2;try dsimp only)|apply BX|apply Bl|apply AB|(refine AM ?_ (AI ?_ ?_);rintro r ⟨hr,e⟩)|(refine AM ?_ (Ac ?_);rintro r ⟨hr,d,b⟩)
 all_goals exact l!
def Q1{x:List Int×Int}(h:x.1.length<=16777216):Av (FK x) λr=>r.length<=x.1.length:=by
 unfold FK;repeat' with_reducible first|apply AB|(refine AM ?_ (Vy ?_);intro r hr)
 all_goals exact l!
def Zb{x:List Int×Int}{s:Int}(h:0<=s/\s<=x.1.length/\(x.1.length:Int)<=16777216):Av (Af (Og x) s) λr=>True:=by
 refine AS (λ(s:Int)=>0<=s/\s<=x.1.length/\(x.1.length:Int)<=16777216) (λ(s:Int)=>((x.1.length:Int)-s).toNat) h (λs b=>?_);unfold Og;repeat' with_reducible first|intro a|apply AC|apply AV|apply AJ|apply AB|(refine AM ?_ (AI ?_ ?_);rintro r ⟨hr,c⟩)
 all_goals exact l!
def ff{x:List Int×Int}(h:x.1.length<=16777216):Av (NO x) λr=>True:=by
 unfold NO;repeat' with_reducible first|(apply BK;try dsimp only)|(apply A5;try dsimp only)|(apply A8<;>(intro u a;try subst a))|apply AB|(refine AM ?_ (Zb ?_);intro r hr)
 all_goals exact l!
def dh{x:Bf×Int}(h:DI x.1):Av (MH x) λr=>r.2=0->r.1.length=256/\0<=x.2/\x.1.1[x.2.toNat]? =some r.1:=by
 unfold MH;repeat' with_reducible first|intro a|apply AL|apply AJ|apply AB|(refine AM ?_ (Mv ?_);intro r hr)|(refine AM ?_ (ff ?_);intro r hr)|(refine AM ?_ (AI ?_ ?_);rintro r ⟨hr,b⟩)
 all_goals ((try dsimp[len]at*);(try first|omega|assumption|grind[DI]))
def DI.set{d:Bf}{l:List BY}{i:Int}{t:BY}{u:List Int}{w:Int}{b:Bool}(h:DI d)(c:l=d.1)(n:t.length=256)(e:u.length<=([]:List Int).length):DI (Bb l i t,w,u,b,[]):=by subst c;have⟨a,f,g,k⟩:=h;refine⟨by simpa[Bb]using a,λj s m=>?_,List.length_eq_zero_iff.1 (by simpa using e),rfl⟩;grind[Bb]
def di{x:Bf×Int×BY×Int}(h:DI x.1):Av (QG x) λr=>r.2=0->DI r.1/\ ∃o,0<=x.2.1/\x.1.1[x.2.1.toNat]? =some o/\r.1.1=Bb x.1.1 x.2.1 (x.2.2.1.take x.2.2.2.toNat++o.drop x.2.2.2.toNat):=by
 have⟨C,s,n,t⟩:=h;refine AA (Mv (by dsimp only;rw[n];simp)) λF i=>AL (λg=>AB (λa=>absurd a g)) (λg=>?_);refine AC (λ_=>AB n!) (λc0=>AC (λ_=>AB n!) (λB=>AL (λ_=>AB n!) (λv=>?_)));have⟨b,c,E⟩:=i g;simp only[len]at v;refine AA (Ac w!) λw j=>AA (Ac (by rw[n];simp)) λz k=>AA (Ac (by rw[t];simp)) λA m=>?_;have j:w=x.1.1:=q!
 have k:z=[]:=q!
 have m:A=[]:=q!
 subst j k m;refine AA (Ch (Ag _)) λG e=>AA (AI b c) λH _=>AA (AI b c) λq p=>?_;have D:=s _ _ p.1;refine AA (Ch o! i! (by simp[len])) λI f=>AA (Cp (by simp only[len]at f;omega)) λJ u=>AA (AI b c) λ_ _=>AA (AI b c) λ_ _=>AA (Q1 k!) λy d=>AB λ_=>⟨h.set rfl (by simp only[len]at f;omega) d,q,b,p.1,?_⟩
 dsimp only;rw[u.1,e.1,f.1,BS (l:=q.drop _) (by simp[len])];simp
def whole{l:List BY}{i:Nat}{s o a b r:BY}(h:len s=256)(f: ∀(i:Nat) (s:BY),l[i]? =some s->s.length=256)(hr:r=a++b)(c:a=List.take (Int.toNat 256-Int.toNat 0) (List.drop (Int.toNat 0) s))(d:b=List.take ((len o).toNat-Int.toNat 256) (List.drop (Int.toNat 256) o))(g:l[i]? =some o):r=s:=by have j:=f _ _ g;have e:List.drop (Int.toNat 256) o=[]:=iQ (by simp only[Int.reduceToNat];omega);simp only[len]at h;rw[hr,c,d,e,List.take_nil,Dr];exact BS w!
def bR{x:Bf×Int×BY}(h:DI x.1):Av (PX x) λr=>r.2=0->DI r.1/\0<=x.2.1/\r.1.1=Bb x.1.1 x.2.1 x.2.2:=by
 have⟨B,o,i,j⟩:=h;refine AA (Mv (by dsimp only;rw[i];simp)) λC g=>?_;refine AL (λb=>AB (λc=>absurd c b)) (λb=>?_);refine AL (λb=>AB n!) (λd=>?_);refine AV (λb=>AB n!) (λq=>?_);refine AA (Ac w!) λy t=>?_;refine AA (Ac (by rw[i];simp)) λz u=>?_;refine AA (Ac (by rw[j];simp)) λA v=>?_;have l:y=x.1.1:=q!
 have m:z=[]:=q!
 have n:A=[]:=q!
 subst l m n;have l1: ∀s,s.1=0->Af (Ms x) s=some s.2:=λs e=>by rw[Ce];unfold Ms;rw[j,e];rfl
 rw[l1 _ rfl];apply A2;have l2: ∀a s,a.1=[]->s.2.1=0->Af (Mt x a) s=some (s.1,(s.2.2.2.2.2.2.1,(s.2.2.2.2.2.1,s.2.2.2.2.2.2.2))):=λa s f e=>by rw[Ce];unfold Mt;rw[f,e];rfl
 have w: ∀a s,a.1=[]->s.1=0->Af (Mu a) s=some (s.2.2.2.2.2.1,(s.2.2.2.2.1,s.2.2.2.2.2.2)):=λa s f e=>by rw[Ce];unfold Mu;rw[f,e];rfl
 rw[l2 _ _ rfl rfl];repeat' with_reducible first|apply AC<;>intro b|apply AO<;>intro b|apply AV<;>intro b|apply AL<;>intro b|apply AJ<;>intro b|(apply A2;try dsimp only)|apply BX|apply Bl|apply AB|(rw[w _ _ rfl rfl];apply A2;dsimp only)|(refine AM ?_ (Q1 ?_);intro r hr)|(refine AM ?_ (AI ?_ ?_);rintro r ⟨hr,q⟩)|(refine AM ?_ (Ac ?_);rintro r ⟨hr,k,p⟩)|(refine AM ?_ (Cp ?_);rintro r ⟨hr,k⟩)|(refine AM ?_ (Ch ?_ ?_ ?_);rintro r ⟨hr,k⟩)
 all_goals first|omega|(simp;done)|(intro c;exact absurd c g!)|(exact λ_=>⟨h.set rfl q! hr,(g v!).1,congrArg (Bb _ _) (whole d o v! v! v! v!)⟩)|(cases b;done)|grind
def DC(p:Bj):Nat:=p.2.1.countP λf=>f.2.1
def UC(p:Bj):Nat:=p.2.1.countP λf=>f.2.2.2
def wq{a:Type}{l:List a}{i:Nat}{o n:a}{q:a->Bool}(h:l[i]? =some o):(l.set i n).countP q+(if q o=true then 1 else 0)=l.countP q+(if q n=true then 1 else 0):=q!
theorem LL{x:Bj×Int×A7}(h:x.1.2.1.length<=16777216)(a:0<=x.2.1/\x.2.1<x.1.2.1.length):Av (IP x) λr=>r=(x.1.1,x.1.2.1.set x.2.1.toNat x.2.2,x.1.2.2):=by refine AA (Ac (by simpa using h)) λr hr=>?_;have⟨hr,b,_⟩:=hr;subst hr;refine AA (AI a.1 a.2) λ_ _=>?_;refine AA (AI a.1 a.2) λ_ _=>?_;exact AB rfl
def lP(f:A7):AW×Bool×Int:=(f.1,f.2.1,f.2.2.1)
def CF(l:List A7):List (AW×Bool×Int):=l.map lP
def AEH{l:List A7}{i:Nat}{f g:A7}(h:l[i]? =some f)(a:lP g=lP f):CF (l.set i g)=CF l:=by unfold CF;apply I5;grind
theorem o0{l m:List A7}(h:CF m=CF l){i:Nat}{f:A7}(a:m[i]? =some f): ∃g,l[i]? =some g/\lP g=lP f:=by
 have:(CF m)[i]? =some (lP f):=by unfold CF;rw[List.getElem?_map,a];rfl
 rw[h]at this;unfold CF at this;grind
def AEG{l m:List A7}(h:CF m=CF l):m.length=l.length:=by have:=congrArg List.length h;simpa[CF]using this
def xn{p:Bj}:DC p=(CF p.2.1).countP λc=>c.2.1:=by unfold DC CF;rw[List.countP_map];rfl
theorem KD.congr{l m:List A7}{n:Int}(h:CF m=CF l)(d:KD l n):KD m n:=by refine⟨λi f r b=>?_,λi j f g c s b q=>?_⟩;have⟨g,a,o⟩:=o0 h b;have:=d.1 i g r a;grind[lP,mN];have⟨e,a,o⟩:=o0 h b;have⟨k,p,t⟩:=o0 h q;have:=d.2 i j e k c s a p;grind[lP]
def O4.uniq{p:Bj}(h:O4 p){i j:Nat}{f g:A7}(a:p.2.1[i]? =some f)(b:p.2.1[j]? =some g)(e:f.1.1=g.1.1):f=g:=by have c:=h.2.2.2.2.2.2;grind
def WT{c:List (AW×Bool×Int)}{z:Int}{s:Bj}(h:c=CF s.2.1/\z=s.1/\0<=s.2.2/\s.2.2<s.2.1.length/\s.2.1.length<=64):Av (Af Q4 s) λr=>c=CF r.2.1/\z=r.1/\0<=r.2.2/\r.2.2<r.2.1.length/\r.2.1.length<=64:=by
 refine AS (λs=>c=CF s.2.1/\z=s.1/\0<=s.2.2/\s.2.2<s.2.1.length/\s.2.1.length<=64) UC h (λs n=>?_);have⟨k,l,i,j,m⟩:=n;refine AA (AI i j) λf q=>?_;refine AJ (λo=>?_) (λo=>AB ⟨k,l,i,j,m⟩);refine AA (AI i j) λd t=>?_;have e:d=f:=q!
 subst e;refine AA (LL d! ⟨i,j⟩) λp u=>?_;subst u;refine AV (λv=>?_) (λv=>AB ?_);grind;rw[(AZ (x:=s.2.2+1))];refine⟨⟨?_,l,(Int.tmod_nonneg (len (s.2.1.set s.2.2.toNat (d.1,d.2.1,d.2.2.1,false))) (a:=s.2.2+1) o!),(Int.tmod_lt_of_pos (s.2.2+1) (b:=len (s.2.1.set s.2.2.toNat (d.1,d.2.1,d.2.2.1,false))) w!),by rw[iY];exact m⟩,?_⟩;rw[k];exact(AEH (g:=(d.1,d.2.1,d.2.2.1,false)) q.1 rfl).symm;unfold UC;grind
def Zl{x:Bj}:Av (On x) λr=>(r.2.2=0->O4 x/\O4 r.1/\CF r.1.2.1=CF x.2.1/\kf r.1 r.2.1)/\(O4 x->x.2.1.length≠0->r.2.2=0):=by refine AA EY λv g=>?_;refine AO (λc=>AB ⟨n!,λh _=>?_⟩) (λc=>?_);grind;have b:=g.1 c;have e:=b;have⟨k,l,m,i,n,o⟩:=b;refine AV (λa=>AB ⟨n!,λ_ h=>absurd a (by simpa[len]using h)⟩) (λa=>?_);simp only[len]at a;refine AA (WT ⟨rfl,rfl,i,o!⟩) λp b=>?_;have⟨q1,q2,q3,q4,q5⟩:=b;refine AA (AI q3 q4) λf d=>?_;have j:=AEG q1;refine AB ⟨λ_=>⟨e,⟨d!,d!,d!,q3,.inr q4,?_⟩,q1.symm,⟨_,f,d.1,rfl⟩⟩,λ_ _=>rfl⟩;grind[KD.congr]
def dn{x:Bj×Int}:Av (MM x) λr=>O4 x.1-> ∀(i:Nat) (f:A7),x.1.2.1[i]? =some f->f.1.1=x.2->f.2.1=false->(∀g∈r.1.2.1,g∈x.1.2.1)/\ ∀g∈x.1.2.1,g.2.1=true->g∈r.1.2.1:=by
 unfold MM;refine AA EY λv A=>?_;refine AO (λn=>AB λo=>absurd (A.2 o) (by simp[n])) (λn=>?_);have o:=A.1 n;have T:=o.2.1;have U:=o.2.2.1;refine AA (Gi o!) λi G=>?_;have⟨R,J,K,L⟩:=G;refine AC (λn=>AB λ_ j f p e _=>absurd ⟨j,f,p,e⟩ (L n)) (λH=>?_);have⟨k,I,t⟩:=K o!;refine AA (AI o! J) λw Q=>?_;have B:w=k:=by grind[Option.some.inj]
 subst B;refine AJ (λu=>AB λ_ j f p e l=>?_) (λu=>?_);have:=o.uniq p I (by rw[e,t]);subst this;rw[u]at l;cases l;have O:=AZ (x:=i+1);refine AA (B5) λa C=>?_;refine AA (B5 o! (by simp[len];omega) i!) λb D=>?_;have S:=C.2;have M:=D.2;simp[len]at M;refine AA (Ac (by rw[Bs];omega)) λc s=>?_;have N:=s.2.1;rw[Bs]at N;refine AA (Ac o!) λd E=>?_;have q: ∀(j:Nat) (f:A7),x.1.2.1[j]? =some f->f.1.1=x.2->f.2.1=false->(∀g∈d,g∈x.1.2.1)/\ ∀g∈x.1.2.1,g.2.1=true->g∈d:=by intro j f p e l;refine⟨λg y=>?_,λg y F=>?_⟩;grind[List.mem_of_mem_take,List.mem_of_mem_drop];have⟨m,z⟩:=Eh y;rw[(by grind[List.take_of_length_le,List.length_drop]:d=x.1.2.1.take i.toNat++x.1.2.1.drop (i.toNat+1)),An];rcases P7 m i.toNat with h|h|h;exact .inl (BM (i:=m) (by rw[Kg h];exact z));grind[Option.some.inj];exact .inr (BM (i:=m-(i.toNat+1)) (by rw[L6];rw[show i.toNat+1+(m-(i.toNat+1))=m by omega];exact z))
 refine AA (P:=λ_=>True) (AC (λ_=>AB trivial) (λ_=>AB trivial)) λV _=>?_;refine AA (P:=λ_=>True) (AC (λ_=>AB trivial) (λ_=>AB trivial)) λW _=>AB λ_=>q
theorem bX{x:Bj×Int×Int}:Av (PY x) λr=>r.2=0->O4 x.1/\DC r.1<=DC x.1/\(∀(i:Nat) (f:A7),x.1.2.1[i]? =some f->f.1.1=x.2.1->f.2.1=true->f.1.2.1=x.2.2->DC r.1<DC x.1)/\(∀g∈r.1.2.1,∃f∈x.1.2.1,f.1.1=g.1.1/\f.1=g.1)/\ ∀f∈x.1.2.1,f.1.1≠x.2.1->f∈r.1.2.1:=by
 refine AA EY λv C=>?_;refine AO (λb=>AB (λo=>absurd o (by decide))) (λb=>?_);have l:=C.1 b;have J:=l.2.2.1;have I:=l.2.1;refine AA (Gi (by dsimp only;omega)) λi B=>?_;have⟨G,D,E,H⟩:=B;refine AC (λb=>AB (λo=>absurd o (by decide))) (λb=>?_);have⟨f,c,d⟩:=E (by omega);refine AA (AI (by omega) D) λg z=>?_;have e:g=f:=by grind
 subst e;refine AC (λb=>AB (λo=>absurd o (by decide))) (λA=>?_);refine AO (λs=>AB (λ_=>⟨l,Ai _,λj k m a h _=>?_,λg z=>⟨g,z,rfl,rfl⟩,λf c _=>c⟩)) (λs=>?_);have:=l.uniq m c (by rw[a,d]);subst this;rw[s]at h;cases h;refine AA (P:=λn:A7=>(g.1.2.1=x.2.2->n.2.1=false)/\n.1=g.1) ?_ λn hn=>?_
 ·repeat' with_reducible first|refine AC ?_ ?_<;>intro b|refine AO ?_ ?_<;>intro b|refine AV ?_ ?_<;>intro b|refine AJ ?_ ?_<;>intro b|(refine A2 ?_;try dsimp only)|refine BX ?_|refine Bl ?_|refine AB ?_|(refine AM ?_ (AI ?_ ?_);rintro r ⟨hr,F⟩)
  all_goals grind
 refine AA (LL (by dsimp only;omega) ⟨by dsimp only;omega,by dsimp only;omega⟩) λp y=>?_;subst y;refine AB λ_=>?_;have u:=wq (q:=λf:A7=>f.2.1) (n:=n) c;rw[s]at u;refine⟨l,?_,λj k m a h t=>?_,yr c hn.2,λk m w=>ua c k m (by rw[d];exact w)⟩;unfold DC;dsimp only;simp at u;split at u<;>omega;have:=l.uniq m c (by rw[a,d]);subst this;rw[hn.1 t]at u;unfold DC;dsimp only;simp at u;omega
def eu(n:Nat):BY:=List.replicate n 0
def Va(c:Cg):BY:=Df (if c.1=true then(c.2.length:Int)else 255) 1++(c.2++eu (12-c.2.length))
def cl(a:Ho 16 Cg)(i:Nat):Cg:=(Gr a i).getD (false,[])
def Oc(a:Ho 16 Cg)(k:Nat):BY:=(List.range k).flatMap λi=>Va (cl a i)
def Ka(x:AW):BY:=Df x.2.1 8++(Df x.1 4++(Oc x.2.2 16++eu 24))
def Hw(x:AW):BY:=Ka x++(Df (U5 (Ka x)) 4++Df x.2.1 8)
theorem pV{a:Ho 16 Cg}{i:Nat}(h:i<16):Gr a (i:Int)=some (cl a i)/\cl a i=a ⟨i,h⟩:=by
 have e:Gr a (i:Int)=some (a ⟨i,h⟩):=by unfold Gr;rw[dif_pos ⟨by omega,by omega⟩];rfl
 unfold cl;rw[e];exact⟨rfl,rfl⟩
def OG(a:Ho 16 Cg)(k:Nat):Oc a (k+1)=Oc a k++Va (cl a k):=by unfold Oc;rw[List.range_succ,Wi,IJ,iU,Dr]
def bA{c:Cg}(h:c.2.length<=12):(Va c).length=13:=by unfold Va eu;rw[Ad,Ad,A0,I6];omega
def HO.cl{x:AW}(h:HO x)(i:Nat):Ig (cl x.2.2 i):=by rcases Aq i 16 with a|a;rw[(pV a).2];exact(h.2.2.2.2 _).1;unfold Go.Pm.cl Gr;rw[dif_neg o!];exact⟨g!,.inr rfl⟩
def I8{x:AW}(h:HO x): ∀k:Nat,(Oc x.2.2 k).length=13*k
 |0=>rfl
 |k+1=>by rw[OG,Ad,I8 h k,bA (h.cl k).1];omega
def G1{x:AW}(h:HO x):(Ka x).length=244:=by unfold Ka eu;simp only[Ad,A0,I8 h,I6]
def bD{x:AW}(h:HO x):(Hw x).length=256:=by unfold Hw;simp only[Ad,A0,G1 h]
def To{x:AW}:(Hw x).take 8=Df x.2.1 8:=by unfold Hw Ka;rw[Ay,Gs (A0 _ _)]
def lS{x:AW}(h:HO x):(Hw x).drop 248=Df x.2.1 8:=by unfold Hw;rw[<-Ay,iR (by rw[Ad,G1 h,A0])]
def jg(n:Nat):Gn (List.replicate n 0)=eu n:=by unfold Gn eu;rw[List.map_replicate];rfl
def uh{x:Int}(h:0<=x/\x<=16777216):G3 x=some (eu x.toNat):=by unfold G3 Go.Ab.mk;rw[if_pos ⟨h.1,Ag _,h.2⟩,AE,jg]
def kh{s:BY}{n k:Int}(h:s.length<=1099511627776)(a:1<=k/\k<=8):Av (Aj (s,(n,k))) λr=>r=s++Df n k.toNat:=⟨_,Hl h a.1 a.2,rfl⟩
def o6{x:AW}(h:HO x):D1 x=some 0:=by have⟨a,g,c⟩:=Lk (x:=x);have⟨b,i,d⟩:=Np (x:=x);have e:a=true:=c.2 ⟨h.1,h.2.1,h.2.2.1,h.2.2.2.1⟩;have f:b=true:=d.2 h.2.2.2.2;unfold D1;rw[g,e,AE,i,f];rfl
def Z5{x:AW}(h:HO x):C9 x=some (Hw x,0):=by
 suffices g:Av (C9 x) λr=>r=(Hw x,0) by obtain⟨r,hr,rfl⟩:=g;exact hr
 unfold C9;rw[o6 h,AE];refine AL (λb=>absurd rfl b) λ_=>?_;refine AA (kh g! g!) λL p=>AA (kh (by rw[p];simp[A0]) g!) λG z=>?_;have w:G=Df x.2.1 8++Df x.1 4:=by rw[z,p];rfl
 refine AA (P:=λr=>r=Df x.2.1 8++(Df x.1 4++Oc x.2.2 16)) ?_ λf d=>?_
 ·refine Dg (λ(s:BY×Int)=>0<=s.2/\s.2<=16/\s.1=Df x.2.1 8++(Df x.1 4++Oc x.2.2 s.2.toNat)) (λ(s:BY×Int)=>(16-s.2).toNat) ⟨Ag _,u!,by rw[w];simp[Oc]⟩ ?_;rintro⟨s,i⟩ ⟨u,C,g⟩;dsimp only at u C g;subst g;unfold Qz;dsimp only;refine AC (λb=>?_) (λb=>Av.done (by rw[show i.toNat=16 by omega]));have⟨t,K⟩:=pV (a:=x.2.2) (i:=i.toNat) o!;rw[IH u]at t;have b:=(h.cl i.toNat).1;simp only[t,AE,AZ (x:=i+1)];have J:(Df x.2.1 8++(Df x.1 4++Oc x.2.2 i.toNat)).length<=300:=by simp only[Ad,A0,I8 h];omega
  refine AA (P:=λv=>v=if(cl x.2.2 i.toNat).1=true then((cl x.2.2 i.toNat).2.length:Int)else 255) ?_ λM A=>?_;exact AJ (λb=>AB (if_pos b).symm) (λb=>AB (if_neg (by rw[b];decide)).symm);refine AA (kh o! g!) λN q=>?_;have y:wi (12-len (cl x.2.2 i.toNat).2)=((12-(cl x.2.2 i.toNat).2.length:Nat):Int):=by rw[AZ i!];simp only[len];omega
  rw[y,uh o!,AE,Dk];refine AA (Cp (by simp only[eu,I6];omega)) λn c=>?_;have D:n.length<=24:=by rw[c.2];simp only[eu,I6];omega
  refine AA (Cp (by rw[q,Ad,A0];simp only[Int.reduceToNat];omega)) λF k=>Av.next ⟨d!,d!,?_⟩ d!
  dsimp only;rw[k.1,c.1,q,A,show(i+1).toNat=i.toNat+1 by omega,OG];simp only[Va,Ay,Int.reduceToNat]
 have E:f.length=220:=by rw[d];simp only[Ad,A0,I8 h]
 rw[show wi (244-len f)=24 by rw[AZ i!];simp only[len];omega,uh g!,AE];refine AA (Cp (by simp only[eu,I6,Int.reduceToNat];omega)) λo l=>?_;have j:o=Ka x:=by rw[l.1,d];simp only[Ka,Ay,Int.reduceToNat]
 rw[j,tH (by rw[G1 h];decide),AE];have B:=dc (Ka x);rw[AZ];refine AA (kh (by rw[G1 h];decide) g!) λH e=>AA (kh (by rw[e,Ad,G1 h,A0];decide) g!) λI m=>AB ?_;rw[m,e];simp only[Hw,Ay,Int.reduceToNat]
def zJ{c d:Cg}(e:Ig c)(f:Ig d)(h:Va c=Va d):c=d:=by obtain⟨g,l⟩:=c;obtain⟨i,m⟩:=d;obtain⟨j,b⟩:=L5 h (by rw[A0,A0]);have l1:=e.1;have l2:=f.1;dsimp only at l1 l2;have a:=Yk (k:=1) g! ⟨λ_=>by dsimp only;split<;>omega,by dsimp only;split<;>omega,by dsimp only;split<;>omega⟩ ⟨λ_=>by dsimp only;split<;>omega,by dsimp only;split<;>omega,by dsimp only;split<;>omega⟩ j;dsimp only at a b;cases g<;>cases i;have:=e.2;have:=f.2;simp_all;exfalso;simp at a;omega;exfalso;simp at a;omega;simp at a;exact Dj rfl (L5 b o!).1
def pT{x y:AW}(a:HO x)(b:HO y): ∀k:Nat,Oc x.2.2 k=Oc y.2.2 k-> ∀i,i<k->cl x.2.2 i=cl y.2.2 i
 |0,_=>λi c=>absurd c o!
 |k+1,h=>by rw[OG,OG]at h;obtain⟨d,e⟩:=L5 h (by rw[I8 a,I8 b]);intro i c;by_cases f:i=k;subst f;exact zJ (a.cl i) (b.cl i) e;exact pT a b k d i o!
theorem AA1{x y:AW}(a:HO x)(b:HO y)(h:Hw x=Hw y):x=y:=by obtain⟨h,_⟩:=L5 h (by rw[G1 a,G1 b]);obtain⟨c,h⟩:=L5 h (by rw[A0,A0]);obtain⟨d,h⟩:=L5 h (by rw[A0,A0]);obtain⟨e,_⟩:=L5 h (by rw[I8 a,I8 b]);have f:=a.1;have g:=a.2.1;have j:=a.2.2.1;have k:=a.2.2.2.1;have l:=b.1;have m:=b.2.1;have n:=b.2.2.1;have o:=b.2.2.2.1;refine Dj (Yk (by decide) ⟨λ_=>by omega,by omega,by omega⟩ ⟨λ_=>by omega,by omega,by omega⟩ d) (Dj (Yk (by decide) ⟨λ_=>by omega,by omega,by omega⟩ ⟨λ_=>by omega,by omega,by omega⟩ c) (funext λi=>?_));have:=pT a b 16 e i.val i.isLt;rw[(pV i.isLt).2,(pV i.isLt).2]at this;exact this
def Rm{x:AW}:Av (C9 x) λr=>r.2=0->HO x/\r.1=Hw x:=by have⟨v,b,h⟩:=No (x:=x);by_cases a:v=0;exact⟨_,Z5 (h a),λ_=>⟨h a,rfl⟩⟩;unfold C9;rw[b,AE];exact AL (λ_=>AB λe=>absurd e a) (λe=>absurd e a)
def oZ:Ij ()=some (eu 256):=by unfold Ij;rw[uh g!];rfl
def WO{x:BY}{s:Int×AW×AW}(h:0<=s.1/\s.1<=16/\x.length=256):Av (Af (Gp x) s) λr=> ∀u,r= .inl u->u.1=4:=by
 refine AS (λ(s:Int×AW×AW)=>0<=s.1/\s.1<=16/\x.length=256) (λ(s:Int×AW×AW)=>(16-s.1).toNat) h (λs e=>?_);unfold Gp;obtain⟨g,i,j⟩:=e;have b:=AZ (x:=s.1*13);have c:=AZ (x:=12+s.1*13);have d:=AZ (x:=12+s.1*13+1);rw[b,c,d];repeat' with_reducible first|intro a|apply AC|apply AV|apply AJ|apply AB|(refine AM ?_ (DQ ?_ ?_);intro r hr)|(refine AM ?_ (Ch ?_ ?_ ?_);rintro r ⟨hr,f⟩)|(refine AM ?_ (Tq ?_ ?_);rintro r ⟨hr,f⟩)
 all_goals try dsimp only[len]at*
 all_goals first|omega|grind[AZ]
def Za{x:BY}(h:x.length<=1099511627776):Av (Ej x) λr=>(r.2=0->HO r.1/\x=Hw r.1/\x≠eu 256)/\(r.2=7->x=eu 256):=by
 unfold Ej;rw[oZ,AE];repeat' with_reducible first|intro b|apply AV|apply AL|apply AJ|(apply BK;try dsimp only)|(apply A5;try dsimp only)|(apply A8<;>(intro u c;try subst c))|apply AB|(refine AM ?_ (Ca ?_);intro r hr)|(refine AM ?_ (PW ?_);intro r hr)|(refine AM ?_ (WO ?_);intro r hr)|(apply AA (Rm);intro r hr)|(refine AM ?_ (Ch ?_ ?_ ?_);rintro r ⟨hr,d⟩)
 all_goals try dsimp only[len]at*
 all_goals first|trivial|omega|(exact⟨n!,n!⟩)|grind
def fb{x:Int}:Av (IM x) λr=>r=(x,(0,Ho.all (false,[]))):=by
 unfold IM;repeat' with_reducible first|apply AB
 all_goals trivial
def Rd(s:BY)(p:Int)(q:AW):Prop:=q.1=p/\((s=eu 256/\q=(p,(0,Ho.all (false,[]))))\/(HO q/\s=Hw q/\s≠eu 256))
def XI{x:BY×Int}(h:x.1.length<=1099511627776):Av (CZ x) λr=>r.2=0->Rd x.1 x.2 r.1:=by refine AC (λ_=>AB n!) (λ_=>AC (λ_=>AB n!) (λ_=>AA (Za h) λv c=>AV (λd=>?_) (λ_=>AV (λf=>AL (λ_=>AB n!) (λb=>AB λa=>⟨b,.inr (c.1 a)⟩)) (λhn=>AB λa=>absurd a hn))));exact AA fb λw e=>AB λ_=>by rw[e];exact⟨rfl,.inl ⟨c.2 d,rfl⟩⟩
def bZ{x:Bh×Int×Int×BY}(h:x.2.2.2.length<=1099511627776):Av (LM x) λr=>r.2=0->Rd x.2.2.2 x.2.1 r.1:=by
 unfold LM;repeat' with_reducible first|intro a|apply AC|apply AO|apply AL|apply AJ|apply AB|(apply AA (GH);intro r hr)|(refine AM ?_ (XI ?_);intro r hr)|(refine AM ?_ (AI ?_ ?_);rintro r ⟨hr,c⟩)
 all_goals try dsimp only[len]at*
 all_goals first|assumption|omega|(intro b;exact absurd b v!)|(intro b;exact absurd b g!)|(intro _;exact hr v!)|grind
def S8{x:AW×Dx}:Av (Il x) λr=>(r.2=0->OP x.2/\Gr x.1.2.2 x.2.2.1=some x.2.2.2.1)/\(OP x.2->x.2.1=x.1.1->Gr x.1.2.2 x.2.2.1=some x.2.2.2.1->r=((x.1.1,(x.1.2.1,Vq x.1.2.2 x.2.2.1 x.2.2.2.2)),0)):=by unfold Il;refine AA S9 λv g=>AO (λe=>AB ⟨n!,λh=>absurd (g.2 h) (by simp[e])⟩) (λe=>?_);have b:=g.1 e;refine AL (λe=>AB ⟨n!,λ_ h=>absurd h e⟩) (λj=>?_);obtain⟨c,i,_⟩:=DQ (a:=x.1.2.2) b.2.2.1 b.2.2.2.1;rw[i];refine A2 (A2 (AJ (λd=>AB ⟨n!,λ_ _ h=>?_⟩) (λd=>A2 (A2 (AB ⟨λ_=>⟨b,?_⟩,λ_ _ _=>rfl⟩)))));rw[Bg h]at d;simp at d;obtain⟨k,l⟩:=c;simp at d;rw[d.1,d.2]
def xm{x:AW}{e:AD}(h:HO x)(d:Lg e)(f:e.2.1=1\/e.2.1=2)(b:e.2.2.2.2.2.2.1.1=x.1)(g:e.2.2.2.2.1=x.2.1)(c:Gr x.2.2 e.2.2.2.2.2.2.1.2.1=some e.2.2.2.2.2.2.1.2.2.1):It (x,e)=some (upd x e,0):=by
 suffices i:Av (It (x,e)) λr=>r=(upd x e,0) by obtain⟨r,hr,rfl⟩:=i;exact hr
 have a:OP e.2.2.2.2.2.2.1:=by grind[Lg,UX]
 refine AA CM λv j=>AO (λa=>absurd (j.2 d) (by simp[a])) (λ_=>AA B7 λw k=>AO (λa=>absurd (k.2 f) (by simp[a])) (λ_=>?_));rw[o6 h];refine A2 (AL (λa=>absurd rfl a) (λ_=>AL (λa=>absurd b a) (λ_=>AL (λa=>absurd g a) (λ_=>AA S8 λr hr=>?_))));rw[hr.2 a b c];exact AL (λa=>absurd rfl a) (λ_=>AB rfl)
def bU{x:AD×List AD}(h:x.2.length<=16777215):Av (LG x) λr=>r=x.1::x.2:=by
 unfold LG;repeat' with_reducible first|apply AB|(refine AM ?_ (Ac ?_);rintro r ⟨hr,b,a⟩)
 all_goals first|(simp at*;omega)|(simp at*;done)
def Lf(L:List AD):Prop:= ∀(i:Nat) (e:AD),L[i]? =some e->e.1=1+i/\Lg e
def D8.num{l:Ah}(h:D8 l)(a:l.1=1):Lf l.2.1:=λi e b=>by have:=h.2.2.2.2.2 i e b;rw[a]at this;exact this
def Lf.take{L:List AD}(h:Lf L)(k:Nat):Lf (L.take k):=λi e a=>h i e q!
def cC{L:List AD}{k:Nat}(h:k<L.length):L.take (k+1)=L.take k++[L[k]]:=by rw[Dt,At h];rfl
def Lf.at{L:List AD}(h:Lf L){k:Nat}(a:k<L.length):L[k].1=1+k/\Lg L[k]:=h k _ (At a)
def eO{L:List AD}(h:Lf L)(p:Int):Bw L p<=L.length:=by
 have:=lW (p:=p) (b:=L.length+1) L 0 o! λe c=>by have⟨i,a⟩:=Eh c;have:=(h i e a).1;have:=DU a;omega
 unfold Bw;omega
def PR{L:List AD}(h:Lf L)(p:Int)(j:Nat): ∀k:Nat,j<=k->Bw (L.take j) p<=Bw (L.take k) p
 |0,hj=>by rw[show j=0 by omega];exact Ag _
 |k+1,hj=>by by_cases e:j=k+1;rw[e];exact Ag _;have c:=PR h p j k (by omega);by_cases a:k<L.length;rw[cC a,O2];have b:=eO (h.take k) p;have d:=(h.at a).1;rw[Ba]at b;split<;>omega;rw[BS (l:=L) (i:=k+1) (by omega)];rwa [BS (l:=L) (i:=k) (by omega)]at c
def uD{L:List AD}(h:Lf L){p:Int}{i:Nat}{e:AD}(a:L[i]? =some e)(c:bC p e=true){k:Nat}(d:i<k):e.1<=Bw (L.take k) p:=by have b:=DU a;have:=PR h p (i+1) k d;rw[cC b,O2,(Bg ((At b).symm.trans a):L[i]=e),if_pos c]at this;exact this
def se{L:List AD}(h:Lf L){p:Int}{j k:Nat}(g:Bw (L.take j) p=Bw (L.take k) p):((L.take k).drop j).filter (bC p)=[]:=by refine List.filter_eq_nil_iff.2 λe f d=>?_;obtain⟨i,a⟩:=Eh f;rw[L6]at a;have b:=DU a;rw[Ba]at b;rw[Kg o!]at a;have:=uD h a d (k:=k) o!;have c:=eO (h.take j) p;have:=(h _ _ a).1;rw[Ba]at c;omega
def qv(L:List AD){j k:Nat}(h:j<=k):L.take k=L.take j++(L.take k).drop j:=by
 conv=>lhs;rw[<-EP j (L.take k)]
 rw[Kq,P8 h]
def jH{L:List AD}{p:Int}{j k:Nat}(h:j<=k):st (L.take k) p=(((L.take k).drop j).filter (bC p)).foldl upd (st (L.take j) p):=by
 conv=>lhs;rw[qv L h]
 exact yv _ _ _
def jG{L:List AD}(h:Lf L){p:Int}{j k:Nat}(b:Bw (L.take j) p=Bw (L.take k) p):st (L.take j) p=st (L.take k) p:=by rcases Nat.le_total j k with a|a;rw[jH a,se h b];rfl;rw[jH a,se h b.symm];rfl
def oi{L:List AD}(h:Lf L){p:Int}: ∀{k:Nat},0<Bw (L.take k) p-> ∃(i:Nat) (e:AD),i<k/\L[i]? =some e/\bC p e=true/\(i:Int)+1=Bw (L.take k) p
 |0,hk=>absurd hk (by simp[Bw])
 |k+1,hk=>by by_cases b:k<L.length;rw[cC b,O2]at hk⊢;by_cases a:bC p L[k]=true;rw[if_pos a];exact⟨k,L[k],by omega,At b,a,by have:=(h.at b).1;omega⟩;rw[if_neg a]at hk⊢;obtain⟨i,e,d,r⟩:=oi h hk;exact⟨i,e,by omega,r⟩;rw[BS (l:=L) (i:=k+1) (by omega)]at hk⊢;rw[<-BS (l:=L) (i:=k) (by omega)]at hk;obtain⟨i,e,d,f,g,c⟩:=oi h hk;rw[BS (l:=L) (i:=k) (by omega)]at c;exact⟨i,e,by omega,f,g,c⟩
def Yj{L:List AD}(h:Lf L)(p:Int)(k:Nat):0<=Bw (L.take k) p:=PR h p 0 k (B8 _)
def bp{L:List AD}(h:Lf L){p:Int}{k:Nat}:Bw (L.take (Bw (L.take k) p).toNat) p=Bw (L.take k) p:=by
 have f:=Yj h p k;by_cases d:Bw (L.take k) p=0;rw[d];rfl;obtain⟨i,e,g,a,c,hn⟩:=oi h (by omega:0<Bw (L.take k) p);have b:(Bw (L.take k) p).toNat=i+1:=o!
 have:=uD h a c (k:=i+1) o!;have:=eO (h.take (i+1)) p;have:=(h i e a).1;rw[b];rw[Ba]at*;omega
def Xo{L:List AD}(h:Lf L){p:Int}(b:0<=p/\p<64)(d:L.length<=1099511627776): ∀k:Nat,HO (st (L.take k) p)
 |0=>⟨b.1,b.2,Ag 0,(by decide:(0:Int)<=1099511627776),λi=>⟨⟨B8 12,.inr rfl⟩,λ_=>rfl⟩⟩
 |k+1=>by
  have a:=Xo h b d k;by_cases c:k<L.length;rw[cC c,xk];split;rename_i m;have⟨g,j⟩:=h.at c;have e:OP L[k].2.2.2.2.2.2.1:=by grind[Lg,UX,bC]
  refine⟨a.1,a.2.1,by show 0<=L[k].1;omega,by show L[k].1<=_;omega,λi=>⟨?_,λf=>?_⟩⟩;show Ig (Vq _ _ _ i);unfold Vq;split;exact e.2.2.2.2.2;exact(a.2.2.2.2 i).1;have:L[k].1=0:=f;omega;exact a;rw[BS (l:=L) (i:=k+1) o!];rwa [BS (l:=L) (i:=k) o!]at a
def y9:AW->List AD->Prop
 |_,[]=>True
 |x,e::r=>(HO x/\Lg e/\(e.2.1=1\/e.2.1=2)/\e.2.2.2.2.2.2.1.1=x.1/\e.2.2.2.2.1=x.2.1/\Gr x.2.2 e.2.2.2.2.2.2.1.2.1=some e.2.2.2.2.2.2.1.2.2.1)/\y9 (upd x e) r
def y9.snoc: ∀{x:AW} {l:List AD} {e:AD},y9 x l->y9 (l.foldl upd x) [e]->y9 x (l++[e])
 |_,[],_,_,h=>h
 |_,_::_,_,h,g=>⟨h.1,y9.snoc h.2 g⟩
def uI{n:Int}{L:List AD}(h:Lf L)(g:LI n L){p:Int}(o:0<=p/\p<64)(m:L.length<=1099511627776)(j:Nat): ∀k:Nat,j<=k->y9 (st (L.take j) p) (((L.take k).drop j).filter (bC p))
 |0,hj=>by rw[show j=0 by omega];exact trivial
 |k+1,hj=>by
  by_cases e:j=k+1;rw[e,aD (by rw[Ba];omega)];exact trivial;have c:=uI h g o m j k o!;by_cases b:k<L.length;rw[cC b,mW (by rw[Ba];omega),II,U0,iT];split;rename_i q;refine c.snoc ⟨?_,trivial⟩;rw[<-jH o!];have r:=g k _ (At b);have a:(L[k].2.1=1\/L[k].2.1=2)/\L[k].2.2.2.2.2.2.1.1=p:=by simpa[bC]using q
  have⟨d,f⟩:=r.1 a.1;rw[a.2]at d f;exact⟨Xo h o m k,(h.at b).2,a.1,by rw[a.2,UO],by rw[d,Pe],f⟩;rw[Dr];exact c;rw[BS (l:=L) (i:=k+1) o!];rwa [BS (l:=L) (i:=k) o!]at c
def lQ{L:List AD}(h:Lf L){p:Int}{m j k:Nat}(l:m<=j)(n:Bw (L.take m) p=Bw (L.take j) p):((L.take k).drop m).filter (bC p)=((L.take k).drop j).filter (bC p):=by rw[<-EP (j-m) ((L.take k).drop m),II,Nc,show m+(j-m)=j by omega];refine(congrArg (· ++_) (List.filter_eq_nil_iff.2 λe g f=>?_)).trans (Cn _);obtain⟨i,a⟩:=Eh g;have c:=DU a;rw[Ba]at c;rw[Kg o!,L6]at a;have b:=DU a;rw[Ba]at b;rw[Kg o!]at a;have:=uD h a f (k:=j) o!;have d:=eO (h.take m) p;have:=(h _ _ a).1;rw[Ba]at d;omega
def AFE{n:Int}{l:Ah}(t:D8 l)(C:l.1=1)(I:LI n l.2.1){p:Int}(T:0<=p/\p<64){j k:Nat}(A:Bw (l.2.1.take j) p<=Bw (l.2.1.take k) p):Av (QH (l,(p,(Bw (l.2.1.take k) p,Bw (l.2.1.take j) p)))) λr=>r=(((l.2.1.take k).drop j).filter (bC p),0):=by
 have b:=t.num C;have O:=Yj b p k;have Q:=Yj b p j;have R:=t.2.2.1;refine AA Bn λv B=>AO (λa=>absurd (B.2 t) (by simp[a])) (λ_=>?_);refine AC (λa=>absurd a d!) (λ_=>AC (λa=>absurd a d!) (λ_=>AC (λa=>absurd a d!) (λ_=>AC (λa=>absurd a d!) (λ_=>?_))));refine AA (P:=λr=>r= .inr (((l.2.1.take k).drop j).filter (bC p),Bw (l.2.1.take j) p)) ?_ λr hr=>?_
 ·refine Dg (λ(s:List AD×Int)=> ∃m:Nat,m<=k/\s=(((l.2.1.take k).drop m).filter (bC p),Bw (l.2.1.take m) p)/\Bw (l.2.1.take j) p<=s.2) (λs=>s.2.toNat) ⟨k,Ai _,by rw[aD (by rw[Ba];omega)];rfl,A⟩ ?_;rintro s ⟨m,S,rfl,x⟩;unfold TB;dsimp only at x⊢;refine AC (λa=>?_) (λa=>Av.done ?_)
  ·obtain⟨i,e,K,q,o,J⟩:=oi b (by omega:0<Bw (l.2.1.take m) p);have z:=DU q;have c:(e.2.1=1\/e.2.1=2)/\e.2.2.2.2.2.2.1.1=p:=by simpa[bC]using o
   refine AA G5 λg D=>?_;have F:=D.2 t d! d!;have⟨_,_,u,_⟩:=D.1 F;dsimp only at u;rw[C,show(Bw (l.2.1.take m) p-1).toNat=i by omega,q]at u;rw[F,<-Bg u];refine AL (λa=>absurd rfl a) (λ_=>AA B7 λw N=>AO (λa=>absurd (N.2 c.1) (by simp[a])) (λ_=>AL (λa=>absurd c.2 a) (λ_=>?_)));have y:=IL (bC p) ((l.2.1.take k).drop m);rw[GF,Ba]at y;have d:=((I i e q).1 c.1).1;rw[c.2]at d;have E:=bp b (p:=p) (k:=m);rw[show(Bw (l.2.1.take m) p).toNat=i+1 by omega]at E;have L:=bp b (p:=p) (k:=j);have M:=PR b p (Bw (l.2.1.take j) p).toNat i o!;refine AA (bU d!) λf H=>Av.next ⟨i,o!,?_,d!⟩ (by dsimp only;rw[d];have:=eO (b.take i) p;rw[Ba]at this;omega)
   rw[d,H,<-lQ b (m:=i+1) (j:=m) o! E,So (l:=l.2.1.take k) (i:=i) (by rw[Ba];omega),U0];have G:(l.2.1.take k)[i]'(by rw[Ba];omega)=e:=by rw[List.getElem_take];exact Bg ((At z).symm.trans q)
   rw[G,if_pos o]
  have e:Bw (l.2.1.take m) p=Bw (l.2.1.take j) p:=o!
  rw[e];rcases Nat.le_total m j with h|h;rw[lQ b h e];rw[lQ b h e.symm]
 subst hr;exact A5 (AC (λa=>absurd a d!) (λ_=>AB rfl))
def AEV{n:Int}{l:Ah}(f:D8 l)(C:l.1=1)(F:LI n l.2.1){p:Int}(t:0<=p/\p<64){j k:Nat}:Av (QQ (l,(st (l.2.1.take j) p,Bw (l.2.1.take k) p))) λr=>r=(if Bw (l.2.1.take j) p<=Bw (l.2.1.take k) p then st (l.2.1.take k) p else st (l.2.1.take j) p,0):=by
 generalize G:(if Bw (l.2.1.take j) p<=Bw (l.2.1.take k) p then st (l.2.1.take k) p else st (l.2.1.take j) p)=y;have d:=f.num C;have S:=Yj d p k;have T:=f.2.2.1;have q:=Xo d t o!;suffices Q:Av (QR (l,(st (l.2.1.take j) p,Bw (l.2.1.take k) p))) λr=>r.1=y/\r.2.2=0 from AA Q λr hr=>AB (by rw[hr.1,hr.2]);refine AA (P:=λr=> ∃b:List AD,r=(b,0)/\b.length<=4096/\y9 (st (l.2.1.take j) p) b/\b.foldl upd (st (l.2.1.take j) p)=y) ?_ λr hr=>?_;refine AA Bn λv w=>AO (λa=>absurd (w.2 f) (by simp[a])) (λ_=>?_);rw[o6 (q j)];refine A2 (AL (λa=>absurd rfl a) (λ_=>AC (λa=>absurd a d!) (λ_=>AC (λa=>AB ?_) (λa=>?_))));rw[Pe]at a;refine⟨[],rfl,k!,trivial,?_⟩;rw[<-G];split;exact jG d (by dsimp only at a;omega);rfl;rw[Pe]at a;have c:j<=k:=by rcases Nat.le_total j k with h|h;exact h;have:=PR d p k j h;dsimp only at a;omega
 have e:((st (l.2.1.take j) p).1,(Bw (l.2.1.take k) p,(st (l.2.1.take j) p).2.1))=(p,(Bw (l.2.1.take k) p,Bw (l.2.1.take j) p)):=by rw[UO,Pe]
 dsimp only at e⊢;rw[e];refine AA (AFE f C F t (by dsimp only at a;omega)) λr hr=>AB ⟨_,hr,?_,uI d F t o! j k c,by rw[<-G,if_pos (by dsimp only at a;omega)];exact(jH c).symm⟩;have o:=IL (bC p) ((l.2.1.take k).drop j);rw[GF,Ba]at o;omega
 ·obtain⟨b,rfl,m,O,u⟩:=hr;refine AL (λa=>absurd rfl a) (λ_=>AA (P:=λr=> ∃z,r= .inr (y,z)) ?_ λr hr=>?_)
  ·refine Dg (λ(s:Int×AW×AW)=> ∃A B,b=A++B/\s.1=A.length/\y9 s.2.1 B/\B.foldl upd s.2.1=y) (λ(s:Int×AW×AW)=>((b.length:Int)-s.1).toNat) ⟨[],b,rfl,rfl,O,u⟩ ?_;rintro⟨i,x,z⟩ ⟨A,B,rfl,D,E,g⟩;dsimp only at D E g;subst D;unfold TE;dsimp only[len];rw[Ad]at m;refine AC (λa=>?_) (λa=>Av.done ?_)
   ·obtain _|⟨e,B⟩:=B;simp at a;have R:ix (A++e::B) (A.length:Int)=some e:=by unfold ix;rw[if_pos o!,Dk,Cb (Ai _),Gu];rfl
    obtain⟨⟨H,I,J,K,L,M⟩,N⟩:=E;rw[R,AE,xm H I J K L M,AE,AZ (x:=(A.length:Int)+1)];refine AL (λa=>absurd rfl a) (λ_=>Av.next ⟨A++[e],B,k!,k!,N,g⟩ d!)
   obtain _|⟨e,B⟩:=B;exact⟨z,by rw[<-g];rfl⟩;simp at a;omega
  obtain⟨z,rfl⟩:=hr;exact A5 (AB ⟨rfl,rfl⟩)
variable {B:Int->Prop}
def KS(B:Int->Prop)(k m:AQ):Prop:=letI a:=m.2.2;m.1=k.1/\LX k.2.2.1 a.1/\D8 a.1/\a.2.2.1=k.2.2.2.2.1/\a.2.2.2.1=k.2.2.2.2.2.1/\SK B m
def KS.refl{k:AQ}(h:SK B k)(a:D8 k.2.2.1):KS B k k:=⟨rfl,LX.refl _,a,rfl,rfl,h⟩
def KS.trans{a b c:AQ}(h:KS B a b)(g:KS B b c):KS B a c:=letI d:=g.2.2;⟨g.1.trans h.1,h.2.1.trans g.2.1,d.1,d.2.1.trans h.2.2.2.1,d.2.2.1.trans h.2.2.2.2.1,d.2.2.2⟩
def LX.of{a b:Ah}(h:b.1=a.1)(g:b.2.1=a.2.1)(d:a.2.2<=b.2.2):LX a b:=⟨h,d,[],by rw[g,Dr]⟩
def KI.of{k m:AQ}(h:KI B k)(a:m.1=k.1)(b:m.2.2.1.2.1=k.2.2.1.2.1)(c:m.2.2.2.1=k.2.2.2.1)(d:m.2.2.2.2.2.2=k.2.2.2.2.2.2):KI B m:=by unfold KI;rw[a,b,c,d];exact h
def o8{x:Ah×Int}(h:D8 x.1)(c:x.2<=x.1.1+x.1.2.1.length-1):Av (ET x) λr=>r.2=0:=by refine AA Bn λv d=>AO (λa=>?_) (λ_=>?_);grind;refine AA Fk λe b=>?_;rw[h.last]at b;exact AC (λa=>absurd a o!) (λ_=>AB rfl)
def Jo{x:AQ×Int}(h:SK B x.1)(c:D8 x.1.2.2.1):Av (F7 x) λr=>KS B x.1 r/\r.2.2.2.1=x.1.2.2.2.1/\(x.2<=x.1.2.2.1.1+x.1.2.2.1.2.1.length-1->x.2<=r.2.2.1.2.2):=by unfold F7;refine AA Gg λv d=>?_;have d:=d c;refine AA (Jl.and (o8 c (by dsimp only;split<;>omega))) λw a=>?_;have⟨i,e,j,k,f⟩:=a.1 a.2;refine BX (AV (λb=>AB ⟨⟨rfl,LX.of j e k,i,rfl,rfl,SB.sk h.sb (h.ki.of rfl e rfl rfl)⟩,rfl,λg=>?_⟩) (λb=>absurd a.2 b));dsimp only at f⊢;split at f<;>omega
theorem YK{x:AQ×Int×Int}(h:SK B x.1)(p: ∃f∈x.1.2.2.2.1.2.1,f.1.1=x.2.1/\f.1.2.1=x.2.2):Av (Jq x) λr=>r.2=0->VK x.1/\KS B x.1 r.1/\DC r.1.2.2.2.1<=DC x.1.2.2.2.1/\ ∀(i:Nat) (f:A7),x.1.2.2.2.1.2.1[i]? =some f->f.1.1=x.2.1->f.2.1=true->f.1.2.1=x.2.2->DC r.1.2.2.2.1<DC x.1.2.2.2.1:=by unfold Jq;refine AA (Bz h.sb) λv O=>?_;refine AO (λb=>AB (λc=>absurd c (by decide))) (λb=>?_);have A:=O b;refine AC (λb=>AB (λc=>absurd c (by decide))) (λ_=>?_);refine AC (λb=>AB (λc=>absurd c (by decide))) (λ_=>?_);refine AC (λb=>AB (λc=>absurd c (by decide))) (λ_=>?_);refine AA Gg λ_ _=>?_;refine AC (λb=>AB (λc=>absurd c (by decide))) (λ_=>?_);refine AA Fm λi L=>?_;refine AA (P:=λs=>(∃u,s= .inl u/\u.1≠0)\/ ∃u,s= .inr u/\(DC u.1<=DC x.1.2.2.2.1/\ ∀(i:Nat) (f:A7),x.1.2.2.2.1.2.1[i]? =some f->f.1.1=x.2.1->f.2.1=true->f.1.2.1=x.2.2->DC u.1<DC x.1.2.2.2.1)/\(∀g∈u.1.2.1,∃f∈x.1.2.2.2.1.2.1,f.1.1=g.1.1/\f.1=g.1)/\ ∀f∈x.1.2.2.2.1.2.1,f.1.1≠x.2.1->f∈u.1.2.1) ?_ λs N=>?_;refine AC (λb=>?_) (λb=>AB (.inr ⟨_,rfl,⟨Ai _,λj f M q _ _=>absurd (L.2.2.2 A.2.2.2.1 ⟨j,f,M,q⟩) b⟩,λg K=>⟨g,K,rfl,rfl⟩,λf n _=>n⟩));grind[AA,bX,AL,AB];rcases N with⟨u,rfl,t⟩|⟨u,rfl,t,m,y⟩;exact BK (AB λc=>absurd c t);refine A5 ?_;refine AA (F6 h.sb) λa J=>?_;refine AL (λb=>AB (λc=>absurd c b)) (λb=>AB λ_=>?_);have⟨_,⟨a1,a2,a3,a4,a5,a6,a7,a8,e,E,Q,F,o,R,S,G⟩,_⟩:=J b;have⟨f,n,H,I⟩:=p;have⟨q0,w,C,D⟩:=G rfl;have T:=h.ki.2.2 f n;have d:=congrArg (λz=>z.2.1) ((h.ki.2.1 x.2.1 (by omega) (by omega)).1 f n H);rw[Pe]at d;refine⟨A,⟨a1,a2,a3,a5,a6.2.1 rfl,a8.1,a8.2.1,a8.2.2,?_⟩,t⟩;unfold KI;dsimp only at F o C D⊢;rw[a1,a7,E,D];have k:=congrArg (λz=>z.1) o;have l:=congrArg (λz=>z.2.1.1) o;dsimp only at k l;refine⟨h.ki.1.app ⟨λh=>by omega,λ_=>?_,λh=>by omega⟩,(h.ki.2.1.written (by omega) (by omega) (by omega) m y C).app ⟨by omega,by omega⟩,h.ki.2.2.sub m⟩;rw[k,l,<-I];exact d
def du{x:AQ}(h:SK B x):Av (MP x) λr=>r.2.2.2=0->VK x/\KS B x r.1/\(r.2.2.1=true->DC r.1.2.2.2.1=DC x.2.2.2.1/\ ∃(i:Nat) (f:A7),r.1.2.2.2.1.2.1[i]? =some f/\f.1=r.2.1/\f.2.1=true/\r.2.1.2.1<=r.1.2.2.1.2.2):=by
 unfold MP;refine AA (Bz h.sb) λv M=>?_;refine AO (λn=>AB n!) (λn=>?_);have c:=M n;refine AC (λn=>AB (λ_=>⟨c,KS.refl h c.2.2.1,λt=>by cases t⟩)) (λm=>?_);refine AA Zl λw D=>?_;have⟨_,F,O,P⟩:=D.1 (D.2 c.2.2.2.1 (by have:=c.2.2.2.1.1;simp[len]at m;omega));have G: ∀g∈w.1.2.1,∃f∈x.2.2.2.1.2.1,lP g=lP f:=λg b=>by grind[List.getElem?_of_mem,o0,List.mem_of_getElem?]
 have H: ∀f∈x.2.2.2.1.2.1,∃g∈w.1.2.1,lP g=lP f:=λf l=>by grind[List.getElem?_of_mem,o0,List.mem_of_getElem?]
 have u: ∀{f g:A7},lP f=lP g->f.1=g.1/\f.2.1=g.2.1:=λe=>⟨congrArg (λz=>z.1) e,congrArg (λz=>z.2.1) e⟩
 have k1: ∀g∈w.1.2.1,∃f∈x.2.2.2.1.2.1,f.1.1=g.1.1/\f.1=g.1:=λg b=>by have⟨f,l,e⟩:=G g b;exact⟨f,l,by rw[(u e).1],by rw[(u e).1]⟩
 have N: ∀f∈x.2.2.2.1.2.1,f.2.1=true-> ∃g∈w.1.2.1,g.1.1=f.1.1/\g.2.1=true:=λf l y=>by have⟨g,b,e⟩:=H f l;exact⟨g,b,by rw[(u e).1],by rw[(u e).2,y]⟩
 refine AA Fm λi A=>?_;have E:=A.2.2.2 F P;refine AA (AI E A.2.1) λf l=>?_;have a:KI B (x.1,(x.2.1,(x.2.2.1,(w.1,x.2.2.2.2)))):=⟨h.ki.1,h.ki.2.1.frames k1 N,h.ki.2.2.sub k1⟩
 apply AO<;>intro n;have⟨_,L,o,J⟩:=A.2.2.1 E;have K:L=f:=by have:=l.1;rw[o]at this;exact Bg this
 subst K;refine AA dn λd y=>AB λ_=>⟨c,⟨rfl,LX.refl _,c.2.2.1,rfl,rfl,h.1,h.2.1,h.2.2.1,?_⟩,λt=>by cases t⟩
 have⟨C,I⟩:=y F _ _ o J n;exact⟨h.ki.1,a.2.1.frames (λg b=>⟨g,C g b,rfl,rfl⟩) (λg b s=>⟨g,I g b s,rfl,s⟩),a.2.2.sub λg b=>⟨g,C g b,rfl,rfl⟩⟩;refine AA (Jo (SB.sk ⟨h.1,h.2.1,h.2.2.1⟩ a) c.2.2.1) λk j=>AB λ_=>⟨c,j.1,λ_=>⟨?_,i.toNat,f,?_,rfl,n,j.2.2 ?_⟩⟩
 rw[j.2.1,xn,xn,O];rw[j.2.1];exact l.1;have q:=BM l.1;have p:=a.2.2 f q;have:=congrArg (λz=>z.2.1) ((a.2.1 f.1.1 p.1 p.2.1).1 f q rfl);dsimp only at this⊢;rw[this,Pe];have:=iv c.2.2.1 f.1.1;omega
def AEU(P:List AD)(p:Int)(s:BY):Prop:=s=eu 256\/ ∃j:Nat,s=Hw (st (P.take j) p)
def dead(s:BY):Prop:=s≠eu 256/\ ∀q,HO q->s≠Hw q
def DP(B:Int->Prop)(P:List AD)(d:Bf):Prop:=DI d/\ ∀(i:Nat) (s:BY),d.1[i]? =some s->(B i->AEU P i s)/\(B i\/dead s)
def dl(l:Ah):List AD:=l.2.1.take l.2.2.toNat
def DJ(B:Int->Prop)(l:Ah)(d:Bf):Prop:=l.1=1/\DP B (dl l) d
def DP.up{P Q:List AD}{d:Bf}{m:Nat}(h:DP B P d)(e:P=Q.take m):DP B Q d:=⟨h.1,λi s a=>⟨λb=>by rcases(h.2 i s a).1 b with q|⟨j,q⟩;exact .inl q;rw[e,Kq]at q;exact .inr ⟨_,q⟩,(h.2 i s a).2⟩⟩
def DJ.up{a b:Ah}{d:Bf}(h:DJ B a d)(g:LX a b):DJ B b d:=by obtain⟨c,f,t,e⟩:=g;refine⟨c.trans h.1,h.2.up (m:=min a.2.2.toNat a.2.1.length) ?_⟩;unfold dl;rw[e,Kq,P8 o!,cK o!,Nat.min_comm,<-Kq,BS (l:=a.2.1.take _) (by rw[Ba];omega)]
def AB4{L:List AD}(h:Lf L){p d:Int}(f:Bw L p<=d):st (L.take d.toNat) p=st L p:=by
 have e:=Hs (l:=L);have a:=bp h (p:=p) (k:=L.length);rw[e]at a;have b:=PR h p (Bw L p).toNat d.toNat o!
 have c:Bw (L.take d.toNat) p<=Bw L p:=by rcases Nat.le_total d.toNat L.length with q|q;have:=PR h p _ _ q;rwa [e]at this;rw[BS q];exact Ag _
 have:=jG h (p:=p) (j:=d.toNat) (k:=L.length) (by rw[e];omega);rwa [e]at this
def TG{x:AT×AQ×AW}(h:SK B x.2.1)(A:D8 x.2.1.2.2.1)(l:DJ B x.2.1.2.2.1 x.1.2)(n: ∃f∈x.2.1.2.2.2.1.2.1,f.1=x.2.2)(y:x.2.2.2.1<=x.2.1.2.2.1.2.2):Av (Lb x) λr=>r.2=0->KS B x.2.1 r.1.1/\DJ B r.1.1.2.2.1 r.1.2/\DC r.1.1.2.2.2.1<=DC x.2.1.2.2.2.1/\((∃(i:Nat) (f:A7),x.2.1.2.2.2.1.2.1[i]? =some f/\f.1=x.2.2/\f.2.1=true)->DC r.1.1.2.2.2.1<DC x.2.1.2.2.2.1):=by
 have⟨f,m,b⟩:=n;have a:=h.ki.2.2 f m;have c:=(h.ki.2.1 f.1.1 a.1 a.2.1).1 f m rfl;refine D9 Rm λv G _=>AA (bR l.2.1) λw L=>AL (λd=>AB (λo=>absurd o d)) (λd=>?_);refine AA (YK h ⟨f,m,by rw[b],by rw[b]⟩) λu K=>AL (λd=>AB (λo=>absurd o d)) (λq=>AB λ_=>?_);have⟨D,E,M,N⟩:=K q;have⟨O,P,F⟩:=L d;refine⟨E,DJ.up ⟨l.1,O,λi s j=>?_⟩ E.2.1,M,λ⟨i,g,H,t,I⟩=>N i g H (by rw[t]) I (by rw[t])⟩;have C:=A.num l.1;have k:=Xo C (p:=f.1.1) ⟨a.1,by have:=D.2.1;have:=D.1;dsimp only at*;omega⟩ (by have:=A.2.2.1;omega) x.2.1.2.2.1.2.1.length;rw[Hs,<-c,b]at k;rw[Z5 k]at G;dsimp only at F j;rw[F]at j;by_cases J:i=x.2.2.1.toNat
 subst J;have e:s=Hw x.2.2:=by unfold Bb at j;grind
 rw[b]at a c;rw[show((x.2.2.1.toNat:Nat):Int)=x.2.2.1 by omega];refine⟨λ_=>.inr ⟨(dl x.2.1.2.2.1).length,?_⟩,.inl a.2.2.2⟩;rw[Hs,e];unfold dl;rw[AB4 C (by have:=congrArg (λz=>z.2.1) c;rw[Pe]at this;omega),<-c];exact l.2.2 i s (by unfold Bb at j;rwa [List.getElem?_set_ne o!]at j)
def SvR(B:Int->Prop)(s r:AT):Prop:=KS B s.1 r.1/\DJ B r.1.2.2.1 r.2
def eD{x:AT}(h:SK B x.1)(j:D8 x.1.2.2.1)(g:DJ B x.1.2.2.1 x.2):Av (MU x) λr=>r.2=0->SvR B x r.1:=by unfold MU;refine AA (P:=λr=>r.1=0->SvR B x r.2) ?_ λr hr=>AB hr;refine AS (λs=>SvR B x s.1) (λs=>DC s.1.1.2.2.2.1) ⟨KS.refl h j,g⟩ (λs c=>?_);unfold TF;refine AA (du c.1.2.2.2.2.2) λv k=>?_;refine AL (λa=>AB (λe=>absurd e a)) (λa=>?_);have⟨q,b,m⟩:=k a;refine AO (λa=>AB (λ_=>⟨c.1.trans b,c.2.up b.2.1⟩)) (λd=>?_);have⟨q1,i,f,q2,q3,q4,q5⟩:=m d;refine AA (TG b.2.2.2.2.2 b.2.2.1 (c.2.up b.2.1) ⟨f,BM q2,q3⟩ q5) λw l=>?_;refine AL (λa=>AB (λe=>absurd e a)) (λa=>AB ?_);have⟨n,o,t,p⟩:=l a;exact⟨⟨(c.1.trans b).trans n,o⟩,by have:=p ⟨i,f,q2,q3,q4⟩;dsimp only at*;omega⟩
end Go.Pm
namespace Go.Pm
open Go Go.Ab
set_option maxHeartbeats 400000
variable {B:Int->Prop}
def WZ{x:AQ×AW}{s:Int×List Ae}(h:0<=s.1/\s.1<=x.1.2.2.2.2.2.2.2.length/\x.1.2.2.2.2.2.2.2.length<=16777216/\s.2=(x.1.2.2.2.2.2.2.2.take s.1.toNat).filter (λd=>d.1 !=x.2.1)):Av (Af (Lt x) s) λr=>r=x.1.2.2.2.2.2.2.2.filter λd=>d.1 !=x.2.1:=by refine AS (λ(s:Int×List Ae)=>0<=s.1/\s.1<=x.1.2.2.2.2.2.2.2.length/\x.1.2.2.2.2.2.2.2.length<=16777216/\s.2=(x.1.2.2.2.2.2.2.2.take s.1.toNat).filter (λd=>d.1 !=x.2.1)) (λ(s:Int×List Ae)=>((x.1.2.2.2.2.2.2.2.length:Int)-s.1).toNat) h (λs j=>?_);have⟨b,q,g,i⟩:=j;unfold Lt;refine AC (λf=>?_) (λf=>AB ?_);simp[len]at f;have m:=gV (l:=x.1.2.2.2.2.2.2.2) (p:=λd=>d.1 !=x.2.1) b;rw[<-i]at m;refine AA (AI b f) λv o=>?_;have e:=AZ (x:=s.1+1);have n:=bE (p:=λd:Ae=>d.1 !=x.2.1) b o.1;refine AA (P:=λa=>a=(x.1.2.2.2.2.2.2.2.take (s.1+1).toNat).filter (λd=>d.1 !=x.2.1)) ?_ λa c=>AB ⟨⟨d!,d!,g,by dsimp only;rw[c,e]⟩,d!⟩;refine AJ (λk=>?_) (λk=>AB ?_);grind[AA,AI,Option.some.inj,Ac,AB];grind;grind[List.take_of_length_le]
def Zn{x:AQ×AW}(h:SK B x.1)(L:BZ x.1=some true->x.2=st x.1.2.2.1.2.1 x.2.1/\B x.2.1):Av (KW x) λr=>r.2=0->KS B x.1 r.1/\kf r.1.2.2.2.1 x.2.1:=by
 unfold KW;refine D9 (Bz h.sb) λv O hv=>?_;refine AO (λg=>AB n!) (λg=>?_);have K:=hv g;rw[g]at O;refine AC (λg=>AB n!) (λx0=>?_);refine AC (λg=>AB n!) (λx1=>?_);refine AA (KV h.sb) λy1 al=>?_;refine AC (λg=>AB n!) (λx2=>?_);refine AA (KV h.sb) λy2 ao=>?_;refine AC (λg=>AB n!) (λx3=>?_);have⟨R,Q⟩:=L O;refine AA EY λv3 _=>?_;refine AO (λg=>AB n!) (λ_=>?_);refine AA No λv4 _=>?_;refine AL (λg=>?_) (λ_=>?_);grind[AL,AB];have p2:=K.2.2.2.1.2.1;have p3:=K.2.2.2.1.2.2.1;refine AA (Gi d!) λi I=>?_;refine AC (λg=>AB n!) (λA=>?_);have A:=I.2.2.2 o!;refine AV (λg=>AB n!) (λ_=>?_);refine AA (Ac w!) λv8 C=>?_;have⟨C,Z,_⟩:=C;rw[Cn]at C;subst C;refine AA (Ac w!) λc n=>?_;have⟨n,o,_⟩:=n;have q:c[c.length-1]? =some (x.2,(false,(0,true))):=by rw[n];simp
 have hn:(c.length:Int)-1=((c.length-1:Nat):Int):=by simp at o;omega
 have e:=AZ (x:=(c.length:Int)-1) (by simp at o;omega);have k: ∀f∈x.1.2.2.2.1.2.1,f.1.1≠x.2.1:=λf H e=>by have⟨i,I⟩:=Eh H;exact A ⟨i,f,I,e⟩
 refine AA (Jp h.sb) λt w=>?_;refine AA (P:=λv:List A7×AQ×Int×Int×Int×Int×Int×Int=>(∃(i:Nat) (f:A7),v.1[i]? =some f/\f.1.1=x.2.1)/\(v.2.1.1=x.1.1/\v.2.1.2.2.1=x.1.2.2.1/\v.2.1.2.2.2.2.1=x.1.2.2.2.2.1/\v.2.1.2.2.2.2.2.1=x.1.2.2.2.2.2.1/\SB v.2.1/\v.2.1.2.2.2.2.2.2.1=x.1.2.2.2.2.2.2.1)/\KP x.1.1 x.1.2.2.1.2.1 v.1 v.2.1.2.2.2.2.2.2.2 x.1.2.2.2.2.2.2.1/\FD B x.1.1 v.1 v.2.1.2.2.2.2.2.2.2) ?_ λa0 m=>?_
 ·refine AJ (λs=>?_) (λs=>AB ⟨⟨_,_,q,rfl⟩,⟨rfl,rfl,rfl,rfl,h.sb,rfl⟩,?_,?_⟩);rotate_left 1;rw[n];exact h.ki.2.1.supply R k rfl (.inr ⟨rfl,w.2 s,rfl⟩);rw[n];exact h.ki.2.2.supply (p:=x.2.1) o! o! Q rfl (λd y=>y) (w.2 s);rw[hn]at e;simp only[len,hn,e];have z:c.length-1<c.length:=by simp at o;omega
  refine AA (AI) λap W=>?_;refine AA (AI) λj X=>?_;have V:j.1=x.2:=by grind[Int.toNat_natCast,Option.some.inj]
  have ad:(Bb c ((c.length-1:Nat):Int) (j.1,(true,j.2.2))).length=c.length:=by simp[Bb]
  refine AA (AI) λar Y=>?_;refine AA (AI) λa F=>?_;have l:a.1=x.2:=by grind[Int.toNat_natCast,Bb,List.getElem?_set_self,Option.some.inj]
  refine AA (WZ ⟨k!,k!,h.2.2.1,k!⟩) λax G=>?_;have u:a.2.1=true:=by have:=F.1;simp[Dk,Bb]at this;rw[IK z]at this;rw[<-Bg this]
  have N:Bb (Bb c ((c.length-1:Nat):Int) (j.1,(true,j.2.2))) ((c.length-1:Nat):Int) (a.1,(a.2.1,(t.1.2.1,a.2.2.2)))=x.1.2.2.2.1.2.1++[(a.1,(a.2.1,(t.1.2.1,a.2.2.2)))]:=by simp[Bb,Dk,Wv,(by rw[n];simp:c.length-1=x.1.2.2.2.1.2.1.length)];rw[n,SP _ _ (Ai _)];simp
  subst G;refine AB ⟨⟨c.length-1,(a.1,(a.2.1,(t.1.2.1,a.2.2.2))),?_,by rw[l]⟩,⟨rfl,rfl,rfl,rfl,⟨h.1,h.2.1,EB (IL _ _) h.2.2.1⟩,rfl⟩,?_,?_⟩;simp[Bb,Dk];rw[IK (by simpa using z)];rw[N];exact h.ki.2.1.supply R k l (.inl ⟨u,rfl⟩);rw[N];exact h.ki.2.2.supply (p:=x.2.1) o! o! Q (by rw[l]) (λd y=>(Bc.1 y).1) (λd y=>by simpa using(Bc.1 y).2)
 have⟨i,f,H,J⟩:=m.1;have⟨M,D,S,T,E,U⟩:=m.2.1;refine AB λ_=>⟨⟨M,by dsimp only;rw[D];exact LX.refl _,by dsimp only;rw[D];exact K.2.2.1,S,T,E.1,E.2.1,E.2.2,?_⟩,i,f,H,J⟩
 unfold KI;dsimp only;rw[M,D,U];exact⟨h.ki.1,m.2.2⟩
def AFf{x:AQ×Int}(h:BZ x.1=some false):Em x=some 0:=by unfold Em;rw[h];rfl
def Rd.st{P:List AD}{p:Int}{s:BY}{q:AW}(h:Rd s p q)(d:AEU P p s)(e: ∀j,HO (st (P.take j) p)): ∃j:Nat,q=Go.Pm.st (P.take j) p:=by obtain⟨_,⟨_,h⟩|⟨a,b,c⟩⟩:=h;exact⟨0,h⟩;rcases d with q|⟨j,q⟩;exact absurd q c;exact⟨j,AA1 a (e j) (b.symm.trans q)⟩
def He{x:AT×Int}(h:SK B x.1.1)(g:DJ B x.1.1.2.2.1 x.1.2):Av (E0 x) λr=>r.2=0->SvR B x.1 r.1/\kf r.1.1.2.2.2.1 x.2:=by
 unfold E0;refine AA (Bz h.sb) λv X=>?_;refine AO (λa=>AB n!) (λa=>?_);have s:=X a;refine AC (λa=>AB n!) (λp0=>?_);refine AC (λa=>AB n!) (λp1=>?_);refine AA Fm λi W=>?_;refine AC (λa=>AB λ_=>⟨⟨KS.refl h s.2.2.1,g⟩,?_⟩) (λ_=>?_);have⟨_,f,V,C⟩:=W.2.2.1 a;exact⟨_,f,V,C⟩;refine AA (eD h s.2.2.1 g) λo Q=>?_;refine AL (λa=>AB (λc=>absurd c a)) (λw=>?_);have⟨t,m⟩:=Q w;have n:=t.2.2.2.2.2;have F:=t.2.2.1;have k1:=s.1;have k2:=s.2.1;have H:0<=x.2/\x.2<64:=o!
 have M:=F.num m.1;have h4:=F.2.2.1;refine AA (dh m.2.1) λv3 R=>?_;refine AL (λa=>AB (λc=>absurd c a)) (λy=>?_);have⟨Y,Z,O⟩:=R y;have⟨b,u,_⟩:=Bz n.sb;refine AA (P:=λr=> ∃k:Nat,r=Bw (o.1.1.2.2.1.2.1.take k) x.2/\(b=true->k=o.1.1.2.2.1.2.1.length)) ?_ λv4 ⟨k,D,E⟩=>?_;cases b with
 |false=>exact⟨_,AFf u,0,rfl,λU=>by cases U⟩
 |true=>exact(KV n.sb).mono λr hr=>⟨_,by rw[Hs];exact hr u n.ki.2.1 H.1 (by have:=t.1;dsimp only at this⊢;omega),λ_=>rfl⟩
 refine AA (bZ d!) λv5 e=>?_;refine AL (λa=>AB (λc=>absurd c a)) (λz=>?_);have e:=e z;dsimp only at e;have d:=m.2.2 _ _ O;rw[show((x.2.toNat:Nat):Int)=x.2 by omega]at d;have L:B x.2:=d.2.resolve_right λg=>by obtain⟨_,⟨q,_⟩|⟨q1,q2,_⟩⟩:=e;exact g.1 q;exact g.2 _ q1 q2
 have I:=Xo M H o!;obtain⟨j,p⟩:=e.st (d.1 L) λj=>by unfold dl;rw[Kq];exact I _
 unfold dl at p;rw[Kq]at p;generalize min j o.1.1.2.2.1.2.2.toNat=j' at p;rw[p,D];refine AA (AEV F m.1 n.ki.1 H) λv6 S=>?_;subst S;refine AL (λa=>absurd rfl a) (λ_=>?_);refine AA (Zn n λK=>?_) λv7 T=>?_;rw[u]at K;have l:=E (Bg K);have G:Bw (o.1.1.2.2.1.2.1.take j') x.2<=Bw (o.1.1.2.2.1.2.1.take k) x.2:=by rcases Nat.le_total j' k with q|q;exact PR M _ _ _ q;rw[BS o!,l,Hs];exact Ag _
 dsimp only;rw[if_pos G,l,Hs,UO];exact⟨rfl,L⟩;refine AL (λa=>AB (λc=>absurd c a)) (λA=>AB λ_=>?_);have⟨N,J⟩:=T A;refine⟨⟨t.trans N,m.up N.2.1⟩,?_⟩;dsimp only at J;split at J<;>rwa [UO]at J
end Go.Pm
