/- Texts of wip, joined and shortened by wip/tools/pack.py; nothing is assumed. -/
import Derived.Test.YtghpjojfhamomaaGreatK7
import Derived.KernelRfl
noncomputable section
set_option linter.all false
namespace Go.Pm
open Go Go.Ab
set_option maxRecDepth 100000
noncomputable section
abbrev C3:Type:=Int×Int×BT
def Fx:Ty:=.prod (.cons (.int .i64) (.cons (.int .i64) (.one .str)))
abbrev Az:Type:=Int×Int×(List C3)
def BY:Ty:=.prod (.cons (.int .i64) (.cons (.int .i64) (.one (.list Fx))))
abbrev NW:Type:=BT
def Xf:Ty:=.prod (.one .str)
def UP(x:Int×Int):Option (Int×Int):=letI d:=(BitVec.ofInt 64 4294967295);letI c:=(BitVec.toNat ((BitVec.ofInt 64 x.1)&&&d));letI b:=(BitVec.toNat ((BitVec.ofInt 64 x.2)&&&d));letI a:=(2^(min (Int.toNat 32) 64));letI f:=(Int.fdiv x.2 a);letI e:=(Int.fdiv x.1 a);some ((IntKind.wrap .u64 ((IntKind.wrap .u64 ((IntKind.wrap .u64 (e*f))+(Int.fdiv (IntKind.wrap .u64 ((IntKind.wrap .u64 (e*(IntKind.wrap .u64 ((b:Nat):Int))))+(Int.fdiv (IntKind.wrap .u64 ((IntKind.wrap .u64 ((c:Nat):Int))*(IntKind.wrap .u64 ((b:Nat):Int)))) a))) a)))+(Int.fdiv (IntKind.wrap .u64 ((IntKind.wrap .u64 (((BitVec.toNat ((BitVec.ofInt 64 (IntKind.wrap .u64 ((IntKind.wrap .u64 (e*(IntKind.wrap .u64 ((b:Nat):Int))))+(Int.fdiv (IntKind.wrap .u64 ((IntKind.wrap .u64 ((c:Nat):Int))*(IntKind.wrap .u64 ((b:Nat):Int)))) a))))&&&d)):Nat):Int))+(IntKind.wrap .u64 ((IntKind.wrap .u64 ((c:Nat):Int))*f)))) a))),(IntKind.wrap .u64 (x.1*x.2)))
def WO(x:Int×Int):Option (Int×Int):=(UP x).bind λa=>some a
end
noncomputable section
def UQ(x:Unit):Option BT:=(KX (([0]:List (UInt8)),256)).bind λa=>some a
def FQ(x:BT×Int×Int):Option Int:=(Bt x).bind λa=>some a.1
def Xx(x:BT):Lp (Int×AU×AU) ((Bool×AU)⊕ (AU×AU)):=λa=>letI j:=a.2.1.2;letI i:=(wi (12+wi (a.1*13)));bif a.1<16 then(FQ (x,i,1)).bind λb=>(bif b==255 then some (.inl a.2)else bif b>12 then some (.inr (false,0,0,(G9.all (false,[]))))else(Rk x (wi (i+1)) (wi ((wi (i+1))+b))).bind λc=>(Gk j.2 a.1).bind λd=>(Gk j.2 a.1).bind λe=>some (.inl ((a.2.1.1,j.1,(WF j.2 a.1 (true,c))),a.2.2)):Option ((AU×AU)⊕ (Bool×AU))).bind λf=>Sum.elim (λg=>some (.next (wi (a.1+1),g))) (λh=>some (.done (.inl h))) f else some (.done (.inr a.2))
def QU(x:BT):Option (AU×Bool):=(FQ (x,8,4)).bind λa=>(FQ (x,0,8)).bind λb=>(Ai (Xx x) (0,(a,b,(G9.all (false,[]))),0,0,(G9.all (false,[])))).bind λc=>Sum.elim (λd=>some (d.2,d.1)) (λe=>some (e.1,true)) c
def R2(x:AU):Option Bool:=(GJ x.1).bind λa=>bif a then bif x.2.1>=0 then some (decide (x.2.1<=1099511627776))else some false else some false
def WP(x:AU):Lp Int (Bool ⊕ Unit):=λa=>letI c:=(wi (a+1));bif a<16 then(Gk x.2.2 a).bind λb=>bif len b.2>12 then some (.done (.inl false))else bif !b.1 then bif b.2 !=[]then some (.done (.inl false))else bif b.1 then bif x.2.1==0 then some (.done (.inl false))else some (.next c)else some (.next c)else bif b.1 then bif x.2.1==0 then some (.done (.inl false))else some (.next c)else some (.next c)else some (.done (.inr ()))
def Oj(x:AU):Option Bool:=(Ai (WP x) 0).bind λa=>Sum.elim some (λb=>some true) a
def Jv(b:NW)(x:Ce):Option NW:=(bif x.1 then some (len x.2)else some 255:Option Int).bind λa=>(OG (b,a,1)).bind λc=>(sapp c x.2).bind λd=>(KX (([0]:List (UInt8)),(wi (12-len x.2)))).bind λe=>(sapp d e).bind λf=>some f
def cD(x:AU):Lp (Int×NW) NW:=λa=>bif a.1<16 then(Gk x.2.2 a.1).bind λb=>(Jv a.2 b).bind λc=>some (.next (wi (a.1+1),c))else some (.done a.2)
def I4(x:AU):Option (BT×Int):=(R2 x).bind λa=>bif !a then some ([],1)else(Oj x).bind λb=>bif !b then some ([],22)else(OG ([],x.2.1,8)).bind λc=>(OG (c,x.1,4)).bind λd=>(Ai (cD x) (0,d)).bind λe=>(KX (([0]:List (UInt8)),(wi (244-len e)))).bind λf=>(sapp e f).bind λg=>(OH g).bind λh=>(OG (g,(wi h),4)).bind λi=>(OG (i,x.2.1,8)).bind λj=>some (j,0)
def KM(x:BT):Option (AU×Int):=bif len x !=256 then some (p!,2)else(UQ ()).bind λa=>bif x==a then some (p!,7)else(Rk x 0 8).bind λb=>(Rk x 248 (len x)).bind λc=>bif b !=c then some (p!,27)else(Rk x 0 244).bind λd=>(FQ (x,244,4)).bind λe=>(OH d).bind λf=>bif e !=wi f then some (p!,3)else(QU x).bind λg=>(I4 g.1).bind λh=>bif !g.2 then some (p!,4)else bif h.2 !=0 then some (p!,4)else bif h.1 !=x then some (p!,4)else some (g.1,0)
def Ea(x:BT×Int):Option (AU×Int):=(GJ x.2).bind λa=>bif !a then some (p!,1)else(KM x.1).bind λb=>bif b.2==7 then(DG x.2).bind λc=>some (c,0)else bif b.2 !=0 then some (p!,b.2)else bif b.1.1 !=x.2 then some (p!,6)else some (b.1,0)
def Vd(x:Az):Lp Int (Bool ⊕ Unit):=λa=>bif a<len x.2.2 then(ix x.2.2 a).bind λb=>letI f:=(Ea (b.2.2,b.1));bif b.1>=x.2.1 then some (.done (.inl false))else bif a>0 then(ix x.2.2 (wi (a-1))).bind λc=>bif c.1>=b.1 then some (.done (.inl false))else f.bind λd=>bif d.2 !=0 then some (.done (.inl false))else bif d.1.2.1 !=b.2.1 then some (.done (.inl false))else some (.next (wi (a+1)))else f.bind λe=>bif e.2 !=0 then some (.done (.inl false))else bif e.1.2.1 !=b.2.1 then some (.done (.inl false))else some (.next (wi (a+1)))else some (.done (.inr ()))
def Hg(x:Az):Option Bool:=bif x.1<1 then some false else bif x.1>1073741824 then some false else bif x.2.1<1 then some false else bif x.2.1>64 then some false else bif len x.2.2>x.2.1 then some false else(Ai (Vd x) 0).bind λa=>Sum.elim some (λb=>some true) a
def Vn(x:Az):Option Bool:=(Hg x).bind λa=>bif a then some (len x.2.2==x.2.1)else some false
def P9(x:AJ×Ae):Option Int:=(HN x.1).bind λa=>bif !a then some 54 else(Jq x.2).bind λb=>bif !b then some 26 else some 0
def QS(x:AU×Do):Option (AU×Int):=letI g:=x.2.2;letI f:=(Gk x.1.2.2 g.1);(Nh x.2).bind λa=>bif !a then some (p!,22)else bif x.2.1 !=x.1.1 then some (p!,6)else f.bind λb=>f.bind λc=>bif !((c.1==g.2.1.1)&&((c.2==g.2.1.2)&&true))then some (p!,20)else f.bind λd=>f.bind λe=>some ((x.1.1,x.1.2.1,(WF x.1.2.2 g.1 g.2.2)),0)
def Ua(x:AU×AE):Option (AU×Int):=letI e:=x.2.2.2.2.2;(GQ x.2).bind λa=>bif !a then some (p!,12)else(BH x.2).bind λb=>bif !b then some (p!,12)else(I4 x.1).bind λc=>bif c.2 !=0 then some (p!,c.2)else bif e.2.2.1.1 !=x.1.1 then some (p!,6)else bif e.1 !=x.1.2.1 then some (p!,13)else(QS (x.1,e.2.2.1)).bind λd=>bif d.2 !=0 then some (p!,d.2)else some ((d.1.1,x.2.1,d.1.2.2),0)
def ZI(x:AU×(List AE)):Lp (Int×AU×AU) ((Int×AU)⊕ (AU×AU)):=λa=>bif a.1<len x.2 then(ix x.2 a.1).bind λb=>bif b.1<=a.2.1.2.1 then some (.next (wi (a.1+1),a.2))else(Ua (a.2.1,b)).bind λc=>bif c.2 !=0 then some (.done (.inl (c.2,0,0,(G9.all (false,[])))))else some (.next (wi (a.1+1),c.1,a.2.2))else some (.done (.inr a.2))
def Ud(x:AU×(List AE)):Option (AU×Int):=(Ai (ZI x) (0,x.1,0,0,(G9.all (false,[])))).bind λa=>Sum.elim (λb=>some (b.2,b.1)) (λc=>some (c.1,0)) a
def JQ(x:AU×AJ×Ae×Int):Option (AU×Int):=letI e:=x.2.2;(P9 (x.2.1,e.1)).bind λa=>bif a !=0 then some (p!,a)else(I4 x.1).bind λb=>bif b.2 !=0 then some (p!,b.2)else bif x.1.2.1>e.2 then some (p!,9)else(Hn (x.2.1,e.1,x.1.1,x.1.2.1,e.2)).bind λc=>bif c.2 !=0 then some (p!,c.2)else(Ud (x.1,c.1)).bind λd=>some d
def TQ(x:Int×Int):Lp (Int×(List C3)×Int×Int) ((List C3)×Int×Int):=λa=>bif a.1<x.2 then(IW ()).bind λb=>(app a.2.1 ([(a.1,0,b)]:List (Int×Int×BT))).bind λc=>some (.next (wi (a.1+1),c,a.2.2))else some (.done a.2)
def JJ(x:Int×Int):Option Az:=(Ai (TQ x) (0,[],x)).bind λa=>some (a.2.1,a.2.2,a.1)
end
noncomputable section
abbrev Hh:Type:=(List AS)×(List Int)×Ae
def OQ:Ty:=.prod (.cons (.list Bc) (.cons (.list (.int .i64)) (.one Bp)))
def SV(x:Az):Lp Int (Bool ⊕ Unit):=λa=>bif a<len x.2.2 then(ix x.2.2 a).bind λb=>letI f:=(Cr (b.2.2,b.1));bif b.1<0 then some (.done (.inl false))else bif b.1>=x.2.1 then some (.done (.inl false))else bif a>0 then(ix x.2.2 (wi (a-1))).bind λc=>bif c.1>=b.1 then some (.done (.inl false))else f.bind λd=>bif d.2 !=0 then some (.done (.inl false))else bif d.1.2.1 !=b.2.1 then some (.done (.inl false))else some (.next (wi (a+1)))else f.bind λe=>bif e.2 !=0 then some (.done (.inl false))else bif e.1.2.1 !=b.2.1 then some (.done (.inl false))else some (.next (wi (a+1)))else some (.done (.inr ()))
def Ex(x:Az):Option Bool:=bif x.1<1 then some false else bif x.1>1073741824 then some false else bif x.2.1<1 then some false else bif x.2.1>64 then some false else(Ai (SV x) 0).bind λa=>Sum.elim some (λb=>some true) a
def Rb(x:Az):Lp (BT×Int) BT:=λa=>letI h:=(ix x.2.2 a.2);bif a.2<len x.2.2 then h.bind λb=>h.bind λc=>(Ak ([],b.1,2)).bind λd=>(sapp d c.2.2).bind λe=>(DU e).bind λf=>(sapp a.1 f).bind λg=>some (.next (g,(wi (a.2+1))))else some (.done a.1)
def Hz(x:Az):Option (BT×Int):=(Ex x).bind λa=>bif !a then some ([],43)else(Ak (([80,77,73,77]:List (UInt8)),x.1,4)).bind λb=>(Ak (b,x.2.1,2)).bind λc=>(Ak (c,(len x.2.2),2)).bind λd=>(DU d).bind λe=>(Ai (Rb x) (e,0)).bind λf=>some (f,0)
def Jw(x:Az):Option Av:=(Hz x).bind λa=>some (2,x.1,a.1)
def LU(x:Az):Option Bool:=(Ex x).bind λa=>bif a then some (len x.2.2==x.2.1)else some false
def Tj(x:Az×Int):Lp (Int×C3) ((Bool×C3)⊕ C3):=λa=>letI e:=(ix x.1.2.2 a.1);bif a.1<len x.1.2.2 then(Ex x.1).bind λb=>bif b then e.bind λc=>bif c.1==x.2 then e.bind λd=>some (.done (.inl (true,d)))else some (.next (wi (a.1+1),a.2))else some (.done (.inr a.2))else some (.done (.inr a.2))
def MU(x:Az×Int):Option (C3×Bool):=(Ai (Tj x) (0,0,0,[])).bind λa=>Sum.elim (λb=>some (b.2,b.1)) (λc=>some ((0,0,[]),false)) a
def MV(x:Az×Int):Option (AU×Int):=(Ex x.1).bind λa=>bif !a then some (p!,43)else(MU x).bind λb=>bif !b.2 then some (p!,44)else(Cr (b.1.2.2,x.2)).bind λc=>some c
def Pn(x:AJ×Ae×Int×Int×Int):Option Int:=letI c:=x.2.2;(C4 x.1).bind λa=>bif !a then some 54 else(B4 x.2.1).bind λb=>bif !b then some 26 else bif c.1<0 then some 1 else bif c.1>=x.1.2.1 then some 1 else bif c.2.1<0 then some 1 else bif c.2.1>c.2.2 then some 1 else some 0
def Te(x:AJ×Int):Lp Int Int:=λa=>bif wi (a+1)<len x.1.1 then(ix x.1.1 (wi (a+1))).bind λb=>bif b<=x.2 then some (.next (wi (a+1)))else some (.done a)else some (.done a)
def Qj(x:AJ×Int):Option (Int×Int×Bool):=(C4 x.1).bind λa=>bif !a then some (0,0,false)else bif x.2<0 then some (0,0,false)else bif x.2>=x.1.2.1 then some (0,0,false)else(Ai (Te x) 0).bind λb=>(Ew (x.1,b)).bind λc=>some (c.1,c.2,true)
def Qk(x:AJ):Option ((List AS)×(List Int)):=(F6 x).bind λa=>some (a.1,a.2.1)
def P7(a:Int×Int×Bool)(b:(List AS)×(List Int)):Lp (Int×(List AS)×(List Int)×Ae) ((List AS)×(List Int)×Ae):=λc=>bif c.1<len b.1 then(ix b.1 c.1).bind λd=>(bif d.2.2.1==a.1 then(ix b.1 c.1).bind λe=>(ix b.2 c.1).bind λf=>(app c.2.1 ([e]:List (Int×Int×Int×Int×Int×(List (Int×Int×Int×Int×Int×Int×(Int×Int×(Bool×BT)×Bool×BT)×BT))))).bind λg=>(app c.2.2.1 ([f]:List Int)).bind λh=>some (g,h,c.2.2.2)else some c.2:Option ((List AS)×(List Int)×Ae)).bind λi=>some (.next (wi (c.1+1),i))else some (.done c.2)
def NC(x:AJ×Ae×Int):Option Hh:=(Qj (x.1,x.2.2)).bind λa=>(Qk x.1).bind λb=>(Ai (P7 a b) (0,[],[],x.2.1)).bind λc=>some c
def Ih(x:Ae×Int):Option Bool:=bif x.2>=x.1.1 then some (decide (x.2<(wi (x.1.1+len x.1.2.1))))else some false
def Ti(x:Hh×Int):Lp (Int×Int) Int:=λa=>letI f:=(ix x.1.1 a.2);bif a.2<len x.1.1 then f.bind λb=>bif b.1<=x.2 then f.bind λc=>(bif x.2<=c.2.1 then f.bind λd=>some (if(d.2.1>a.1)then d.2.1 else a.1)else some a.1:Option Int).bind λe=>some (.next (e,(wi (a.2+1))))else some (.next (a.1,(wi (a.2+1))))else some (.done a.1)
def Qn(x:Hh×Int):Option Int:=letI e:=x.1.2.2;letI d:=(wi ((wi (e.1+len e.2.1))-1));(Ai (Ti x) (wi (x.2-1),0)).bind λa=>(Ih (e,x.2)).bind λb=>(bif b then some (if(d>a)then d else a)else some a:Option Int).bind λc=>some c
def Qm(x:Hh×Int×Int):Lp Int (Bool ⊕ Unit):=λa=>bif a<x.2.2 then(Qn (x.1,(wi (a+1)))).bind λb=>bif b==a then some (.done (.inl false))else some (.next b)else some (.done (.inr ()))
def OA(x:Hh×Int×Int):Option Bool:=(Ai (Qm x) x.2.1).bind λa=>Sum.elim some (λb=>some true) a
def RW(x:AS×Int):Lp (Int×(List AE)) (List AE):=letI f:=x.1.2.2.2.2.2;λa=>bif a.1<len f then(ix f a.1).bind λb=>(bif b.2.2.2.2.2.2.1.1==x.2 then(ix f a.1).bind λc=>(app a.2 ([c]:List (Int×Int×Int×Int×Int×Int×(Int×Int×(Bool×BT)×Bool×BT)×BT))).bind λd=>some d else some a.2:Option (List AE)).bind λe=>some (.next (wi (a.1+1),e))else some (.done a.2)
def O3(x:AS×Int):Option (List AE):=(EO x.1).bind λa=>bif !a then some []else(Ai (RW x) (0,[])).bind λb=>some b
def P6(x:(List AS)×Int×Int×Int)(a:List AE):Lp ((List AE)×Int) (List AE):=λb=>letI h:=(ix a b.2);bif b.2<len a then h.bind λc=>bif c.1>x.2.2.1 then h.bind λd=>(bif d.1<=x.2.2.2 then h.bind λe=>(DB (b.1,e)).bind λf=>some f.1 else some b.1:Option (List AE)).bind λg=>some (.next (g,(wi (b.2+1))))else some (.next (b.1,(wi (b.2+1))))else some (.done b.1)
def P5(x:(List AS)×Int×Int×Int):Lp ((List AE)×Int) (List AE):=λa=>bif a.2<len x.1 then(ix x.1 a.2).bind λb=>(O3 (b,x.2.1)).bind λc=>(Ai (P6 x c) (a.1,0)).bind λd=>some (.next (d,(wi (a.2+1))))else some (.done a.1)
def NB(x:(List AS)×Int×Int×Int):Option (List AE):=(Ai (P5 x) ([],0)).bind λa=>some a
def Ra(x:Ae×Int×Int×Int):Lp (Int×(List AE)) (List AE):=λa=>letI f:=(wi (a.1+1),a.2);bif a.1<len x.1.2.1 then(ix x.1.2.1 a.1).bind λb=>(BH b).bind λc=>bif c then bif b.2.2.2.2.2.2.1.1==x.2.1 then bif b.1>x.2.2.1 then(bif b.1<=x.2.2.2 then(app a.2 ([b]:List (Int×Int×Int×Int×Int×Int×(Int×Int×(Bool×BT)×Bool×BT)×BT))).bind λd=>some d else some a.2:Option (List AE)).bind λe=>some (.next (wi (a.1+1),e))else some (.next f)else some (.next f)else some (.next f)else some (.done a.2)
def O5(x:Ae×Int×Int×Int):Option (List AE):=(Ai (Ra x) (0,[])).bind λa=>some a
def RZ(x:(List AS)×Int):Lp Int (Int ⊕ Unit):=λa=>bif a<len x.1 then(ix x.1 a).bind λb=>bif b.1<=x.2 then(ix x.1 a).bind λc=>bif x.2<=c.2.1 then some (.done (.inl a))else some (.next (wi (a+1)))else some (.next (wi (a+1)))else some (.done (.inr ()))
def O4(x:(List AS)×Int):Option Int:=(Ai (RZ x) 0).bind λa=>Sum.elim some (λb=>some (-1)) a
def UZ(x:(List AE)×AE):Lp Int (Bool ⊕ Unit):=letI f:=x.2.2.2;letI c:=f.2.2.2;letI e:=c.2.1.2;λa=>bif a<len x.1 then(ix x.1 a).bind λb=>letI g:=b.2.2.2;letI d:=g.2.2.2;letI h:=d.1.2.2;bif (b.1==x.2.1)&&((b.2.1==x.2.2.1)&&((b.2.2.1==f.1)&&((g.1==f.2.1)&&((g.2.1==f.2.2.1)&&((g.2.2.1==c.1)&&((d.1.1==c.2.1.1)&&((d.1.2.1==e.1)&&((h.1.1==e.2.1.1)&&((h.1.2==e.2.1.2)&&((h.2.1==e.2.2.1)&&((h.2.2==e.2.2.2)&&((d.2==c.2.2)&&true))))))))))))then some (.done (.inl true))else some (.next (wi (a+1)))else some (.done (.inr ()))
def NU(x:(List AE)×AE):Option Bool:=(Ai (UZ x) 0).bind λa=>Sum.elim some (λb=>some false) a
def SS(x:(List AS)×Ae×(List AE)×(List AE)):Lp ((List AE)×Int) (((List AE)×Bool)⊕ (List AE)):=λa=>letI j:=(ix x.2.2.2 a.2);bif a.2<len x.2.2.2 then j.bind λb=>(O4 (x.1,b.1)).bind λc=>bif c>=0 then j.bind λd=>(NU (x.2.2.1,d)).bind λe=>bif !e then some (.done (.inl ([],false)))else j.bind λf=>(DB (a.1,f)).bind λg=>some (.next (g.1,(wi (a.2+1))))else j.bind λh=>(DB (a.1,h)).bind λi=>some (.next (i.1,(wi (a.2+1))))else some (.done (.inr a.1))
def SU(x:(List AS)×Ae×(List AE)×(List AE)):Lp Int (((List AE)×Bool)⊕ Unit):=λa=>letI f:=(ix x.2.2.1 a);bif a<len x.2.2.1 then f.bind λb=>(Ih (x.2.1,b.1)).bind λc=>bif c then f.bind λd=>(NU (x.2.2.2,d)).bind λe=>bif !e then some (.done (.inl ([],false)))else some (.next (wi (a+1)))else some (.next (wi (a+1)))else some (.done (.inr ()))
def Pl(x:(List AS)×Ae×(List AE)×(List AE)):Option ((List AE)×Bool):=(app [] x.2.2.1).bind λa=>(Ai (SS x) (a,0)).bind λb=>Sum.elim some (λc=>(Ai (SU x) 0).bind λd=>Sum.elim some (λe=>some (c,true)) d) b
def VI(x:AJ×Ae×Int×Int×Int)(a:(List AE)×Bool):Lp Int (((List AE)×Int)⊕ Unit):=λb=>letI j:=(ix a.1 (wi (b-1)));letI i:=(ix a.1 b);letI h:=(wi (b+1));bif b<len a.1 then bif b==0 then i.bind λc=>bif c.2.2.2.2.1>x.2.2.2.1 then some (.done (.inl ([],13)))else bif b>0 then i.bind λd=>j.bind λe=>bif d.2.2.2.2.1 !=e.1 then some (.done (.inl ([],13)))else some (.next h)else some (.next h)else bif b>0 then i.bind λf=>j.bind λg=>bif f.2.2.2.2.1 !=g.1 then some (.done (.inl ([],13)))else some (.next h)else some (.next h)else some (.done (.inr ()))
def S0(x:AJ×Ae×Int×Int×Int):Option ((List AE)×Int):=(Pn x).bind λa=>bif a !=0 then some ([],a)else(NC (x.1,x.2.1,x.2.2.1)).bind λb=>(OA (b,x.2.2.2)).bind λc=>bif !c then some ([],42)else(NB (b.1,x.2.2)).bind λd=>(O5 x.2).bind λe=>(Pl (b.1,x.2.1,d,e)).bind λf=>bif !f.2 then some ([],41)else(Ai (VI x f) 0).bind λg=>Sum.elim some (λh=>some (f.1,0)) g
def Tl(x:AU×(List AE)):Lp (Int×AU×AU) ((Int×AU)⊕ (AU×AU)):=λa=>bif a.1<len x.2 then(ix x.2 a.1).bind λb=>bif b.1<=a.2.1.2.1 then some (.next (wi (a.1+1),a.2))else(ix x.2 a.1).bind λc=>(Ig (a.2.1,c)).bind λd=>bif d.2 !=0 then some (.done (.inl (d.2,0,0,(G9.all (false,[])))))else some (.next (wi (a.1+1),d.1,a.2.2))else some (.done (.inr a.2))
def MX(x:AU×(List AE)):Option (AU×Int):=(Ai (Tl x) (0,x.1,0,0,(G9.all (false,[])))).bind λa=>Sum.elim (λb=>some (b.2,b.1)) (λc=>some (c.1,0)) a
def Qo(x:AU×AJ×Ae×Int):Option (AU×Int):=letI f:=x.2.2;(C4 x.2.1).bind λa=>bif !a then some (p!,54)else(B4 f.1).bind λb=>bif !b then some (p!,26)else(C9 x.1).bind λc=>bif c.2 !=0 then some (p!,c.2)else bif x.1.2.1>f.2 then some (p!,9)else(S0 (x.2.1,f.1,x.1.1,x.1.2.1,f.2)).bind λd=>bif d.2 !=0 then some (p!,d.2)else(MX (x.1,d.1)).bind λe=>some e
def Tk(x:Az×AJ×Ae×Int×Int):Lp (Int×(List C3)×Int×Int×Az) ((Int×Az)⊕ ((List C3)×Int×Int×Az)):=λa=>bif a.1<len x.1.2.2 then(ix x.1.2.2 a.1).bind λb=>(MV (x.1,b.1)).bind λc=>(Qo (c.1,x.2.1,x.2.2.1,x.2.2.2.2)).bind λd=>bif d.2 !=0 then some (.done (.inl (d.2,0,0,[])))else(bif d.1.2.1>0 then(C9 d.1).bind λe=>some (d.1.1,d.1.2.1,e.1)else some b:Option C3).bind λf=>(app a.2.1 ([f]:List (Int×Int×BT))).bind λg=>some (.next (wi (a.1+1),g,a.2.2))else some (.done (.inr a.2))
def MW(x:Az×AJ×Ae×Int×Int):Option (Az×Int):=letI g:=x.2.2;(LU x.1).bind λa=>bif !a then some ((0,0,[]),43)else(C4 x.2.1).bind λb=>bif !b then some ((0,0,[]),54)else(B4 g.1).bind λc=>bif !c then some ((0,0,[]),26)else bif g.2.1<1 then some ((0,0,[]),1)else bif g.2.1>1073741824 then some ((0,0,[]),1)else bif g.2.2<0 then some ((0,0,[]),1)else bif g.2.2>g.1.2.2 then some ((0,0,[]),1)else(Ai (Tk x) (0,[],g.2.1,x.1.2.1,0,0,[])).bind λd=>Sum.elim (λe=>some (e.2,e.1)) (λf=>some ((f.2.1,f.2.2.1,f.1),0)) d
def R4(x:Int×AJ×Ae):Lp (Int×Int×(List Av)×AQ×Az) ((List Av)×AQ×Az):=λa=>letI g:=a.2.2;(Ah g.2.1 3).bind λb=>bif a.2.1<wi (2+b.1)then(Ah b.2 (wi (wi (x.2.2.2.2-a.1)+1))).bind λc=>(MW (g.2.2,x.2.1,x.2.2,a.2.1,(wi (a.1+c.1)))).bind λd=>bif d.2 !=0 then some (.done (g.1,c.2,g.2.2))else(Jw d.1).bind λe=>(app g.1 ([e]:List (Int×Int×BT))).bind λf=>some (.next (wi (a.1+c.1),(wi (a.2.1+1)),f,c.2,d.1))else some (.done (g.1,b.2,g.2.2))
def IV(b:AQ)(x:Int×AJ×Ae):Option ((List Av)×AQ):=(JJ (1,x.1)).bind λa=>(Ah b 3).bind λc=>(bif c.1>0 then(Jw a).bind λd=>some ([]++([d]:List (Int×Int×BT)))else some []:Option (List Av)).bind λe=>(Ai (R4 x) (0,2,e,c.2,a)).bind λf=>some (f.1,f.2.1)
end
noncomputable section
abbrev Mf:Type:=Int×Int×Int×Int×(List Int)×Int×Int
def dG:Ty:=.prod (.cons (.int .i64) (.cons (.int .i64) (.cons (.int .i64) (.cons (.int .i64) (.cons (.list (.int .i64)) (.cons (.int .i64) (.one (.int .i64))))))))
def AFO{α γ:Type}(c:α×α->Option γ)(n:γ->Bool)(x:Int×Int):Lp (Int×List α) (List α):=λa=>letI s:=(ix a.2 a.1);letI l:=(wi (a.1-1));letI v:=(ix a.2 l);(bif a.1>x.1 then s.bind λb=>s.bind λd=>v.bind λe=>v.bind λf=>(c (d,f)).bind λg=>bif n g then some (.inr ())else some (.inl ())else some (.inl ()):Option (Unit ⊕ Unit)).bind λh=>Sum.elim (λi=>some (.done a.2)) (λj=>v.bind λk=>v.bind λm=>letI w:=(FT a.2 a.1 m);s.bind λo=>s.bind λp=>s.bind λq=>s.bind λr=>(ix w l).bind λt=>(ix w l).bind λu=>some (.next (wi (a.1-1),(FT w l p)))) h
def ACX{α γ:Type}(c:α×α->Option γ)(n:γ->Bool)(l:List α)(x:Int×Int):Option (List α):=(Ai (λa=>bif a.1<x.2 then(Ai (AFO c n x) a).bind λb=>some (.next (wi (a.1+1),b))else some (.done a.2)) (wi (x.1+1),l)).bind λd=>some d
def AHQ{α:Type}(f:List α->Int×Int->Option (List α)):Lp (Int×Int×Int×Bool×Bool×(List α)) (List α):=λa=>letI d:=a.2.2;letI e:=d.2.2.2;bif wi (a.2.1-a.1)<=12 then(f e (a.1,a.2.1)).bind λb=>bif Nat.beq (List.length b) (List.length e)then some (.done b)else none else bif d.1==0 then none else(bif ! d.2.1 then none else some (d.1,e):Option (Int×(List α))).bind λc=>none
def pdG{α:Type}(f:List α->Int×Int->Option (List α))(l:List α)(x:Int×Int×Int):Option (List α):=(Ai (AHQ f) (x.1,x.2.1,x.2.2,true,true,l)).bind λa=>some a
def soG{α:Type}(f:List α->Int×(Int×Int)->Option (List α))(l:List α):Option (List α):=(WN (IntKind.wrap .u64 (len l))).bind λa=>(f l (0,(len l),a)).bind λb=>bif Nat.beq (List.length b) (List.length l)then some b else none
def Pz(x:Az×Az):Option Int:=(EI (x.1.1,x.2.1)).bind λa=>some a
def Py(x:Bb×Bb):Option Int:=(EI (x.2.1,x.1.1)).bind λa=>some a
def LY(l:List Int)(x:Int×Int):Option (List Int):=ACX QT (λa=>a) l x
def OJ(rec:((List Int)×Int×Int×Int)->(Option (List Int)))(l:List Int)(x:Int×Int×Int):Option (List Int):=pdG LY l x
def P8(l:List Int)(x:Int×Int×Int):Option (List Int):=rL (λg p=>OJ g p.1 p.2) (l,x)
def Po(l:List Int)(x:Unit):Option (List Int):=soG P8 l
def I0(l:List Az)(x:Int×Int):Option (List Az):=ACX Pz (λa=>decide (a<0)) l x
def KQ(rec:((List Az)×Int×Int×Int)->(Option (List Az)))(l:List Az)(x:Int×Int×Int):Option (List Az):=pdG I0 l x
def LZ(l:List Az)(x:Int×Int×Int):Option (List Az):=rL (λg p=>KQ g p.1 p.2) (l,x)
def Gf(l:List Az)(x:Unit):Option (List Az):=soG LZ l
def Eo(l:List Bb)(x:Int×Int):Option (List Bb):=ACX Py (λa=>decide (a<0)) l x
def La(x:Int):Lp (Int×Int×(List Bb)) (Int×(List Bb)):=λa=>letI c:=a.2.1;bif c<=x then(Eo a.2.2 (a.1,c)).bind λb=>bif Nat.beq (List.length b) (List.length a.2.2)then some (.next (c,(wi (c+20)),b))else none else some (.done (a.1,a.2.2))
def Ts(x:Int):Lp (Int×Int×(List Bb)) (Int×(List Bb)):=λa=>bif a.2.1<=x then none else some (.done (a.1,a.2.2))
def Lb(x:Int):Lp (Int×(List Bb)) (List Bb):=λa=>bif a.1<x then(Ai (Ts x) (0,(wi (2*a.1)),a.2)).bind λb=>(bif wi (b.1+a.1)<x then none else some b.2:Option (List Bb)).bind λc=>some (.next (wi (a.1*2),c))else some (.done a.2)
def Iy(l:List Bb)(x:Int):Option (List Bb):=(Ai (La x) (0,20,l)).bind λa=>(Eo a.2 (a.1,x)).bind λb=>bif Nat.beq (List.length b) (List.length a.2)then(Ai (Lb x) (20,b)).bind λc=>some c else none
def EU(l:List Bb)(x:Unit):Option (List Bb):=(Iy l (len l)).bind λa=>bif Nat.beq (List.length a) (List.length l)then some a else none
def KV(x:BT):Option C3:=(Rk x 2 (len x)).bind λa=>(Bt (x,0,2)).bind λb=>(Ea (a,b.1)).bind λc=>some (b.1,c.1.2.1,a)
def UN(x:BT)(a:Int×Int):Lp (Int×Int×(List C3)×Int×Int×Az) ((Int×Az)⊕ (Int×(List C3)×Int×Int×Az)):=λb=>bif b.2.1<a.1 then(DM (x,b.1)).bind λc=>bif c.2.2 !=0 then some (.done (.inl (c.2.2,0,0,[])))else bif len c.1 !=258 then some (.done (.inl (4,0,0,[])))else(KV c.1).bind λd=>(app b.2.2.1 ([d]:List (Int×Int×BT))).bind λe=>some (.next (c.2.1,(wi (b.2.1+1)),e,b.2.2.2))else some (.done (.inr (b.1,b.2.2)))
def FG(x:BT):Option (Az×Int):=(DM (x,0)).bind λa=>bif a.2.2 !=0 then some ((0,0,[]),a.2.2)else bif len a.1 !=12 then some ((0,0,[]),4)else(E5 (a.1,([80,77,73,77]:List (UInt8)))).bind λb=>bif !b then some ((0,0,[]),4)else(Bt (a.1,4,4)).bind λc=>(Bt (a.1,8,2)).bind λd=>(Bt (a.1,10,2)).bind λe=>bif e.1>64 then some ((0,0,[]),4)else(Ai (UN x e) (a.2.1,0,[],c.1,d.1,0,0,[])).bind λf=>Sum.elim (λg=>some (g.2,g.1)) (λh=>letI j:=(h.2.2.1,h.2.2.2.1,h.2.1);bif h.1<len x then some ((0,0,[]),4)else(Hg j).bind λi=>bif !i then some ((0,0,[]),43)else some (j,0)) f
def Xu(x:List Av):Lp (Int×(List (Int×Bool))×(List Az)) ((List (Int×Bool))×(List Az)):=λa=>letI h:=(wi (a.1+1),a.2);bif a.1<len x then(ix x a.1).bind λb=>letI g:=(Pq b.2.1 true a.2.1);letI f:=(wi (a.1+1),g,a.2.2);bif b.1 !=2 then some (.next h)else bif Option.getD (Ku b.2.1 a.2.1) false then some (.next h)else(FG b.2.2).bind λc=>bif c.2==0 then(Vn c.1).bind λd=>bif d then bif c.1.1==b.2.1 then(app a.2.2 ([c.1]:List (Int×Int×(List (Int×Int×BT))))).bind λe=>some (.next (wi (a.1+1),g,e))else some (.next f)else some (.next f)else some (.next f)else some (.done a.2)
def Ly(x:List Av):Option (List Az):=(Ai (Xu x) (0,[],[])).bind λa=>(Gf a.2 ()).bind λb=>bif Nat.beq (List.length b) (List.length a.2)then some b else none
def PM(x:C3×Int):Option Int:=some (wi (x.1.1-x.2))
def cC(x:Az×Int):Lp (Int×Int) Int:=λa=>letI e:=(wi (Int.fdiv (IntKind.wrap .u64 (wi (a.1+a.2))) (2^(min (Int.toNat 1) 64))));bif a.1<a.2 then(ix x.1.2.2 e).bind λb=>(PM (b,x.2)).bind λc=>(bif c<0 then some ((wi (e+1)),a.2)else some (a.1,e):Option (Int×Int)).bind λd=>some (.next d)else some (.done a.1)
def R1(x:Az×Int):Option (Int×Bool):=letI d:=x.1.2.2;(Ai (cC x) (0,(len d))).bind λa=>bif a<len d then(ix d a).bind λb=>(PM (b,x.2)).bind λc=>some (a,(c==0))else some (a,false)
def UO(x:Az×Int):Option (C3×Bool):=(Hg x.1).bind λa=>bif !a then some ((0,0,[]),false)else bif x.2<0 then some ((0,0,[]),false)else bif x.2>=x.1.2.1 then some ((0,0,[]),false)else(R1 x).bind λb=>bif !b.2 then some ((0,0,[]),false)else(ix x.1.2.2 b.1).bind λc=>some (c,true)
def Xt(x:(List Av)×Int×Int)(a:List Az):Lp (Int×(List Bb)) (List Bb):=λb=>letI f:=(wi (b.1-1),b.2);bif b.1>=0 then(ix a b.1).bind λc=>(UO (c,x.2.1)).bind λd=>letI g:=d.1.2.1;bif d.2 then bif g<=x.2.2 then(app b.2 ([(g,c.1,g)]:List (Int×Int×Int))).bind λe=>some (.next (wi (b.1-1),e))else some (.next f)else some (.next f)else some (.done b.2)
def Sc(x:(List Av)×Int×Int):Option (List Bb):=(Ly x.1).bind λa=>(Ai (Xt x a) ((wi (len a-1)),[])).bind λb=>(EU b ()).bind λc=>bif Nat.beq (List.length c) (List.length b)then some c else none
def S1(b:Bb)(x:Az):Option (Bool×Bb):=some ((x.1==b.2.1),b)
def Wt(x:Az×Int):Option (AU×Int):=(Hg x.1).bind λa=>bif !a then some (p!,43)else(UO x).bind λb=>bif !b.2 then some (p!,44)else(Ea (b.1.2.2,x.2)).bind λc=>some c
def ZG(x:AJ×Ae×Int×Int×Int)(a:Int)(b:Int×Int×Bool)(c:(List AS)×(List Int)):Lp (Int×(List Int)) (List Int):=letI j:=x.2.2.2;letI o:=(if(a<j.2)then a else j.2);letI k:=(if(x.2.1.1>wi (j.1+1))then x.2.1.1 else wi (j.1+1));λd=>letI n:=(wi (d.1+1),d.2);bif d.1<len c.1 then(ix c.1 d.1).bind λe=>letI m:=(if(e.2.1<j.2)then e.2.1 else j.2);letI l:=(if(e.1>wi (j.1+1))then e.1 else wi (j.1+1));bif e.2.2.1==b.1 then(ix c.2 d.1).bind λf=>bif l>m then some (.next n)else bif k>o then(app d.2 ([f]:List Int)).bind λg=>some (.next (wi (d.1+1),g))else bif l<k then(app d.2 ([f]:List Int)).bind λh=>some (.next (wi (d.1+1),h))else bif m>o then(app d.2 ([f]:List Int)).bind λi=>some (.next (wi (d.1+1),i))else some (.next n)else some (.next n)else some (.done d.2)
def Nj(x:AJ×Ae×Int×Int×Int):Option ((List Int)×Int×Int×Int):=letI i:=x.2.2.2;letI g:=(if(x.2.1.1>wi (i.1+1))then x.2.1.1 else wi (i.1+1));(Hn x).bind λa=>bif a.2 !=0 then some ([],0,0,a.2)else(Nk x.2.1).bind λb=>letI h:=(if(b<i.2)then b else i.2);(GP (x.1,x.2.2.1)).bind λc=>bif !c.2.2 then none else(IE x.1).bind λd=>(Ai (ZG x b c d) (0,[])).bind λe=>(Po e ()).bind λf=>bif Nat.beq (List.length f) (List.length e)then bif g>h then some (f,0,0,0)else some (f,g,h,0)else none
def Ri(a:List Az):Lp (Int×Bb) ((Int×Bb)⊕ Bb):=λb=>bif b.1<len a then(ix a b.1).bind λc=>(S1 b.2 c).bind λd=>bif d.1 then some (.done (.inl (b.1,d.2)))else some (.next (wi (b.1+1),d.2))else some (.done (.inr b.2))
def Wk(x:(List Av)×AJ×Ae×Int×Int)(a:List Az)(b:List Bb):Lp (Int×AU×Mf) ((Int×AU×Mf)⊕ (AU×Mf)):=letI l:=x.2.2.2;λc=>letI m:=(wi (c.1+1),c.2);bif c.1<len b then(ix b c.1).bind λd=>(Ai (Ri a) (0,d)).bind λe=>Sum.elim (λf=>(ix a f.1).bind λg=>(Wt (g,l.1)).bind λh=>bif h.2 !=0 then some (.next m)else(JQ (h.1,x.2.1,x.2.2.1,l.2)).bind λi=>bif i.2 !=0 then some (.next m)else(Nj (x.2.1,x.2.2.1,l.1,h.1.2.1,l.2)).bind λj=>bif j.2.2.2==0 then some (.done (.inl (0,i.1,l.1,f.2.2.1,h.1.2.1,l.2,j.1,j.2.1,j.2.2.1)))else some (.next m)) (λk=>none) e else some (.done (.inr c.2))
def CG(x:(List Av)×AJ×Ae×Int×Int):Option (AU×Mf×Int):=letI m:=x.2.1;letI l:=x.2.2;letI k:=l.2;(HN m).bind λa=>bif !a then some (p!,(0,0,0,0,[],0,0),54)else(Jq l.1).bind λb=>bif !b then some (p!,(0,0,0,0,[],0,0),26)else bif k.1<0 then some (p!,(0,0,0,0,[],0,0),1)else bif k.1>=m.2.1 then some (p!,(0,0,0,0,[],0,0),1)else bif k.2<0 then some (p!,(0,0,0,0,[],0,0),1)else(Ly x.1).bind λc=>(Sc (x.1,k)).bind λd=>(Ai (Wk x c d) (0,p!,0,0,0,0,[],0,0)).bind λe=>Sum.elim (λf=>some (f.2.1,f.2.2,f.1)) (λg=>(DG k.1).bind λh=>(JQ (h,m,l.1,k.2)).bind λi=>bif i.2 !=0 then some (p!,(0,0,0,0,[],0,0),49)else(Nj (m,l.1,k.1,h.2.1,k.2)).bind λj=>bif j.2.2.2==0 then some (i.1,(k.1,0,h.2.1,k.2,j.1,j.2.1,j.2.2.1),0)else some (p!,(0,0,0,0,[],0,0),49)) e
def Ub(x:(List Av)×AJ×Ae×Int):Lp Int (Int ⊕ Unit):=λa=>bif a>=0 then(CG (x.1,x.2.1,x.2.2.1,x.2.2.2,a)).bind λb=>bif b.2.2==0 then some (.done (.inl a))else bif b.2.2==49 then some (.next (wi (a-1)))else some (.done (.inl (-1)))else some (.done (.inr ()))
def JO(x:(List Av)×AJ×Ae×Int):Option Int:=(Nk x.2.2.1).bind λa=>(Ai (Ub x) a).bind λb=>Sum.elim some (λc=>some (-1)) b
def F3(x:Unit):Option Bool:=(IC (2,([0]:List Int))).bind λa=>(Fv ()).bind λb=>(CG ([],a.1,b,1,0)).bind λc=>bif c.2.2==0 then(DG 1).bind λd=>bif ABG c.1 d then(Fv ()).bind λe=>(JO ([],a.1,e,1)).bind λf=>bif f==0 then(Fv ()).bind λg=>(JO ([],a.1,g,2)).bind λh=>some (h==(-1))else some false else some false else some false
def IU(b:AQ)(x:Unit):Option (Int×AJ×Ae×Ae×(List Av)×AQ):=(Iw b 25).bind λa=>letI l:=a.2.1;(J5 a.2.2 (a.1,l)).bind λc=>letI p:=c.1.2;(IV c.2 (a.1,c.1,l)).bind λd=>(Ah d.2 2).bind λe=>(bif e.1==1 then(Ah e.2 p.2.2.1).bind λf=>(H8 (l,(wi (1+f.1)))).bind λg=>some (f.2,g.1)else some (e.2,l):Option (AQ×Ae)).bind λh=>(Ah h.1 3).bind λi=>(bif i.1==0 then(Dv i.2 p.2.1).bind λj=>some (j.2,c.1.1,p.1,j.1,p.2.2)else some (i.2,c.1):Option (AQ×AJ)).bind λk=>(Ah k.1 3).bind λm=>(bif m.1==0 then(Dv m.2 d.1).bind λn=>some n else some (d.1,m.2):Option ((List Av)×AQ)).bind λo=>some (a.1,k.2,h.2,l,o)
end
def YW(c:BitVec 32):BitVec 32:=if c.getLsbD 0=true then(c>>>1)^^^2197175160#32 else c>>>1
def lS:Nat->BitVec 32->BitVec 32
 |0,c=>c
 |n+1,c=>YW (lS n c)
def gp(c:BitVec 32)(b:UInt8):BitVec 32:=lS 8 (c^^^BitVec.ofNat 32 b.toNat)
def AEA(s:BT):BitVec 32:=4294967295#32^^^s.foldl gp 4294967295#32
def PH(s:BT):Int:=((AEA s).toNat:Int)
def gD{a b:BitVec 32}(h:a^^^b=0#32):a=b:=t!
def ABU(a b:BitVec 32):YW (a^^^b)=YW a^^^YW b:=by
 unfold YW;rw[BitVec.getLsbD_xor,BitVec.ushiftRight_xor_distrib];cases a.getLsbD 0<;>cases b.getLsbD 0<;>simp;grind;grind;have:a>>>1^^^2197175160#32^^^(b>>>1^^^2197175160#32)=(a>>>1^^^b>>>1)^^^(2197175160#32^^^2197175160#32):=by ac_rfl
 grind
theorem vW: ∀(n:Nat) (a b:BitVec 32),lS n (a^^^b)=lS n a^^^lS n b
 |0,a,b=>rfl
 |n+1,a,b=>by rw[lS,lS,lS,vW n,ABU]
def zS{c:BitVec 32}(h:YW c=0#32):c=0#32:=by
 unfold YW at h;by_cases b:c.getLsbD 0=true;rw[if_pos b]at h;have a:(c>>>1).getLsbD 31=(2197175160#32).getLsbD 31:=by rw[(gD h)]
 rw[BitVec.getLsbD_ushiftRight]at a;simp_all;rw[if_neg b]at h;apply nQ;intro i d;cases i with
 |zero=>grind
 |succ j=>
  have a:(c>>>1).getLsbD j=(0#32).getLsbD j:=by rw[h]
  grind
def xE: ∀(n:Nat) {c:BitVec 32},lS n c=0#32->c=0#32
 |0,c,h=>h
 |n+1,c,h=>xE n (zS h)
def AAC{n:Nat}{a b:BitVec 32}(h:lS n a=lS n b):a=b:=by refine gD (xE n ?_);rw[vW,h,ak]
def AD5{a b:BitVec 32}{x:UInt8}(h:gp a x=gp b x):a=b:=by have c:=AAC h;simp_all
def AD6{a:BitVec 32}{x y:UInt8}(h:gp a x=gp a y):x=y:=by
 have:a^^^(a^^^BitVec.ofNat 32 x.toNat)=a^^^(a^^^BitVec.ofNat 32 y.toNat):=by rw[(AAC h)]
 rw[<-jG,ak,jH,<-jG,ak,jH]at this;have b:=congrArg BitVec.toNat this;rw[aj,aj]at b;have c:=x.toNat_lt;have d:=y.toNat_lt;exact UInt8.toNat_inj.1 o!
def ACS: ∀(s:BT) {a b:BitVec 32},s.foldl gp a=s.foldl gp b->a=b
 |[],a,b,h=>h
 |x::r,a,b,h=>AD5 (ACS r h)
def AEB{u v:BT}{x y:UInt8}(h:PH (u++x::v)=PH (u++y::v)):x=y:=by
 unfold PH at h;have a:AEA (u++x::v)=AEA (u++y::v):=BitVec.eq_of_toNat_eq o!;unfold AEA at a;rw[XP,XP,XQ,XQ]at a;have b: ∀p q:BitVec 32,4294967295#32^^^p=4294967295#32^^^q->p=q:=λp q c=>by
  have:4294967295#32^^^(4294967295#32^^^p)=4294967295#32^^^(4294967295#32^^^q):=by rw[c]
  rwa [<-jG,ak,jH,<-jG,ak,jH]at this
 exact AD6 (ACS v (b _ _ a))
def ZD(s:BT):0<=PH s/\PH s<4294967296:=by unfold PH;omega
theorem bvI(c:BitVec 32):BitVec.ofInt 32 (c.toNat:Int)=c:=k!
theorem w32(c:BitVec 32):IntKind.wrap .u32 (c.toNat:Int)=(c.toNat:Int):=by rw[ut];omega
theorem fdN(c:BitVec 32)(k:Nat)(a:k<=32):Int.fdiv (c.toNat:Int) (2^(min (Int.toNat (k:Int)) 32))=((c>>>k).toNat:Int):=by rw[show min (Int.toNat (k:Int)) 32=k by omega,jI _ (by exact_mod_cast Bk (2^k)),BitVec.toNat_ushiftRight,Nat.shiftRight_eq_div_pow];grind
theorem fd1(c:BitVec 32):Int.fdiv (c.toNat:Int) (2^(min (Int.toNat 1) 32))=((c>>>1).toNat:Int):=by grind[fdN]
def fd4(c:BitVec 32):Int.fdiv (c.toNat:Int) (2^(min (Int.toNat 4) 32))=((c>>>4).toNat:Int):=by grind[fdN]
theorem AEa(c:BitVec 32):((IntKind.wrap .u32 (((BitVec.toNat ((BitVec.ofInt 32 (c.toNat:Int))&&&(BitVec.ofInt 32 1))):Nat):Int))==1)=c.getLsbD 0:=by grind[bvI,w32,BitVec.toNat_and,BitVec.ofInt]
def AFZ(c:BitVec 32):(bif ((IntKind.wrap .u32 (((BitVec.toNat ((BitVec.ofInt 32 (c.toNat:Int))&&&(BitVec.ofInt 32 1))):Nat):Int))==1)then
     some (IntKind.wrap .u32 (((BitVec.toNat ((BitVec.ofInt 32 (Int.fdiv (c.toNat:Int) (2^(min (Int.toNat 1) 32))))^^^(BitVec.ofInt 32 2197175160))):Nat):Int))
    else
    some (Int.fdiv (c.toNat:Int) (2^(min (Int.toNat 1) 32))):Option Int)=some ((YW c).toNat:Int):=by grind[AEa,fd1,bvI,w32,YW]
def AGh(c:BitVec 32):Ai Hp ((c.toNat:Int),0)=some ((lS 8 c).toNat:Int):=by
 have key:Ap (Ai Hp ((c.toNat:Int),0)) λr=>r=((lS 8 c).toNat:Int):=by refine AW (λ(s:Int×Int)=>0<=s.2/\s.2<=8/\s.1=((lS s.2.toNat c).toNat:Int)) (λs=>(8-s.2).toNat) ⟨Af _,d!,rfl⟩ ?_;rintro⟨g,a⟩ ⟨e,f,b⟩;dsimp only at e f b;subst b;refine AC (λd=>?_) (λd=>AB (by rw[show a.toNat=8 by omega]));rw[AFZ,AD,AY];refine AB ⟨⟨o!,o!,?_⟩,o!⟩;rw[show(a+1).toNat=a.toNat+1 by omega];rfl
 obtain⟨r,hr,rfl⟩:=key;exact hr
def AB7(c:BitVec 32)(b:UInt8):IntKind.wrap .u32 (((BitVec.toNat ((BitVec.ofInt 32 (c.toNat:Int))^^^(BitVec.ofInt 32 (IntKind.wrap .u32 (b.toNat:Int))))):Nat):Int)=((c^^^BitVec.ofNat 32 b.toNat).toNat:Int):=by grind[IntKind.wrap,ut,bvI,w32]
def ADN{x:BT}{i:Int}(a:0<=i)(c:i<x.length): ∃b:UInt8,six x i=some (b.toNat:Int)/\x.take (i+1).toNat=x.take i.toNat++[b]:=by obtain⟨k,rfl⟩:=D6 a;refine⟨x[k],?_,?_⟩;grind[six];simp_all
def uy{x:BT}(h:x.length<=2199023255552):E2 x=some (PH x):=by
 have key:Ap (Ai (Ho x) (4294967295,0)) λr=>r=((x.foldl gp 4294967295#32).toNat:Int):=by refine AW (λ(s:Int×Int)=>0<=s.2/\s.2<=x.length/\s.1=(((x.take s.2.toNat).foldl gp 4294967295#32).toNat:Int)) (λs=>((x.length:Int)-s.2).toNat) ⟨Af _,d!,rfl⟩ ?_;rintro⟨f,g⟩ ⟨c,e,d⟩;dsimp only at c e d;subst d;unfold Ho;simp only[len];refine AC (λa=>?_) (λa=>AB (by rw[BR o!]));have⟨b,q1,q2⟩:=ADN c a;rw[q1,AD,AB7,AGh,AD,AY];refine AB ⟨⟨o!,o!,?_⟩,o!⟩;rw[q2,XP];rfl
 obtain⟨r,hr,rfl⟩:=key;unfold E2;rw[hr,AD,bvI];rw[show(BitVec.ofInt 32 (if(false=true)then(-1)else(if(false=true)then((2^(32-1))-1)else((2^32)-1))))=4294967295#32 by decide,w32];rfl
def AIL{d:BitVec 32}(b:d.getLsbD 0=false)(c:d.getLsbD 1=false)(f:d.getLsbD 2=false)(g:d.getLsbD 3=false):lS 4 d=d>>>4:=by
 have st: ∀e:BitVec 32,e.getLsbD 0=false->YW e=e>>>1:=λe a=>by unfold YW;rw[if_neg (by rw[a];decide)]
 show YW (YW (YW (YW d)))=_;grind
def AGI(c:BitVec 32):(c>>>4)^^^lS 4 (c&&&15#32)=lS 4 c:=by
 have d:c=(c&&& ~~~15#32)^^^(c&&&15#32):=by apply nQ;intro i a;rw[BitVec.getLsbD_xor,BitVec.getLsbD_and,BitVec.getLsbD_and,BitVec.getLsbD_not];grind
 have e:lS 4 (c&&& ~~~15#32)=c>>>4:=by
  have z: ∀i,i<4->(c&&& ~~~15#32).getLsbD i=false:=λi a=>by
   have:i=0\/i=1\/i=2\/i=3:=o!
   grind
  rw[AIL (z 0 g!) (z 1 g!) (z 2 g!) (z 3 g!)];apply nQ;intro i a;have b:(15#32).getLsbD (4+i)=false:=by show(15#32).toNat.testBit (4+i)=false;grind
  grind
 grind[vW]
def AGe(c:BitVec 32):Ai K1 ((c.toNat:Int),0)=some ((lS 4 c).toNat:Int):=by
 have key:Ap (Ai K1 ((c.toNat:Int),0)) λr=>r=((lS 4 c).toNat:Int):=by refine AW (λ(s:Int×Int)=>0<=s.2/\s.2<=4/\s.1=((lS s.2.toNat c).toNat:Int)) (λs=>(4-s.2).toNat) ⟨Af _,d!,rfl⟩ ?_;rintro⟨g,a⟩ ⟨e,f,b⟩;dsimp only at e f b;subst b;refine AC (λd=>?_) (λd=>AB (by rw[show a.toNat=4 by omega]));rw[AFZ,AD,AY];refine AB ⟨⟨o!,o!,?_⟩,o!⟩;rw[show(a+1).toNat=a.toNat+1 by omega];rfl
 obtain⟨r,hr,rfl⟩:=key;exact hr
def ABh(t:Fin (15+1)->(Ty.int IntKind.u32).D):Prop:= ∀j:Fin 16,t j=((lS 4 (BitVec.ofNat 32 j.val)).toNat:Int)
def AHp:Ap (Kl ()) ABh:=by refine AA (P:=ABh) ?_ λr hr=>AB hr;refine AW (λ(s:Int×(Fin (15+1)->(Ty.int IntKind.u32).D))=>0<=s.1/\s.1<=16/\ ∀j:Fin 16,(j.val:Int)<s.1->s.2 j=((lS 4 (BitVec.ofNat 32 j.val)).toNat:Int)) (λs=>(16-s.1).toNat) ⟨Af _,g!,λj b=>absurd b d!⟩ ?_;rintro⟨h,i⟩ ⟨c,g,d⟩;refine AC (λa=>?_) (λa=>AB λj=>d j (by have:=j.isLt;omega));obtain⟨k,rfl⟩:=D6 c;rw[(by grind[ut,BitVec.toNat_ofNat]:IntKind.wrap .u32 (k:Int)=((BitVec.ofNat 32 k).toNat:Int)),AGe,AD];refine AA (Cq o! o!) λl e=>?_;refine AA (Cq o! o!) λm f=>AB ?_;grind[AY,WF]
def ADW{t:Fin (15+1)->(Ty.int IntKind.u32).D}(b:ABh t)(c:BitVec 32):Gk t (IntKind.wrap .u32 (((BitVec.toNat ((BitVec.ofInt 32 (c.toNat:Int))&&&(BitVec.ofInt 32 15))):Nat):Int))=some ((lS 4 (c&&&15#32)).toNat:Int):=by
 rw[bvI,show BitVec.ofInt 32 15=15#32 by decide,w32];have a:(c&&&15#32).toNat<16:=by exact Nat.lt_succ_of_le Nat.and_le_right
 unfold Gk;rw[dif_pos o!];refine congrArg some ((b ⟨(c&&&15#32).toNat,a⟩).trans ?_);grind
def AHF(c:BitVec 32):IntKind.wrap .u32 (((BitVec.toNat ((BitVec.ofInt 32 (Int.fdiv (c.toNat:Int) (2^(min (Int.toNat 4) 32))))^^^(BitVec.ofInt 32 ((lS 4 (c&&&15#32)).toNat:Int)))):Nat):Int)=((lS 4 c).toNat:Int):=by rw[fd4,bvI,bvI,AGI,w32]
def AAB: ∀(m n:Nat) (c:BitVec 32),lS m (lS n c)=lS (m+n) c
 |0,n,c=>by rw[lS,EK]
 |m+1,n,c=>by rw[lS,AAB m n,Nat.succ_add];rfl
def vk{x:BT}(h:x.length<=2199023255552):OH x=some (PH x):=by
 unfold OH;have⟨t,f,a⟩:=AHp;rw[f,AD];have key:Ap (Ai (UL x t) (4294967295,0)) λr=>r=((x.foldl gp 4294967295#32).toNat:Int):=by refine AW (λ(s:Int×Int)=>0<=s.2/\s.2<=x.length/\s.1=(((x.take s.2.toNat).foldl gp 4294967295#32).toNat:Int)) (λs=>((x.length:Int)-s.2).toNat) ⟨Af _,d!,rfl⟩ ?_;rintro⟨i,j⟩ ⟨d,g,e⟩;dsimp only at d g e;subst e;unfold UL;simp only[len];refine AC (λc=>?_) (λc=>AB (by rw[BR o!]));have⟨b,q1,q2⟩:=ADN d c;rw[q1,AD,AB7,ADW a,AD,AD,AHF,ADW a,AD,AD,AHF,AY];refine AB ⟨⟨o!,o!,?_⟩,o!⟩;rw[q2,XP,AAB];rfl
 obtain⟨r,hr,rfl⟩:=key;rw[hr,AD,bvI];rw[show(BitVec.ofInt 32 (if(false=true)then(-1)else(if(false=true)then((2^(32-1))-1)else((2^32)-1))))=4294967295#32 by decide,w32];rfl
set_option maxHeartbeats 400000
def fq(n:Nat):BT:=List.replicate n 0
def V0(c:Ce):BT:=C6 (if c.1=true then(c.2.length:Int)else 255) 1++(c.2++fq (12-c.2.length))
def cl(a:G9 16 Ce)(i:Nat):Ce:=(Gk a i).getD (false,[])
def Oh(a:G9 16 Ce)(k:Nat):BT:=(List.range k).flatMap λi=>V0 (cl a i)
def KK(x:AU):BT:=C6 x.2.1 8++(C6 x.1 4++(Oh x.2.2 16++fq 24))
def Hl(x:AU):BT:=KK x++(C6 (PH (KK x)) 4++C6 x.2.1 8)
def kO{a:G9 16 Ce}{i:Nat}(h:i<16):Gk a (i:Int)=some (cl a i)/\cl a i=a ⟨i,h⟩:=by
 have e:Gk a (i:Int)=some (a ⟨i,h⟩):=by unfold Gk;rw[dif_pos o!];rfl
 unfold cl;rw[e];exact⟨rfl,rfl⟩
def OF(a:G9 16 Ce)(k:Nat):Oh a (k+1)=Oh a k++V0 (cl a k):=by unfold Oh;rw[List.range_succ,XO,H6,jR,C0]
def bn{c:Ce}(h:c.2.length<=12):(V0 c).length=13:=by unfold V0 fq;rw[Aa,Aa,A2,HE];omega
def GA.cl{x:AU}(h:GA x)(i:Nat):Fo (cl x.2.2 i):=by rcases Aw i 16 with a|a;rw[(kO a).2];exact(h.2.2.2.2 _).1;unfold Go.Pm.cl Gk;rw[dif_neg o!];exact⟨g!,.inr rfl⟩
def It{x:AU}(h:GA x): ∀k:Nat,(Oh x.2.2 k).length=13*k
 |0=>rfl
 |k+1=>by rw[OF,Aa,It h k,bn (h.cl k).1];omega
def Gu{x:AU}(h:GA x):(KK x).length=244:=by unfold KK fq;simp only[Aa,A2,It h,HE]
def Xq{x:AU}(h:GA x):(Hl x).length=256:=by unfold Hl;simp only[Aa,A2,Gu h]
def UI{x:AU}:(Hl x).take 8=C6 x.2.1 8:=by unfold Hl KK;rw[Ax,Gm (A2 _ _)]
def mW{x:AU}(h:GA x):(Hl x).drop 248=C6 x.2.1 8:=by unfold Hl;rw[<-Ax,jO (by rw[Aa,Gu h,A2])]
def kL(n:Nat):Es (List.replicate n 0)=fq n:=by unfold Es fq;rw[List.map_replicate];rfl
def wH{x:Int}(h:0<=x/\x<=16777216):Gw x=some (fq x.toNat):=by unfold Gw Go.Ab.mk;rw[if_pos ⟨h.1,Af _,h.2⟩,AD,kL]
def lq{s:BT}{n k:Int}(h:s.length<=1099511627776)(a:1<=k/\k<=8):Ap (Ak (s,(n,k))) λr=>r=s++C6 n k.toNat:=⟨_,Hd h a.1 a.2,rfl⟩
def qO{x:AU}(h:GA x):Dw x=some 0:=by have⟨a,g,c⟩:=Lg (x:=x);have⟨b,i,d⟩:=No (x:=x);have e:a=true:=c.2 ⟨h.1,h.2.1,h.2.2.1,h.2.2.2.1⟩;have f:b=true:=d.2 h.2.2.2.2;unfold Dw;rw[g,e,AD,i,f];rfl
def ab{x:AU}(h:GA x):C9 x=some (Hl x,0):=by
 suffices g:Ap (C9 x) λr=>r=(Hl x,0) by obtain⟨r,hr,rfl⟩:=g;exact hr
 unfold C9;rw[qO h,AD];refine AL (λb=>absurd rfl b) λ_=>?_;refine AA (lq g! g!) λL p=>AA (lq (by rw[p];simp[A2]) g!) λG z=>?_;have w:G=C6 x.2.1 8++C6 x.1 4:=by rw[z,p];rfl
 refine AA (P:=λr=>r=C6 x.2.1 8++(C6 x.1 4++Oh x.2.2 16)) ?_ λf d=>?_
 ·refine Cu (λ(s:BT×Int)=>0<=s.2/\s.2<=16/\s.1=C6 x.2.1 8++(C6 x.1 4++Oh x.2.2 s.2.toNat)) (λ(s:BT×Int)=>(16-s.2).toNat) ⟨Af _,u!,by rw[w];simp[Oh]⟩ ?_;rintro⟨s,i⟩ ⟨u,C,g⟩;dsimp only at u C g;subst g;unfold RM;dsimp only;refine AC (λb=>?_) (λb=>Ap.done (by rw[show i.toNat=16 by omega]));have⟨t,K⟩:=kO (a:=x.2.2) (i:=i.toNat) o!;rw[HJ u]at t;have b:=(h.cl i.toNat).1;simp only[t,AD,AY (x:=i+1)];have J:(C6 x.2.1 8++(C6 x.1 4++Oh x.2.2 i.toNat)).length<=300:=by simp only[Aa,A2,It h];omega
  refine AA (P:=λv=>v=if(cl x.2.2 i.toNat).1=true then((cl x.2.2 i.toNat).2.length:Int)else 255) ?_ λM A=>?_;exact AK (λb=>AB (if_pos b).symm) (λb=>AB (if_neg (by rw[b];decide)).symm);refine AA (lq o! g!) λN q=>?_;have y:wi (12-len (cl x.2.2 i.toNat).2)=((12-(cl x.2.2 i.toNat).2.length:Nat):Int):=by rw[AY i!];simp only[len];omega
  rw[y,wH o!,AD,Dd];refine AA (CC (by simp only[fq,HE];omega)) λn c=>?_;have D:n.length<=24:=by rw[c.2];simp only[fq,HE];omega
  refine AA (CC (by rw[q,Aa,A2];simp only[Int.reduceToNat];omega)) λF k=>Ap.next ⟨d!,d!,?_⟩ d!
  dsimp only;rw[k.1,c.1,q,A,show(i+1).toNat=i.toNat+1 by omega,OF];simp only[V0,Ax,Int.reduceToNat]
 have E:f.length=220:=by rw[d];simp only[Aa,A2,It h]
 rw[show wi (244-len f)=24 by rw[AY i!];simp only[len];omega,wH g!,AD];refine AA (CC (by simp only[fq,HE,Int.reduceToNat];omega)) λo l=>?_;have j:o=KK x:=by rw[l.1,d];simp only[KK,Ax,Int.reduceToNat]
 rw[j,uy (by rw[Gu h];decide),AD];have B:=ZD (KK x);rw[AY];refine AA (lq (by rw[Gu h];decide) g!) λH e=>AA (lq (by rw[e,Aa,Gu h,A2];decide) g!) λI m=>AB ?_;rw[m,e];simp only[Hl,Ax,Int.reduceToNat]
def AAj{c d:Ce}(e:Fo c)(f:Fo d)(h:V0 c=V0 d):c=d:=by obtain⟨g,l⟩:=c;obtain⟨i,m⟩:=d;obtain⟨j,b⟩:=D7 h (by rw[A2,A2]);have l1:=e.1;have l2:=f.1;dsimp only at l1 l2;have a:=XF (k:=1) g! ⟨λ_=>by dsimp only;split<;>omega,by dsimp only;split<;>omega,by dsimp only;split<;>omega⟩ ⟨λ_=>by dsimp only;split<;>omega,by dsimp only;split<;>omega,by dsimp only;split<;>omega⟩ j;dsimp only at a b;cases g<;>cases i;have:=e.2;have:=f.2;simp_all;exfalso;simp at a;omega;exfalso;simp at a;omega;simp at a;exact DO rfl (D7 b o!).1
def qv{x y:AU}(a:GA x)(b:GA y): ∀k:Nat,Oh x.2.2 k=Oh y.2.2 k-> ∀i,i<k->cl x.2.2 i=cl y.2.2 i
 |0,_=>λi c=>absurd c o!
 |k+1,h=>by rw[OF,OF]at h;obtain⟨d,e⟩:=D7 h (by rw[It a,It b]);intro i c;by_cases f:i=k;subst f;exact AAj (a.cl i) (b.cl i) e;exact qv a b k d i o!
theorem ACN{x y:AU}(a:GA x)(b:GA y)(h:Hl x=Hl y):x=y:=by obtain⟨h,_⟩:=D7 h (by rw[Gu a,Gu b]);obtain⟨c,h⟩:=D7 h (by rw[A2,A2]);obtain⟨d,h⟩:=D7 h (by rw[A2,A2]);obtain⟨e,_⟩:=D7 h (by rw[It a,It b]);have f:=a.1;have g:=a.2.1;have j:=a.2.2.1;have k:=a.2.2.2.1;have l:=b.1;have m:=b.2.1;have n:=b.2.2.1;have o:=b.2.2.2.1;refine DO (XF (by decide) ⟨λ_=>by omega,by omega,by omega⟩ ⟨λ_=>by omega,by omega,by omega⟩ d) (DO (XF (by decide) ⟨λ_=>by omega,by omega,by omega⟩ ⟨λ_=>by omega,by omega,by omega⟩ c) (funext λi=>?_));have:=qv a b 16 e i.val i.isLt;rw[(kO i.isLt).2,(kO i.isLt).2]at this;exact this
def sM{s:BT}{n k:Int}(h:s.length<=1099511627776)(a:1<=k/\k<=8):OG (s,(n,k))=some (s++C6 n k.toNat):=by unfold OG;dsimp only;rw[decide_eq_true h,decide_eq_true a.1,decide_eq_true a.2];rfl
def vj{n:Int}(h:0<=n/\n<=8000):KX ([0],n)=some (fq n.toNat):=by unfold KX;dsimp only;rw[decide_eq_true h.1,decide_eq_true h.2];rfl
def zC{n:Int}{k:Nat}(hn:0<=n)(h:n<256^k)(a:n<9223372036854775808):rd (C6 n k)=n:=by unfold rd;rw[qE,Int.emod_eq_of_lt hn h,AY]
def AEf{b:BT}{c:Ce}(j:b.length<=1000)(a:c.2.length<=12):Jv b c=some (b++V0 c):=by
 suffices h:Ap (Jv b c) λr=>r=b++V0 c by obtain⟨r,hr,rfl⟩:=h;exact hr
 unfold Jv;refine AA (P:=λv=>v=if c.1=true then(c.2.length:Int)else 255) ?_ λk g=>?_;exact AK (λa=>AB (if_pos a).symm) (λa=>AB (if_neg (by rw[a];decide)).symm);rw[sM o! g!,AD];refine AA (CC (by rw[Aa,A2];simp only[Int.reduceToNat];omega)) λl e=>?_;rw[AY i!,vj i!,AD];have f:(12-len c.2).toNat=12-c.2.length:=i!
 rw[f];refine AA (CC (by rw[e.2,Aa,A2];simp only[fq,HE,Int.reduceToNat];omega)) λi d=>AB ?_;rw[d.1,e.1,g];simp only[V0,Ax,Int.reduceToNat]
def xY{x:Int}(h:0<=x/\x<64):GJ x=some true:=by unfold GJ;rw[decide_eq_true (show x>=0 from h.1),decide_eq_true h.2];rfl
def ABH{x:AU}(h:GA x):R2 x=some true:=by unfold R2;rw[xY ⟨h.1,h.2.1⟩,AD,decide_eq_true (show x.2.1>=0 from h.2.2.1),decide_eq_true h.2.2.2.1];rfl
def AC1{x:AU}(h:GA x):Oj x=some true:=by
 suffices f:Ap (Oj x) λr=>r=true by obtain⟨r,hr,rfl⟩:=f;exact hr
 unfold Oj;refine AA (P:=λr=>r= .inr ()) ?_ λr hr=>by rw[hr];exact A7 (AB rfl)
 refine Cu (λ(s:Int)=>0<=s/\s<=16) (λs=>(16-s).toNat) ⟨Af _,g!⟩ (λs e=>?_);obtain⟨k,l⟩:=e;unfold WP;refine AC (λa=>?_) (λ_=>Ap.done rfl);have c:Ap (some (Step.next (wi (s+1))):Option (Step Int (Bool ⊕ Unit))) (LW (λ(s:Int)=>0<=s/\s<=16) (λs=>(16-s).toNat) (16-s).toNat λr=>r= .inr ()):=by rw[AY];exact Ap.next o! o!
 refine AA (Cq k a) λv i=>?_;have b:=h.2.2.2.2 ⟨s.toNat,o!⟩;rw[<-i]at b;refine AC (λa=>absurd a (by have:=b.1.1;simp only[len];omega)) (λ_=>AO (λd=>?_) (λg=>?_));refine AL (λhn=>absurd (b.1.2.resolve_left (by rw[d];decide)) hn) (λ_=>AK (λa=>by rw[d]at a;cases a) (λ_=>c));exact AK (λ_=>AP (λj=>by have:=b.2 j;rw[g]at this;cases this) (λ_=>c)) (λ_=>c)
def cw{x:AU}(h:GA x):I4 x=some (Hl x,0):=by
 suffices d:Ap (I4 x) λr=>r=(Hl x,0) by obtain⟨r,hr,rfl⟩:=d;exact hr
 unfold I4;rw[ABH h,AD,AC1 h,AD,Cg,cond_false,cond_false,sM g! g!,AD,sM (by rw[Bw,A2];decide) g!,AD];refine AA (P:=λr=>r=C6 x.2.1 8++(C6 x.1 4++Oh x.2.2 16)) ?_ λc b=>?_
 ·refine Cu (λ(s:Int×NW)=>0<=s.1/\s.1<=16/\s.2=C6 x.2.1 8++(C6 x.1 4++Oh x.2.2 s.1.toNat)) (λ(s:Int×NW)=>(16-s.1).toNat) ⟨Af _,u!,by simp[Oh]⟩ ?_;rintro⟨i,s⟩ ⟨k,n,d⟩;dsimp only at k n d;subst d;unfold cD;dsimp only;refine AC (λl=>?_) (λl=>Ap.done (by rw[show i.toNat=16 by omega]));have⟨j,p⟩:=kO (a:=x.2.2) (i:=i.toNat) o!;rw[HJ k]at j;rw[j,AD,AEf (by simp only[Aa,A2,It h];omega) (h.cl i.toNat).1,AD,AY (x:=i+1)];refine Ap.next ⟨d!,d!,?_⟩ d!
  dsimp only;rw[show(i+1).toNat=i.toNat+1 by omega,OF];simp only[Ax]
 have o:c.length=220:=by rw[b];simp only[Aa,A2,It h]
 rw[show wi (244-len c)=24 by rw[AY i!];simp only[len];omega,vj g!,AD];refine AA (CC (by simp only[fq,HE,Int.reduceToNat];omega)) λg f=>?_;have e:g=KK x:=by rw[f.1,b];simp only[KK,Ax,Int.reduceToNat]
 rw[e,vk (by rw[Gu h];decide),AD];have m:=ZD (KK x);rw[AY,sM (by rw[Gu h];decide) g!,AD,sM (by rw[Aa,Gu h,A2];decide) g!,AD];apply AB;simp only[Hl,Ax,Int.reduceToNat]
def qw(a:G9 16 Ce)(i:Nat): ∀k:Nat,i<=k-> ∃r,Oh a k=Oh a i++r
 |0,h=>⟨[],by rw[show i=0 by omega];rfl⟩
 |k+1,h=>by by_cases e:i=k+1;exact⟨[],by rw[e,C0]⟩;obtain⟨r,hr⟩:=qw a i k o!;exact⟨r++V0 (cl a k),by rw[OF,hr,Ax]⟩
def uB{x:AU}(h:GA x){i:Nat}(a:i<16): ∃A r,Hl x=A++(V0 (cl x.2.2 i)++r)/\A.length=12+13*i:=by
 obtain⟨r,hr⟩:=qw x.2.2 (i+1) 16 o!;refine⟨C6 x.2.1 8++(C6 x.1 4++Oh x.2.2 i),r++(fq 24++(C6 (PH (KK x)) 4++C6 x.2.1 8)),?_,by simp only[Aa,A2,It h];omega⟩;conv=>lhs;unfold Hl KK
 rw[hr,OF];simp only[Ax,KK,hr,OF]
def zb{x a:G9 16 Ce}{i:Int}{c:Ce}(h: ∀j:Fin 16,a j=if(j.val:Int)<i then x j else(false,[]))(g:0<=i/\i<16)(e: ∀f,x ⟨i.toNat,f⟩=c): ∀j:Fin 16,WF a i c j=if(j.val:Int)<i+1 then x j else(false,[]):=λj=>by unfold WF;by_cases k:(j.val:Int)=i;have d:j=⟨i.toNat,by omega⟩:=Fin.ext (by dsimp only;omega);rw[if_pos (by omega),if_pos (by omega),d,e];rw[if_neg (by omega),h j];by_cases b:(j.val:Int)<i;rw[if_pos b,if_pos (by omega)];rw[if_neg b,if_neg (by omega)]
def wS{x a:G9 16 Ce}{i:Int}(h: ∀j:Fin 16,a j=if(j.val:Int)<i then x j else(false,[]))(f:0<=i/\i<16)(d: ∀e,x ⟨i.toNat,e⟩=(false,[])): ∀j:Fin 16,a j=if(j.val:Int)<i+1 then x j else(false,[]):=λj=>by rw[h j];by_cases g:(j.val:Int)=i;have c:j=⟨i.toNat,by omega⟩:=Fin.ext (by dsimp only;omega);rw[if_neg (by omega),if_pos (by omega),c,d];by_cases b:(j.val:Int)<i;rw[if_pos b,if_pos (by omega)];rw[if_neg b,if_neg (by omega)]
def vu{a t:BT}{n k:Int}(h:(a.length:Int)+t.length<=2199023255552)(b:1<=k)(d:k<=8)(e:k<=t.length)(g:t.take k.toNat=C6 n k.toNat)(hn:0<=n)(f:n<256^k.toNat)(c:n<9223372036854775808):FQ (a++t,((a.length:Int),k))=some n:=by unfold FQ;rw[XG h b d,if_pos e,AD,g,zC hn f c]
def AEl{x:AU}(h:GA x):QU (Hl x)=some (x,true):=by
 suffices C:Ap (QU (Hl x)) λr=>r=(x,true) by obtain⟨r,hr,rfl⟩:=C;exact hr
 have l:=Xq h;have O:=h.1;have S:=h.2.1;have Q:=h.2.2.1;have T:=h.2.2.2.1;have q1:FQ (Hl x,(8,4))=some x.1:=by have:=vu (a:=C6 x.2.1 8) (t:=C6 x.1 4++(Oh x.2.2 16++(fq 24++(C6 (PH (KK x)) 4++C6 x.2.1 8)))) (n:=x.1) (k:=4) (by simp only[Aa,A2,It h,fq,HE];omega) g! g! (by simp only[Aa,A2];omega) (by exact Gm (A2 _ _)) O (by simp only[Int.reduceToNat];omega) o!;rw[A2]at this;rw[<-this];simp only[Hl,KK,Ax];rfl
 have q2:FQ (Hl x,(0,8))=some x.2.1:=by have:=vu (a:=[]) (t:=Hl x) (n:=x.2.1) (k:=8) (by rw[l];decide) g! g! (by rw[l];decide) UI Q (by simp only[Int.reduceToNat];omega) o!;exact this
 unfold QU;rw[q1,AD,q2,AD];refine AA (P:=λr=> ∃z,r= .inr (x,z)) ?_ λr hr=>by obtain⟨z,rfl⟩:=hr;exact A7 (AB rfl)
 refine Cu (λ(s:Int×AU×AU)=>0<=s.1/\s.1<=16/\s.2.1.1=x.1/\s.2.1.2.1=x.2.1/\ ∀j:Fin 16,s.2.1.2.2 j=if(j.val:Int)<s.1 then x.2.2 j else(false,[])) (λ(s:Int×AU×AU)=>(16-s.1).toNat) ⟨Af _,u!,rfl,rfl,λj=>by rw[if_neg d!];rfl⟩ ?_;rintro⟨i,⟨p,n,a⟩,z⟩ ⟨o,N,G,hn,f⟩;dsimp only at o N G hn f;subst G hn;unfold Xx;dsimp only;refine AC (λg=>?_) (λg=>Ap.done ⟨z,?_⟩)
 ·rw[AY (x:=i*13),AY (x:=12+i*13),AY (x:=12+i*13+1),AY (x:=i+1)];have⟨R,m⟩:=kO (a:=x.2.2) (i:=i.toNat) o!;obtain⟨A,r,B,K⟩:=uB h (i:=i.toNat) o!;have b:=h.cl i.toNat
  generalize L:cl x.2.2 i.toNat=c at*;have F:A.length+(13+r.length)=256:=by have:=l;rw[B,Aa,Aa,bn b.1]at this;exact this
  have e:FQ (Hl x,(12+i*13,1))=some (if c.1=true then(c.2.length:Int)else 255):=by have y:=b.1;have:=vu (a:=A) (t:=V0 c++r) (n:=if c.1=true then(c.2.length:Int)else 255) (k:=1) (by rw[Aa,bn b.1];omega) g! g! (by rw[Aa,bn b.1];omega) (by unfold V0;rw[List.append_assoc];exact List.take_left' (A2 _ _)) (by split<;>omega) (by simp only[Int.reduceToNat];split<;>omega) (by split<;>omega);rw[<-B]at this;rw[<-this,K];congr 3;omega
  rw[e,AD];have H: ∀q:G9 16 Ce,(∀j:Fin 16,q j=if(j.val:Int)<i+1 then x.2.2 j else(false,[]))->Ap (some (Step.next (i+1,((x.1,(x.2.1,q)),z))):Option (Step (Int×AU×AU) ((Bool×AU)⊕ (AU×AU)))) (LW (λ(s:Int×AU×AU)=>0<=s.1/\s.1<=16/\s.2.1.1=x.1/\s.2.1.2.1=x.2.1/\ ∀j:Fin 16,s.2.1.2.2 j=if(j.val:Int)<s.1 then x.2.2 j else(false,[])) (λ(s:Int×AU×AU)=>(16-s.1).toNat) (16-i).toNat λr=> ∃z,r= .inr (x,z)):=λq w=>Ap.next ⟨d!,d!,rfl,rfl,w⟩ d!
  by_cases d:c.1=true;rw[if_pos d];have y:=b.1;rw[beq_eq_false_iff_ne.2 o!,cond_false,decide_eq_false o!,cond_false,AY];obtain⟨s,C,D⟩:=B8 (s:=Hl x) (lo:=12+i*13+1) (hi:=12+i*13+1+(c.2.length:Int)) o! o! (by rw[l];omega);have E:s=c.2:=by
   rw[D.1,B];have I:(12+i*13+1).toNat=A.length+1:=o!
   have J:(12+i*13+1+(c.2.length:Int)).toNat-(12+i*13+1).toNat=c.2.length:=o!
   rw[J,I,<-Lw,PV];unfold V0;rw[if_pos d,Ax,jO (A2 _ _),Ax,VT]
  rw[C,E,AD];have u: ∃v,Gk a i=some v:=by obtain⟨v,m,_⟩:=Cq (a:=a) o g;exact⟨v,m⟩
  obtain⟨v,u⟩:=u;rw[u,AD,AD,AD,Sum.elim_inl];exact H _ (zb f ⟨o,g⟩ λM=>m.symm.trans (DO d rfl));rw[if_neg d,beq_iff_eq.2 rfl,cond_true,AD,Sum.elim_inl];exact H _ (wS f ⟨o,g⟩ λM=>m.symm.trans (DO (by simpa using d) (b.2.resolve_left d)))
 refine congrArg Sum.inr (DO (DO rfl (DO rfl (funext λj=>?_))) rfl);exact(f j).trans (if_pos o!)
theorem zp{x:AU}(h:GA x)(hn:x.2.1≠0):Hl x≠fq 256:=λe=>hn (by have:=congrArg (List.take 8) e;rw[UI]at this;have a:=h.2.2.1;have b:=h.2.2.2.1;exact XF (k:=8) (by decide) ⟨λ_=>by omega,by omega,by omega⟩ ⟨λ_=>by omega,by omega,by omega⟩ (this.trans (by decide)))
def xR:UQ ()=some (fq 256):=by unfold UQ;rw[vj g!];rfl
def AA9{x:AU}(h:GA x)(hn:x.2.1≠0):KM (Hl x)=some (x,0):=by
 have b:=Xq h;unfold KM;have c:len (Hl x)=256:=i!
 obtain⟨m,q1,e⟩:=B8 (s:=Hl x) (lo:=0) (hi:=8) g! g! (by rw[b];decide);obtain⟨o,q2,f⟩:=B8 (s:=Hl x) (lo:=248) (hi:=256) g! g! (by rw[b];decide);obtain⟨p,q3,g⟩:=B8 (s:=Hl x) (lo:=0) (hi:=244) g! g! (by rw[b];decide);have i:m=C6 x.2.1 8:=e.1.trans UI;have j:o=C6 x.2.1 8:=by rw[f.1];show List.take 8 (List.drop 248 (Hl x))=_;rw[mW h,BR (by rw[A2];exact Ao _)]
 have l:p=KK x:=g.1.trans (by show List.take 244 (Hl x)=_;unfold Hl;exact Gm (Gu h));have d:=ZD (KK x);have q4:FQ (Hl x,(244,4))=some (PH (KK x)):=by have:=vu (a:=KK x) (t:=C6 (PH (KK x)) 4++C6 x.2.1 8) (n:=PH (KK x)) (k:=4) (by simp only[Aa,A2,Gu h];decide) g! g! (by simp only[Aa,A2];decide) (Gm (A2 _ _)) o! (by simp only[Int.reduceToNat];omega) o!;rw[Gu h]at this;exact this
 rw[c,bne_self_eq_false,cond_false,xR,AD,beq_eq_false_iff_ne.2 (zp h hn),cond_false,q1,AD,q2,AD,i,j,bne_self_eq_false,cond_false,q3,AD,l,q4,AD,vk (by rw[Gu h];decide),AD,AY,bne_self_eq_false,cond_false,AEl h,AD,cw h,AD,bne_self_eq_false,bne_self_eq_false];rfl
def lH(x:AU):BT:=if x.2.1=0 then fq 256 else Hl x
def ACu{x:AU}(h:GA x)(a:x.2.1=0->x=(x.1,(0,G9.all (false,[])))):Ea (lH x,x.1)=some (x,0):=by
 unfold Ea lH;rw[xY ⟨h.1,h.2.1⟩,AD,Cg,cond_false];by_cases hn:x.2.1=0;rw[if_pos hn];have e:KM (fq 256)=some ((0,(0,(G9.all (false,[])))),7):=by unfold KM;rw[show len (fq 256)=256 by unfold len fq;rw[List.length_replicate];rfl,bne_self_eq_false,cond_false,xR,Option.bind_some,beq_self_eq_true,cond_true]
 rw[e,AD];exact congrArg (λq=>some (q,(0:Int))) (a hn).symm;rw[if_neg hn,AA9 h hn,AD];show(bif x.1 !=x.1 then _ else some (x,(0:Int)))=_;rw[bne_self_eq_false];rfl
def HA(p:BT):BT:=C6 (p.length:Int) 4++(p++C6 (PH (C6 (p.length:Int) 4++p)) 4)
theorem Dn(p:BT):(HA p).length=p.length+8:=by grind[HA,List.length_append,A2]
theorem ac{p:BT}(h:p.length<=8392):DU p=some (HA p):=by
 unfold DU;simp only[len];rw[decide_eq_false o!,cond_false,Hd q! g! g!,AD,Bw];have b:(C6 (p.length:Int) 4++p).length=p.length+4:=by grind[List.length_append,A2]
 rw[(by grind[sapp,A2]:sapp (C6 (p.length:Int) (Int.toNat 4)) p=some (C6 (p.length:Int) 4++p)),AD,uy o!,AD];have a:=ZD (C6 (p.length:Int) 4++p);rw[AY,Hd o! g! g!,AD,Ax];rfl
def UF(al:Nat)(t:BT):BT×Int×Int:=
 if t.length<4 then([],0,5)else
 if rd (t.take 4)>8392 then([],0,2)else
 if(t.length:Int)<rd (t.take 4)+8 then([],0,5)else
 if rd ((t.drop (4+(rd (t.take 4)).toNat)).take 4)≠PH (t.take (4+(rd (t.take 4)).toNat))then([],0,3)else
 ((t.drop 4).take (rd (t.take 4)).toNat,(al:Int)+8+rd (t.take 4),0)
def rd4{t:BT}(h:4<=t.length):0<=rd (t.take 4)/\rd (t.take 4)<4294967296:=by
 have a:(t.take 4).length=4:=by rw[BQ];omega
 have:=(zB (l:=t.take 4) o!).1 o!;rw[a]at this;exact this
theorem VO{a t:BT}(h:(a.length:Int)+t.length<=2199023255552):CQ (a++t,(a.length:Int))=some (UF a.length t):=by
 have b:len (a++t)=(a.length:Int)+t.length:=by grind[List.length_append]
 have o:((a++t).length:Int)=(a.length:Int)+t.length:=b;unfold CQ UF;dsimp only;rw[decide_eq_false o!,cond_false,decide_eq_false o!,cond_false,gh h g! g!];by_cases g:t.length<4;rw[if_neg o!,if_pos g];rfl;rw[if_pos o!,if_neg g,AD,show Int.toNat 4=4 from rfl];have⟨p,u⟩:=rd4 (t:=t) o!;generalize hn:rd (t.take 4)=n at*;obtain⟨m,rfl⟩:=D6 p;rw[show((0:Int) !=0)=false by decide,cond_false];by_cases d:(m:Int)>8392;rw[decide_eq_true d,cond_true,if_pos d];rw[decide_eq_false d,cond_false,if_neg d,b,AY,AY];by_cases i:(t.length:Int)<(m:Int)+8;rw[decide_eq_true o!,cond_true,if_pos i];rw[decide_eq_false o!,cond_false,if_neg i,Dd];have f:wi (wi ((a.length:Int)+4)+(m:Int))=((a++t.take (4+m)).length:Int):=by rw[AY (x:=(a.length:Int)+4),AY,Aa,BQ];omega
 have j:a++t=(a++t.take (4+m))++t.drop (4+m):=by rw[Ax,D1]
 have s:((t.drop (4+m)).length:Int)=t.length-(4+m):=by rw[FY];omega
 have c:((a++t.take (4+m)).length:Int)=a.length+4+m:=by rw[Aa,BQ];omega
 have l:Ay (a++t,(wi (wi ((a.length:Int)+4)+(m:Int)),4))=some (rd ((t.drop (4+m)).take 4),0):=by
  rw[f];conv=>lhs;rw[j]
  rw[gh o! g! g!,if_pos o!];rfl
 have q:Rk (a++t) (a.length:Int) (wi (wi ((a.length:Int)+4)+(m:Int)))=some (t.take (4+m)):=by unfold Rk;rw[f,if_pos o!,c,Dd,PV,show((a.length:Int)+4+m).toNat-a.length=4+m by omega]
 have r:Rk (a++t) (wi ((a.length:Int)+4)) (wi (wi ((a.length:Int)+4)+(m:Int)))=some ((t.drop 4).take m):=by unfold Rk;rw[f,AY (x:=(a.length:Int)+4),if_pos o!,c,show((a.length:Int)+4).toNat=a.length+4 by omega,am,XN o!,Bw,Xh,show((a.length:Int)+4+m).toNat-(a.length+4)=m by omega]
 rw[l,AD,q,AD,uy (by rw[BQ];omega),AD,r];have⟨q1,q2⟩:=rd4 (t:=t.drop (4+m)) o!;have k:IntKind.wrap .u32 (rd ((t.drop (4+m)).take 4))=rd ((t.drop (4+m)).take 4):=by rw[ut];omega
 rw[k];by_cases e:rd ((t.drop (4+m)).take 4)=PH (t.take (4+m));rw[if_neg (by simp[e]),e,bne_self_eq_false,cond_false,AD,AY (x:=(a.length:Int)+8),AY];rw[if_pos e,bne_iff_ne.2 e,cond_true]
theorem ACt{x:BT}{i:Int}(a:0<=i)(h:i>x.length):Bt (x,(i,4))=some (0,5):=by grind[Bt]
theorem Qq{a t:BT}(h:(a.length:Int)+t.length<=2199023255552):DM (a++t,(a.length:Int))=some (UF a.length t):=by
 have f:len (a++t)=(a.length:Int)+t.length:=by grind[List.length_append]
 have p:((a++t).length:Int)=(a.length:Int)+t.length:=f;unfold DM UF;dsimp only;rw[decide_eq_false o!,cond_false,decide_eq_false o!,cond_false,XG h g! g!];by_cases i:t.length<4;rw[if_neg o!,if_pos i];rfl;rw[if_pos o!,if_neg i,AD,show Int.toNat 4=4 from rfl];have⟨q,w⟩:=rd4 (t:=t) o!;generalize hn:rd (t.take 4)=n at*;obtain⟨m,rfl⟩:=D6 q;rw[show((0:Int) !=0)=false by decide,cond_false];by_cases d:(m:Int)>8392;rw[decide_eq_true d,cond_true,if_pos d];rw[decide_eq_false d,cond_false,if_neg d];have k:wi (wi ((a.length:Int)+4)+(m:Int))=(a.length:Int)+4+m:=by grind[AY]
 by_cases j:(t.length:Int)<(m:Int)+8;rw[if_pos j];have:Bt (a++t,(wi (wi ((a.length:Int)+4)+(m:Int)),4))=some (0,5):=by
  rw[k];by_cases v:(a.length:Int)+4+m>(a++t).length;grind[ACt];have c:(a.length:Int)+4+m=((a++t.take (4+m)).length:Int):=by grind[List.length_append,List.length_take]
  have g:a++t=(a++t.take (4+m))++t.drop (4+m):=by rw[Ax,D1]
  grind[List.length_drop,XG]
 rw[this];rfl;rw[if_neg j,Dd];have c:wi (wi ((a.length:Int)+4)+(m:Int))=((a++t.take (4+m)).length:Int):=by grind[List.length_append,List.length_take]
 have g:a++t=(a++t.take (4+m))++t.drop (4+m):=by rw[Ax,D1]
 have u:((t.drop (4+m)).length:Int)=t.length-(4+m):=by rw[FY];omega
 have b:((a++t.take (4+m)).length:Int)=a.length+4+m:=by rw[Aa,BQ];omega
 have l:Bt (a++t,(wi (wi ((a.length:Int)+4)+(m:Int)),4))=some (rd ((t.drop (4+m)).take 4),0):=by
  rw[c];conv=>lhs;rw[g]
  rw[XG o! g! g!,if_pos o!];rfl
 have r:Rk (a++t) (a.length:Int) (wi (wi ((a.length:Int)+4)+(m:Int)))=some (t.take (4+m)):=by unfold Rk;rw[c,if_pos o!,b,Dd,PV,show((a.length:Int)+4+m).toNat-a.length=4+m by omega]
 have s:Rk (a++t) (wi ((a.length:Int)+4)) (wi (wi ((a.length:Int)+4)+(m:Int)))=some ((t.drop 4).take m):=by unfold Rk;rw[c,AY (x:=(a.length:Int)+4),if_pos o!,b,show((a.length:Int)+4).toNat=a.length+4 by omega,am,XN o!,Bw,Xh,show((a.length:Int)+4+m).toNat-(a.length+4)=m by omega]
 rw[l,AD,show(((rd ((t.drop (4+m)).take 4),(0:Int)):Int×Int).2 !=0)=false from rfl,cond_false,r,AD,vk (by rw[BQ];omega),AD,s];have o:=ZD (t.take (4+m));rw[AY (x:=PH (t.take (4+m)))];by_cases e:rd ((t.drop (4+m)).take 4)=PH (t.take (4+m));rw[if_neg (by simp[e]),e,bne_self_eq_false,cond_false,AD,k,AY];refine congrArg some (DO rfl (DO ?_ rfl));dsimp only;omega;rw[if_pos e,bne_iff_ne.2 e,cond_true]
def qW{a:Nat}{t:BT}(h:(UF a t).2.2=0):(UF a t).1.length<=8392/\(∃c,t=HA (UF a t).1++c)/\(UF a t).2.1=(a:Int)+8+(UF a t).1.length:=by
 unfold UF at h⊢;by_cases j:t.length<4;rw[if_pos j]at h;exact absurd h g!;rw[if_neg j]at h⊢;obtain⟨q,r⟩:=rd4 (t:=t) o!;by_cases k:rd (t.take 4)>8392;rw[if_pos k]at h;exact absurd h g!;rw[if_neg k]at h⊢;by_cases o:(t.length:Int)<rd (t.take 4)+8;rw[if_pos o]at h;exact absurd h g!;rw[if_neg o]at h⊢;by_cases b:rd ((t.drop (4+(rd (t.take 4)).toNat)).take 4)≠PH (t.take (4+(rd (t.take 4)).toNat));rw[if_pos b]at h;exact absurd h g!;rw[if_neg b]at h⊢;have b:=Decidable.not_not.1 b;dsimp only;have e:(t.take 4).length=4:=by rw[BQ];omega
 have g:C6 (rd (t.take 4)) 4=t.take 4:=by have:=vX (l:=t.take 4) o!;rwa [e]at this
 generalize hn:rd (t.take 4)=n at*;obtain⟨m,rfl⟩:=D6 q;rw[Dd]at b⊢;have i:((t.drop 4).take m).length=m:=by rw[BQ,FY];omega
 refine⟨o!,?_,o!⟩;have p:t.take (4+m)=C6 (m:Int) 4++(t.drop 4).take m:=by rw[List.take_add,g]
 have f:((t.drop (4+m)).take 4).length=4:=by rw[BQ,FY];omega
 have d:C6 (PH (t.take (4+m))) 4=(t.drop (4+m)).take 4:=by rw[<-b];have:=vX (l:=(t.drop (4+m)).take 4) o!;rwa [f]at this
 refine⟨t.drop (4+m+4),?_⟩;unfold HA;rw[i,<-p,d,<-Ax,<-p];conv=>lhs;rw[<-D1 (4+m) t,<-D1 4 (t.drop (4+m)),Lw]
 rw[Ax]
theorem kY{c:Nat}{p a:BT}(h:p.length<=8392):UF c (HA p++a)=(p,((c:Int)+8+p.length,0)):=by
 have d:ae 4 (p.length:Int):=⟨λ_=>⟨o!,by rw[show(256:Int)^4=4294967296 by decide];omega⟩,o!⟩
 have e:=ZD (C6 (p.length:Int) 4++p);have b:ae 4 (PH (C6 (p.length:Int) 4++p)):=⟨λ_=>⟨o!,by rw[show(256:Int)^4=4294967296 by decide];omega⟩,o!⟩
 unfold UF;rw[(by grind[HA,List.append_assoc,List.take_left',A2]:(HA p++a).take 4=C6 (p.length:Int) 4),(og g! d),Dd,(by grind[HA,List.append_assoc,List.take_left',List.length_append,A2]:(HA p++a).take (4+p.length)=C6 (p.length:Int) 4++p),(by grind[HA,List.append_assoc,List.drop_left',List.length_append,A2]:(HA p++a).drop (4+p.length)=C6 (PH (C6 (p.length:Int) 4++p)) 4++a),(by grind[HA,List.append_assoc,List.drop_left',A2]:(HA p++a).drop 4=p++(C6 (PH (C6 (p.length:Int) 4++p)) 4++a)),(by rw[Aa,(Dn p)]:(HA p++a).length=p.length+8+a.length),if_neg o!,if_neg o!,if_neg o!,Gm (A2 _ _),og g! b,if_neg q!,Gm rfl]
def CI(b:Dh):Prop:=b.1.length<=1099511627776/\0<=b.2.1/\b.2.1<=b.1.length
def NI{b:Dh}{x:Int}(h:CI b)(c:0<=x/\x<=8):Ap (BO b x) λr=>CI r.2/\(x<=4->0<=r.1/\r.1<4294967296):=by
 unfold BO;unfold CI at*
 repeat' first
   |with_reducible apply AL<;>intro a
   |with_reducible apply AB
   |(with_reducible refine AM ?_ (Ci ?_);intro r hr)
 all_goals exact l!
def Nq{b:Dh}{x:Int}(h:CI b)(d:0<=x/\x<=4294967296):Ap (Ct b x) λr=>CI r.2:=by
 unfold Ct;unfold CI at*
 repeat' first
   |with_reducible apply AC<;>intro a
   |with_reducible apply AL<;>intro a
   |with_reducible apply AB
   |(with_reducible refine AM ?_ (B8 ?_ ?_ ?_);rintro r ⟨hr,c⟩)
 all_goals exact l!
def V4{b:Dh}{x:Unit}(h:CI b):Ap (Cl b x) λr=>CI r.2:=by
 unfold Cl;repeat' with_reducible first|intro a|apply AC|apply AP|apply AL|apply AK|apply AB|(refine AM ?_ (NI ?_ ?_);intro r hr)|(refine AM ?_ (Nq ?_ ?_);intro r hr)
 all_goals ((try dsimp[len]at*);(try first|omega|assumption|grind[CI]))
theorem Z8{x:BT}(h:x.length<=1099511627776):Ap (D9 x) λr=>r.2=0->Lc r.1:=by
 unfold D9;have b:CI (x,0,0):=⟨h,q!,q!⟩
 repeat' with_reducible first|intro a|apply AO|apply AL|apply AK|apply AB|(refine AM ?_ (NI ?_ ?_);intro r hr)|(refine AM ?_ (V4 ?_);intro r hr)|(refine AM ?_ (Nq ?_ ?_);intro r hr)|(apply AA (CV);intro r hr)
 all_goals first|omega|assumption|(exact And.left v!)|grind
def WU{x:BT×List Int}{s:BT×Int}(h:0<=s.2/\s.2<=x.2.length/\x.2.length<=16777216/\x.1.length<=1073741824/\(s.1.length:Int)<=x.1.length+8*s.2):Ap (Ai (Kp x) s) λr=>(r.length:Int)<=x.1.length+8*x.2.length:=by
 refine AW (λ(s:BT×Int)=>0<=s.2/\s.2<=x.2.length/\x.2.length<=16777216/\x.1.length<=1073741824/\(s.1.length:Int)<=x.1.length+8*s.2) (λ(s:BT×Int)=>((x.2.length:Int)-s.2).toNat) h (λs b=>?_);unfold Kp;repeat' with_reducible first|intro a|apply AC|apply AK|apply AB|(refine AM ?_ (DW ?_);intro r hr)|(refine AM ?_ (AI ?_ ?_);rintro r ⟨hr,c⟩)
 all_goals exact l!
def Yy{x:BT×List Int}(h:x.2.length<=16777216/\x.1.length<=1073741824):Ap (HS x) λr=>(r.length:Int)<=x.1.length+8*x.2.length:=by
 unfold HS;repeat' with_reducible first|apply AB|(refine AM ?_ (WU ?_);intro r hr)
 all_goals exact l!
def W9{x:List Al}{s:BT×Int}(h:0<=s.2/\s.2<=x.length/\Yb x/\(s.1.length:Int)<=10+40000*s.2):Ap (Ai (Lm x) s) λr=>(r.length:Int)<=10+40000*x.length:=by
 refine AW (λ(s:BT×Int)=>0<=s.2/\s.2<=x.length/\Yb x/\(s.1.length:Int)<=10+40000*s.2) (λ(s:BT×Int)=>((x.length:Int)-s.2).toNat) h (λs c=>?_);unfold Lm;have⟨e,f,⟨b,a⟩,g⟩:=c;repeat' with_reducible first|intro d|apply AC|apply AK|apply AB|(refine AM ?_ (DW ?_);intro r hr)|(refine AM ?_ (Yy ?_);intro r hr)|(refine AM ?_ (AI ?_ ?_);rintro r ⟨hr,i⟩)
 all_goals try (have j:=a _ _ v!)
 all_goals try unfold VTx at*
 all_goals dsimp[len]at*
 all_goals first|omega|(refine⟨⟨?_,?_,⟨b,a⟩,?_⟩,?_⟩<;>(simp (disch:=omega) only[AY];omega))|grind
def SG{x:List Al}:Ap (KB x) λr=>r.1.length<=16777216:=by
 unfold KB;repeat' with_reducible first|intro a|apply AO|apply AK|apply AB|(apply AA (Dt);intro r hr)|(refine AM ?_ (DW ?_);intro r hr)|(refine AM ?_ (W9 ?_);intro r hr)
 all_goals ((try dsimp[len]at*);(try first|omega|assumption|grind[Yb]))
def CJ(b:B5):Prop:=b.1.length<=1099511627776/\0<=b.2.1/\b.2.1<=b.1.length
def GG{b:B5}{x:Int}(h:CJ b)(c:0<=x/\x<=8):Ap (Ca b x) λr=>CJ r.2/\(x<=2->0<=r.1/\r.1<65536):=by
 unfold Ca;unfold CJ at*
 repeat' first
   |with_reducible apply AK<;>intro a
   |with_reducible apply AB
   |(with_reducible refine AM ?_ (Ci ?_);intro r hr)
 all_goals exact l!
def UU  {s:Int×List Int×B5}(h:0<=s.1/\s.1+s.2.1.length<=65536/\CJ s.2.2):Ap (Ai (Ix) s) λr=>CJ r.2/\r.1.length<=65536:=by
 refine AW (λ(s:Int×List Int×B5)=>0<=s.1/\s.1+s.2.1.length<=65536/\CJ s.2.2) (λ(s:Int×List Int×B5)=>s.1.toNat) h (λs c=>?_);unfold Ix;repeat' with_reducible first|intro a|apply AC|apply AO|apply AK|apply AB|(refine AM ?_ (GG ?_ ?_);intro r hr)|(refine AM ?_ (Ac ?_);rintro r ⟨hr,d,b⟩)
 all_goals exact l!
def V5{b:B5}{x:Int}(h:CJ b)(a:0<=x/\x<=2):Ap (F9 b x) λr=>CJ r.2:=by
 unfold F9;repeat' with_reducible first|apply AB|(refine AM ?_ (GG ?_ ?_);intro r hr)|(refine AM ?_ (UU ?_);intro r hr)
 all_goals exact l!
def W8  {s:Int×List Al×B5}(h:0<=s.1/\s.1+s.2.1.length<=65536/\CJ s.2.2):Ap (Ai (Ll) s) λr=>CJ r.2/\r.1.length<=65536:=by
 refine AW (λ(s:Int×List Al×B5)=>0<=s.1/\s.1+s.2.1.length<=65536/\CJ s.2.2) (λ(s:Int×List Al×B5)=>s.1.toNat) h (λs c=>?_);unfold Ll;repeat' with_reducible first|intro a|apply AC|apply AO|apply AK|apply AB|(refine AM ?_ (GG ?_ ?_);intro r hr)|(refine AM ?_ (V5 ?_ ?_);intro r hr)|(refine AM ?_ (Ac ?_);rintro r ⟨hr,d,b⟩)
 all_goals exact l!
def SE{x:BT}(h:x.length<=1099511627776):Ap (KA x) λr=>r.1.length<=65536/\(r.2=0->Yb r.1):=by
 unfold KA;have b:CJ (x,0,false):=⟨h,q!,q!⟩
 repeat' with_reducible first|intro a|apply AO|apply AL|apply AK|apply AB|(refine AM ?_ (GG ?_ ?_);intro r hr)|(refine AM ?_ (W8 ?_);intro r hr)|(apply AA (Dt);intro r hr)
 all_goals exact l!
def W7{x:Bq}{s:BT×Int}(h:0<=s.2/\s.2<=x.length/\x.length<=64/\(s.1.length:Int)<=10+24*s.2):Ap (Ai (IN x) s) λr=>r.length<=2000:=by
 refine AW (λ(s:BT×Int)=>0<=s.2/\s.2<=x.length/\x.length<=64/\(s.1.length:Int)<=10+24*s.2) (λ(s:BT×Int)=>((x.length:Int)-s.2).toNat) h (λs b=>?_);unfold IN;repeat' with_reducible first|intro a|apply AC|apply AK|apply AB|(refine AM ?_ (DW ?_);intro r hr)|(refine AM ?_ (AI ?_ ?_);rintro r ⟨hr,c⟩)
 all_goals exact l!
def SD{x:Bq}:Ap (Hs x) λr=>r.1.length<=2000:=by
 unfold Hs;repeat' with_reducible first|intro a|apply AO|apply AK|apply AB|(apply AA (GD);intro r hr)|(refine AM ?_ (DW ?_);intro r hr)|(refine AM ?_ (W7 ?_);intro r hr)
 all_goals ((try dsimp[len]at*);(try first|omega|assumption|grind[kZ]))
def W6{x:BT}{a:Int×Int}{s:Int×List Bb}(h:0<=s.1/\s.1<=a.1/\a.1<=65536/\x.length<=1099511627776/\s.2.length<=s.1):Ap (Ai (IM x a) s) λr=>r.length<=65536:=by
 refine AW (λ(s:Int×List Bb)=>0<=s.1/\s.1<=a.1/\a.1<=65536/\x.length<=1099511627776/\s.2.length<=s.1) (λ(s:Int×List Bb)=>(a.1-s.1).toNat) h (λs d=>?_);unfold IM;repeat' with_reducible first|intro b|apply AC|apply AK|apply AB|(refine AM ?_ (Ci ?_);intro r hr)|(refine AM ?_ (Ac ?_);rintro r ⟨hr,e,c⟩)
 all_goals exact l!
def SC{x:BT}(h:x.length<=1099511627776):Ap (Ee x) λr=>(r.2=0->kZ r.1)/\r.1.length<=65536:=by
 unfold Ee;repeat' with_reducible first|intro a|apply AC|apply AO|apply AL|apply AK|apply AB|(refine AM ?_ (Ci ?_);intro r hr)|(refine AM ?_ (W6 ?_);intro r hr)|(apply AA (GD);intro r hr)
 all_goals exact l!
def Qb{x:CW}{s:Int}(h:0<=s/\s<=x.2.2.1.length/\(x.2.2.1.length:Int)<=16777216):Ap (Ai (M9 x) s) λr=>r≠ .inl true:=by
 refine AW (λ(s:Int)=>0<=s/\s<=x.2.2.1.length/\(x.2.2.1.length:Int)<=16777216) (λ(s:Int)=>((x.2.2.1.length:Int)-s).toNat) h (λs b=>?_);unfold M9;repeat' with_reducible first|intro a|apply AC|apply AK|apply AB|(refine AM ?_ (AI ?_ ?_);rintro r ⟨hr,c⟩)
 all_goals exact l!
def qX(x:CW):Prop:=1<=x.1/\x.1<=64/\Yb x.2.2.1/\kZ x.2.2.2.2/\x.2.2.2.2.length=x.1
def N0{x:CW}(h:x.2.2.2.1.length<=16777216):Ap (G0 x) λr=>r=true->qX x:=by
 unfold G0 qX
 repeat' first
   |with_reducible apply AC<;>intro a
   |with_reducible apply AO<;>intro a
   |with_reducible apply AL<;>intro a
   |(with_reducible apply BB<;>(intro u b;try subst b))
   |with_reducible apply AB
   |(with_reducible apply AA (Dt);intro r hr)
   |(with_reducible refine AM ?_ (PQ ?_);intro r hr)
   |(with_reducible apply AA (GD);intro r hr)
   |(with_reducible refine AM ?_ (Qb ?_);intro r hr)
 all_goals ((try dsimp[len]at*);(try first|omega|assumption|grind[Yb]))
def XC{x:CW}{s:BT×Int}(h:0<=s.2/\s.2<=x.2.2.2.1.length/\x.2.2.2.1.length<=16777216/\(s.1.length:Int)<=100000000+24*s.2):Ap (Ai (IQ x) s) λr=>r.length<=1073741824:=by
 refine AW (λ(s:BT×Int)=>0<=s.2/\s.2<=x.2.2.2.1.length/\x.2.2.2.1.length<=16777216/\(s.1.length:Int)<=100000000+24*s.2) (λ(s:BT×Int)=>((x.2.2.2.1.length:Int)-s.2).toNat) h (λs b=>?_);unfold IQ;repeat' with_reducible first|intro a|apply AC|apply AK|apply AB|(refine AM ?_ (DW ?_);intro r hr)|(refine AM ?_ (AI ?_ ?_);rintro r ⟨hr,c⟩)
 all_goals exact l!
def aN{x:CW}(h:x.2.2.2.1.length<=16777216):Ap (Gd x) λr=>r.1.length<=2147483648:=by
 unfold Gd;repeat' with_reducible first|intro a|apply AO|apply AK|apply AB|(refine AM ?_ (N0 ?_);intro r hr)|(apply AA (SG);intro r hr)|(refine AM ?_ (DW ?_);intro r hr)|(refine AM ?_ (XC ?_);intro r hr)|(apply AA (SD);intro r hr)|(refine AM ?_ (CC ?_);rintro r ⟨hr,b⟩)
 all_goals exact l!
def UG(c:Ce):BT:=bif c.1 then C6 (c.2.length:Int) 1++c.2 else C6 255 1
def CA(e:AE):BT:=
 C6 e.1 8++(C6 e.2.1 1++(C6 e.2.2.1 4++(C6 e.2.2.2.1 8++(C6 e.2.2.2.2.1 8++(C6 e.2.2.2.2.2.1 8++(C6 e.2.2.2.2.2.2.1.1 4++(C6 e.2.2.2.2.2.2.1.2.1 1++
 (UG e.2.2.2.2.2.2.1.2.2.1++(UG e.2.2.2.2.2.2.1.2.2.2++(C6 (e.2.2.2.2.2.2.2.length:Int) 4++e.2.2.2.2.2.2.2))))))))))
theorem iN{c:Ce}(h:Fo c):(UG c).length<=13:=by
 unfold UG;cases c.1 with
 |true=>rw[cond_true,Aa,A2];have:=h.1;omega
 |false=>grind[A2]
def zi{s:BT}{c:Ce}(h:s.length<=1099511627776)(a:c.2.length<=8192):GK (s,c)=some (s++UG c):=by grind[GK,UG,Bool.not_false,Hd,Bool.not_true,sapp,C6,Int.toNat,List.length_append,A2,List.append_assoc]
def Lc.cells{e:AE}(h:Lc e):Fo e.2.2.2.2.2.2.1.2.2.1/\Fo e.2.2.2.2.2.2.1.2.2.2/\e.2.2.2.2.2.2.2.length<=8192/\ae 8 e.1/\ae 1 e.2.1/\ae 4 e.2.2.1/\ae 8 e.2.2.2.1/\ae 8 e.2.2.2.2.1/\ae 8 e.2.2.2.2.2.1/\ae 4 e.2.2.2.2.2.2.1.1/\ae 1 e.2.2.2.2.2.2.1.2.1:=by
 have⟨a1,a2,a3,a4,a5,a6,a7,a8,j⟩:=h;have k: ∀n:Int,0<=n->n<=1099511627776->ae 8 n:=λn l m=>⟨n!,o!⟩
 have p: ∀n:Int,0<=n->n<=1073741824->ae 4 n:=λn l m=>⟨λ_=>by rw[show(256:Int)^4=4294967296 by decide];omega,o!⟩
 have o: ∀n:Int,0<=n->n<=255->ae 1 n:=λn l m=>⟨λ_=>by rw[show(256:Int)^1=256 by decide];omega,o!⟩
 have z:Fo (false,[]):=⟨g!,.inr rfl⟩
 refine and_assoc.1 (and_assoc.1 ⟨?_,k _ o! o!,?_⟩);rcases j with⟨k1,f,d,g,c,a⟩|⟨k1,f,d,g,c,a,i,b⟩|⟨k1,f,d,g,c,a,i,b⟩|⟨k1,f,d,g,c,a,i⟩|j;exact⟨⟨a.2.2.2.2.1,a.2.2.2.2.2⟩,by rw[d];decide⟩;exact⟨⟨b.2.2.2.2.1,b.2.2.2.2.2⟩,by rw[c];decide⟩;rw[c,a];exact⟨⟨z,z⟩,g!⟩;rw[a];exact⟨⟨z,z⟩,i⟩;have⟨k1,f,d,g,c,a,i,b⟩:=j;rw[i,b];exact⟨⟨z,z⟩,g!⟩;have q:1<=e.2.1/\e.2.1<=8/\0<=e.2.2.1/\e.2.2.1<=1073741824/\0<=e.2.2.2.2.2.2.1.1/\e.2.2.2.2.2.2.1.1<64/\0<=e.2.2.2.2.2.2.1.2.1/\e.2.2.2.2.2.2.1.2.1<16:=by rcases j with⟨k1,f,d,g,c,a⟩|⟨k1,f,d,g,c,a,i,b⟩|⟨k1,f,d,g,c,a,i,b⟩|⟨k1,f,d,g,c,a,i⟩|j;have:=a.1;have:=a.2.1;have:=a.2.2.1;have:=a.2.2.2.1;omega;have:=b.1;have:=b.2.1;have:=b.2.2.1;have:=b.2.2.2.1;omega;grind[Pt];grind[Pt];grind[Pt]
 exact⟨o _ o! o!,p _ o! o!,k _ o! o!,k _ o! o!,k _ o! o!,p _ o! o!,o _ o! o!⟩
theorem Ry{e:AE}(h:Lc e):(CA e).length<=8392:=by have⟨a,b,c,_⟩:=h.cells;grind[iN,CA,List.length_append,A2]
theorem ot{e:AE}(h:Lc e):Ff e=some (CA e,0):=by have⟨c,d,i,_⟩:=h.cells;have l1:=iN c;have l2:=iN d;have⟨b,f,g⟩:=CV (x:=e);have a:b=true:=g.2 h;subst a;unfold Ff;rw[f,AD,Cg,cond_false];rw[Hd q! g! g!,AD,Bw];rw[Hd (by simp only[Aa,A2];simp only[Int.reduceToNat];omega) g! g!,AD];rw[Hd (by simp only[Aa,A2];simp only[Int.reduceToNat];omega) g! g!,AD];rw[Hd (by simp only[Aa,A2];simp only[Int.reduceToNat];omega) g! g!,AD];rw[Hd (by simp only[Aa,A2];simp only[Int.reduceToNat];omega) g! g!,AD];rw[Hd (by simp only[Aa,A2];simp only[Int.reduceToNat];omega) g! g!,AD];rw[Hd (by simp only[Aa,A2];simp only[Int.reduceToNat];omega) g! g!,AD];rw[Hd (by simp only[Aa,A2];simp only[Int.reduceToNat];omega) g! g!,AD];rw[zi (by simp only[Aa,A2];simp only[Int.reduceToNat];omega) (by have:=c.1;omega),AD];rw[zi (by simp only[Aa,A2];simp[Int.reduceToNat];omega) (by have:=d.1;omega),AD];rw[Hd (by simp only[Aa,A2];simp[Int.reduceToNat];omega) g! g!,AD];unfold sapp;rw[if_pos (by simp only[Aa,A2];simp[Int.reduceToNat];omega),AD];simp[Ax];rfl
def CS(x p:BT)(c:BT×Int×Int):Prop:=c.1=x/\(c.2.2=0-> ∃rest,x=p++rest/\c.2.1=p.length)
def qR{t:BT}{k:Nat}(h:k<=t.length)(a:k<=8):ae k (rd (t.take k))/\C6 (rd (t.take k)) k=t.take k:=by grind[List.length_take,zB,vX]
def aZ{x p:BT}{c:BT×Int×Int}{k:Nat}(h:CS x p c)(o:x.length<=1099511627776)(q:1<=k)(m:k<=8):Ap (BO c (k:Int)) λr=>CS x (p++C6 r.1 k) r.2/\(r.2.2.2=0->ae k r.1)/\(c.2.2≠0->r=(0,c)):=by have⟨s,l,e⟩:=c;have⟨g,i⟩:=h;dsimp only at g i;subst g;unfold BO;refine AL (λd=>AB ⟨⟨rfl,λb=>absurd b d⟩,λb=>absurd b d,λ_=>rfl⟩) (λd=>?_);dsimp only at d;subst d;have⟨a,hr,n⟩:=i rfl;subst hr n;rw[Aa]at o;rw[gh o! o! o!];by_cases j:(k:Int)<=a.length;rw[if_pos j,AD,Dd];have⟨q1,q2⟩:=qR (t:=a) (k:=k) o! m;rw[show((0:Int) !=0)=false by decide,cond_false];refine AB ⟨⟨rfl,λ_=>⟨a.drop k,?_,?_⟩⟩,λ_=>q1,λf=>absurd rfl f⟩;grind[List.append_assoc,List.take_append_drop];grind[AY,List.length_append,A2];rw[if_neg j,AD];rw[show((5:Int) !=0)=true by decide,cond_true];exact AB ⟨⟨rfl,λb=>absurd (show(5:Int)=0 from b) g!⟩,λb=>absurd (show(5:Int)=0 from b) g!,λf=>absurd rfl f⟩
def ADC{x p:BT}{c:BT×Int×Int}{n:Int}(h:CS x p c)(k:x.length<=1099511627776)(hn:c.2.2=0->0<=n/\n<4294967296):Ap (Ct c n) λr=>CS x (p++r.1) r.2/\(r.2.2.2=0->(r.1.length:Int)=n/\c.2.2=0):=by have⟨s,g,e⟩:=c;have⟨d,f⟩:=h;dsimp only at d f hn;subst d;unfold Ct;by_cases j:e=0;subst j;have⟨a,hr,i⟩:=f rfl;have⟨l,q⟩:=hn rfl;subst hr i;obtain⟨m,rfl⟩:=D6 l;rw[Aa]at k;rw[show((0:Int) !=0)=false by decide,cond_false];simp only[len];rw[show wi (((p++a).length:Int)-(p.length:Int))=a.length by rw[Aa,AY];omega];by_cases o:(m:Int)<=a.length;rw[decide_eq_false o!,cond_false];rw[(by grind[AY,Rk,List.length_append,List.drop_left]:Rk (p++a) (wi (wi ((p.length:Int)+(m:Int))-(m:Int))) (wi ((p.length:Int)+(m:Int)))=some (a.take m)),AD];refine AB ⟨⟨rfl,λ_=>⟨a.drop m,?_,?_⟩⟩,λ_=>⟨?_,by first|rfl|trivial⟩⟩;grind[List.append_assoc,List.take_append_drop];grind[AY,List.length_append,List.length_take];grind[List.length_take];rw[decide_eq_true o!,cond_true];exact AB ⟨⟨rfl,λb=>absurd (show(5:Int)=0 from b) g!⟩,λb=>absurd (show(5:Int)=0 from b) g!⟩;grind[AB]
def AC9{x p:BT}{c:BT×Int×Int}(h:CS x p c)(i:x.length<=1099511627776):Ap (Cl c ()) λr=>CS x (p++UG r.1) r.2/\(r.2.2.2=0->Fo r.1):=by unfold Cl;refine AA (aZ (k:=1) h i g! g!) λv n=>?_;have⟨⟨f,j⟩,q,y⟩:=n;refine AL (λd=>AB ⟨⟨f,λb=>absurd b d⟩,λb=>absurd b d⟩) (λd=>?_);have⟨e,hr,g⟩:=j d;have m:=(q d).1 g!;rw[show(256:Int)^1=256 by decide]at m;refine AP (λa=>AB ⟨⟨f,λ_=>⟨e,?_,?_⟩⟩,λ_=>⟨Bk _,.inr rfl⟩⟩) (λa=>?_);dsimp only;rw[a]at hr;exact hr;dsimp only;rw[a]at g;exact g;refine AC (λ_=>AB ⟨⟨f,λb=>absurd (show(4:Int)=0 from b) g!⟩,λb=>absurd (show(4:Int)=0 from b) g!⟩) (λl=>?_);refine AA (ADC (x:=x) (p:=p++C6 v.1 1) ⟨f,j⟩ i (λ_=>o!)) λw o=>AB ?_;have⟨⟨s,z⟩,t⟩:=o;refine⟨⟨s,λb=>?_⟩,λb=>?_⟩;grind[UG,C6,List.append_assoc];dsimp only at b⊢;have⟨u,_⟩:=t b;exact⟨d!,.inl rfl⟩
def YS{x p a:BT}{n:Int}{k:Nat}(e:x=p++(C6 n k++a))(d:x.length<=1099511627776)(b:1<=k)(c:k<=8)(hn:ae k n):BO (x,((p.length:Int),0)) (k:Int)=some (n,(x,(((p++C6 n k).length:Int),0))):=by grind[List.length,List.length_append,A2,BO,gh,Int.toNat_natCast,List.take_left',og,AY]
theorem ADB{x p w a:BT}(c:x=p++(w++a))(d:x.length<=1099511627776):Ct (x,((p.length:Int),0)) (w.length:Int)=some (w,(x,(((p++w).length:Int),0))):=by
 have b:=congrArg List.length c;simp[Aa]at b;unfold Ct;dsimp only;rw[show((0:Int) !=0)=false by decide,cond_false];simp only[len];rw[show decide ((w.length:Int)>wi ((x.length:Int)-(p.length:Int)))=false from decide_eq_false (by rw[AY];omega),cond_false];have e:Rk x (wi (wi ((p.length:Int)+(w.length:Int))-(w.length:Int))) (wi ((p.length:Int)+(w.length:Int)))=some w:=by rw[AY (x:=(p.length:Int)+(w.length:Int)),AY];unfold Rk;rw[if_pos o!,c,show((p.length:Int)+(w.length:Int)-(w.length:Int)).toNat=p.length by omega,PV,show((p.length:Int)+(w.length:Int)).toNat-p.length=w.length by omega,VT]
 grind[AY,List.length_append]
def AC8{x p a:BT}{c:Ce}(e:x=p++(UG c++a))(i:x.length<=1099511627776)(k:Fo c):Cl (x,((p.length:Int),0)) ()=some (c,(x,(((p++UG c).length:Int),0))):=by
 have⟨b,d⟩:=c;have⟨j,f⟩:=k;dsimp only at j f;unfold Cl;cases b with
 |false=>
  have l:d=[]:=by rcases f with h|h;cases h;exact h
  subst l;rw[(rfl:UG (false,[])=C6 255 1)]at e⊢;rw[show(1:Int)=((1:Nat):Int)from rfl,YS e i g! g! ⟨λ_=>g!,g!,g!⟩];rfl
 |true=>have g:UG (true,d)=C6 (d.length:Int) 1++d:=rfl;rw[g,Ax]at e;rw[g];rw[show(1:Int)=((1:Nat):Int)from rfl,YS e i g! g! ⟨λ_=>by rw[show(256:Int)^1=256 by decide];omega,o!⟩,AD];grind[ADB,List.append_assoc]
def AGb{x:BT}(a:x.length<=1099511627776):Ap (D9 x) λr=>r.2=0->x=CA r.1/\Fo r.1.2.2.2.2.2.2.1.2.2.1/\Fo r.1.2.2.2.2.2.2.1.2.2.2/\ae 4 (r.1.2.2.2.2.2.2.2.length:Int)/\Cm r.1=some true:=by
 unfold D9;have I:CS x [] (x,(0,0)):=⟨rfl,λ_=>⟨x,rfl,rfl⟩⟩
 refine AA (aZ (k:=8) I a g! g!) λO y=>?_;refine AA (aZ (k:=1) y.1 a g! g!) λP z=>?_;refine AA (aZ (k:=4) z.1 a g! g!) λQ A=>?_;refine AA (aZ (k:=8) A.1 a g! g!) λR B=>?_;refine AA (aZ (k:=8) B.1 a g! g!) λS C=>?_;refine AA (aZ (k:=8) C.1 a g! g!) λT D=>?_;refine AA (aZ (k:=4) D.1 a g! g!) λU E=>?_;refine AA (aZ (k:=1) E.1 a g! g!) λV F=>?_;refine D4 (AC9 F.1 a) λq M o=>?_;refine D4 (AC9 o.1 a) λs w p=>?_;refine AA (aZ (k:=4) p.1 a g! g!) λj b=>?_;refine AA (ADC (n:=j.1) b.1 a (λc=>?_)) λJ f=>?_;have:=(b.2.1 c).1 g!;rw[show(256:Int)^4=4294967296 by decide]at this;exact this;refine AL (λh=>AB λc=>absurd c h) (λh=>?_);refine AL (λ_=>AB n!) (λG=>?_);refine D4 (CV) λK i _=>?_;refine AO (λ_=>AB n!) (λH=>AB λ_=>?_);subst H;obtain⟨q11,d⟩:=f.2 h;have l:s.2.2.2=0:=S8 λe=>by have:=b.2.2 e;rw[this]at d;exact e d
 have u:=p.2 l;have L:q.2.2.2=0:=S8 λe=>by
  have:s=((false,[]),q.2):=by have:=w;unfold Cl BO at this;rw[bne_iff_ne.2 e,cond_true,AD,bne_iff_ne.2 e,cond_true]at this;injection this with this;exact this.symm
  rw[this]at l;exact e l
 have t:=o.2 L;obtain⟨g,m,N⟩:=f.1.2 h;have hr:g=[]:=by simp only[len]at G;have v:=congrArg List.length m;rw[Aa]at v;exact EZ o!
 subst hr;refine⟨?_,t,u,?_,i⟩;rw[m];unfold CA;dsimp only;rw[q11];simp only[Ax,Bw,C0];dsimp only;rw[q11];exact b.2.1 d
def ADA{e:AE}(h:Lc e):D9 (CA e)=some (e,0):=by
 obtain⟨s,t,H,w,y,z,A,B,C,D,E⟩:=h.cells;have I:=Ry h;have g:ae 4 (e.2.2.2.2.2.2.2.length:Int):=⟨λ_=>by rw[show(256:Int)^4=4294967296 by decide];omega,o!⟩
 have a:CA e=[]++(C6 e.1 8++(C6 e.2.1 1++(C6 e.2.2.1 4++(C6 e.2.2.2.1 8++(C6 e.2.2.2.2.1 8++(C6 e.2.2.2.2.2.1 8++(C6 e.2.2.2.2.2.2.1.1 4++(C6 e.2.2.2.2.2.2.1.2.1 1++
 (UG e.2.2.2.2.2.2.1.2.2.1++(UG e.2.2.2.2.2.2.1.2.2.2++(C6 (e.2.2.2.2.2.2.2.length:Int) 4++(e.2.2.2.2.2.2.2++[])))))))))))):=by rw[C0];rfl
 generalize CA e=x at*;have i:BO (x,(((0:Int)),0)) 8=_:=YS (p:=[]) (k:=8) a o! g! g! w;rw[Bw]at i;rw[Bw]at a;have j:=YS (k:=1) a o! g! g! y;rw[<-Ax]at a;have l:=YS (k:=4) a o! g! g! z;rw[<-Ax]at a;have m:=YS (k:=8) a o! g! g! A;rw[<-Ax]at a;have n:=YS (k:=8) a o! g! g! B;rw[<-Ax]at a;have o:=YS (k:=8) a o! g! g! C;rw[<-Ax]at a;have q:=YS (k:=4) a o! g! g! D;rw[<-Ax]at a;have r:=YS (k:=1) a o! g! g! E;rw[<-Ax]at a;have F:=AC8 a o! s;rw[<-Ax]at a;have G:=AC8 a o! t;rw[<-Ax]at a;have c:=YS (k:=4) a o! g! g! g;rw[<-Ax]at a;have d:=ADB a o!;rw[C0]at a;rw[<-a]at d;unfold D9;rw[i,AD];rw[show((1:Nat):Int)=1 from rfl]at j r;rw[show((4:Nat):Int)=4 from rfl]at l q c;rw[show((8:Nat):Int)=8 from rfl]at m n o;rw[j,AD,l,AD,m,AD,n,AD,o,AD,q,AD,r,AD,F,AD,G,AD,c,AD,d,AD];obtain⟨b,u,v⟩:=CV (x:=e);have f:b=true:=v.2 h;subst f;dsimp only[len];rw[show((0:Int) !=0)=false by decide,cond_false,bne_self_eq_false,cond_false];rw[show(e.1,(e.2.1,(e.2.2.1,(e.2.2.2.1,(e.2.2.2.2.1,(e.2.2.2.2.2.1,((e.2.2.2.2.2.2.1.1,(e.2.2.2.2.2.2.1.2.1,(e.2.2.2.2.2.2.1.2.2.1,e.2.2.2.2.2.2.1.2.2.2))),e.2.2.2.2.2.2.2)))))))=e from rfl,u,AD,Cg,cond_false]
def J2(l:List AE):BT:=(l.map λe=>HA (CA e)).flatten
theorem R0(l:List AE)(e:AE):J2 (l++[e])=J2 l++HA (CA e):=by unfold J2;grind
theorem mg(e:AE)(l:List AE):J2 (e::l)=HA (CA e)++J2 l:=rfl
def qA{l:List AE}(h: ∀e∈l,Lc e):(J2 l).length<=8400*l.length:=by
 induction l with
 |nil=>exact Ao _
 |cons e r b=>have c:=b λx a=>h x (Au.2 (.inr a));have d:=Ry (h e (Au.2 (.inl rfl)));rw[mg,Aa,Dn,Bd];omega
def AAx{x p a:BT}{at_:Int}{k:Nat}(c:x=p++a)(e:at_=p.length)(i:x.length≤1099511627776)(h:1≤k)(f:k≤8)(g:k≤a.length):
  ∃n b,Ay (x,(at_,(k:Int)))=some (n,0)/\Bt (x,(at_,(k:Int)))=some (n,0)/\x=(p++C6 n k)++b/\ae k n/\b.length+k=a.length:=by
 have d:=congrArg List.length c;rw[Aa]at d;obtain⟨q1,q2⟩:=qR (t:=a) g f;refine⟨rd (a.take k),a.drop k,?_,?_,?_,q1,?_⟩;rw[c,e,gh o! o! o!,if_pos o!,Dd];rw[c,e,XG o! o! o!,if_pos o!,Dd];rw[q2,Ax,D1];exact c;rw[FY];omega
def ic{x p rest:BT}{at_ n:Int}{k:Nat}(a:x=p++(C6 n k++rest))(d:at_=p.length)(f:x.length≤1099511627776)(e:1≤k)(c:k≤8)(hn:ae k n):
  Ay (x,(at_,(k:Int)))=some (n,0)/\Bt (x,(at_,(k:Int)))=some (n,0):=by
 have b:=congrArg List.length a;simp only[Aa,A2]at b;refine⟨?_,?_⟩;rw[a,d,gh (by rw[Aa,A2];omega) o! o!,if_pos (by rw[Aa,A2];omega),Dd,Gm (A2 _ _),og c hn];rw[a,d,XG (by rw[Aa,A2];omega) o! o!,if_pos (by rw[Aa,A2];omega),Dd,Gm (A2 _ _),og c hn]
def Ys{x:List Ar×Int×Bool×Co}{s:Int×List Ar}(h:0<=s.1/\s.1<=x.1.length/\x.1.length<=16777216/\s.2.length<=s.1):Ap (Ai (Nw x) s) λr=>r.length<=x.1.length:=by
 refine AW (λ(s:Int×List Ar)=>0<=s.1/\s.1<=x.1.length/\x.1.length<=16777216/\s.2.length<=s.1) (λ(s:Int×List Ar)=>((x.1.length:Int)-s.1).toNat) h (λs b=>?_);unfold Nw;repeat' with_reducible first|apply AK<;>intro c|(apply BA;try dsimp only)|apply BZ|apply Bx|apply AB|(refine AM ?_ (AI ?_ ?_);rintro r ⟨hr,e⟩)|(refine AM ?_ (Ac ?_);rintro r ⟨hr,d,a⟩)
 all_goals exact l!
def J8{x:List Ar×Int×Bool×Co}(h:x.1.length<=16777216):Ap (GM x) λr=>r.length<=x.1.length:=by
 unfold GM;repeat' with_reducible first|apply AB|(refine AM ?_ (Ys ?_);intro r hr)
 all_goals grind
def Yp{x:A9×Int}{s:Int}(h:0<=s/\s<=x.1.1.length/\(x.1.1.length:Int)<=16777216/\0<=x.2/\x.2<x.1.2.length):Ap (Ai (Ns x) s) λr=>True:=by
 refine AW (λ(s:Int)=>0<=s/\s<=x.1.1.length/\(x.1.1.length:Int)<=16777216/\0<=x.2/\x.2<x.1.2.length) (λ(s:Int)=>((x.1.1.length:Int)-s).toNat) h (λs a=>?_);unfold Ns;repeat' with_reducible first|apply AK<;>intro b|apply AB|(apply AA (GL);intro r hr)|(refine AM ?_ (AI ?_ ?_);rintro r ⟨hr,c⟩)
 all_goals exact l!
def Yq{x:A9×Int}{s:Int}(h:0<=s/\s<=x.2/\(x.2:Int)<=16777216/\0<=x.2/\x.2<x.1.2.length):Ap (Ai (Nt x) s) λr=>True:=by
 refine AW (λ(s:Int)=>0<=s/\s<=x.2/\(x.2:Int)<=16777216/\0<=x.2/\x.2<x.1.2.length) (λ(s:Int)=>((x.2:Int)-s).toNat) h (λs a=>?_);unfold Nt;repeat' with_reducible first|apply AK<;>intro b|apply AB|(apply AA (GL);intro r hr)|(refine AM ?_ (AI ?_ ?_);rintro r ⟨hr,c⟩)
 all_goals exact l!
def er{x:A9×Int}(h:x.1.1.length<=4096/\x.1.2.length<=4096)(b:0<=x.2/\x.2<x.1.2.length):Ap (MF x) λr=>True:=by
 unfold MF;repeat' with_reducible first|(apply BB<;>(intro u a;try subst a))|apply AB|(refine AM ?_ (Yp ?_);intro r hr)|(refine AM ?_ (Yq ?_);intro r hr)
 all_goals grind
def Yr{x:List Ar×Ar}{s:Bool×Int×List Ar}(h:0<=s.2.1/\s.2.1<=x.1.length/\x.1.length<=4096/\s.2.2.length<=s.2.1+1/\(s.1=false->(s.2.2.length:Int)<=s.2.1)):Ap (Ai (Nv x) s) λr=>r.2.length<=x.1.length+1/\(r.1=false->r.2.length<=x.1.length):=by
 refine AW (λ(s:Bool×Int×List Ar)=>0<=s.2.1/\s.2.1<=x.1.length/\x.1.length<=4096/\s.2.2.length<=s.2.1+1/\(s.1=false->(s.2.2.length:Int)<=s.2.1)) (λ(s:Bool×Int×List Ar)=>((x.1.length:Int)-s.2.1).toNat) h (λs c=>?_);unfold Nv;repeat' with_reducible first|intro a|apply AC|apply AO|apply AL|(apply BA;try dsimp only)|apply BZ|apply Bx|apply AB|(apply AA (US);intro r hr)|(refine AM ?_ (AI ?_ ?_);rintro r ⟨hr,f⟩)|(refine AM ?_ (Ac ?_);rintro r ⟨hr,d,b⟩)
 all_goals try (have e:=AY (x:=s.2.1+1))
 all_goals (first|omega|grind)
def eu{x:List Ar×Ar}(h:x.1.length<=4096):Ap (MG x) λr=>r.length<=x.1.length+1:=by
 unfold MG;repeat' with_reducible first|apply AO<;>intro b|(apply BA;try dsimp only)|apply BZ|apply Bx|apply AB|(refine AM ?_ (Yr ?_);intro r hr)|(refine AM ?_ (Ac ?_);rintro r ⟨hr,c,a⟩)
 all_goals grind
def Wy{B:Nat}(i:B<=2000){s:Int×A9}(h:0<=s.1/\s.1<=s.2.2.length/\s.2.1.length+s.2.2.length<=B):Ap (Ai RO s) λr=>r.1.length+r.2.length<=B:=by refine AW (λs=>0<=s.1/\s.1<=s.2.2.length/\s.2.1.length+s.2.2.length<=B) (λs=>s.2.2.length*3000+((s.2.2.length:Int)-s.1).toNat) h (λs d=>?_);have⟨b,e,c⟩:=d;refine AC (λa=>?_) (λa=>AB c);simp[len]at a;refine AA (er d! ⟨b,a⟩) λv _=>?_;refine AA (P:=λv:Int×A9=>(v=s)\/(v.1= -1/\v.2.1.length<=s.2.1.length+1/\v.2.2.length+1=s.2.2.length)) ?_ λm g=>?_;refine AK (λ_=>?_) (λ_=>AB (.inl rfl));refine AA (AI b a) λj _=>?_;refine AA (eu d!) λk c=>?_;refine AA (Bj o! b) λl f=>?_;grind[AY,AA,Bj,Ac,AB];grind[AB,AY]
def I6{B:Nat}{x:A9}(a:B<=2000)(h:x.1.length+x.2.length<=B):Ap (Fg x) λr=>r.1.length+r.2.length<=B:=by exact AA (Wy a ⟨q!,q!,h⟩) λr hr=>AB hr
theorem GI.of{x:A9}{B:Nat}(a:B<=2000)(h:x.1.length+x.2.length<=B):GI x:=⟨by omega,by omega⟩
def GI.nil:GI (([],[]):A9):=⟨q!,q!⟩
def Li{x:A9×Int}(h:GI x.1):Ap (HP x) λr=>GI r:=by refine AA (FJ h) λv d=>?_;refine AO (λ_=>AB h) (λc=>?_);have g:=d c;refine AA (J8 h.1) λa e=>?_;refine AA (J8 h.2) λb f=>?_;refine AA (I6 (B:=1024) g! ?_) λr hr=>AB (GI.of g! hr);grind[ZU]
def aC{x:A9×Int}(h:GI x.1):Ap (On x) λr=>GI r:=by refine AA (FJ h) λv c=>?_;refine AO (λ_=>AB h) (λa=>?_);have e:=c a;refine AA (J8 h.2) λb d=>?_;refine AA (I6 (B:=1024) g! ?_) λr hr=>AB (GI.of g! hr);grind[ZU]
def UR{x:A9×Int×Co}(h:GI x.1):Ap (ME x) λr=>GI r:=by refine AA (FJ h) λv c=>?_;refine AO (λ_=>AB h) (λa=>?_);have e:=c a;refine AA (J8 h.1) λb d=>?_;refine AA (I6 (B:=1024) g! ?_) λr hr=>AB (GI.of g! hr);grind[ZU]
def WS{x:A9×Int}{s:Int×Ar}(h:0<=s.1/\s.1<=x.1.2.length/\x.1.2.length<=16777216):Ap (Ai (Kn x) s) λr=>True:=by
 refine AW (λ(s:Int×Ar)=>0<=s.1/\s.1<=x.1.2.length/\x.1.2.length<=16777216) (λ(s:Int×Ar)=>((x.1.2.length:Int)-s.1).toNat) h (λs b=>?_);unfold Kn;repeat' with_reducible first|intro a|apply AC|apply AP|apply AB|(refine AM ?_ (AI ?_ ?_);rintro r ⟨hr,c⟩)
 all_goals exact l!
def IL{x:A9×Int}(h:GI x.1):Ap (FK x) λr=>r.2=true->ZU x.1:=by
 unfold FK;repeat' with_reducible first|apply AK<;>intro b|(apply BA;try dsimp only)|apply BZ|apply Bx|apply Mm|(apply BB<;>(intro u a;try subst a))|apply AB|(refine AM ?_ (FJ ?_);intro r hr)|(refine AM ?_ (WS ?_);intro r hr)
 all_goals ((try dsimp[len]at*);(try first|omega|assumption|grind[GI]))
def X8{x:A9×Ar}{s:Int}(h:0<=s/\s<=x.1.2.length/\(x.1.2.length:Int)<=16777216/\x.1.1.length<=16777216):Ap (Ai (Mz x) s) λr=> ∀u,r= .inl u->0<=u/\u<=x.1.2.length:=by
 refine AW (λ(s:Int)=>0<=s/\s<=x.1.2.length/\(x.1.2.length:Int)<=16777216/\x.1.1.length<=16777216) (λ(s:Int)=>((x.1.2.length:Int)-s).toNat) h (λs a=>?_);unfold Mz;repeat' with_reducible first|apply AK<;>intro b|apply AB|(refine AM ?_ (Hq ?_);intro r hr)|(refine AM ?_ (AI ?_ ?_);rintro r ⟨hr,c⟩)
 all_goals exact l!
def cL{x:A9×Ar}(h:GI x.1):Ap (Ib x) λr=>0<=r/\r<=x.1.2.length:=by
 unfold Ib;repeat' with_reducible first|apply AP<;>intro b|(apply BB<;>(intro u a;try subst a))|apply AB|(refine AM ?_ (Hq ?_);intro r hr)|(refine AM ?_ (X8 ?_);intro r hr)
 all_goals ((try dsimp[len]at*);(try first|omega|assumption|grind[GI]))
def Yo{x:A9×Ar}(h:GI x.1):Ap (Nr x) λr=>GI r.1:=by refine AA (FJ h) λv o=>?_;refine AO (λ_=>AB GI.nil) (λl=>?_);have n:=o l;unfold ZU at n;refine AA Nu λ_ _=>?_;refine AO (λ_=>AB GI.nil) (λ_=>?_);refine AA (IL h) λz _=>?_;apply AK<;>intro m;simp_all[AK,AB,GI.nil];refine AK (λ_=>AB h) (λ_=>?_);refine AA (Hq h.1) λ_ _=>?_;refine AK (λ_=>AB h) (λ_=>?_);refine AK (λ_=>AB GI.nil) (λ_=>?_);refine AA (cL h) λp e=>?_;refine AA (Bj o! e.1 e.2) λq j=>?_;refine AA (Bj e.1 (by simp[len];omega) i!) λs a=>?_;have f:=a.2;simp[len]at f;refine AA (Ac w!) λt b=>?_;have g:=b.2.1;simp at g;refine AA (Ac w!) λu c=>?_;have i:=c.2.1;simp at i;refine AA (Ac o!) λw k=>?_;refine AA (I6 (B:=1025) g! d!) λy d=>?_;refine AA (Hq d!) λ_ _=>?_;exact AB (GI.of g! d)
def Yv{x:List Int×Int}{s:Bool×Int×List Int}(h:0<=s.2.1/\s.2.1<=x.1.length/\x.1.length<=4096/\s.2.2.length<=s.2.1+1/\(s.1=false->(s.2.2.length:Int)<=s.2.1)):Ap (Ai (Np x) s) λr=>r.2.length<=x.1.length+1/\(r.1=false->r.2.length<=x.1.length):=by
 refine AW (λ(s:Bool×Int×List Int)=>0<=s.2.1/\s.2.1<=x.1.length/\x.1.length<=4096/\s.2.2.length<=s.2.1+1/\(s.1=false->(s.2.2.length:Int)<=s.2.1)) (λ(s:Bool×Int×List Int)=>((x.1.length:Int)-s.2.1).toNat) h (λs b=>?_);unfold Np;repeat' with_reducible first|intro a|apply AC|apply AO|apply AL|apply AK|(apply BA;try dsimp only)|apply BZ|apply Bx|apply AB|(refine AM ?_ (AI ?_ ?_);rintro r ⟨hr,g⟩)|(refine AM ?_ (Ac ?_);rintro r ⟨hr,f,d⟩)
 all_goals try dsimp[len]at*
 all_goals try (have e:=AY (x:=s.2.1+1))
 all_goals try (have c:=b.2.2.2.2 v!)
 all_goals (try simp[Bd,BX,Bool.true_eq_false,false_implies,and_true]at*)
 all_goals first|omega|grind
def Ou{x:List Int×Int}(h:x.1.length<=4096):Ap (FV x) λr=>r.length<=x.1.length+1:=by
 unfold FV;repeat' with_reducible first|intro a|apply AO|apply AK|(apply BA;try dsimp only)|apply BZ|apply Bx|apply AB|(refine AM ?_ (Yv ?_);intro r hr)|(refine AM ?_ (Ac ?_);rintro r ⟨hr,c,b⟩)
 all_goals exact l!
def WT{x:A9}{s:List Int×Int}(h:0<=s.2/\s.2<=x.2.length/\x.2.length<=4096/\s.1.length<=s.2):Ap (Ai (Ko x) s) λr=>r.length<=x.2.length:=by
 refine AW (λ(s:List Int×Int)=>0<=s.2/\s.2<=x.2.length/\x.2.length<=4096/\s.1.length<=s.2) (λ(s:List Int×Int)=>((x.2.length:Int)-s.2).toNat) h (λs b=>?_);unfold Ko;repeat' with_reducible first|intro a|apply AC|apply AK|apply AB|(refine AM ?_ (Ou ?_);intro r hr)|(refine AM ?_ (AI ?_ ?_);rintro r ⟨hr,c⟩)
 all_goals exact l!
def Yu{x:A9}(h:GI x):Ap (Jb x) λr=>r.length<=4096:=by
 unfold Jb;repeat' with_reducible first|apply AK<;>intro a|(apply BA;try dsimp only)|apply BZ|apply Bx|apply AB|(refine AM ?_ (FJ ?_);intro r hr)|(refine AM ?_ (WT ?_);intro r hr)
 all_goals ((try dsimp[len]at*);(try first|omega|assumption|grind[AY,ZU]))
theorem aD{x:A9×Int}{b:Ar×Bool}{s:List Int×Int}(h:0<=s.2/\s.2<=x.1.1.length/\x.1.1.length<=1024/\s.1.length<=s.2):Ap (Ai (Oo x b) s) λr=>r.length<=x.1.1.length:=by
 refine AW (λ(s:List Int×Int)=>0<=s.2/\s.2<=x.1.1.length/\x.1.1.length<=1024/\s.1.length<=s.2) (λ(s:List Int×Int)=>((x.1.1.length:Int)-s.2).toNat) h (λs c=>?_);unfold Oo;repeat' with_reducible first|intro a|apply AC|apply AK|(apply BA;try dsimp only)|apply BZ|apply Bx|apply AB|(refine AM ?_ (Ou ?_);intro r hr)|(apply AA (GL);intro r hr)|(refine AM ?_ (AI ?_ ?_);rintro r ⟨hr,d⟩)
 all_goals exact l!
theorem aE{x:A9×Int}{b:Ar×Bool}{s:List Int×Int}(h:0<=s.2/\s.2<=x.1.2.length/\x.1.2.length<=1024/\s.1.length<=s.2+1024):Ap (Ai (Oq x b) s) λr=>r.length<=4096:=by
 refine AW (λ(s:List Int×Int)=>0<=s.2/\s.2<=x.1.2.length/\x.1.2.length<=1024/\s.1.length<=s.2+1024) (λ(s:List Int×Int)=>((x.1.2.length:Int)-s.2).toNat) h (λs c=>?_);unfold Oq;repeat' with_reducible first|intro a|apply AC|apply AL|apply AK|(apply BA;try dsimp only)|apply BZ|apply Bx|apply AB|(refine AM ?_ (Ou ?_);intro r hr)|(apply AA (GL);intro r hr)|(refine AM ?_ (AI ?_ ?_);rintro r ⟨hr,d⟩)
 all_goals exact l!
def K9{x:A9×Int}(h:GI x.1):Ap (H9 x) λr=>r.length<=4096:=by unfold H9;refine AA (IL h) λc b=>?_;refine AO (λ_=>AB q!) (λa=>?_);grind[ZU,AA,aD,aE,AB]
theorem P2{x:A9×List Int×Int}{a:List Int}{s:Int}(h:0<=s/\s<=a.length/\(a.length:Int)<=16777216/\1<=x.2.1.length/\x.2.1.length<=4096):Ap (Ai (Lj x a) s) λr=> ∀u,r= .inl u->u=x.2.1:=by
 refine AW (λ(s:Int)=>0<=s/\s<=a.length/\(a.length:Int)<=16777216/\1<=x.2.1.length/\x.2.1.length<=4096) (λ(s:Int)=>((a.length:Int)-s).toNat) h (λs c=>?_);unfold Lj;repeat' with_reducible first|intro b|apply AC|apply AP|apply AK|apply AB|(refine AM ?_ (AI ?_ ?_);rintro r ⟨hr,d⟩)
 all_goals exact l!
def Wz{x:A9×List Int×Int}{b:Int}{s:Bool×Int}(h:0<=s.2/\s.2<=x.2.1.length/\x.2.1.length<=4096):Ap (Ai (Lk x b) s) λr=>True:=by
 refine AW (λ(s:Bool×Int)=>0<=s.2/\s.2<=x.2.1.length/\x.2.1.length<=4096) (λ(s:Bool×Int)=>((x.2.1.length:Int)-s.2).toNat) h (λs c=>?_);unfold Lk;repeat' with_reducible first|intro a|apply AC|apply AP|apply AK|apply AB|(refine AM ?_ (AI ?_ ?_);rintro r ⟨hr,d⟩)
 all_goals exact l!
def AD7(d:Nat){x:A9×List Int×Int}(h:GI x.1)(o:1<=x.2.1.length)(A:(x.2.1.length:Int)+d=x.2.2)(p:x.2.2<=4096):Ap (mZ Ej (d+1) x) λr=>r.length<=4096:=by
 induction d generalizing x with
 |zero=>show Ap (Ej _ x) _;unfold Ej;have e:=AY (x:=(x.2.1.length:Int)-1);refine AA (AI (by simp[len];rw[e];omega) (by simp[len];rw[e];omega)) λv _=>?_;refine AA (K9 h) λm f=>?_;refine AP (λ_=>?_) (λc=>absurd (by simp[len];omega) c);refine AA (P2 ⟨q!,q!,o!,o,o!⟩) λr hr=>?_;exact BB (λu a=>AB (by rw[hr u a];omega)) (λ_ _=>AB q!)
 |succ d t=>show Ap (Ej _ x) _;unfold Ej;have e:=AY (x:=(x.2.1.length:Int)-1);refine AA (AI (by simp[len];rw[e];omega) (by simp[len];rw[e];omega)) λv _=>?_;refine AA (K9 h) λm f=>?_;refine AP (λ_=>?_) (λ_=>?_);grind[AA,P2,BB,AB];refine AA (P:=λr=> ∀u,r= .inl u->u.length<=4096) ?_ λr hr=>BB (λu a=>AB (hr u a)) (λ_ _=>AB q!);refine AW (λ(s:Int)=>0<=s/\s<=m.length) (λ(s:Int)=>((m.length:Int)-s).toNat) (s:=(0:Int)) ⟨g!,o!⟩ (λs q=>?_);unfold RP;have b:=AY (x:=s+1);refine AC (λc=>?_) (λ_=>AB (λu a=>by cases a));simp[len]at c;refine AA (AI q.1 c) λB _=>?_;refine AA (Wz ⟨q!,q!,o!⟩) λw _=>?_;refine AK (λ_=>AB ⟨by rw[b];omega,by rw[b];omega⟩) (λ_=>?_);refine AA (Ac w!) λy g=>?_;have k:=g.2.1;simp[BX]at k;refine AA (Ac w!) λn i=>?_;have l:=i.2.1;simp[Bd,BX]at l;refine AA (t (x:=(x.1,n,x.2.2)) h d! d! p) λz j=>?_;exact AC (λ_=>AB λu a=>by cases a;exact j) (λ_=>AB ⟨by rw[b];omega,by rw[b];omega⟩)
def aF{x:A9×List Int×Int}(h:GI x.1)(a:1<=x.2.1.length)(d:(x.2.1.length:Int)<=x.2.2)(b:x.2.2<=4096):Ap (Ot x) λr=>True:=by have⟨r,hr,_⟩:=AD7 (x.2.2-x.2.1.length).toNat h a o! b;have⟨s,c⟩:=lM hr;exact⟨s,c,trivial⟩
def cM{x:A9×Int}(h:GI x.1):Ap (K8 x) λr=>True:=by unfold K8;refine AA (P:=λ_=>True) ?_ λr _=>BB (λ_ _=>AB trivial) (λ_ _=>AB trivial);refine AW (λs=>1<=s/\s<=4097) (λs=>(4097-s).toNat) ⟨g!,g!⟩ (λs d=>?_);unfold R8;have a:=AY (x:=s+1);refine AA (Yu h) λe c=>?_;refine AC (λb=>?_) (λ_=>AB trivial);simp[len]at b;refine AA (aF h q! (by show(1:Int)<=s;omega) (by show s<=4096;omega)) λf _=>?_;exact AC (λ_=>AB trivial) (λ_=>AB ⟨by rw[a];omega,by rw[a];omega⟩)
def TP(l:List Al):Nat:=(l.map λt=>t.2.2.2.2.1.length+1).sum
theorem AFs{l:List Al}{i:Nat}{o n:Al}(h:l[i]? =some o):TP (l.set i n)+o.2.2.2.2.1.length=TP l+n.2.2.2.2.1.length:=by
 induction l generalizing i with
 |nil=>simp at h
 |cons t r a=>
  cases i with
  |zero=>simp at h;subst h;simp[TP];omega
  |succ i=>have:=a (i:=i) (by simpa using h);simp[TP,List.set_cons_succ,Bi,VS]at*;omega
def tV{l:List Al}{id:Int}:TP (l.filter λt=>t.1 !=id)<=TP l:=by
 induction l with
 |nil=>simp
 |cons t r a=>simp[PW];split;simp[TP,Bi,VS]at*;omega;simp[TP,Bi,VS]at*;omega
def uz{l:List Al}{id:Int}{i:Nat}{t:Al}(h:l[i]? =some t)(a:t.1=id):TP (l.filter λt=>t.1 !=id)<TP l:=by
 induction l generalizing i with
 |nil=>simp at h
 |cons u r b=>
  have q:=tV (l:=r) (id:=id);cases i with
  |zero=>simp at h;subst h;simp[PW,a,bne_self_eq_false,PU,if_false];simp[TP,Bi,VS]at*;omega
  |succ i=>have:=b (i:=i) (by simpa using h);simp[PW];split<;>(simp[TP,Bi,VS]at*;omega)
def YB{x:List Al×Int}{s:Int×List Al}(h:0<=s.1/\s.1<=x.1.length/\x.1.length<=64/\s.2.length=s.1):Ap (Ai (M1 x) s) λr=>r.length<=x.1.length:=by
 refine AW (λ(s:Int×List Al)=>0<=s.1/\s.1<=x.1.length/\x.1.length<=64/\s.2.length=s.1) (λ(s:Int×List Al)=>((x.1.length:Int)-s.1).toNat) h (λs c=>?_);unfold M1;repeat' with_reducible first|intro a|apply AC|apply AK|apply AB|(refine AM ?_ (AI ?_ ?_);rintro r ⟨hr,e⟩)|(refine AM ?_ (Ac ?_);rintro r ⟨hr,d,b⟩)
 all_goals exact l!
def TX{x:List Al×Int}:Ap (Ie x) λr=>r.2=0->r.1.length=x.1.length+1/\r.1.length<=64:=by
 unfold Ie;repeat' with_reducible first|intro a|apply AC|apply AO|apply AP|apply AK|apply AB|(apply AA (Dt);intro r hr)|(refine AM ?_ (Hu ?_);intro r hr)|(refine AM ?_ (YB ?_);intro r hr)|(refine AM ?_ (Ac ?_);rintro r ⟨hr,b,c⟩)|(refine AM ?_ (Bj ?_ ?_ ?_);rintro r ⟨hr,b⟩)
 all_goals ((try dsimp[len]at*);(try first|omega|assumption|grind[AY,Yb]))
def ABO(l:List Al)(id:Int):List Al:=l.filter λt=>t.1 !=id
theorem nG(l:List Al)(id:Int):(ABO l id).length<=l.length:=Fy _ _
theorem AEu(l:List Al)(id:Int):TP (ABO l id)<=TP l:=tV
theorem AEv{l:List Al}{id:Int}{i:Nat}{t:Al}(h:l[i]? =some t)(a:t.1=id):TP (ABO l id)<TP l:=uz h a
def je{a:Type}{l:List a}{n:Int}{p:a->Bool}{x:a}(b:0<=n)(c:l[n.toNat]? =some x):(l.take (n+1).toNat).filter p=(l.take n.toNat).filter p++(if p x=true then [x]else []):=by
 have e:(n+1).toNat=n.toNat+1:=o!
 grind[List.take_add_one,Option.toList_some]
def mX{a:Type}{l:List a}{n:Int}{p:a->Bool}(b:0<=n):(((l.take n.toNat).filter p).length:Int)<=n:=by grind[List.length_filter_le,List.length_take]
def XA{x:List Al×Int}{s:Int×List Al}(h:0<=s.1/\s.1<=x.1.length/\x.1.length<=16777216/\s.2=(x.1.take s.1.toNat).filter (λt=>t.1 !=x.2)):Ap (Ai (Ln x) s) λr=>r=x.1.filter λt=>t.1 !=x.2:=by
 refine AW (λ(s:Int×List Al)=>0<=s.1/\s.1<=x.1.length/\x.1.length<=16777216/\s.2=(x.1.take s.1.toNat).filter (λt=>t.1 !=x.2)) (λ(s:Int×List Al)=>((x.1.length:Int)-s.1).toNat) h (λs f=>?_);unfold Ln;have⟨b,i,e,c⟩:=f;have a:=mX (l:=x.1) (p:=λt:Al=>t.1 !=x.2) b;rw[<-c]at a;repeat' with_reducible first|intro d|apply AC|apply AL|apply AK|(apply BA;try dsimp only)|apply BZ|apply Bx|apply AB|(refine AM ?_ (AI ?_ ?_);rintro r ⟨hr,k⟩)|(refine AM ?_ (Ac ?_);rintro r ⟨hr,j,g⟩)
 all_goals dsimp[len]at*
 all_goals first|omega|(rw[(AY (x:=s.1+1))];refine⟨⟨o!,o!,e,?_⟩,o!⟩;rw[je b v!];grind)|(rw[c,BR o!])|(simp;omega)
def I8{x:List Al×Int}(h:x.1.length<=16777216):Ap (Gc x) λr=>r=ABO x.1 x.2:=by
 unfold Gc ABO
 repeat' first
   |with_reducible apply AK<;>intro a
   |(with_reducible apply BA;try dsimp only)
   |with_reducible apply BZ
   |with_reducible apply Bx
   |with_reducible apply AB
   |(with_reducible refine AM ?_ (XA ?_);intro r hr)
 all_goals exact l!
def M3{x:Al}(h:x.2.2.2.2.1.length<=16777216):Ap (Hw x) λr=>r.1=x.1/\r.2.2.2.2=x.2.2.2.2:=by
 unfold Hw;repeat' with_reducible first|intro a|apply AC|apply AP|apply AK|(apply BA;try dsimp only)|apply BZ|apply Bx|apply AB|(refine AM ?_ (AI ?_ ?_);rintro r ⟨hr,b⟩)
 all_goals exact l!
def LD{x:List Al×Int×Al}(h:x.1.length<=16777216)(a:0<=x.2.1/\x.2.1<x.1.length):Ap (IB x) λr=>r=x.1.set x.2.1.toNat x.2.2:=by unfold IB;refine AA (Ac (by simpa using h)) λr hr=>?_;have⟨hr,b,_⟩:=hr;rw[Bw]at hr;subst hr;refine AA (AI a.1 a.2) λ_ _=>?_;refine AA (AI a.1 a.2) λ_ _=>?_;exact AB rfl
def RR{x:List Al×AE}{a:Al}{s:Int×List Int}(h:0<=s.1/\s.1<=a.2.2.2.2.1.length/\a.2.2.2.2.1.length<=4096/\s.2.length<=s.1):Ap (Ai (Nz x a) s) λr=>r.length<=a.2.2.2.2.1.length:=by
 refine AW (λ(s:Int×List Int)=>0<=s.1/\s.1<=a.2.2.2.2.1.length/\a.2.2.2.2.1.length<=4096/\s.2.length<=s.1) (λ(s:Int×List Int)=>((a.2.2.2.2.1.length:Int)-s.1).toNat) h (λs d=>?_);unfold Nz;repeat' with_reducible first|intro b|apply AC|apply AL|apply AK|(apply BA;try dsimp only)|apply BZ|apply Bx|apply AB|(refine AM ?_ (AI ?_ ?_);rintro r ⟨hr,f⟩)|(refine AM ?_ (Ac ?_);rintro r ⟨hr,e,c⟩)
 all_goals exact l!
def gi(l:List Al)(id:Int):Prop:= ∃(j:Nat) (t:Al),l[j]? =some t/\t.1=id
theorem gi.set{l:List Al}{i:Nat}{n:Al}{id:Int}(h:i<l.length)(hn:n.1=id):gi (l.set i n) id:=⟨i,n,by rw[H7 h],hn⟩
def zX(l:List Al)(kind tx:Int)(m:List Al):Prop:=m.length<=l.length/\(tx=0->m=l)/\(tx≠0->kind≠1->(kind≠4->TP m<TP l)/\TP m<=TP l)/\(tx≠0->kind=4->gi m tx)
def fC{x:List Al×AE}:Ap (GN x) λr=>r.2=0->zX x.1 x.2.2.1 x.2.2.2.1 r.1:=by
 unfold GN;repeat' with_reducible first|intro a|apply AC|apply AO|apply AP|apply AL|apply AK|(apply BA;try dsimp only)|apply BZ|apply Bx|apply Mm|(apply BK;try dsimp only)|(apply A7;try dsimp only)|(apply BB<;>(intro u c;try subst c))|apply AB|(apply AA (Dt);intro r hr)|(apply AA (CV);intro r hr)|(refine AM ?_ (Hu ?_);intro r hr)|(refine AM ?_ (RR ?_);intro r hr)|(refine AM ?_ (I8 ?_);intro r hr)|(refine AM ?_ (M3 ?_);intro r hr)|(refine AM ?_ (LD ?_ ?_);intro r hr)|(refine AM ?_ (AI ?_ ?_);rintro r ⟨hr,f⟩)|(refine AM ?_ (Ac ?_);rintro r ⟨hr,e,b⟩)
 all_goals dsimp[len]at*
 all_goals first|omega|(intro d;exact absurd d g!)|(unfold Yb VTx at*;(first|omega|grind[zX,AFs,AEv,AEu,nG,List.length_set,gi.set]))
variable {B:Int->Prop}
def SH{x:List Al×Int}:Ap (Ht x) λr=>r.2=0->Yb x.1/\0<=r.1/\r.1<x.1.length:=by
 unfold Ht;repeat' with_reducible first|intro a|apply AC|apply AO|apply AL|apply AK|apply AB|(apply AA (Dt);intro r hr)|(refine AM ?_ (Hu ?_);intro r hr)|(refine AM ?_ (AI ?_ ?_);rintro r ⟨hr,b⟩)
 all_goals ((try dsimp[len]at*);(try first|omega|assumption|grind[AY,Yb]))
def fD{x:List Al×Int}:Ap (MJ x) λr=>r.2=0->r.1.length<=64:=by
 unfold MJ;repeat' with_reducible first|intro a|apply AP|apply AL|apply AK|apply AB|(apply AA (SH);intro r hr)|(refine AM ?_ (LD ?_ ?_);intro r hr)|(refine AM ?_ (AI ?_ ?_);rintro r ⟨hr,e⟩)|(refine AM ?_ (Ac ?_);rintro r ⟨hr,d,b⟩)
 all_goals try dsimp[len]at*
 all_goals first|omega|(intro c;exact absurd c v!)|grind[Yb,VTx,List.length_set]
def fB{x:List Al×Int×Int}:Ap (MI x) λr=>r.2=0->r.1.length<=64:=by
 unfold MI;repeat' with_reducible first|intro a|apply AC|apply AL|apply AK|apply AB|(apply AA (SH);intro r hr)|(refine AM ?_ (M3 ?_);intro r hr)|(refine AM ?_ (LD ?_ ?_);intro r hr)|(refine AM ?_ (AI ?_ ?_);rintro r ⟨hr,e⟩)|(refine AM ?_ (Ac ?_);rintro r ⟨hr,b,c⟩)|(refine AM ?_ (Bj ?_ ?_ ?_);rintro r ⟨hr,b⟩)
 all_goals try dsimp[len]at*
 all_goals first|omega|(intro d;exact absurd d v!)|grind[Yb,VTx,List.length_set,AY]
def gZ{x:Bq×Int×Bb}(h:x.1.length<=16777216)(a:0<=x.2.1/\x.2.1<x.1.length):Ap (NP x) λr=>r=x.1.set x.2.1.toNat x.2.2:=by unfold NP;refine AA (Ac (by simpa using h)) λr hr=>?_;have⟨hr,b,_⟩:=hr;rw[Bw]at hr;subst hr;refine AA (AI a.1 a.2) λ_ _=>?_;refine AA (AI a.1 a.2) λ_ _=>?_;exact AB rfl
def UT{x:Bq×AE}:Ap (HQ x) λr=>r.2=0->r.1.length=x.1.length/\(x.2.2.1≠7->r.1=x.1)/\(x.2.2.1=7->0<=x.2.2.2.2.2.2.2.1.1/\ ∃w,x.1[x.2.2.2.2.2.2.2.1.1.toNat]? =some w/\r.1=x.1.set x.2.2.2.2.2.2.2.1.1.toNat ((if x.2.2.2.2.2.2.1>w.1 then x.2.2.2.2.2.2.1 else w.1),w.2)):=by
 unfold HQ;refine AA GD λv i=>?_;refine AO (λa=>AB n!) (λa=>?_);refine AA CV λl k=>?_;refine AO (λa=>AB n!) (λf=>?_);refine AL (λa=>AB λ_=>⟨rfl,λ_=>rfl,λe=>absurd e a⟩) (λd=>?_);have i:Lc x.2:=k!
 have c:0<=x.2.2.2.2.2.2.2.1.1:=by grind[Lc,Ut,OR,Pt]
 refine AC (λa=>AB n!) (λg=>?_);simp[len]at g;refine AA (AI c) λw j=>?_;refine AA (gZ (by have:=(by grind:kZ x.1).2;dsimp only;omega) ⟨c,d!⟩) λu h=>AB λ_=>?_;subst h;exact⟨q!,λe=>absurd d e,λ_=>⟨c,w,j.1,rfl⟩⟩
def KD{x:AT×Int}(h:SB x.1):Ap (Eg x) λr=>Bh x.1=some true->KP x.1.1 x.1.2.2.1.2.1 x.1.2.2.2.1.2.1 x.1.2.2.2.2.2.2.2 x.1.2.2.2.2.2.2.1->0<=x.2->x.2<x.1.1->r=Ba x.1.2.2.1.2.1 x.2:=by unfold Eg;refine D4 (B9 h) λv u t=>?_;refine AO (λa=>AB λe=>?_) (λa=>?_);rw[u,a]at e;cases e;refine AC (λa=>AB λ_ _ p=>absurd p o!) (λp=>?_);refine AC (λa=>AB λ_ _ _ q=>absurd q o!) (λq=>?_);refine AA Ic λg s=>?_;refine AK (λa=>AB λ_ c d j=>?_) (λk=>?_);have⟨_,_,_,e,f,n,b⟩:=s.1 a;have:=(c x.2 d j).1 f n (by rw[b];exact e);rw[b]at this;rw[this];exact KJ _ _;refine AA (Je h) λl o=>?_;refine AK (λa=>AB λ_ c d j=>(c x.2 d j).2.1 _ (o.1 a).1 (o.1 a).2) (λm=>?_);refine AA (AI o! (by have:=(t a).2.2.2.2.2.2.2;omega)) λr hr=>AB λ_ c d j=>?_;exact((c x.2 d j).2.2 r hr.1).2 (o.2 m) λf n e=>by have⟨i,w⟩:=De n;exact absurd ⟨i,f,w,e⟩ (s.2 k (t a).2.2.2.1)
def LX(a b:Ae):Prop:=b.1=a.1/\a.2.2<=b.2.2/\ ∃t,b.2.1=a.2.1++t
def LX.refl(a:Ae):LX a a:=⟨rfl,Af _,[],q!⟩
def LX.trans{a b c:Ae}(h:LX a b)(g:LX b c):LX a c:=by have⟨i,k,t,j⟩:=h;have⟨d,f,u,e⟩:=g;exact⟨d.trans i,nR k f,t++u,by rw[e,j,Ax]⟩
def LX.get{a b:Ae}(h:LX a b){i:Nat}{e:AE}(f:a.2.1[i]? =some e):b.2.1[i]? =some e:=by have⟨c,_,t,d⟩:=h;grind[List.getElem?_append_left,Nat.lt_or_ge,List.getElem?_eq_none]
def AH5(k:AT)(z:AE)(m:AT):Prop:=
 ∃e,m.2.2.1.2.1=k.2.2.1.2.1++[e]/\e.1=k.2.2.1.1+k.2.2.1.2.1.length/\e.2.1=z.2.1/\e.2.2.2.2.2=z.2.2.2.2.2/\
  (KP k.1 k.2.2.1.2.1 k.2.2.2.1.2.1 k.2.2.2.2.2.2.2 k.2.2.2.2.2.2.1->(e.2.1=1\/e.2.1=2)->0<=e.2.2.2.2.2.2.1.1->e.2.2.2.2.2.2.1.1<k.1->e.2.2.2.2.1=Ba k.2.2.1.2.1 e.2.2.2.2.2.2.1.1)/\
  (z.2.1≠7->m.2.2.2.2.2.2.1=k.2.2.2.2.2.2.1)/\
  (z.2.1=7->0<=z.2.2.2.2.2.2.1.1/\ ∃w,k.2.2.2.2.2.2.1[z.2.2.2.2.2.2.1.1.toNat]? =some w/\m.2.2.2.2.2.2.1=k.2.2.2.2.2.2.1.set z.2.2.2.2.2.2.1.1.toNat ((if z.2.2.2.2.2.1>w.1 then z.2.2.2.2.2.1 else w.1),w.2))
def xw(k:AT)(z:AE)(m:AT):Prop:=
 m.1=k.1/\LX k.2.2.1 m.2.2.1/\Dj m.2.2.1/\m.2.2.2.1=k.2.2.2.1/\m.2.2.2.2.1=k.2.2.2.2.1/\zX k.2.2.2.2.2.1 z.2.1 z.2.2.1 m.2.2.2.2.2.1/\m.2.2.2.2.2.2.2=k.2.2.2.2.2.2.2/\SB m/\AH5 k z m
def F4{x:AT×AE}(h:SB x.1):Ap (ET x) λr=>r.2.2=0->VK x.1/\xw x.1 x.2 r.1/\r.2.1=x.1.2.2.1.1+x.1.2.2.1.2.1.length:=by
 unfold ET;refine D4 (B9 h) λv q E=>?_;refine AO (λa=>AB n!) (λa=>?_);have n:=E a;rw[a]at q;refine AA (P:=λs=>(∃u,s= .inl u/\u.2.1≠0)\/ ∃u,s= .inr u/\u.1.2.1=x.2.2.1/\u.1.2.2.1=x.2.2.2.1/\u.1.2.2.2.2.2=x.2.2.2.2.2.2) ?_ λs D=>?_
 ·repeat' with_reducible first|intro a|apply AC|apply AO|apply AL|apply AK|(apply BA;try dsimp only)|apply BZ|apply Bx|apply Mm|(apply BK;try dsimp only)|(apply A7;try dsimp only)|(apply BB<;>(intro u b;try subst b))|apply AB|(refine AM ?_ (Fi ?_);intro r hr)|(refine AM ?_ (AI ?_ ?_);rintro r ⟨hr,N⟩)
  all_goals ((try dsimp[len]at*);(try first|omega|assumption|grind[AY,SB]))
 rcases D with⟨u,rfl,b⟩|⟨u,rfl,b⟩;exact BK (AB λc=>absurd c b);apply A7;refine AA (CL) λO A=>?_;refine AA (P:=λv:AE=>v.2.1=x.2.2.1/\v.2.2.1=x.2.2.2.1/\v.2.2.2.2.2=x.2.2.2.2.2.2/\(KP x.1.1 x.1.2.2.1.2.1 x.1.2.2.2.1.2.1 x.1.2.2.2.2.2.2.2 x.1.2.2.2.2.2.2.1->(v.2.1=1\/v.2.1=2)->0<=v.2.2.2.2.2.2.1.1->v.2.2.2.2.2.2.1.1<x.1.1->v.2.2.2.2.1=Ba x.1.2.2.1.2.1 v.2.2.2.2.2.2.1.1)) ?_ λt d=>?_;refine AK (λa=>?_) (λa=>AB ⟨b.1,b.2.1,b.2.2,λ_ n=>absurd (A.2 n) (by simp[a])⟩);exact AA (KD h) λw F=>AB ⟨b.1,b.2.1,b.2.2,λo _ G H=>F q o G H⟩;refine AA (aB) λi B=>?_;refine AL (λa=>AB (λc=>absurd c a)) (λa=>?_);have⟨a1,a2,a3,a4,a5,a6⟩:=B a;dsimp only at a2 a3 a4 a5 a6;refine AA (Gy) λp e=>?_;refine AA (fC) λI l=>?_;refine AL (λa=>AB (λc=>absurd c a)) (λf=>?_);refine AA (UT) λJ m=>?_;refine AL (λa=>AB (λc=>absurd c a)) (λg=>?_);refine AB λ_=>⟨n,?_⟩
 have L:=a2.1;have M:i.1.2.1.length=x.1.2.2.1.2.1.length+1:=by rw[a3];simp
 have⟨K,y,k,z⟩:=e.1 (e.2 a1 d! d!);dsimp only at y k z;have C:p.1=(i.2.1,t.2):=by
  have:(i.2.1-i.1.1).toNat=x.1.2.2.1.2.1.length:=o!
  rw[this,a3]at k;simpa using k.symm
 have hn:=l f;have j:=(m g).2;rw[C]at hn j;dsimp only at hn j;rw[d.1,d.2.1]at hn;rw[d.1,d.2.2.1]at j;exact⟨⟨rfl,⟨a4,Int.le_of_eq a6.symm,_,a3⟩,a1,rfl,rfl,hn,rfl,⟨h.1,by have:=hn.1;have:=h.2.1;dsimp only at*;omega,h.2.2⟩,(i.2.1,t.2),a3,a5,d.1,d.2.2.1,d.2.2.2,j⟩,a5⟩
def xw.ki{k m:AT}{z:AE}(h:xw k z m)(b:KI B k)(a:z.2.1≠1/\z.2.1≠2/\z.2.1≠6/\z.2.1≠7):KI B m:=by obtain⟨a1,_,_,a4,_,_,a7,_,e,c,g,d,i,j,f,l⟩:=h;unfold KI;rw[a1,a4,a7,c,f a.2.2.2];rw[<-d]at a;exact⟨b.1.app ⟨λh=>o!,λh=>o!,λh=>o!⟩,b.2.1.app ⟨a.1,a.2.1⟩,b.2.2⟩
def xw.sk{k m:AT}{z:AE}(h:xw k z m)(a:SK B k)(b:z.2.1≠1/\z.2.1≠2/\z.2.1≠6/\z.2.1≠7):SK B m:=h.2.2.2.2.2.2.2.1.sk (h.ki a.ki b)
end Go.Pm
namespace Go.Pm
open Go Go.Ab
set_option maxHeartbeats 400000
def DI(d:Bn):Prop:=d.1.length<=64/\(∀(i:Nat) (s:BT),d.1[i]? =some s->s.length=256)/\d.2.2.1=[]/\d.2.2.2.2=[]
def Wx{x:Int}{s:Int×List BT}(h:0<=s.1/\s.1<=x/\x<=64/\s.2.length=s.1/\ ∀(i:Nat) (t:BT),s.2[i]? =some t->t=Es (List.replicate (Int.toNat 256) 0)):Ap (Ai (Lh x) s) λr=>(r.length:Int)=x/\ ∀(i:Nat) (t:BT),r[i]? =some t->t=Es (List.replicate (Int.toNat 256) 0):=by
 refine AW (λ(s:Int×List BT)=>0<=s.1/\s.1<=x/\x<=64/\s.2.length=s.1/\ ∀(i:Nat) (t:BT),s.2[i]? =some t->t=Es (List.replicate (Int.toNat 256) 0)) (λ(s:Int×List BT)=>(x-s.1).toNat) h (λs c=>?_);unfold Lh;have⟨f,g,a,j,b⟩:=c;have k:(Es (List.replicate (Int.toNat 256) 0)).length=256:=by rw[L5,HE];rfl
 repeat' with_reducible first|intro d|apply AC|apply AK|apply AB|(refine AM ?_ (Ac ?_);rintro r ⟨hr,l,e⟩)
 all_goals first|omega|(generalize Es (List.replicate (Int.toNat 256) 0)=bs at*;simp;omega)|(generalize Es (List.replicate (Int.toNat 256) 0)=bs at*;rw[(AY (x:=s.1+1))];refine⟨⟨o!,o!,a,k!,?_⟩,o!⟩;grind)|(exact⟨o!,b⟩)
def R6{x:Int}(h:0<=x/\x<=64):Ap (Ol x) λr=>(r.length:Int)=x/\ ∀(i:Nat) (t:BT),r[i]? =some t->t=Es (List.replicate (Int.toNat 256) 0):=by exact AA (Wx ⟨Af _,h.1,h.2,rfl,λi t a=>by simp at a⟩) λr hr=>AB hr
def gT{x:Int}:Ap (Jx x) λr=>r.2=0->DI r.1/\r.1.1.length=x/\ ∀(i:Nat) (t:BT),r.1.1[i]? =some t->t=Es (List.replicate (Int.toNat 256) 0):=by refine AC (λb=>AB n!) (λb=>AC (λb=>AB n!) (λc=>AA (R6 o!) λr hr=>AB λ_=>⟨⟨d!,λi t d=>?_,rfl,rfl⟩,hr⟩));rw[hr.2 i t d,L5,HE];rfl
def cI{x:Bn×Cz}:Ap (K5 x) λr=>True:=by
 unfold K5;repeat' with_reducible first|intro a|apply AC|apply AP|apply AK|(apply BA;try dsimp only)|apply BZ|apply Bx|apply Mm|(apply BK;try dsimp only)|(apply A7;try dsimp only)|(apply BB<;>(intro u b;try subst b))|apply AB
 all_goals trivial
def X1{x:Bn}{s:Int}(h:0<=s/\s<=x.1.length/\(x.1.length:Int)<=16777216):Ap (Ai (Mo x) s) λr=>r≠ .inl true:=by
 refine AW (λ(s:Int)=>0<=s/\s<=x.1.length/\(x.1.length:Int)<=16777216) (λ(s:Int)=>((x.1.length:Int)-s).toNat) h (λs b=>?_);unfold Mo;repeat' with_reducible first|intro a|apply AC|apply AL|apply AK|apply AB|(refine AM ?_ (AI ?_ ?_);rintro r ⟨hr,c⟩)
 all_goals exact l!
def X2{x:Bn}{s:Int}(h:0<=s/\s<=x.2.2.1.length/\(x.2.2.1.length:Int)<=16777216):Ap (Ai (Mp x) s) λr=>r≠ .inl true:=by
 refine AW (λ(s:Int)=>0<=s/\s<=x.2.2.1.length/\(x.2.2.1.length:Int)<=16777216) (λ(s:Int)=>((x.2.2.1.length:Int)-s).toNat) h (λs b=>?_);unfold Mp;repeat' with_reducible first|intro a|apply AC|apply AK|apply AB|(refine AM ?_ (AI ?_ ?_);rintro r ⟨hr,c⟩)
 all_goals ((try dsimp[len]at*);(try first|omega|assumption|grind[AY]|((try simp (disch:=omega) only[AY,len]at*)<;>(try intros)<;>(try and_intros)<;>(try intros)<;>(first|omega|assumption|grind))))
def X3{x:Bn}{s:Int}(h:0<=s/\s<=x.2.2.2.2.length/\(x.2.2.2.2.length:Int)<=16777216):Ap (Ai (Mq x) s) λr=>r≠ .inl true:=by
 refine AW (λ(s:Int)=>0<=s/\s<=x.2.2.2.2.length/\(x.2.2.2.2.length:Int)<=16777216) (λ(s:Int)=>((x.2.2.2.2.length:Int)-s).toNat) h (λs b=>?_);unfold Mq;repeat' with_reducible first|intro a|apply AC|apply AO|apply AK|apply AB|(apply AA (cI);intro r hr)|(refine AM ?_ (AI ?_ ?_);rintro r ⟨hr,c⟩)
 all_goals exact l!
def cF{x:Bn}(h:x.2.2.1.length<=16777216):Ap (K4 x) λr=>r=true->1<=x.1.length/\x.1.length<=64:=by
 unfold K4;repeat' with_reducible first|intro a|apply AC|apply AK|(apply BK;try dsimp only)|(apply A7;try dsimp only)|(apply BB<;>(intro u b;try subst b))|apply AB|(refine AM ?_ (X1 ?_);intro r hr)|(refine AM ?_ (X2 ?_);intro r hr)|(refine AM ?_ (X3 ?_);intro r hr)
 all_goals exact l!
def Mu{x:Bn×Int}(h:x.1.2.2.1.length<=16777216):Ap (GZ x) λr=>r=0->0<=x.2/\x.2<x.1.1.length/\x.1.1.length<=64:=by
 unfold GZ;repeat' with_reducible first|intro a|apply AC|apply AO|apply AK|apply AB|(refine AM ?_ (cF ?_);intro r hr)
 all_goals exact l!
def WQ{x:List Int×Int}{s:Int×List Int}(h:0<=s.1/\s.1<=x.1.length/\x.1.length<=16777216/\s.2.length<=s.1):Ap (Ai (Km x) s) λr=>r.length<=x.1.length:=by
 refine AW (λ(s:Int×List Int)=>0<=s.1/\s.1<=x.1.length/\x.1.length<=16777216/\s.2.length<=s.1) (λ(s:Int×List Int)=>((x.1.length:Int)-s.1).toNat) h (λs c=>?_);unfold Km;repeat' with_reducible first|intro a|apply AC|apply AL|apply AK|(apply BA;try dsimp only)|apply BZ|apply Bx|apply AB|(refine AM ?_ (AI ?_ ?_);rintro r ⟨hr,e⟩)|(refine AM ?_ (Ac ?_);rintro r ⟨hr,d,b⟩)
 all_goals exact l!
def RN{x:List Int×Int}(h:x.1.length<=16777216):Ap (FH x) λr=>r.length<=x.1.length:=by
 unfold FH;repeat' with_reducible first|apply AB|(refine AM ?_ (WQ ?_);intro r hr)
 all_goals exact l!
def Z7{x:List Int×Int}{s:Int}(h:0<=s/\s<=x.1.length/\(x.1.length:Int)<=16777216):Ap (Ai (Om x) s) λr=>True:=by
 refine AW (λ(s:Int)=>0<=s/\s<=x.1.length/\(x.1.length:Int)<=16777216) (λ(s:Int)=>((x.1.length:Int)-s).toNat) h (λs b=>?_);unfold Om;repeat' with_reducible first|intro a|apply AC|apply AP|apply AK|apply AB|(refine AM ?_ (AI ?_ ?_);rintro r ⟨hr,c⟩)
 all_goals exact l!
def gU{x:List Int×Int}(h:x.1.length<=16777216):Ap (NM x) λr=>True:=by
 unfold NM;repeat' with_reducible first|(apply BK;try dsimp only)|(apply A7;try dsimp only)|(apply BB<;>(intro u a;try subst a))|apply AB|(refine AM ?_ (Z7 ?_);intro r hr)
 all_goals exact l!
def eX{x:Bn×Int}(h:DI x.1):Ap (MC x) λr=>r.2=0->r.1.length=256/\0<=x.2/\x.1.1[x.2.toNat]? =some r.1:=by
 unfold MC;repeat' with_reducible first|intro a|apply AL|apply AK|apply AB|(refine AM ?_ (Mu ?_);intro r hr)|(refine AM ?_ (gU ?_);intro r hr)|(refine AM ?_ (AI ?_ ?_);rintro r ⟨hr,b⟩)
 all_goals ((try dsimp[len]at*);(try first|omega|assumption|grind[DI]))
def DI.set{d:Bn}{l:List BT}{i:Int}{t:BT}{u:List Int}{w:Int}{b:Bool}(h:DI d)(c:l=d.1)(n:t.length=256)(e:u.length<=([]:List Int).length):DI (FT l i t,w,u,b,[]):=by subst c;have⟨a,f,g,k⟩:=h;refine⟨by simpa[FT]using a,λj s m=>?_,qa.1 (by simpa using e),rfl⟩;grind[FT]
def eY{x:Bn×Int×BT×Int}(h:DI x.1):Ap (QV x) λr=>r.2=0->DI r.1/\ ∃o,0<=x.2.1/\x.1.1[x.2.1.toNat]? =some o/\r.1.1=FT x.1.1 x.2.1 (x.2.2.1.take x.2.2.2.toNat++o.drop x.2.2.2.toNat):=by
 have⟨C,s,n,t⟩:=h;refine AA (Mu (by dsimp only;rw[n];simp)) λF i=>AL (λg=>AB (λa=>absurd a g)) (λg=>?_);refine AC (λ_=>AB n!) (λc0=>AC (λ_=>AB n!) (λB=>AL (λ_=>AB n!) (λv=>?_)));have⟨b,c,E⟩:=i g;simp only[len]at v;refine AA (Ac w!) λw j=>AA (Ac (by rw[n];simp)) λz k=>AA (Ac (by rw[t];simp)) λA m=>?_;have j:w=x.1.1:=k!
 have k:z=[]:=k!
 have m:A=[]:=k!
 subst j k m;refine AA (B8 (Af _)) λG e=>AA (AI b c) λH _=>AA (AI b c) λq p=>?_;have D:=s _ _ p.1;refine AA (B8 o! i! (by simp[len])) λI f=>AA (CC (by simp only[len]at f;omega)) λJ u=>AA (AI b c) λ_ _=>AA (AI b c) λ_ _=>AA (RN q!) λy d=>AB λ_=>⟨h.set rfl (by simp only[len]at f;omega) d,q,b,p.1,?_⟩
 dsimp only;rw[u.1,e.1,f.1,BR (l:=q.drop _) (by simp[len])];simp
def whole{l:List BT}{i:Nat}{s o a b r:BT}(h:len s=256)(f: ∀(i:Nat) (s:BT),l[i]? =some s->s.length=256)(hr:r=a++b)(c:a=List.take (Int.toNat 256-Int.toNat 0) (List.drop (Int.toNat 0) s))(d:b=List.take ((len o).toNat-Int.toNat 256) (List.drop (Int.toNat 256) o))(g:l[i]? =some o):r=s:=by have j:=f _ _ g;have e:List.drop (Int.toNat 256) o=[]:=jN (by simp only[Int.reduceToNat];omega);simp only[len]at h;rw[hr,c,d,e,List.take_nil,C0];exact BR w!
def cH{x:Bn×Int×BT}(h:DI x.1):Ap (Ph x) λr=>r.2=0->DI r.1/\0<=x.2.1/\r.1.1=FT x.1.1 x.2.1 x.2.2:=by
 have⟨B,o,i,j⟩:=h;refine AA (Mu (by dsimp only;rw[i];simp)) λC g=>?_;refine AL (λb=>AB (λc=>absurd c b)) (λb=>?_);refine AL (λb=>AB n!) (λd=>?_);refine AP (λb=>AB n!) (λq=>?_);refine AA (Ac w!) λy t=>?_;refine AA (Ac (by rw[i];simp)) λz u=>?_;refine AA (Ac (by rw[j];simp)) λA v=>?_;have l:y=x.1.1:=k!
 have m:z=[]:=k!
 have n:A=[]:=k!
 subst l m n;have l1: ∀s,s.1=0->Ai (Mr x) s=some s.2:=λs e=>by rw[H5];unfold Mr;rw[j,e];rfl
 rw[l1 _ rfl];apply BA;have l2: ∀a s,a.1=[]->s.2.1=0->Ai (Ms x a) s=some (s.1,(s.2.2.2.2.2.2.1,(s.2.2.2.2.2.1,s.2.2.2.2.2.2.2))):=λa s f e=>by rw[H5];unfold Ms;rw[f,e];rfl
 have w: ∀a s,a.1=[]->s.1=0->Ai (Mt a) s=some (s.2.2.2.2.2.1,(s.2.2.2.2.1,s.2.2.2.2.2.2)):=λa s f e=>by rw[H5];unfold Mt;rw[f,e];rfl
 rw[l2 _ _ rfl rfl];repeat' with_reducible first|apply AC<;>intro b|apply AO<;>intro b|apply AP<;>intro b|apply AL<;>intro b|apply AK<;>intro b|(apply BA;try dsimp only)|apply BZ|apply Bx|apply AB|(rw[w _ _ rfl rfl];apply BA;dsimp only)|(refine AM ?_ (RN ?_);intro r hr)|(refine AM ?_ (AI ?_ ?_);rintro r ⟨hr,q⟩)|(refine AM ?_ (Ac ?_);rintro r ⟨hr,k,p⟩)|(refine AM ?_ (CC ?_);rintro r ⟨hr,k⟩)|(refine AM ?_ (B8 ?_ ?_ ?_);rintro r ⟨hr,k⟩)
 all_goals first|omega|(simp;done)|(intro c;exact absurd c g!)|(exact λ_=>⟨h.set rfl k! hr,(g v!).1,congrArg (FT _ _) (whole d o v! v! v! v!)⟩)|(cases b;done)|grind
def DC(p:Bs):Nat:=p.2.1.countP λf=>f.2.1
def UC(p:Bs):Nat:=p.2.1.countP λf=>f.2.2.2
def yS{a:Type}{l:List a}{i:Nat}{o n:a}{q:a->Bool}(h:l[i]? =some o):(l.set i n).countP q+(if q o=true then 1 else 0)=l.countP q+(if q n=true then 1 else 0):=k!
theorem LB{x:Bs×Int×BE}(h:x.1.2.1.length<=16777216)(a:0<=x.2.1/\x.2.1<x.1.2.1.length):Ap (IA x) λr=>r=(x.1.1,x.1.2.1.set x.2.1.toNat x.2.2,x.1.2.2):=by refine AA (Ac (by simpa using h)) λr hr=>?_;have⟨hr,b,_⟩:=hr;subst hr;refine AA (AI a.1 a.2) λ_ _=>?_;refine AA (AI a.1 a.2) λ_ _=>?_;exact AB rfl
def core(f:BE):AU×Bool×Int:=(f.1,f.2.1,f.2.2.1)
def CF(l:List BE):List (AU×Bool×Int):=l.map core
def AFe{l:List BE}{i:Nat}{f g:BE}(h:l[i]? =some f)(a:core g=core f):CF (l.set i g)=CF l:=by unfold CF;apply Is;grind
theorem qN{l m:List BE}(h:CF m=CF l){i:Nat}{f:BE}(a:m[i]? =some f): ∃g,l[i]? =some g/\core g=core f:=by
 have:(CF m)[i]? =some (core f):=by unfold CF;rw[List.getElem?_map,a];rfl
 rw[h]at this;unfold CF at this;grind
def AFd{l m:List BE}(h:CF m=CF l):m.length=l.length:=by have:=congrArg List.length h;simpa[CF]using this
def zV{p:Bs}:DC p=(CF p.2.1).countP λc=>c.2.1:=by unfold DC CF;rw[List.countP_map];rfl
theorem J0.congr{l m:List BE}{n:Int}(h:CF m=CF l)(d:J0 l n):J0 m n:=by refine⟨λi f r b=>?_,λi j f g c s b q=>?_⟩;have⟨g,a,o⟩:=qN h b;have:=d.1 i g r a;grind[core,nN];have⟨e,a,o⟩:=qN h b;have⟨k,p,t⟩:=qN h q;have:=d.2 i j e k c s a p;grind[core]
def O9.uniq{p:Bs}(h:O9 p){i j:Nat}{f g:BE}(a:p.2.1[i]? =some f)(b:p.2.1[j]? =some g)(e:f.1.1=g.1.1):f=g:=by have c:=h.2.2.2.2.2.2;grind
def W5{c:List (AU×Bool×Int)}{z:Int}{s:Bs}(h:c=CF s.2.1/\z=s.1/\0<=s.2.2/\s.2.2<s.2.1.length/\s.2.1.length<=64):Ap (Ai RQ s) λr=>c=CF r.2.1/\z=r.1/\0<=r.2.2/\r.2.2<r.2.1.length/\r.2.1.length<=64:=by
 refine AW (λs=>c=CF s.2.1/\z=s.1/\0<=s.2.2/\s.2.2<s.2.1.length/\s.2.1.length<=64) UC h (λs n=>?_);have⟨k,l,i,j,m⟩:=n;refine AA (AI i j) λf q=>?_;refine AK (λo=>?_) (λo=>AB ⟨k,l,i,j,m⟩);refine AA (AI i j) λd t=>?_;have e:d=f:=k!
 subst e;refine AA (LB d! ⟨i,j⟩) λp u=>?_;subst u;refine AP (λv=>?_) (λv=>AB ?_);grind;rw[(AY (x:=s.2.2+1))];refine⟨⟨?_,l,(jL (len (s.2.1.set s.2.2.toNat (d.1,d.2.1,d.2.2.1,false))) (a:=s.2.2+1) o!),(jK (s.2.2+1) (b:=len (s.2.1.set s.2.2.toNat (d.1,d.2.1,d.2.2.1,false))) w!),by rw[dH];exact m⟩,?_⟩;rw[k];exact(AFe (g:=(d.1,d.2.1,d.2.2.1,false)) q.1 rfl).symm;unfold UC;grind
def aH{x:Bs}:Ap (Ov x) λr=>(r.2.2=0->O9 x/\O9 r.1/\CF r.1.2.1=CF x.2.1/\lj r.1 r.2.1)/\(O9 x->x.2.1.length≠0->r.2.2=0):=by refine AA ER λv g=>?_;refine AO (λc=>AB ⟨n!,λh _=>?_⟩) (λc=>?_);grind;have b:=g.1 c;have e:=b;have⟨k,l,m,i,n,o⟩:=b;refine AP (λa=>AB ⟨n!,λ_ h=>absurd a (by simpa[len]using h)⟩) (λa=>?_);simp only[len]at a;refine AA (W5 ⟨rfl,rfl,i,o!⟩) λp b=>?_;have⟨q1,q2,q3,q4,q5⟩:=b;refine AA (AI q3 q4) λf d=>?_;have j:=AFd q1;refine AB ⟨λ_=>⟨e,⟨d!,d!,d!,q3,.inr q4,?_⟩,q1.symm,⟨_,f,d.1,rfl⟩⟩,λ_ _=>rfl⟩;grind[J0.congr]
def fA{x:Bs×Int}:Ap (MH x) λr=>O9 x.1-> ∀(i:Nat) (f:BE),x.1.2.1[i]? =some f->f.1.1=x.2->f.2.1=false->(∀g∈r.1.2.1,g∈x.1.2.1)/\ ∀g∈x.1.2.1,g.2.1=true->g∈r.1.2.1:=by
 unfold MH;refine AA ER λv A=>?_;refine AO (λn=>AB λo=>absurd (A.2 o) (by simp[n])) (λn=>?_);have o:=A.1 n;have T:=o.2.1;have U:=o.2.2.1;refine AA (Gb o!) λi G=>?_;have⟨R,J,K,L⟩:=G;refine AC (λn=>AB λ_ j f p e _=>absurd ⟨j,f,p,e⟩ (L n)) (λH=>?_);have⟨k,I,t⟩:=K o!;refine AA (AI o! J) λw Q=>?_;have B:w=k:=by grind[Option.some.inj]
 subst B;refine AK (λu=>AB λ_ j f p e l=>?_) (λu=>?_);have:=o.uniq p I (by rw[e,t]);subst this;rw[u]at l;cases l;have O:=AY (x:=i+1);refine AA (Bj) λa C=>?_;refine AA (Bj o! (by simp[len];omega) i!) λb D=>?_;have S:=C.2;have M:=D.2;simp[len]at M;refine AA (Ac (by rw[BX];omega)) λc s=>?_;have N:=s.2.1;rw[BX]at N;refine AA (Ac o!) λd E=>?_;have q: ∀(j:Nat) (f:BE),x.1.2.1[j]? =some f->f.1.1=x.2->f.2.1=false->(∀g∈d,g∈x.1.2.1)/\ ∀g∈x.1.2.1,g.2.1=true->g∈d:=by intro j f p e l;refine⟨λg y=>?_,λg y F=>?_⟩;grind[List.mem_of_mem_take,List.mem_of_mem_drop];have⟨m,z⟩:=De y;rw[(by grind[List.take_of_length_le,List.length_drop]:d=x.1.2.1.take i.toNat++x.1.2.1.drop (i.toNat+1)),An];rcases OY m i.toNat with h|h|h;exact .inl (BN (i:=m) (by rw[JS h];exact z));grind[Option.some.inj];exact .inr (BN (i:=m-(i.toNat+1)) (by rw[KR];rw[show i.toNat+1+(m-(i.toNat+1))=m by omega];exact z))
 refine AA (P:=λ_=>True) (AC (λ_=>AB trivial) (λ_=>AB trivial)) λV _=>?_;refine AA (P:=λ_=>True) (AC (λ_=>AB trivial) (λ_=>AB trivial)) λW _=>AB λ_=>q
theorem cN{x:Bs×Int×Int}:Ap (Pj x) λr=>r.2=0->O9 x.1/\DC r.1<=DC x.1/\(∀(i:Nat) (f:BE),x.1.2.1[i]? =some f->f.1.1=x.2.1->f.2.1=true->f.1.2.1=x.2.2->DC r.1<DC x.1)/\(∀g∈r.1.2.1,∃f∈x.1.2.1,f.1.1=g.1.1/\f.1=g.1)/\ ∀f∈x.1.2.1,f.1.1≠x.2.1->f∈r.1.2.1:=by
 refine AA ER λv C=>?_;refine AO (λb=>AB (λo=>absurd o (by decide))) (λb=>?_);have l:=C.1 b;have J:=l.2.2.1;have I:=l.2.1;refine AA (Gb (by dsimp only;omega)) λi B=>?_;have⟨G,D,E,H⟩:=B;refine AC (λb=>AB (λo=>absurd o (by decide))) (λb=>?_);have⟨f,c,d⟩:=E (by omega);refine AA (AI (by omega) D) λg z=>?_;have e:g=f:=by grind
 subst e;refine AC (λb=>AB (λo=>absurd o (by decide))) (λA=>?_);refine AO (λs=>AB (λ_=>⟨l,Ao _,λj k m a h _=>?_,λg z=>⟨g,z,rfl,rfl⟩,λf c _=>c⟩)) (λs=>?_);have:=l.uniq m c (by rw[a,d]);subst this;rw[s]at h;cases h;refine AA (P:=λn:BE=>(g.1.2.1=x.2.2->n.2.1=false)/\n.1=g.1) ?_ λn hn=>?_
 ·repeat' with_reducible first|refine AC ?_ ?_<;>intro b|refine AO ?_ ?_<;>intro b|refine AP ?_ ?_<;>intro b|refine AK ?_ ?_<;>intro b|(refine BA ?_;try dsimp only)|refine BZ ?_|refine Bx ?_|refine AB ?_|(refine AM ?_ (AI ?_ ?_);rintro r ⟨hr,F⟩)
  all_goals grind
 refine AA (LB (by dsimp only;omega) ⟨by dsimp only;omega,by dsimp only;omega⟩) λp y=>?_;subst y;refine AB λ_=>?_;have u:=yS (q:=λf:BE=>f.2.1) (n:=n) c;rw[s]at u;refine⟨l,?_,λj k m a h t=>?_,AAM c hn.2,λk m w=>wA c k m (by rw[d];exact w)⟩;unfold DC;dsimp only;simp at u;split at u<;>omega;have:=l.uniq m c (by rw[a,d]);subst this;rw[hn.1 t]at u;unfold DC;dsimp only;simp at u;omega
def R5{x:AU}:Ap (C9 x) λr=>r.2=0->GA x/\r.1=Hl x:=by have⟨v,b,h⟩:=Nn (x:=x);by_cases a:v=0;exact⟨_,ab (h a),λ_=>⟨h a,rfl⟩⟩;unfold C9;rw[b,AD];exact AL (λ_=>AB λe=>absurd e a) (λe=>absurd e a)
def px:IW ()=some (fq 256):=by unfold IW;rw[wH g!];rfl
def Ww{x:BT}{s:Int×AU×AU}(h:0<=s.1/\s.1<=16/\x.length=256):Ap (Ai (Gi x) s) λr=> ∀u,r= .inl u->u.1=4:=by
 refine AW (λ(s:Int×AU×AU)=>0<=s.1/\s.1<=16/\x.length=256) (λ(s:Int×AU×AU)=>(16-s.1).toNat) h (λs e=>?_);unfold Gi;obtain⟨g,i,j⟩:=e;have b:=AY (x:=s.1*13);have c:=AY (x:=12+s.1*13);have d:=AY (x:=12+s.1*13+1);rw[b,c,d];repeat' with_reducible first|intro a|apply AC|apply AP|apply AK|apply AB|(refine AM ?_ (Cq ?_ ?_);intro r hr)|(refine AM ?_ (B8 ?_ ?_ ?_);rintro r ⟨hr,f⟩)|(refine AM ?_ (Q2 ?_ ?_);rintro r ⟨hr,f⟩)
 all_goals try dsimp only[len]at*
 all_goals first|omega|grind[AY]
def Z6{x:BT}(h:x.length<=1099511627776):Ap (Ec x) λr=>(r.2=0->GA r.1/\x=Hl r.1/\x≠fq 256)/\(r.2=7->x=fq 256):=by
 unfold Ec;rw[px,AD];repeat' with_reducible first|intro b|apply AP|apply AL|apply AK|(apply BK;try dsimp only)|(apply A7;try dsimp only)|(apply BB<;>(intro u c;try subst c))|apply AB|(refine AM ?_ (Ci ?_);intro r hr)|(refine AM ?_ (Pg ?_);intro r hr)|(refine AM ?_ (Ww ?_);intro r hr)|(apply AA (R5);intro r hr)|(refine AM ?_ (B8 ?_ ?_ ?_);rintro r ⟨hr,d⟩)
 all_goals try dsimp only[len]at*
 all_goals first|trivial|omega|(exact⟨n!,n!⟩)|grind
def gS{x:Int}:Ap (DG x) λr=>r=(x,(0,G9.all (false,[]))):=by
 unfold DG;repeat' with_reducible first|apply AB
 all_goals trivial
def Rd(s:BT)(p:Int)(q:AU):Prop:=q.1=p/\((s=fq 256/\q=(p,(0,G9.all (false,[]))))\/(GA q/\s=Hl q/\s≠fq 256))
def Xz{x:BT×Int}(h:x.1.length<=1099511627776):Ap (Cr x) λr=>r.2=0->Rd x.1 x.2 r.1:=by refine AC (λ_=>AB n!) (λ_=>AC (λ_=>AB n!) (λ_=>AA (Z6 h) λv c=>AP (λd=>?_) (λ_=>AP (λf=>AL (λ_=>AB n!) (λb=>AB λa=>⟨b,.inr (c.1 a)⟩)) (λhn=>AB λa=>absurd a hn))));exact AA gS λw e=>AB λ_=>by rw[e];exact⟨rfl,.inl ⟨c.2 d,rfl⟩⟩
def cP{x:Bq×Int×Int×BT}(h:x.2.2.2.length<=1099511627776):Ap (LC x) λr=>r.2=0->Rd x.2.2.2 x.2.1 r.1:=by
 unfold LC;repeat' with_reducible first|intro a|apply AC|apply AO|apply AL|apply AK|apply AB|(apply AA (GD);intro r hr)|(refine AM ?_ (Xz ?_);intro r hr)|(refine AM ?_ (AI ?_ ?_);rintro r ⟨hr,c⟩)
 all_goals try dsimp only[len]at*
 all_goals first|assumption|omega|(intro b;exact absurd b v!)|(intro b;exact absurd b g!)|(intro _;exact hr v!)|grind
def TS{x:AU×Do}:Ap (IY x) λr=>(r.2=0->OR x.2/\Gk x.1.2.2 x.2.2.1=some x.2.2.2.1)/\(OR x.2->x.2.1=x.1.1->Gk x.1.2.2 x.2.2.1=some x.2.2.2.1->r=((x.1.1,(x.1.2.1,WF x.1.2.2 x.2.2.1 x.2.2.2.2)),0)):=by unfold IY;refine AA TT λv g=>AO (λe=>AB ⟨n!,λh=>absurd (g.2 h) (by simp[e])⟩) (λe=>?_);have b:=g.1 e;refine AL (λe=>AB ⟨n!,λ_ h=>absurd h e⟩) (λj=>?_);obtain⟨c,i,_⟩:=Cq (a:=x.1.2.2) b.2.2.1 b.2.2.2.1;rw[i];refine BA (BA (AK (λd=>AB ⟨n!,λ_ _ h=>?_⟩) (λd=>BA (BA (AB ⟨λ_=>⟨b,?_⟩,λ_ _ _=>rfl⟩)))));rw[BP h]at d;simp at d;obtain⟨k,l⟩:=c;simp at d;rw[d.1,d.2]
def zU{x:AU}{e:AE}(h:GA x)(d:Lc e)(f:e.2.1=1\/e.2.1=2)(b:e.2.2.2.2.2.2.1.1=x.1)(g:e.2.2.2.2.1=x.2.1)(c:Gk x.2.2 e.2.2.2.2.2.2.1.2.1=some e.2.2.2.2.2.2.1.2.2.1):Ig (x,e)=some (upd x e,0):=by
 suffices i:Ap (Ig (x,e)) λr=>r=(upd x e,0) by obtain⟨r,hr,rfl⟩:=i;exact hr
 have a:OR e.2.2.2.2.2.2.1:=by grind[Lc,Ut]
 refine AA CV λv j=>AO (λa=>absurd (j.2 d) (by simp[a])) (λ_=>AA CL λw k=>AO (λa=>absurd (k.2 f) (by simp[a])) (λ_=>?_));rw[qO h];refine BA (AL (λa=>absurd rfl a) (λ_=>AL (λa=>absurd b a) (λ_=>AL (λa=>absurd g a) (λ_=>AA TS λr hr=>?_))));rw[hr.2 a b c];exact AL (λa=>absurd rfl a) (λ_=>AB rfl)
def cK{x:AE×List AE}(h:x.2.length<=16777215):Ap (K7 x) λr=>r=x.1::x.2:=by
 unfold K7;repeat' with_reducible first|apply AB|(refine AM ?_ (Ac ?_);rintro r ⟨hr,b,a⟩)
 all_goals first|(simp at*;omega)|(simp at*;done)
def ID(L:List AE):Prop:= ∀(i:Nat) (e:AE),L[i]? =some e->e.1=1+i/\Lc e
def Dj.num{l:Ae}(h:Dj l)(a:l.1=1):ID l.2.1:=λi e b=>by have:=h.2.2.2.2.2 i e b;rw[a]at this;exact this
def ID.take{L:List AE}(h:ID L)(k:Nat):ID (L.take k):=λi e a=>h i e k!
def dA{L:List AE}{k:Nat}(h:k<L.length):L.take (k+1)=L.take k++[L[k]]:=by rw[Cv,As h];rfl
def ID.at{L:List AE}(h:ID L){k:Nat}(a:k<L.length):L[k].1=1+k/\Lc L[k]:=h k _ (As a)
def ZL{L:List AE}(h:ID L)(p:Int):Ba L p<=L.length:=by
 have:=mc (p:=p) (b:=L.length+1) L 0 o! λe c=>by have⟨i,a⟩:=De c;have:=(h i e a).1;have:=Cy a;omega
 unfold Ba;omega
def Q5{L:List AE}(h:ID L)(p:Int)(j:Nat): ∀k:Nat,j<=k->Ba (L.take j) p<=Ba (L.take k) p
 |0,hj=>by rw[show j=0 by omega];exact Af _
 |k+1,hj=>by by_cases e:j=k+1;rw[e];exact Af _;have c:=Q5 h p j k (by omega);by_cases a:k<L.length;rw[dA a,O7];have b:=ZL (h.take k) p;have d:=(h.at a).1;rw[BQ]at b;split<;>omega;rw[BR (l:=L) (i:=k+1) (by omega)];rwa [BR (l:=L) (i:=k) (by omega)]at c
def qD{L:List AE}(h:ID L){p:Int}{i:Nat}{e:AE}(a:L[i]? =some e)(c:Zx p e=true){k:Nat}(d:i<k):e.1<=Ba (L.take k) p:=by have b:=Cy a;have:=Q5 h p (i+1) k d;rw[dA b,O7,(BP ((As b).symm.trans a):L[i]=e),if_pos c]at this;exact this
def uV{L:List AE}(h:ID L){p:Int}{j k:Nat}(g:Ba (L.take j) p=Ba (L.take k) p):((L.take k).drop j).filter (Zx p)=[]:=by refine List.filter_eq_nil_iff.2 λe f d=>?_;obtain⟨i,a⟩:=De f;rw[KR]at a;have b:=Cy a;rw[BQ]at b;rw[JS o!]at a;have:=qD h a d (k:=k) o!;have c:=ZL (h.take j) p;have:=(h _ _ a).1;rw[BQ]at c;omega
def sm(L:List AE){j k:Nat}(h:j<=k):L.take k=L.take j++(L.take k).drop j:=by
 conv=>lhs;rw[<-D1 j (L.take k)]
 rw[Kg,QM h]
def jr{L:List AE}{p:Int}{j k:Nat}(h:j<=k):st (L.take k) p=(((L.take k).drop j).filter (Zx p)).foldl upd (st (L.take j) p):=by
 conv=>lhs;rw[sm L h]
 exact AAN _ _ _
def jq{L:List AE}(h:ID L){p:Int}{j k:Nat}(b:Ba (L.take j) p=Ba (L.take k) p):st (L.take j) p=st (L.take k) p:=by rcases Nat.le_total j k with a|a;rw[jr a,uV h b];rfl;rw[jr a,uV h b.symm];rfl
def qC{L:List AE}(h:ID L){p:Int}: ∀{k:Nat},0<Ba (L.take k) p-> ∃(i:Nat) (e:AE),i<k/\L[i]? =some e/\Zx p e=true/\(i:Int)+1=Ba (L.take k) p
 |0,hk=>absurd hk (by simp[Ba])
 |k+1,hk=>by by_cases b:k<L.length;rw[dA b,O7]at hk⊢;by_cases a:Zx p L[k]=true;rw[if_pos a];exact⟨k,L[k],by omega,As b,a,by have:=(h.at b).1;omega⟩;rw[if_neg a]at hk⊢;obtain⟨i,e,d,r⟩:=qC h hk;exact⟨i,e,by omega,r⟩;rw[BR (l:=L) (i:=k+1) (by omega)]at hk⊢;rw[<-BR (l:=L) (i:=k) (by omega)]at hk;obtain⟨i,e,d,f,g,c⟩:=qC h hk;rw[BR (l:=L) (i:=k) (by omega)]at c;exact⟨i,e,by omega,f,g,c⟩
def Vo{L:List AE}(h:ID L)(p:Int)(k:Nat):0<=Ba (L.take k) p:=Q5 h p 0 k (Bk _)
def XU{L:List AE}(h:ID L){p:Int}{k:Nat}:Ba (L.take (Ba (L.take k) p).toNat) p=Ba (L.take k) p:=by
 have f:=Vo h p k;by_cases d:Ba (L.take k) p=0;rw[d];rfl;obtain⟨i,e,g,a,c,hn⟩:=qC h (by omega:0<Ba (L.take k) p);have b:(Ba (L.take k) p).toNat=i+1:=o!
 have:=qD h a c (k:=i+1) o!;have:=ZL (h.take (i+1)) p;have:=(h i e a).1;rw[b];rw[BQ]at*;omega
def YV{L:List AE}(h:ID L){p:Int}(b:0<=p/\p<64)(d:L.length<=1099511627776): ∀k:Nat,GA (st (L.take k) p)
 |0=>⟨b.1,b.2,Af 0,(by decide:(0:Int)<=1099511627776),λi=>⟨⟨Bk 12,.inr rfl⟩,λ_=>rfl⟩⟩
 |k+1=>by
  have a:=YV h b d k;by_cases c:k<L.length;rw[dA c,zR];split;rename_i m;have⟨g,j⟩:=h.at c;have e:OR L[k].2.2.2.2.2.2.1:=by grind[Lc,Ut,Zx]
  refine⟨a.1,a.2.1,by show 0<=L[k].1;omega,by show L[k].1<=_;omega,λi=>⟨?_,λf=>?_⟩⟩;show Fo (WF _ _ _ i);unfold WF;split;exact e.2.2.2.2.2;exact(a.2.2.2.2 i).1;have:L[k].1=0:=f;omega;exact a;rw[BR (l:=L) (i:=k+1) o!];rwa [BR (l:=L) (i:=k) o!]at a
def OKs:AU->List AE->Prop
 |_,[]=>True
 |x,e::r=>(GA x/\Lc e/\(e.2.1=1\/e.2.1=2)/\e.2.2.2.2.2.2.1.1=x.1/\e.2.2.2.2.1=x.2.1/\Gk x.2.2 e.2.2.2.2.2.2.1.2.1=some e.2.2.2.2.2.2.1.2.2.1)/\OKs (upd x e) r
def OKs.snoc: ∀{x:AU} {l:List AE} {e:AE},OKs x l->OKs (l.foldl upd x) [e]->OKs x (l++[e])
 |_,[],_,_,h=>h
 |_,_::_,_,h,g=>⟨h.1,OKs.snoc h.2 g⟩
def ve{n:Int}{L:List AE}(h:ID L)(g:LI n L){p:Int}(o:0<=p/\p<64)(m:L.length<=1099511627776)(j:Nat): ∀k:Nat,j<=k->OKs (st (L.take j) p) (((L.take k).drop j).filter (Zx p))
 |0,hj=>by rw[show j=0 by omega];exact trivial
 |k+1,hj=>by
  by_cases e:j=k+1;rw[e,XN (by rw[BQ];omega)];exact trivial;have c:=ve h g o m j k o!;by_cases b:k<L.length;rw[dA b,nY (by rw[BQ];omega),GU,PW,jQ];split;rename_i q;refine c.snoc ⟨?_,trivial⟩;rw[<-jr o!];have r:=g k _ (As b);have a:(L[k].2.1=1\/L[k].2.1=2)/\L[k].2.2.2.2.2.2.1.1=p:=by simpa[Zx]using q
  have⟨d,f⟩:=r.1 a.1;rw[a.2]at d f;exact⟨YV h o m k,(h.at b).2,a.1,by rw[a.2,Uj],by rw[d,KJ],f⟩;rw[C0];exact c;rw[BR (l:=L) (i:=k+1) o!];rwa [BR (l:=L) (i:=k) o!]at c
def mT{L:List AE}(h:ID L){p:Int}{m j k:Nat}(l:m<=j)(n:Ba (L.take m) p=Ba (L.take j) p):((L.take k).drop m).filter (Zx p)=((L.take k).drop j).filter (Zx p):=by rw[<-D1 (j-m) ((L.take k).drop m),GU,Lw,show m+(j-m)=j by omega];refine(congrArg (· ++_) (List.filter_eq_nil_iff.2 λe g f=>?_)).trans (Bw _);obtain⟨i,a⟩:=De g;have c:=Cy a;rw[BQ]at c;rw[JS o!,KR]at a;have b:=Cy a;rw[BQ]at b;rw[JS o!]at a;have:=qD h a f (k:=j) o!;have d:=ZL (h.take m) p;have:=(h _ _ a).1;rw[BQ]at d;omega
def AGW{n:Int}{l:Ae}(t:Dj l)(C:l.1=1)(I:LI n l.2.1){p:Int}(T:0<=p/\p<64){j k:Nat}(A:Ba (l.2.1.take j) p<=Ba (l.2.1.take k) p):Ap (QW (l,(p,(Ba (l.2.1.take k) p,Ba (l.2.1.take j) p)))) λr=>r=(((l.2.1.take k).drop j).filter (Zx p),0):=by
 have b:=t.num C;have O:=Vo b p k;have Q:=Vo b p j;have R:=t.2.2.1;refine AA Bg λv B=>AO (λa=>absurd (B.2 t) (by simp[a])) (λ_=>?_);refine AC (λa=>absurd a d!) (λ_=>AC (λa=>absurd a d!) (λ_=>AC (λa=>absurd a d!) (λ_=>AC (λa=>absurd a d!) (λ_=>?_))));refine AA (P:=λr=>r= .inr (((l.2.1.take k).drop j).filter (Zx p),Ba (l.2.1.take j) p)) ?_ λr hr=>?_
 ·refine Cu (λ(s:List AE×Int)=> ∃m:Nat,m<=k/\s=(((l.2.1.take k).drop m).filter (Zx p),Ba (l.2.1.take m) p)/\Ba (l.2.1.take j) p<=s.2) (λs=>s.2.toNat) ⟨k,Ao _,by rw[XN (by rw[BQ];omega)];rfl,A⟩ ?_;rintro s ⟨m,S,rfl,x⟩;unfold TW;dsimp only at x⊢;refine AC (λa=>?_) (λa=>Ap.done ?_)
  ·obtain⟨i,e,K,q,o,J⟩:=qC b (by omega:0<Ba (l.2.1.take m) p);have z:=Cy q;have c:(e.2.1=1\/e.2.1=2)/\e.2.2.2.2.2.2.1.1=p:=by simpa[Zx]using o
   refine AA Gy λg D=>?_;have F:=D.2 t d! d!;have⟨_,_,u,_⟩:=D.1 F;dsimp only at u;rw[C,show(Ba (l.2.1.take m) p-1).toNat=i by omega,q]at u;rw[F,<-BP u];refine AL (λa=>absurd rfl a) (λ_=>AA CL λw N=>AO (λa=>absurd (N.2 c.1) (by simp[a])) (λ_=>AL (λa=>absurd c.2 a) (λ_=>?_)));have y:=Fy (Zx p) ((l.2.1.take k).drop m);rw[FY,BQ]at y;have d:=((I i e q).1 c.1).1;rw[c.2]at d;have E:=XU b (p:=p) (k:=m);rw[show(Ba (l.2.1.take m) p).toNat=i+1 by omega]at E;have L:=XU b (p:=p) (k:=j);have M:=Q5 b p (Ba (l.2.1.take j) p).toNat i o!;refine AA (cK d!) λf H=>Ap.next ⟨i,o!,?_,d!⟩ (by dsimp only;rw[d];have:=ZL (b.take i) p;rw[BQ]at this;omega)
   rw[d,H,<-mT b (m:=i+1) (j:=m) o! E,Qt (l:=l.2.1.take k) (i:=i) (by rw[BQ];omega),PW];have G:(l.2.1.take k)[i]'(by rw[BQ];omega)=e:=by rw[List.getElem_take];exact BP ((As z).symm.trans q)
   rw[G,if_pos o]
  have e:Ba (l.2.1.take m) p=Ba (l.2.1.take j) p:=o!
  rw[e];rcases Nat.le_total m j with h|h;rw[mT b h e];rw[mT b h e.symm]
 subst hr;exact A7 (AC (λa=>absurd a d!) (λ_=>AB rfl))
def ABo{n:Int}{l:Ae}(f:Dj l)(C:l.1=1)(F:LI n l.2.1){p:Int}(t:0<=p/\p<64){j k:Nat}:Ap (MN (l,(st (l.2.1.take j) p,Ba (l.2.1.take k) p))) λr=>r=(if Ba (l.2.1.take j) p<=Ba (l.2.1.take k) p then st (l.2.1.take k) p else st (l.2.1.take j) p,0):=by
 generalize G:(if Ba (l.2.1.take j) p<=Ba (l.2.1.take k) p then st (l.2.1.take k) p else st (l.2.1.take j) p)=y;have d:=f.num C;have S:=Vo d p k;have T:=f.2.2.1;have q:=YV d t o!;suffices Q:Ap (Qg (l,(st (l.2.1.take j) p,Ba (l.2.1.take k) p))) λr=>r.1=y/\r.2.2=0 from AA Q λr hr=>AB (by rw[hr.1,hr.2]);refine AA (P:=λr=> ∃b:List AE,r=(b,0)/\b.length<=4096/\OKs (st (l.2.1.take j) p) b/\b.foldl upd (st (l.2.1.take j) p)=y) ?_ λr hr=>?_;refine AA Bg λv w=>AO (λa=>absurd (w.2 f) (by simp[a])) (λ_=>?_);rw[qO (q j)];refine BA (AL (λa=>absurd rfl a) (λ_=>AC (λa=>absurd a d!) (λ_=>AC (λa=>AB ?_) (λa=>?_))));rw[KJ]at a;refine⟨[],rfl,q!,trivial,?_⟩;rw[<-G];split;exact jq d (by dsimp only at a;omega);rfl;rw[KJ]at a;have c:j<=k:=by rcases Nat.le_total j k with h|h;exact h;have:=Q5 d p k j h;dsimp only at a;omega
 have e:((st (l.2.1.take j) p).1,(Ba (l.2.1.take k) p,(st (l.2.1.take j) p).2.1))=(p,(Ba (l.2.1.take k) p,Ba (l.2.1.take j) p)):=by rw[Uj,KJ]
 dsimp only at e⊢;rw[e];refine AA (AGW f C F t (by dsimp only at a;omega)) λr hr=>AB ⟨_,hr,?_,ve d F t o! j k c,by rw[<-G,if_pos (by dsimp only at a;omega)];exact(jr c).symm⟩;have o:=Fy (Zx p) ((l.2.1.take k).drop j);rw[FY,BQ]at o;omega
 ·obtain⟨b,rfl,m,O,u⟩:=hr;refine AL (λa=>absurd rfl a) (λ_=>AA (P:=λr=> ∃z,r= .inr (y,z)) ?_ λr hr=>?_)
  ·refine Cu (λ(s:Int×AU×AU)=> ∃A B,b=A++B/\s.1=A.length/\OKs s.2.1 B/\B.foldl upd s.2.1=y) (λ(s:Int×AU×AU)=>((b.length:Int)-s.1).toNat) ⟨[],b,rfl,rfl,O,u⟩ ?_;rintro⟨i,x,z⟩ ⟨A,B,rfl,D,E,g⟩;dsimp only at D E g;subst D;unfold TZ;dsimp only[len];rw[Aa]at m;refine AC (λa=>?_) (λa=>Ap.done ?_)
   ·obtain _|⟨e,B⟩:=B;simp at a;have R:ix (A++e::B) (A.length:Int)=some e:=by unfold ix;rw[if_pos o!,Dd,Ch (Ao _),Gn];rfl
    obtain⟨⟨H,I,J,K,L,M⟩,N⟩:=E;rw[R,AD,zU H I J K L M,AD,AY (x:=(A.length:Int)+1)];refine AL (λa=>absurd rfl a) (λ_=>Ap.next ⟨A++[e],B,q!,q!,N,g⟩ d!)
   obtain _|⟨e,B⟩:=B;exact⟨z,by rw[<-g];rfl⟩;simp at a;omega
  obtain⟨z,rfl⟩:=hr;exact A7 (AB ⟨rfl,rfl⟩)
end Go.Pm
