/- Texts of wip, joined and shortened by wip/tools/pack.py; nothing is assumed. -/
import Derived.Test.YtdjfjcnheopcdaaGreatK7
import Derived.KernelRfl
noncomputable section
set_option linter.all false
namespace Go.Pm
open Go Go.Ab
set_option maxRecDepth 100000
noncomputable section
abbrev Cr:Type:=Int×Int×BY
def EX:Ty:=.prod (.cons (.int .i64) (.cons (.int .i64) (.one .str)))
abbrev BN:Type:=Int×Int×(List Cr)
def Co:Ty:=.prod (.cons (.int .i64) (.cons (.int .i64) (.one (.list EX))))
abbrev Na:Type:=BY
def Wf:Ty:=.prod (.one .str)
def Tk(x:Int×Int):Option (Int×Int):=letI d:=(BitVec.ofInt 64 4294967295);letI c:=(BitVec.toNat ((BitVec.ofInt 64 x.1)&&&d));letI b:=(BitVec.toNat ((BitVec.ofInt 64 x.2)&&&d));letI a:=(2^(min (Int.toNat 32) 64));letI f:=(Int.fdiv x.2 a);letI e:=(Int.fdiv x.1 a);some ((IntKind.wrap .u64 ((IntKind.wrap .u64 ((IntKind.wrap .u64 (e*f))+(Int.fdiv (IntKind.wrap .u64 ((IntKind.wrap .u64 (e*(IntKind.wrap .u64 ((b:Nat):Int))))+(Int.fdiv (IntKind.wrap .u64 ((IntKind.wrap .u64 ((c:Nat):Int))*(IntKind.wrap .u64 ((b:Nat):Int)))) a))) a)))+(Int.fdiv (IntKind.wrap .u64 ((IntKind.wrap .u64 (((BitVec.toNat ((BitVec.ofInt 64 (IntKind.wrap .u64 ((IntKind.wrap .u64 (e*(IntKind.wrap .u64 ((b:Nat):Int))))+(Int.fdiv (IntKind.wrap .u64 ((IntKind.wrap .u64 ((c:Nat):Int))*(IntKind.wrap .u64 ((b:Nat):Int)))) a))))&&&d)):Nat):Int))+(IntKind.wrap .u64 ((IntKind.wrap .u64 ((c:Nat):Int))*f)))) a))),(IntKind.wrap .u64 (x.1*x.2)))
def Ve(x:Int×Int):Option (Int×Int):=(Tk x).bind λa=>some a
end
noncomputable section
def V5(x:Unit):Option BY:=(Kf (([0]:List (UInt8)),256)).bind λa=>some a
def G0(x:BY×Int×Int):Option Int:=(CU x).bind λa=>some a.1
def gG(x:BY):Lp (Int×AT×AT) ((Bool×AT)⊕ (AT×AT)):=λa=>letI j:=a.2.1.2;letI i:=(wi (12+wi (a.1*13)));bif a.1<16 then(G0 (x,i,1)).bind λb=>(bif b==255 then some (.inl a.2)else bif b>12 then some (.inr (false,0,0,(Hf.all (false,[]))))else(RF x (wi (i+1)) (wi ((wi (i+1))+b))).bind λc=>(GA j.2 a.1).bind λd=>(GA j.2 a.1).bind λe=>some (.inl ((a.2.1.1,j.1,(T2 j.2 a.1 (true,c))),a.2.2)):Option ((AT×AT)⊕ (Bool×AT))).bind λf=>Sum.elim (λg=>some (.next (wi (a.1+1),g))) (λh=>some (.done (.inl h))) f else some (.done (.inr a.2))
def VG(x:BY):Option (AT×Bool):=(G0 (x,8,4)).bind λa=>(G0 (x,0,8)).bind λb=>(Aj (gG x) (0,(a,b,(Hf.all (false,[]))),0,0,(Hf.all (false,[])))).bind λc=>Sum.elim (λd=>some (d.2,d.1)) (λe=>some (e.1,true)) c
def PM(x:AT):Option Bool:=(Gy x.1).bind λa=>bif a then bif x.2.1>=0 then some (decide (x.2.1<=1099511627776))else some false else some false
def Vf(x:AT):Lp Int (Bool ⊕ Unit):=λa=>letI c:=(wi (a+1));bif a<16 then(GA x.2.2 a).bind λb=>bif len b.2>12 then some (.done (.inl false))else bif !b.1 then bif b.2 !=[]then some (.done (.inl false))else bif b.1 then bif x.2.1==0 then some (.done (.inl false))else some (.next c)else some (.next c)else bif b.1 then bif x.2.1==0 then some (.done (.inl false))else some (.next c)else some (.next c)else some (.done (.inr ()))
def Od(x:AT):Option Bool:=(Aj (Vf x) 0).bind λa=>Sum.elim some (λb=>some true) a
def J1(b:Na)(x:Cc):Option Na:=(bif x.1 then some (len x.2)else some 255:Option Int).bind λa=>(OI (b,a,1)).bind λc=>(sapp c x.2).bind λd=>(Kf (([0]:List (UInt8)),(wi (12-len x.2)))).bind λe=>(sapp d e).bind λf=>some f
def ap(x:AT):Lp (Int×Na) Na:=λa=>bif a.1<16 then(GA x.2.2 a.1).bind λb=>(J1 a.2 b).bind λc=>some (.next (wi (a.1+1),c))else some (.done a.2)
def Gz(x:AT):Option (BY×Int):=(PM x).bind λa=>bif !a then some ([],1)else(Od x).bind λb=>bif !b then some ([],22)else(OI ([],x.2.1,8)).bind λc=>(OI (c,x.1,4)).bind λd=>(Aj (ap x) (0,d)).bind λe=>(Kf (([0]:List (UInt8)),(wi (244-len e)))).bind λf=>(sapp e f).bind λg=>(OJ g).bind λh=>(OI (g,(wi h),4)).bind λi=>(OI (i,x.2.1,8)).bind λj=>some (j,0)
def PL(x:BY):Option (AT×Int):=bif len x !=256 then some (p!,2)else(V5 ()).bind λa=>bif x==a then some (p!,7)else(RF x 0 8).bind λb=>(RF x 248 (len x)).bind λc=>bif b !=c then some (p!,27)else(RF x 0 244).bind λd=>(G0 (x,244,4)).bind λe=>(OJ d).bind λf=>bif e !=wi f then some (p!,3)else(VG x).bind λg=>(Gz g.1).bind λh=>bif !g.2 then some (p!,4)else bif h.2 !=0 then some (p!,4)else bif h.1 !=x then some (p!,4)else some (g.1,0)
def GM(x:BY×Int):Option (AT×Int):=(Gy x.2).bind λa=>bif !a then some (p!,1)else(PL x.1).bind λb=>bif b.2==7 then(Fj x.2).bind λc=>some (c,0)else bif b.2 !=0 then some (p!,b.2)else bif b.1.1 !=x.2 then some (p!,6)else some (b.1,0)
def an(x:BN):Lp Int (Bool ⊕ Unit):=λa=>bif a<len x.2.2 then(ix x.2.2 a).bind λb=>letI f:=(GM (b.2.2,b.1));bif b.1>=x.2.1 then some (.done (.inl false))else bif a>0 then(ix x.2.2 (wi (a-1))).bind λc=>bif c.1>=b.1 then some (.done (.inl false))else f.bind λd=>bif d.2 !=0 then some (.done (.inl false))else bif d.1.2.1 !=b.2.1 then some (.done (.inl false))else some (.next (wi (a+1)))else f.bind λe=>bif e.2 !=0 then some (.done (.inl false))else bif e.1.2.1 !=b.2.1 then some (.done (.inl false))else some (.next (wi (a+1)))else some (.done (.inr ()))
def RX(x:BN):Option Bool:=bif x.1<1 then some false else bif x.1>1073741824 then some false else bif x.2.1<1 then some false else bif x.2.1>64 then some false else bif len x.2.2>x.2.1 then some false else(Aj (an x) 0).bind λa=>Sum.elim some (λb=>some true) a
def U0(x:BN):Option Bool:=(RX x).bind λa=>bif a then some (len x.2.2==x.2.1)else some false
def MY(x:AJ×Af):Option Int:=(It x.1).bind λa=>bif !a then some 54 else(L6 x.2).bind λb=>bif !b then some 26 else some 0
def Kq(x:AT×Dd):Option (AT×Int):=letI g:=x.2.2;letI f:=(GA x.1.2.2 g.1);(Nl x.2).bind λa=>bif !a then some (p!,22)else bif x.2.1 !=x.1.1 then some (p!,6)else f.bind λb=>f.bind λc=>bif !((c.1==g.2.1.1)&&((c.2==g.2.1.2)&&true))then some (p!,20)else f.bind λd=>f.bind λe=>some ((x.1.1,x.1.2.1,(T2 x.1.2.2 g.1 g.2.2)),0)
def KZ(x:AT×AE):Option (AT×Int):=letI e:=x.2.2.2.2.2;(GK x.2).bind λa=>bif !a then some (p!,12)else(BF x.2).bind λb=>bif !b then some (p!,12)else(Gz x.1).bind λc=>bif c.2 !=0 then some (p!,c.2)else bif e.2.2.1.1 !=x.1.1 then some (p!,6)else bif e.1 !=x.1.2.1 then some (p!,13)else(Kq (x.1,e.2.2.1)).bind λd=>bif d.2 !=0 then some (p!,d.2)else some ((d.1.1,x.2.1,d.1.2.2),0)
def Pp(x:AT×(List AE)):Lp (Int×AT×AT) ((Int×AT)⊕ (AT×AT)):=λa=>bif a.1<len x.2 then(ix x.2 a.1).bind λb=>bif b.1<=a.2.1.2.1 then some (.next (wi (a.1+1),a.2))else(KZ (a.2.1,b)).bind λc=>bif c.2 !=0 then some (.done (.inl (c.2,0,0,(Hf.all (false,[])))))else some (.next (wi (a.1+1),c.1,a.2.2))else some (.done (.inr a.2))
def K4(x:AT×(List AE)):Option (AT×Int):=(Aj (Pp x) (0,x.1,0,0,(Hf.all (false,[])))).bind λa=>Sum.elim (λb=>some (b.2,b.1)) (λc=>some (c.1,0)) a
def K3(x:AT×AJ×Af×Int):Option (AT×Int):=letI e:=x.2.2;(MY (x.2.1,e.1)).bind λa=>bif a !=0 then some (p!,a)else(Gz x.1).bind λb=>bif b.2 !=0 then some (p!,b.2)else bif x.1.2.1>e.2 then some (p!,9)else(Ep (x.2.1,e.1,x.1.1,x.1.2.1,e.2)).bind λc=>bif c.2 !=0 then some (p!,c.2)else(K4 (x.1,c.1)).bind λd=>some d
def OC(x:Cr×AJ×Af×Int):Option (Cr×Int):=(GM (x.1.2.2,x.1.1)).bind λa=>bif a.2 !=0 then some ((0,0,[]),a.2)else(K3 (a.1,x.2)).bind λb=>bif b.2 !=0 then some (x.1,b.2)else bif b.1.2.1==0 then some (x.1,b.2)else(Gz b.1).bind λc=>some ((x.1.1,b.1.2.1,c.1),c.2)
def Po(x:BN×AJ×Af×Int×Int):Lp (Int×(List Cr)×Int×Int×Int) (((List Cr)×Int×Int×Int)⊕ ((List Cr)×Int×Int×Int)):=λa=>bif a.1<len x.1.2.2 then(ix x.1.2.2 a.1).bind λb=>(OC (b,x.2.1,x.2.2.1,x.2.2.2.2)).bind λc=>bif c.2 !=0 then some (.done (.inl (a.2.1,a.2.2.1,a.2.2.2.1,c.2)))else(app a.2.1 ([c.1]:List (Int×Int×BY))).bind λd=>some (.next (wi (a.1+1),d,a.2.2))else some (.done (.inr a.2))
def H4(x:BN×AJ×Af×Int×Int):Option (BN×Int):=letI f:=x.2.2;(U0 x.1).bind λa=>bif !a then some ((0,0,[]),43)else(MY (x.2.1,f.1)).bind λb=>bif b !=0 then bif b !=0 then some ((0,0,[]),b)else some ((0,0,[]),b)else bif f.2.1<1 then some ((0,0,[]),1)else bif f.2.1>1073741824 then some ((0,0,[]),1)else bif f.2.2<0 then some ((0,0,[]),1)else bif f.2.2>f.1.2.2 then some ((0,0,[]),1)else(Aj (Po x) (0,[],f.2.1,x.1.2.1,b)).bind λc=>Sum.elim (λd=>letI g:=d.2.2;bif g.2 !=0 then some ((0,0,[]),g.2)else some ((d.2.1,g.1,d.1),g.2)) (λe=>some ((e.2.1,e.2.2.1,e.1),0)) c
def Sp(x:Int×Int):Lp (Int×(List Cr)×Int×Int) ((List Cr)×Int×Int):=λa=>bif a.1<x.2 then(IU ()).bind λb=>(app a.2.1 ([(a.1,0,b)]:List (Int×Int×BY))).bind λc=>some (.next (wi (a.1+1),c,a.2.2))else some (.done a.2)
def FE(x:Int×Int):Option BN:=(Aj (Sp x) (0,[],x)).bind λa=>some (a.2.1,a.2.2,a.1)
def IT(x:Unit):Option Bool:=(FE (1,2)).bind λa=>(Gf ()).bind λb=>(KE ([],0) (2,b)).bind λc=>(Gf ()).bind λd=>(H4 (a,c.1,d,2,0)).bind λe=>bif e.2==0 then bif e.1.1==2 then some (len e.1.2.2==2)else some false else some false
def S8(x:BN×BN):Lp Int (Bool ⊕ Unit):=λa=>bif a<len x.1.2.2 then(ix x.1.2.2 a).bind λb=>(ix x.2.2.2 a).bind λc=>bif !((b.1==c.1)&&((b.2.1==c.2.1)&&((b.2.2==c.2.2)&&true)))then some (.done (.inl false))else some (.next (wi (a+1)))else some (.done (.inr ()))
def JK(x:BN×BN):Option Bool:=bif x.1.1 !=x.2.1 then some false else bif x.1.2.1 !=x.2.2.1 then some false else bif len x.1.2.2 !=len x.2.2.2 then some false else(Aj (S8 x) 0).bind λa=>Sum.elim some (λb=>some true) a
end
noncomputable section
abbrev Hg:Type:=(List AS)×(List Int)×Af
def OP:Ty:=.prod (.cons (.list Bc) (.cons (.list (.int .i64)) (.one Bt)))
def Rs(x:BN):Lp Int (Bool ⊕ Unit):=λa=>bif a<len x.2.2 then(ix x.2.2 a).bind λb=>letI f:=(Ci (b.2.2,b.1));bif b.1<0 then some (.done (.inl false))else bif b.1>=x.2.1 then some (.done (.inl false))else bif a>0 then(ix x.2.2 (wi (a-1))).bind λc=>bif c.1>=b.1 then some (.done (.inl false))else f.bind λd=>bif d.2 !=0 then some (.done (.inl false))else bif d.1.2.1 !=b.2.1 then some (.done (.inl false))else some (.next (wi (a+1)))else f.bind λe=>bif e.2 !=0 then some (.done (.inl false))else bif e.1.2.1 !=b.2.1 then some (.done (.inl false))else some (.next (wi (a+1)))else some (.done (.inr ()))
def EB(x:BN):Option Bool:=bif x.1<1 then some false else bif x.1>1073741824 then some false else bif x.2.1<1 then some false else bif x.2.1>64 then some false else(Aj (Rs x) 0).bind λa=>Sum.elim some (λb=>some true) a
def Q8(x:BN):Lp (BY×Int) BY:=λa=>letI h:=(ix x.2.2 a.2);bif a.2<len x.2.2 then h.bind λb=>h.bind λc=>(Ak ([],b.1,2)).bind λd=>(sapp d c.2.2).bind λe=>(DT e).bind λf=>(sapp a.1 f).bind λg=>some (.next (g,(wi (a.2+1))))else some (.done a.1)
def Hz(x:BN):Option (BY×Int):=(EB x).bind λa=>bif !a then some ([],43)else(Ak (([80,77,73,77]:List (UInt8)),x.1,4)).bind λb=>(Ak (b,x.2.1,2)).bind λc=>(Ak (c,(len x.2.2),2)).bind λd=>(DT d).bind λe=>(Aj (Q8 x) (e,0)).bind λf=>some (f,0)
def J2(x:BN):Option BG:=(Hz x).bind λa=>some (2,x.1,a.1)
def Ie(x:BN):Option Bool:=(EB x).bind λa=>bif a then some (len x.2.2==x.2.1)else some false
def S7(x:BN×Int):Lp (Int×Cr) ((Bool×Cr)⊕ Cr):=λa=>letI e:=(ix x.1.2.2 a.1);bif a.1<len x.1.2.2 then(EB x.1).bind λb=>bif b then e.bind λc=>bif c.1==x.2 then e.bind λd=>some (.done (.inl (true,d)))else some (.next (wi (a.1+1),a.2))else some (.done (.inr a.2))else some (.done (.inr a.2))
def MW(x:BN×Int):Option (Cr×Bool):=(Aj (S7 x) (0,0,0,[])).bind λa=>Sum.elim (λb=>some (b.2,b.1)) (λc=>some ((0,0,[]),false)) a
def JJ(x:BN×Int):Option (AT×Int):=(EB x.1).bind λa=>bif !a then some (p!,43)else(MW x).bind λb=>bif !b.2 then some (p!,44)else(Ci (b.1.2.2,x.2)).bind λc=>some c
def Gv(x:AJ×Af×Int×Int×Int):Option Int:=letI c:=x.2.2;(C5 x.1).bind λa=>bif !a then some 54 else(B6 x.2.1).bind λb=>bif !b then some 26 else bif c.1<0 then some 1 else bif c.1>=x.1.2.1 then some 1 else bif c.2.1<0 then some 1 else bif c.2.1>c.2.2 then some 1 else some 0
def S2(x:AJ×Int):Lp Int Int:=λa=>bif wi (a+1)<len x.1.1 then(ix x.1.1 (wi (a+1))).bind λb=>bif b<=x.2 then some (.next (wi (a+1)))else some (.done a)else some (.done a)
def QO(x:AJ×Int):Option (Int×Int×Bool):=(C5 x.1).bind λa=>bif !a then some (0,0,false)else bif x.2<0 then some (0,0,false)else bif x.2>=x.1.2.1 then some (0,0,false)else(Aj (S2 x) 0).bind λb=>(El (x.1,b)).bind λc=>some (c.1,c.2,true)
def QP(x:AJ):Option ((List AS)×(List Int)):=(Fu x).bind λa=>some (a.1,a.2.1)
def Pn(a:Int×Int×Bool)(b:(List AS)×(List Int)):Lp (Int×(List AS)×(List Int)×Af) ((List AS)×(List Int)×Af):=λc=>bif c.1<len b.1 then(ix b.1 c.1).bind λd=>(bif d.2.2.1==a.1 then(ix b.1 c.1).bind λe=>(ix b.2 c.1).bind λf=>(app c.2.1 ([e]:List (Int×Int×Int×Int×Int×(List (Int×Int×Int×Int×Int×Int×(Int×Int×(Bool×BY)×Bool×BY)×BY))))).bind λg=>(app c.2.2.1 ([f]:List Int)).bind λh=>some (g,h,c.2.2.2)else some c.2:Option ((List AS)×(List Int)×Af)).bind λi=>some (.next (wi (c.1+1),i))else some (.done c.2)
def NC(x:AJ×Af×Int):Option Hg:=(QO (x.1,x.2.2)).bind λa=>(QP x.1).bind λb=>(Aj (Pn a b) (0,[],[],x.2.1)).bind λc=>some c
def Ic(x:Af×Int):Option Bool:=bif x.2>=x.1.1 then some (decide (x.2<(wi (x.1.1+len x.1.2.1))))else some false
def S6(x:Hg×Int):Lp (Int×Int) Int:=λa=>letI f:=(ix x.1.1 a.2);bif a.2<len x.1.1 then f.bind λb=>bif b.1<=x.2 then f.bind λc=>(bif x.2<=c.2.1 then f.bind λd=>some (if(d.2.1>a.1)then d.2.1 else a.1)else some a.1:Option Int).bind λe=>some (.next (e,(wi (a.2+1))))else some (.next (a.1,(wi (a.2+1))))else some (.done a.1)
def QR(x:Hg×Int):Option Int:=letI e:=x.1.2.2;letI d:=(wi ((wi (e.1+len e.2.1))-1));(Aj (S6 x) (wi (x.2-1),0)).bind λa=>(Ic (e,x.2)).bind λb=>(bif b then some (if(d>a)then d else a)else some a:Option Int).bind λc=>some c
def K2(x:Hg×Int×Int):Lp Int (Bool ⊕ Unit):=λa=>bif a<x.2.2 then(QR (x.1,(wi (a+1)))).bind λb=>bif b==a then some (.done (.inl false))else some (.next b)else some (.done (.inr ()))
def Jl(x:Hg×Int×Int):Option Bool:=(Aj (K2 x) x.2.1).bind λa=>Sum.elim some (λb=>some true) a
def Q3(x:AS×Int):Lp (Int×(List AE)) (List AE):=letI f:=x.1.2.2.2.2.2;λa=>bif a.1<len f then(ix f a.1).bind λb=>(bif b.2.2.2.2.2.2.1.1==x.2 then(ix f a.1).bind λc=>(app a.2 ([c]:List (Int×Int×Int×Int×Int×Int×(Int×Int×(Bool×BY)×Bool×BY)×BY))).bind λd=>some d else some a.2:Option (List AE)).bind λe=>some (.next (wi (a.1+1),e))else some (.done a.2)
def Oy(x:AS×Int):Option (List AE):=(EA x.1).bind λa=>bif !a then some []else(Aj (Q3 x) (0,[])).bind λb=>some b
def KX(x:(List AS)×Int×Int×Int)(a:List AE):Lp ((List AE)×Int) (List AE):=λb=>letI h:=(ix a b.2);bif b.2<len a then h.bind λc=>bif c.1>x.2.2.1 then h.bind λd=>(bif d.1<=x.2.2.2 then h.bind λe=>(CZ (b.1,e)).bind λf=>some f.1 else some b.1:Option (List AE)).bind λg=>some (.next (g,(wi (b.2+1))))else some (.next (b.1,(wi (b.2+1))))else some (.done b.1)
def KW(x:(List AS)×Int×Int×Int):Lp ((List AE)×Int) (List AE):=λa=>bif a.2<len x.1 then(ix x.1 a.2).bind λb=>(Oy (b,x.2.1)).bind λc=>(Aj (KX x c) (a.1,0)).bind λd=>some (.next (d,(wi (a.2+1))))else some (.done a.1)
def I9(x:(List AS)×Int×Int×Int):Option (List AE):=(Aj (KW x) ([],0)).bind λa=>some a
def Q6(x:Af×Int×Int×Int):Lp (Int×(List AE)) (List AE):=λa=>letI f:=(wi (a.1+1),a.2);bif a.1<len x.1.2.1 then(ix x.1.2.1 a.1).bind λb=>(BF b).bind λc=>bif c then bif b.2.2.2.2.2.2.1.1==x.2.1 then bif b.1>x.2.2.1 then(bif b.1<=x.2.2.2 then(app a.2 ([b]:List (Int×Int×Int×Int×Int×Int×(Int×Int×(Bool×BY)×Bool×BY)×BY))).bind λd=>some d else some a.2:Option (List AE)).bind λe=>some (.next (wi (a.1+1),e))else some (.next f)else some (.next f)else some (.next f)else some (.done a.2)
def O0(x:Af×Int×Int×Int):Option (List AE):=(Aj (Q6 x) (0,[])).bind λa=>some a
def L4(x:(List AS)×Int):Lp Int (Int ⊕ Unit):=λa=>bif a<len x.1 then(ix x.1 a).bind λb=>bif b.1<=x.2 then(ix x.1 a).bind λc=>bif x.2<=c.2.1 then some (.done (.inl a))else some (.next (wi (a+1)))else some (.next (wi (a+1)))else some (.done (.inr ()))
def KY(x:(List AS)×Int):Option Int:=(Aj (L4 x) 0).bind λa=>Sum.elim some (λb=>some (-1)) a
def Oz(x:(List AE)×AE):Lp Int (Bool ⊕ Unit):=letI f:=x.2.2.2;letI c:=f.2.2.2;letI e:=c.2.1.2;λa=>bif a<len x.1 then(ix x.1 a).bind λb=>letI g:=b.2.2.2;letI d:=g.2.2.2;letI h:=d.1.2.2;bif (b.1==x.2.1)&&((b.2.1==x.2.2.1)&&((b.2.2.1==f.1)&&((g.1==f.2.1)&&((g.2.1==f.2.2.1)&&((g.2.2.1==c.1)&&((d.1.1==c.2.1.1)&&((d.1.2.1==e.1)&&((h.1.1==e.2.1.1)&&((h.1.2==e.2.1.2)&&((h.2.1==e.2.2.1)&&((h.2.2==e.2.2.2)&&((d.2==c.2.2)&&true))))))))))))then some (.done (.inl true))else some (.next (wi (a+1)))else some (.done (.inr ()))
def IC(x:(List AE)×AE):Option Bool:=(Aj (Oz x) 0).bind λa=>Sum.elim some (λb=>some false) a
def NA(x:(List AS)×Af×(List AE)×(List AE)):Lp ((List AE)×Int) (((List AE)×Bool)⊕ (List AE)):=λa=>letI j:=(ix x.2.2.2 a.2);bif a.2<len x.2.2.2 then j.bind λb=>(KY (x.1,b.1)).bind λc=>bif c>=0 then j.bind λd=>(IC (x.2.2.1,d)).bind λe=>bif !e then some (.done (.inl ([],false)))else j.bind λf=>(CZ (a.1,f)).bind λg=>some (.next (g.1,(wi (a.2+1))))else j.bind λh=>(CZ (a.1,h)).bind λi=>some (.next (i.1,(wi (a.2+1))))else some (.done (.inr a.1))
def NB(x:(List AS)×Af×(List AE)×(List AE)):Lp Int (((List AE)×Bool)⊕ Unit):=λa=>letI f:=(ix x.2.2.1 a);bif a<len x.2.2.1 then f.bind λb=>(Ic (x.2.1,b.1)).bind λc=>bif c then f.bind λd=>(IC (x.2.2.2,d)).bind λe=>bif !e then some (.done (.inl ([],false)))else some (.next (wi (a+1)))else some (.next (wi (a+1)))else some (.done (.inr ()))
def Lh(x:(List AS)×Af×(List AE)×(List AE)):Option ((List AE)×Bool):=(app [] x.2.2.1).bind λa=>(Aj (NA x) (a,0)).bind λb=>Sum.elim some (λc=>(Aj (NB x) 0).bind λd=>Sum.elim some (λe=>some (c,true)) d) b
def PX(x:AJ×Af×Int×Int×Int)(a:(List AE)×Bool):Lp Int (((List AE)×Int)⊕ Unit):=λb=>letI j:=(ix a.1 (wi (b-1)));letI i:=(ix a.1 b);letI h:=(wi (b+1));bif b<len a.1 then bif b==0 then i.bind λc=>bif c.2.2.2.2.1>x.2.2.2.1 then some (.done (.inl ([],13)))else bif b>0 then i.bind λd=>j.bind λe=>bif d.2.2.2.2.1 !=e.1 then some (.done (.inl ([],13)))else some (.next h)else some (.next h)else bif b>0 then i.bind λf=>j.bind λg=>bif f.2.2.2.2.1 !=g.1 then some (.done (.inl ([],13)))else some (.next h)else some (.next h)else some (.done (.inr ()))
def Ee(x:AJ×Af×Int×Int×Int):Option ((List AE)×Int):=(Gv x).bind λa=>bif a !=0 then some ([],a)else(NC (x.1,x.2.1,x.2.2.1)).bind λb=>(Jl (b,x.2.2.2)).bind λc=>bif !c then some ([],42)else(I9 (b.1,x.2.2)).bind λd=>(O0 x.2).bind λe=>(Lh (b.1,x.2.1,d,e)).bind λf=>bif !f.2 then some ([],41)else(Aj (PX x f) 0).bind λg=>Sum.elim some (λh=>some (f.1,0)) g
def Jn(x:AT×(List AE)):Lp (Int×AT×AT) ((Int×AT)⊕ (AT×AT)):=λa=>bif a.1<len x.2 then(ix x.2 a.1).bind λb=>bif b.1<=a.2.1.2.1 then some (.next (wi (a.1+1),a.2))else(ix x.2 a.1).bind λc=>(Ft (a.2.1,c)).bind λd=>bif d.2 !=0 then some (.done (.inl (d.2,0,0,(Hf.all (false,[])))))else some (.next (wi (a.1+1),d.1,a.2.2))else some (.done (.inr a.2))
def GJ(x:AT×(List AE)):Option (AT×Int):=(Aj (Jn x) (0,x.1,0,0,(Hf.all (false,[])))).bind λa=>Sum.elim (λb=>some (b.2,b.1)) (λc=>some (c.1,0)) a
def HW(x:AT×AJ×Af×Int):Option (AT×Int):=letI f:=x.2.2;(C5 x.2.1).bind λa=>bif !a then some (p!,54)else(B6 f.1).bind λb=>bif !b then some (p!,26)else(CY x.1).bind λc=>bif c.2 !=0 then some (p!,c.2)else bif x.1.2.1>f.2 then some (p!,9)else(Ee (x.2.1,f.1,x.1.1,x.1.2.1,f.2)).bind λd=>bif d.2 !=0 then some (p!,d.2)else(GJ (x.1,d.1)).bind λe=>some e
def Jm(x:BN×AJ×Af×Int×Int):Lp (Int×(List Cr)×Int×Int×BN) ((Int×BN)⊕ ((List Cr)×Int×Int×BN)):=λa=>bif a.1<len x.1.2.2 then(ix x.1.2.2 a.1).bind λb=>(JJ (x.1,b.1)).bind λc=>(HW (c.1,x.2.1,x.2.2.1,x.2.2.2.2)).bind λd=>bif d.2 !=0 then some (.done (.inl (d.2,0,0,[])))else(bif d.1.2.1>0 then(CY d.1).bind λe=>some (d.1.1,d.1.2.1,e.1)else some b:Option Cr).bind λf=>(app a.2.1 ([f]:List (Int×Int×BY))).bind λg=>some (.next (wi (a.1+1),g,a.2.2))else some (.done (.inr a.2))
def GI(x:BN×AJ×Af×Int×Int):Option (BN×Int):=letI g:=x.2.2;(Ie x.1).bind λa=>bif !a then some ((0,0,[]),43)else(C5 x.2.1).bind λb=>bif !b then some ((0,0,[]),54)else(B6 g.1).bind λc=>bif !c then some ((0,0,[]),26)else bif g.2.1<1 then some ((0,0,[]),1)else bif g.2.1>1073741824 then some ((0,0,[]),1)else bif g.2.2<0 then some ((0,0,[]),1)else bif g.2.2>g.1.2.2 then some ((0,0,[]),1)else(Aj (Jm x) (0,[],g.2.1,x.1.2.1,0,0,[])).bind λd=>Sum.elim (λe=>some (e.2,e.1)) (λf=>some ((f.2.1,f.2.2.1,f.1),0)) d
def RZ(x:Int×AJ×Af):Lp (Int×Int×(List BG)×AK×BN) ((List BG)×AK×BN):=λa=>letI g:=a.2.2;(Ad g.2.1 3).bind λb=>bif a.2.1<wi (2+b.1)then(Ad b.2 (wi (wi (x.2.2.2.2-a.1)+1))).bind λc=>(GI (g.2.2,x.2.1,x.2.2,a.2.1,(wi (a.1+c.1)))).bind λd=>bif d.2 !=0 then some (.done (g.1,c.2,g.2.2))else(J2 d.1).bind λe=>(app g.1 ([e]:List (Int×Int×BY))).bind λf=>some (.next (wi (a.1+c.1),(wi (a.2.1+1)),f,c.2,d.1))else some (.done (g.1,b.2,g.2.2))
def LF(b:AK)(x:Int×AJ×Af):Option ((List BG)×AK):=(FE (1,x.1)).bind λa=>(Ad b 3).bind λc=>(bif c.1>0 then(J2 a).bind λd=>some ([]++([d]:List (Int×Int×BY)))else some []:Option (List BG)).bind λe=>(Aj (RZ x) (0,2,e,c.2,a)).bind λf=>some (f.1,f.2.1)
def Q7(x:BY)(a:Int):Lp (Int×Int×(List Cr)×Int×Int×BN) ((Int×BN)⊕ (Int×(List Cr)×Int×Int×BN)):=λb=>bif b.2.1<a then(BZ (x,b.1)).bind λc=>bif c.2.2 !=0 then some (.done (.inl (c.2.2,0,0,[])))else bif len c.1 !=258 then some (.done (.inl (4,0,0,[])))else(RF c.1 2 (len c.1)).bind λd=>(BX (c.1,0,2)).bind λe=>(Ci (d,e)).bind λf=>(app b.2.2.1 ([(e,f.1.2.1,d)]:List (Int×Int×BY))).bind λg=>some (.next (c.2.1,(wi (b.2.1+1)),g,b.2.2.2))else some (.done (.inr (b.1,b.2.2)))
def Hy(x:BY):Option (BN×Int):=(BZ (x,0)).bind λa=>bif a.2.2 !=0 then some ((0,0,[]),a.2.2)else bif len a.1 !=12 then some ((0,0,[]),4)else(RF a.1 0 4).bind λb=>bif b !=([80,77,73,77]:List (UInt8))then some ((0,0,[]),4)else(BX (a.1,4,4)).bind λc=>(BX (a.1,8,2)).bind λd=>(BX (a.1,10,2)).bind λe=>bif e>64 then some ((0,0,[]),4)else(Aj (Q7 x e) (a.2.1,0,[],c,d,0,0,[])).bind λf=>Sum.elim (λg=>some (g.2,g.1)) (λh=>letI j:=(h.2.2.1,h.2.2.2.1,h.2.1);bif h.1 !=len x then some ((0,0,[]),4)else(EB j).bind λi=>bif !i then some ((0,0,[]),43)else some (j,0)) f
def RD(x:List BG)(a:(List BN)×Int):Lp (Bool×Int) Bool:=λb=>letI f:=(wi (b.2+1));bif b.2<a.2 then bif b.1 then(ix x b.2).bind λc=>bif c.1 !=2 then some (.next (true,f))else(ix x b.2).bind λd=>(ix x a.2).bind λe=>some (.next ((d.2.1 !=e.2.1),f))else some (.next (false,f))else some (.done b.1)
def RE(a:(List BN)×Int)(b:BN×Int):Lp Int Int:=λc=>bif c>0 then(ix a.1 (wi (c-1))).bind λd=>bif d.1>b.1.1 then some (.next (wi (c-1)))else some (.done c)else some (.done c)
def Q9(x:List BG):Lp ((List BN)×Int) (List BN):=λa=>letI o:=(ix x a.2);letI l:=(a.1,(wi (a.2+1)));bif a.2<len x then o.bind λb=>(Aj (RD x a) ((b.1==2),0)).bind λc=>bif !c then some (.next l)else o.bind λd=>(Hy d.2.2).bind λe=>bif e.2 !=0 then some (.next l)else(Ie e.1).bind λf=>bif !f then some (.next l)else o.bind λg=>bif e.1.1 !=g.2.1 then some (.next l)else(Aj (RE a e) (len a.1)).bind λh=>(X8 a.1 0 h).bind λi=>(X8 a.1 h (len a.1)).bind λj=>(app [] i).bind λk=>(app k ([e.1]:List (Int×Int×(List (Int×Int×BY))))).bind λm=>(app m j).bind λn=>some (.next (n,(wi (a.2+1))))else some (.done a.1)
def Tt(x:List BG):Option (List BN):=(Aj (Q9 x) ([],0)).bind λa=>some a
def Oe(x:List BG):Option (List BN):=(Tt x).bind λa=>some a
end
noncomputable section

end
noncomputable section
def LC(b:AK)(x:Unit):Option (Int×AJ×Af×(List BG)×AK):=(Kt b 25).bind λa=>letI i:=a.2.1;(KE a.2.2 (a.1,i)).bind λc=>(LF c.2 (a.1,c.1,i)).bind λd=>(Ad d.2 2).bind λe=>(bif e.1==1 then(Ad e.2 c.1.2.2.2.1).bind λf=>(J4 (i,(wi (1+f.1)))).bind λg=>some (f.2,g.1)else some (e.2,i):Option (AK×Af)).bind λh=>some (a.1,c.1,h.2,d.1,h.1)
def Lm(b:AK)(x:Unit):Option (Cc×AK):=(Ad b 3).bind λa=>bif a.1==0 then some ((false,[]),a.2)else(FK a.2 ()).bind λc=>(RF c.1 0 (if(12<len c.1)then 12 else len c.1)).bind λd=>some ((true,d),c.2)
def Jw(b:AK)(x:AT):Option (AT×AK):=letI l:=x.2.2;(Ad b 4).bind λa=>(bif a.1==0 then(EY a.2 ()).bind λc=>some (c.2,c.1,x.2)else(bif a.1==1 then(EY a.2 ()).bind λd=>some (d.2,x.1,d.1,l)else(bif a.1==2 then(Ad a.2 16).bind λe=>(Ad e.2 2).bind λf=>(FK f.2 ()).bind λg=>(GA l e.1).bind λh=>(GA l e.1).bind λi=>some (g.2,x.1,x.2.1,(T2 l e.1 ((f.1==1),g.1)))else(bif a.1==3 then(Ad a.2 16).bind λj=>(Lm j.2 ()).bind λk=>(GA l j.1).bind λm=>(GA l j.1).bind λn=>some (k.2,x.1,x.2.1,(T2 l j.1 k.1))else some (a.2,x):Option (AK×AT)).bind λo=>some o:Option (AK×AT)).bind λp=>some p:Option (AK×AT)).bind λq=>some q:Option (AK×AT)).bind λr=>some (r.2,r.1)
def NI(x:(List Int)×Int×Int)(a:Int×AJ×Af×(List BG)×AK)(b:AK×BN)(c:AK×AJ)(d:Int):Lp Int (Bool ⊕ Unit):=λe=>bif e<len ([x.2.1,7]:List Int)then(ix ([x.2.1,7]:List Int) e).bind λf=>(ix ([x.2.1,7]:List Int) e).bind λg=>letI k:=(b.2,c.2,a.2.2.1,g,d);(H4 k).bind λh=>(GI k).bind λi=>bif h.2 !=i.2 then some (.done (.inl false))else(JK (h.1,i.1)).bind λj=>bif !j then some (.done (.inl false))else some (.next (wi (e+1)))else some (.done (.inr ()))
def NJ(a:Int×AJ×Af×(List BG)×AK)(b:AK×BN)(c:AK×AJ)(d:Int):Lp (Int×AK) (Bool ⊕ AK):=λe=>bif e.1<a.1 then(JJ (b.2,e.1)).bind λf=>(Ad e.2 3).bind λg=>(bif g.1==0 then(Jw g.2 f.1).bind λh=>some (h.2,h.1)else some (g.2,f.1):Option (AK×AT)).bind λi=>letI l:=(i.2,c.2,a.2.2.1,d);(K3 l).bind λj=>(HW l).bind λk=>bif j.2 !=k.2 then some (.done (.inl false))else bif !(ADK j.1 k.1)then some (.done (.inl false))else some (.next (wi (e.1+1),i.1))else some (.done (.inr e.2))
def NH(x:(List Int)×Int×Int)(a:Int×AJ×Af×(List BG)×AK)(b:AK×BN)(c:AK×AJ)(d:Int×AK):Lp (Int×AK) (Bool ⊕ AK):=λe=>bif e.1<len ([x.2.2,d.1,a.2.2.1.2.2]:List Int)then(ix ([x.2.2,d.1,a.2.2.1.2.2]:List Int) e.1).bind λf=>(Aj (NI x a b c f) 0).bind λg=>Sum.elim (λh=>some (.done (.inl h))) (λi=>(Aj (NJ a b c f) (0,e.2)).bind λj=>Sum.elim (λk=>some (.done (.inl k))) (λm=>some (.next (wi (e.1+1),m))) j) g else some (.done (.inr e.2))
def NK(a:Int×AJ×Af×(List BG)×AK)(b:AT):Lp (Int×(List AE)×AK) ((List AE)×AK):=λc=>letI q:=c.2.1;letI p:=(wi (c.1+1),c.2);letI l:=(ix a.2.2.1.2.1 c.1);bif c.1<len a.2.2.1.2.1 then l.bind λd=>bif d.2.2.2.2.2.2.1.1==b.1 then l.bind λe=>bif e.2.1==1 then(Ad c.2.2 9).bind λf=>(bif f.1>0 then l.bind λg=>(app q ([g]:List (Int×Int×Int×Int×Int×Int×(Int×Int×(Bool×BY)×Bool×BY)×BY))).bind λh=>some h else some q:Option (List AE)).bind λi=>some (.next (wi (c.1+1),i,f.2))else l.bind λj=>bif j.2.1==2 then(Ad c.2.2 9).bind λk=>(bif k.1>0 then l.bind λm=>(app q ([m]:List (Int×Int×Int×Int×Int×Int×(Int×Int×(Bool×BY)×Bool×BY)×BY))).bind λn=>some n else some q:Option (List AE)).bind λo=>some (.next (wi (c.1+1),o,k.2))else some (.next p)else some (.next p)else some (.done c.2)
def Jx(x:(List Int)×Int×Int):Option Bool:=(IT ()).bind λa=>bif !a then some false else(bif len x.1>500 then(X8 x.1 0 500).bind λb=>some b else some x.1:Option (List Int)).bind λc=>(LC (c,0) ()).bind λd=>letI s:=d.2.2;letI l:=d.2.1;(FE (1,d.1)).bind λe=>(Oe s.2.1).bind λf=>(bif len f>0 then(Ad s.2.2 (len f)).bind λg=>(ix f g.1).bind λh=>some (g.2,h)else some (s.2.2,e):Option (AK×BN)).bind λi=>(Ad i.1 4).bind λj=>(bif j.1==0 then(Fo j.2 l.2.2.1).bind λk=>some (k.2,l.1,l.2.1,k.1,l.2.2.2)else some (j.2,l):Option (AK×AJ)).bind λm=>(ER s.1).bind λn=>(Ad m.1 (wi (n+1))).bind λo=>(Aj (NH x d i m o) (0,o.2)).bind λp=>Sum.elim some (λq=>(Ad q d.1).bind λr=>(Fj r.1).bind λt=>(Aj (NK d t) (0,[],r.2)).bind λu=>(K4 (t,u.1)).bind λv=>(GJ (t,u.1)).bind λw=>bif v.2==w.2 then some (ADK v.1 w.1)else some false) p
end
def XW(c:BitVec 32):BitVec 32:=if c.getLsbD 0=true then(c>>>1)^^^2197175160#32 else c>>>1
def jq:Nat->BitVec 32->BitVec 32
 |0,c=>c
 |n+1,c=>XW (jq n c)
def fU(c:BitVec 32)(b:UInt8):BitVec 32:=jq 8 (c^^^BitVec.ofNat 32 b.toNat)
def ACj(s:BY):BitVec 32:=4294967295#32^^^s.foldl fU 4294967295#32
def O8(s:BY):Int:=((ACj s).toNat:Int)
def eL{a b:BitVec 32}(h:a^^^b=0#32):a=b:=t!
def zr(a b:BitVec 32):XW (a^^^b)=XW a^^^XW b:=by
 unfold XW;rw[BitVec.getLsbD_xor,BitVec.ushiftRight_xor_distrib];cases a.getLsbD 0<;>cases b.getLsbD 0<;>simp;grind;grind;have:a>>>1^^^2197175160#32^^^(b>>>1^^^2197175160#32)=(a>>>1^^^b>>>1)^^^(2197175160#32^^^2197175160#32):=by ac_rfl
 grind
theorem tV: ∀(n:Nat) (a b:BitVec 32),jq n (a^^^b)=jq n a^^^jq n b
 |0,a,b=>rfl
 |n+1,a,b=>by rw[jq,jq,jq,tV n,zr]
def xX{c:BitVec 32}(h:XW c=0#32):c=0#32:=by
 unfold XW at h;by_cases b:c.getLsbD 0=true;rw[if_pos b]at h;have a:(c>>>1).getLsbD 31=(2197175160#32).getLsbD 31:=by rw[(eL h)]
 rw[BitVec.getLsbD_ushiftRight]at a;simp_all;rw[if_neg b]at h;apply lg;intro i d;cases i with
 |zero=>grind
 |succ j=>
  have a:(c>>>1).getLsbD j=(0#32).getLsbD j:=by rw[h]
  grind
def vI: ∀(n:Nat) {c:BitVec 32},jq n c=0#32->c=0#32
 |0,c,h=>h
 |n+1,c,h=>vI n (xX h)
def yK{n:Nat}{a b:BitVec 32}(h:jq n a=jq n b):a=b:=by refine eL (vI n ?_);rw[tV,h,Zr]
def ACd{a b:BitVec 32}{x:UInt8}(h:fU a x=fU b x):a=b:=by have c:=yK h;simp_all
def ACe{a:BitVec 32}{x y:UInt8}(h:fU a x=fU a y):x=y:=by
 have:a^^^(a^^^BitVec.ofNat 32 x.toNat)=a^^^(a^^^BitVec.ofNat 32 y.toNat):=by rw[(yK h)]
 rw[<-gh,Zr,gi,<-gh,Zr,gi]at this;have b:=congrArg BitVec.toNat this;rw[Zq,Zq]at b;have c:=x.toNat_lt;have d:=y.toNat_lt;exact UInt8.toNat_inj.1 o!
def AA2: ∀(s:BY) {a b:BitVec 32},s.foldl fU a=s.foldl fU b->a=b
 |[],a,b,h=>h
 |x::r,a,b,h=>ACd (AA2 r h)
def ACk{u v:BY}{x y:UInt8}(h:O8 (u++x::v)=O8 (u++y::v)):x=y:=by
 unfold O8 at h;have a:ACj (u++x::v)=ACj (u++y::v):=BitVec.eq_of_toNat_eq o!;unfold ACj at a;rw[WU,WU,WV,WV]at a;have b: ∀p q:BitVec 32,4294967295#32^^^p=4294967295#32^^^q->p=q:=λp q c=>by
  have:4294967295#32^^^(4294967295#32^^^p)=4294967295#32^^^(4294967295#32^^^q):=by rw[c]
  rwa [<-gh,Zr,gi,<-gh,Zr,gi]at this
 exact ACe (AA2 v (b _ _ a))
def YG(s:BY):0<=O8 s/\O8 s<4294967296:=by unfold O8;omega
theorem bvI(c:BitVec 32):BitVec.ofInt 32 (c.toNat:Int)=c:=q!
theorem w32(c:BitVec 32):IntKind.wrap .u32 (c.toNat:Int)=(c.toNat:Int):=by rw[sY];omega
theorem fdN(c:BitVec 32)(k:Nat)(a:k<=32):Int.fdiv (c.toNat:Int) (2^(min (Int.toNat (k:Int)) 32))=((c>>>k).toNat:Int):=by rw[show min (Int.toNat (k:Int)) 32=k by omega,gl _ (by exact_mod_cast Bi (2^k)),BitVec.toNat_ushiftRight,Nat.shiftRight_eq_div_pow];grind
theorem fd1(c:BitVec 32):Int.fdiv (c.toNat:Int) (2^(min (Int.toNat 1) 32))=((c>>>1).toNat:Int):=by grind[fdN]
def fd4(c:BitVec 32):Int.fdiv (c.toNat:Int) (2^(min (Int.toNat 4) 32))=((c>>>4).toNat:Int):=by grind[fdN]
theorem ADD(c:BitVec 32):((IntKind.wrap .u32 (((BitVec.toNat ((BitVec.ofInt 32 (c.toNat:Int))&&&(BitVec.ofInt 32 1))):Nat):Int))==1)=c.getLsbD 0:=by grind[bvI,w32,BitVec.toNat_and,BitVec.ofInt]
def AD9(c:BitVec 32):(bif ((IntKind.wrap .u32 (((BitVec.toNat ((BitVec.ofInt 32 (c.toNat:Int))&&&(BitVec.ofInt 32 1))):Nat):Int))==1)then
     some (IntKind.wrap .u32 (((BitVec.toNat ((BitVec.ofInt 32 (Int.fdiv (c.toNat:Int) (2^(min (Int.toNat 1) 32))))^^^(BitVec.ofInt 32 2197175160))):Nat):Int))
    else
    some (Int.fdiv (c.toNat:Int) (2^(min (Int.toNat 1) 32))):Option Int)=some ((XW c).toNat:Int):=by grind[ADD,fd1,bvI,w32,XW]
def AFP(c:BitVec 32):Aj Ho ((c.toNat:Int),0)=some ((jq 8 c).toNat:Int):=by
 have key:As (Aj Ho ((c.toNat:Int),0)) λr=>r=((jq 8 c).toNat:Int):=by refine AV (λ(s:Int×Int)=>0<=s.2/\s.2<=8/\s.1=((jq s.2.toNat c).toNat:Int)) (λs=>(8-s.2).toNat) ⟨Ae _,d!,rfl⟩ ?_;rintro⟨g,a⟩ ⟨e,f,b⟩;dsimp only at e f b;subst b;refine AC (λd=>?_) (λd=>AB (by rw[show a.toNat=8 by omega]));rw[AD9,AD,Aa];refine AB ⟨⟨o!,o!,?_⟩,o!⟩;rw[show(a+1).toNat=a.toNat+1 by omega];rfl
 obtain⟨r,hr,rfl⟩:=key;exact hr
def AAe(c:BitVec 32)(b:UInt8):IntKind.wrap .u32 (((BitVec.toNat ((BitVec.ofInt 32 (c.toNat:Int))^^^(BitVec.ofInt 32 (IntKind.wrap .u32 (b.toNat:Int))))):Nat):Int)=((c^^^BitVec.ofNat 32 b.toNat).toNat:Int):=by grind[IntKind.wrap,sY,bvI,w32]
def ABx{x:BY}{i:Int}(a:0<=i)(c:i<x.length): ∃b:UInt8,six x i=some (b.toNat:Int)/\x.take (i+1).toNat=x.take i.toNat++[b]:=by obtain⟨k,rfl⟩:=EM a;refine⟨x[k],?_,?_⟩;grind[six];simp_all
def sh{x:BY}(h:x.length<=2199023255552):Er x=some (O8 x):=by
 have key:As (Aj (Hn x) (4294967295,0)) λr=>r=((x.foldl fU 4294967295#32).toNat:Int):=by refine AV (λ(s:Int×Int)=>0<=s.2/\s.2<=x.length/\s.1=(((x.take s.2.toNat).foldl fU 4294967295#32).toNat:Int)) (λs=>((x.length:Int)-s.2).toNat) ⟨Ae _,d!,rfl⟩ ?_;rintro⟨f,g⟩ ⟨c,e,d⟩;dsimp only at c e d;subst d;unfold Hn;simp only[len];refine AC (λa=>?_) (λa=>AB (by rw[BQ o!]));have⟨b,q1,q2⟩:=ABx c a;rw[q1,AD,AAe,AFP,AD,Aa];refine AB ⟨⟨o!,o!,?_⟩,o!⟩;rw[q2,WU];rfl
 obtain⟨r,hr,rfl⟩:=key;unfold Er;rw[hr,AD,bvI];rw[show(BitVec.ofInt 32 (if(false=true)then(-1)else(if(false=true)then((2^(32-1))-1)else((2^32)-1))))=4294967295#32 by decide,w32];rfl
def AGj{d:BitVec 32}(b:d.getLsbD 0=false)(c:d.getLsbD 1=false)(f:d.getLsbD 2=false)(g:d.getLsbD 3=false):jq 4 d=d>>>4:=by
 have st: ∀e:BitVec 32,e.getLsbD 0=false->XW e=e>>>1:=λe a=>by unfold XW;rw[if_neg (by rw[a];decide)]
 show XW (XW (XW (XW d)))=_;grind
def AEz(c:BitVec 32):(c>>>4)^^^jq 4 (c&&&15#32)=jq 4 c:=by
 have d:c=(c&&& ~~~15#32)^^^(c&&&15#32):=by apply lg;intro i a;rw[BitVec.getLsbD_xor,BitVec.getLsbD_and,BitVec.getLsbD_and,BitVec.getLsbD_not];grind
 have e:jq 4 (c&&& ~~~15#32)=c>>>4:=by
  have z: ∀i,i<4->(c&&& ~~~15#32).getLsbD i=false:=λi a=>by
   have:i=0\/i=1\/i=2\/i=3:=o!
   grind
  rw[AGj (z 0 g!) (z 1 g!) (z 2 g!) (z 3 g!)];apply lg;intro i a;have b:(15#32).getLsbD (4+i)=false:=by show(15#32).toNat.testBit (4+i)=false;grind
  grind
 grind[tV]
def AFL(c:BitVec 32):Aj LB ((c.toNat:Int),0)=some ((jq 4 c).toNat:Int):=by
 have key:As (Aj LB ((c.toNat:Int),0)) λr=>r=((jq 4 c).toNat:Int):=by refine AV (λ(s:Int×Int)=>0<=s.2/\s.2<=4/\s.1=((jq s.2.toNat c).toNat:Int)) (λs=>(4-s.2).toNat) ⟨Ae _,d!,rfl⟩ ?_;rintro⟨g,a⟩ ⟨e,f,b⟩;dsimp only at e f b;subst b;refine AC (λd=>?_) (λd=>AB (by rw[show a.toNat=4 by omega]));rw[AD9,AD,Aa];refine AB ⟨⟨o!,o!,?_⟩,o!⟩;rw[show(a+1).toNat=a.toNat+1 by omega];rfl
 obtain⟨r,hr,rfl⟩:=key;exact hr
def AAE(t:Fin (15+1)->(Ty.int IntKind.u32).D):Prop:= ∀j:Fin 16,t j=((jq 4 (BitVec.ofNat 32 j.val)).toNat:Int)
def AGF:As (Kr ()) AAE:=by refine AA (P:=AAE) ?_ λr hr=>AB hr;refine AV (λ(s:Int×(Fin (15+1)->(Ty.int IntKind.u32).D))=>0<=s.1/\s.1<=16/\ ∀j:Fin 16,(j.val:Int)<s.1->s.2 j=((jq 4 (BitVec.ofNat 32 j.val)).toNat:Int)) (λs=>(16-s.1).toNat) ⟨Ae _,g!,λj b=>absurd b d!⟩ ?_;rintro⟨h,i⟩ ⟨c,g,d⟩;refine AC (λa=>?_) (λa=>AB λj=>d j (by have:=j.isLt;omega));obtain⟨k,rfl⟩:=EM c;rw[(by grind[sY,BitVec.toNat_ofNat]:IntKind.wrap .u32 (k:Int)=((BitVec.ofNat 32 k).toNat:Int)),AFL,AD];refine AA (CM o! o!) λl e=>AA (CM o! o!) λm f=>AB ?_;grind[Aa,T2]
def AB5{t:Fin (15+1)->(Ty.int IntKind.u32).D}(b:AAE t)(c:BitVec 32):GA t (IntKind.wrap .u32 (((BitVec.toNat ((BitVec.ofInt 32 (c.toNat:Int))&&&(BitVec.ofInt 32 15))):Nat):Int))=some ((jq 4 (c&&&15#32)).toNat:Int):=by
 rw[bvI,show BitVec.ofInt 32 15=15#32 by decide,w32];have a:(c&&&15#32).toNat<16:=by exact Nat.lt_succ_of_le Nat.and_le_right
 unfold GA;rw[dif_pos o!];refine congrArg some ((b ⟨(c&&&15#32).toNat,a⟩).trans ?_);grind
def AF0(c:BitVec 32):IntKind.wrap .u32 (((BitVec.toNat ((BitVec.ofInt 32 (Int.fdiv (c.toNat:Int) (2^(min (Int.toNat 4) 32))))^^^(BitVec.ofInt 32 ((jq 4 (c&&&15#32)).toNat:Int)))):Nat):Int)=((jq 4 c).toNat:Int):=by rw[fd4,bvI,bvI,AEz,w32]
def yJ: ∀(m n:Nat) (c:BitVec 32),jq m (jq n c)=jq (m+n) c
 |0,n,c=>by rw[jq,EL]
 |m+1,n,c=>by rw[jq,yJ m n,Nat.succ_add];rfl
def tk{x:BY}(h:x.length<=2199023255552):OJ x=some (O8 x):=by
 unfold OJ;have⟨t,f,a⟩:=AGF;rw[f,AD];have key:As (Aj (Tg x t) (4294967295,0)) λr=>r=((x.foldl fU 4294967295#32).toNat:Int):=by refine AV (λ(s:Int×Int)=>0<=s.2/\s.2<=x.length/\s.1=(((x.take s.2.toNat).foldl fU 4294967295#32).toNat:Int)) (λs=>((x.length:Int)-s.2).toNat) ⟨Ae _,d!,rfl⟩ ?_;rintro⟨i,j⟩ ⟨d,g,e⟩;dsimp only at d g e;subst e;unfold Tg;simp only[len];refine AC (λc=>?_) (λc=>AB (by rw[BQ o!]));have⟨b,q1,q2⟩:=ABx d c;rw[q1,AD,AAe,AB5 a,AD,AD,AF0,AB5 a,AD,AD,AF0,Aa];refine AB ⟨⟨o!,o!,?_⟩,o!⟩;rw[q2,WU,yJ];rfl
 obtain⟨r,hr,rfl⟩:=key;rw[hr,AD,bvI];rw[show(BitVec.ofInt 32 (if(false=true)then(-1)else(if(false=true)then((2^(32-1))-1)else((2^32)-1))))=4294967295#32 by decide,w32];rfl
def HM(p:BY):BY:=C8 (p.length:Int) 4++(p++C8 (O8 (C8 (p.length:Int) 4++p)) 4)
theorem Ef(p:BY):(HM p).length=p.length+8:=by grind[HM,List.length_append,A0]
theorem Zj{p:BY}(h:p.length<=8392):DT p=some (HM p):=by
 unfold DT;simp only[len];rw[decide_eq_false o!,cond_false,Ha k! g! g!,AD,By];have b:(C8 (p.length:Int) 4++p).length=p.length+4:=by grind[List.length_append,A0]
 rw[(by grind[sapp,A0]:sapp (C8 (p.length:Int) (Int.toNat 4)) p=some (C8 (p.length:Int) 4++p)),AD,sh o!,AD];have a:=YG (C8 (p.length:Int) 4++p);rw[Aa,Ha o! g! g!,AD,A2];rfl
def UF(al:Nat)(t:BY):BY×Int×Int:=
 if t.length<4 then([],0,5)else
 if rd (t.take 4)>8392 then([],0,2)else
 if(t.length:Int)<rd (t.take 4)+8 then([],0,5)else
 if rd ((t.drop (4+(rd (t.take 4)).toNat)).take 4)≠O8 (t.take (4+(rd (t.take 4)).toNat))then([],0,3)else
 ((t.drop 4).take (rd (t.take 4)).toNat,(al:Int)+8+rd (t.take 4),0)
def rd4{t:BY}(h:4<=t.length):0<=rd (t.take 4)/\rd (t.take 4)<4294967296:=by
 have a:(t.take 4).length=4:=by rw[BR];omega
 have:=(xK (l:=t.take 4) o!).1 o!;rw[a]at this;exact this
theorem R6{a t:BY}(h:(a.length:Int)+t.length<=2199023255552):BZ (a++t,(a.length:Int))=some (UF a.length t):=by
 have b:len (a++t)=(a.length:Int)+t.length:=by grind[List.length_append]
 have o:((a++t).length:Int)=(a.length:Int)+t.length:=b;unfold BZ UF;dsimp only;rw[decide_eq_false o!,cond_false,decide_eq_false o!,cond_false,fQ h g! g!];by_cases g:t.length<4;rw[if_neg o!,if_pos g];rfl;rw[if_pos o!,if_neg g,AD,show Int.toNat 4=4 from rfl];have⟨p,u⟩:=rd4 (t:=t) o!;generalize hn:rd (t.take 4)=n at*;obtain⟨m,rfl⟩:=EM p;rw[show((0:Int) !=0)=false by decide,cond_false];by_cases d:(m:Int)>8392;rw[decide_eq_true d,cond_true,if_pos d];rw[decide_eq_false d,cond_false,if_neg d,b,Aa,Aa];by_cases i:(t.length:Int)<(m:Int)+8;rw[decide_eq_true o!,cond_true,if_pos i];rw[decide_eq_false o!,cond_false,if_neg i,Dl];have f:wi (wi ((a.length:Int)+4)+(m:Int))=((a++t.take (4+m)).length:Int):=by rw[Aa (x:=(a.length:Int)+4),Aa,Ag,BR];omega
 have j:a++t=(a++t.take (4+m))++t.drop (4+m):=by rw[A2,Di]
 have s:((t.drop (4+m)).length:Int)=t.length-(4+m):=by rw[FJ];omega
 have c:((a++t.take (4+m)).length:Int)=a.length+4+m:=by rw[Ag,BR];omega
 have l:Ay (a++t,(wi (wi ((a.length:Int)+4)+(m:Int)),4))=some (rd ((t.drop (4+m)).take 4),0):=by
  rw[f];conv=>lhs;rw[j]
  rw[fQ o! g! g!,if_pos o!];rfl
 have q:RF (a++t) (a.length:Int) (wi (wi ((a.length:Int)+4)+(m:Int)))=some (t.take (4+m)):=by unfold RF;rw[f,if_pos o!,c,Dl,QW,show((a.length:Int)+4+m).toNat-a.length=4+m by omega]
 have r:RF (a++t) (wi ((a.length:Int)+4)) (wi (wi ((a.length:Int)+4)+(m:Int)))=some ((t.drop 4).take m):=by unfold RF;rw[f,Aa (x:=(a.length:Int)+4),if_pos o!,c,show((a.length:Int)+4).toNat=a.length+4 by omega,Zs,Uf o!,By,Wj,show((a.length:Int)+4+m).toNat-(a.length+4)=m by omega]
 rw[l,AD,q,AD,sh (by rw[BR];omega),AD,r];have⟨q1,q2⟩:=rd4 (t:=t.drop (4+m)) o!;have k:IntKind.wrap .u32 (rd ((t.drop (4+m)).take 4))=rd ((t.drop (4+m)).take 4):=by rw[sY];omega
 rw[k];by_cases e:rd ((t.drop (4+m)).take 4)=O8 (t.take (4+m));rw[if_neg (by simp[e]),e,bne_self_eq_false,cond_false,AD,Aa (x:=(a.length:Int)+8),Aa];rw[if_pos e,bne_iff_ne.2 e,cond_true]
theorem ABU{x:BY}{i:Int}(a:0<=i)(h:i>x.length):CU (x,(i,4))=some (0,5):=by grind[CU]
theorem YR{a t:BY}(h:(a.length:Int)+t.length<=2199023255552):Fc (a++t,(a.length:Int))=some (UF a.length t):=by
 have f:len (a++t)=(a.length:Int)+t.length:=by grind[List.length_append]
 have p:((a++t).length:Int)=(a.length:Int)+t.length:=f;unfold Fc UF;dsimp only;rw[decide_eq_false o!,cond_false,decide_eq_false o!,cond_false,YQ h g! g!];by_cases i:t.length<4;rw[if_neg o!,if_pos i];rfl;rw[if_pos o!,if_neg i,AD,show Int.toNat 4=4 from rfl];have⟨q,w⟩:=rd4 (t:=t) o!;generalize hn:rd (t.take 4)=n at*;obtain⟨m,rfl⟩:=EM q;rw[show((0:Int) !=0)=false by decide,cond_false];by_cases d:(m:Int)>8392;rw[decide_eq_true d,cond_true,if_pos d];rw[decide_eq_false d,cond_false,if_neg d];have k:wi (wi ((a.length:Int)+4)+(m:Int))=(a.length:Int)+4+m:=by grind[Aa]
 by_cases j:(t.length:Int)<(m:Int)+8;rw[if_pos j];have:CU (a++t,(wi (wi ((a.length:Int)+4)+(m:Int)),4))=some (0,5):=by
  rw[k];by_cases v:(a.length:Int)+4+m>(a++t).length;grind[ABU];have c:(a.length:Int)+4+m=((a++t.take (4+m)).length:Int):=by grind[List.length_append,List.length_take]
  have g:a++t=(a++t.take (4+m))++t.drop (4+m):=by rw[A2,Di]
  grind[List.length_drop,YQ]
 rw[this];rfl;rw[if_neg j,Dl];have c:wi (wi ((a.length:Int)+4)+(m:Int))=((a++t.take (4+m)).length:Int):=by grind[List.length_append,List.length_take]
 have g:a++t=(a++t.take (4+m))++t.drop (4+m):=by rw[A2,Di]
 have u:((t.drop (4+m)).length:Int)=t.length-(4+m):=by rw[FJ];omega
 have b:((a++t.take (4+m)).length:Int)=a.length+4+m:=by rw[Ag,BR];omega
 have l:CU (a++t,(wi (wi ((a.length:Int)+4)+(m:Int)),4))=some (rd ((t.drop (4+m)).take 4),0):=by
  rw[c];conv=>lhs;rw[g]
  rw[YQ o! g! g!,if_pos o!];rfl
 have r:RF (a++t) (a.length:Int) (wi (wi ((a.length:Int)+4)+(m:Int)))=some (t.take (4+m)):=by unfold RF;rw[c,if_pos o!,b,Dl,QW,show((a.length:Int)+4+m).toNat-a.length=4+m by omega]
 have s:RF (a++t) (wi ((a.length:Int)+4)) (wi (wi ((a.length:Int)+4)+(m:Int)))=some ((t.drop 4).take m):=by unfold RF;rw[c,Aa (x:=(a.length:Int)+4),if_pos o!,b,show((a.length:Int)+4).toNat=a.length+4 by omega,Zs,Uf o!,By,Wj,show((a.length:Int)+4+m).toNat-(a.length+4)=m by omega]
 rw[l,AD,show(((rd ((t.drop (4+m)).take 4),(0:Int)):Int×Int).2 !=0)=false from rfl,cond_false,r,AD,tk (by rw[BR];omega),AD,s];have o:=YG (t.take (4+m));rw[Aa (x:=O8 (t.take (4+m)))];by_cases e:rd ((t.drop (4+m)).take 4)=O8 (t.take (4+m));rw[if_neg (by simp[e]),e,bne_self_eq_false,cond_false,AD,k,Aa];refine congrArg some (DN rfl (DN ?_ rfl));dsimp only;omega;rw[if_pos e,bne_iff_ne.2 e,cond_true]
def uX{a:Nat}{t:BY}(h:(UF a t).2.2=0):(UF a t).1.length<=8392/\(∃c,t=HM (UF a t).1++c)/\(UF a t).2.1=(a:Int)+8+(UF a t).1.length:=by
 unfold UF at h⊢;by_cases i:t.length<4;rw[if_pos i]at h;exact absurd h g!;rw[if_neg i]at h⊢;obtain⟨p,q⟩:=rd4 (t:=t) o!;by_cases j:rd (t.take 4)>8392;rw[if_pos j]at h;exact absurd h g!;rw[if_neg j]at h⊢;by_cases k:(t.length:Int)<rd (t.take 4)+8;rw[if_pos k]at h;exact absurd h g!;rw[if_neg k]at h⊢;by_cases b:rd ((t.drop (4+(rd (t.take 4)).toNat)).take 4)≠O8 (t.take (4+(rd (t.take 4)).toNat));rw[if_pos b]at h;exact absurd h g!;rw[if_neg b]at h⊢;have b:=Decidable.not_not.1 b;dsimp only;have hl4:(t.take 4).length=4:=by rw[BR];omega
 have f:C8 (rd (t.take 4)) 4=t.take 4:=by have:=tX (l:=t.take 4) o!;rwa [hl4]at this
 generalize hn:rd (t.take 4)=n at*;obtain⟨m,rfl⟩:=EM p;rw[Dl]at b⊢;have g:((t.drop 4).take m).length=m:=by rw[BR,FJ];omega
 refine⟨o!,?_,o!⟩;have o:t.take (4+m)=C8 (m:Int) 4++(t.drop 4).take m:=by rw[List.take_add,f]
 have e:((t.drop (4+m)).take 4).length=4:=by rw[BR,FJ];omega
 have d:C8 (O8 (t.take (4+m))) 4=(t.drop (4+m)).take 4:=by rw[<-b];have:=tX (l:=(t.drop (4+m)).take 4) o!;rwa [e]at this
 refine⟨t.drop (4+m+4),?_⟩;unfold HM;rw[g,<-o,d,<-A2,<-o];conv=>lhs;rw[<-Di (4+m) t,<-Di 4 (t.drop (4+m)),Nf]
 rw[A2]
theorem jN{c:Nat}{p a:BY}(h:p.length<=8392):UF c (HM p++a)=(p,((c:Int)+8+p.length,0)):=by
 have d:Zk 4 (p.length:Int):=⟨λ_=>⟨o!,by rw[show(256:Int)^4=4294967296 by decide];omega⟩,o!⟩
 have e:=YG (C8 (p.length:Int) 4++p);have b:Zk 4 (O8 (C8 (p.length:Int) 4++p)):=⟨λ_=>⟨o!,by rw[show(256:Int)^4=4294967296 by decide];omega⟩,o!⟩
 unfold UF;rw[(by grind[HM,List.append_assoc,List.take_left',A0]:(HM p++a).take 4=C8 (p.length:Int) 4),(mv g! d),Dl,(by grind[HM,List.append_assoc,List.take_left',List.length_append,A0]:(HM p++a).take (4+p.length)=C8 (p.length:Int) 4++p),(by grind[HM,List.append_assoc,List.drop_left',List.length_append,A0]:(HM p++a).drop (4+p.length)=C8 (O8 (C8 (p.length:Int) 4++p)) 4++a),(by grind[HM,List.append_assoc,List.drop_left',A0]:(HM p++a).drop 4=p++(C8 (O8 (C8 (p.length:Int) 4++p)) 4++a)),(by rw[Ag,(Ef p)]:(HM p++a).length=p.length+8+a.length),if_neg o!,if_neg o!,if_neg o!,Gd (A0 _ _),mv g! b,if_neg k!,Gd rfl]
set_option maxHeartbeats 400000
def CI(b:De):Prop:=b.1.length<=1099511627776/\0<=b.2.1/\b.2.1<=b.1.length
def NM{b:De}{x:Int}(h:CI b)(c:0<=x/\x<=8):As (BO b x) λr=>CI r.2/\(x<=4->0<=r.1/\r.1<4294967296):=by
 unfold BO;unfold CI at*
 exact x!
def Nr{b:De}{x:Int}(h:CI b)(d:0<=x/\x<=4294967296):As (Cy b x) λr=>CI r.2:=by
 unfold Cy;unfold CI at*
 exact x!
def VJ{b:De}{x:Unit}(h:CI b):As (Cl b x) λr=>CI r.2:=by
 unfold Cl;repeat' with_reducible first|intro a|apply AC|apply AQ|apply AM|apply AL|apply AB|(refine AO ?_ (NM ?_ ?_);intro r hr)|(refine AO ?_ (Nr ?_ ?_);intro r hr)
 all_goals ((try dsimp[len]at*);(try first|omega|assumption|grind[CI]))
theorem ZE{x:BY}(h:x.length<=1099511627776):As (Dz x) λr=>r.2=0->Io r.1:=by
 unfold Dz;have b:CI (x,0,0):=⟨h,k!,k!⟩
 exact x!
def Vj{x:BY×List Int}{s:BY×Int}(h:0<=s.2/\s.2<=x.2.length/\x.2.length<=16777216/\x.1.length<=1073741824/\(s.1.length:Int)<=x.1.length+8*s.2):As (Aj (Kx x) s) λr=>(r.length:Int)<=x.1.length+8*x.2.length:=by
 refine AV (λ(s:BY×Int)=>0<=s.2/\s.2<=x.2.length/\x.2.length<=16777216/\x.1.length<=1073741824/\(s.1.length:Int)<=x.1.length+8*s.2) (λ(s:BY×Int)=>((x.2.length:Int)-s.2).toNat) h (λs b=>?_);unfold Kx;exact x!
def X0{x:BY×List Int}(h:x.2.length<=16777216/\x.1.length<=1073741824):As (HQ x) λr=>(r.length:Int)<=x.1.length+8*x.2.length:=by
 unfold HQ;exact x!
def WF{x:List Al}{s:BY×Int}(h:0<=s.2/\s.2<=x.length/\Xc x/\(s.1.length:Int)<=10+40000*s.2):As (Aj (Lu x) s) λr=>(r.length:Int)<=10+40000*x.length:=by
 refine AV (λ(s:BY×Int)=>0<=s.2/\s.2<=x.length/\Xc x/\(s.1.length:Int)<=10+40000*s.2) (λ(s:BY×Int)=>((x.length:Int)-s.2).toNat) h (λs c=>?_);unfold Lu;have⟨e,f,⟨b,a⟩,g⟩:=c;repeat' with_reducible first|intro d|apply AC|apply AL|apply AB|(refine AO ?_ (DU ?_);intro r hr)|(refine AO ?_ (X0 ?_);intro r hr)|(refine AO ?_ (AI ?_ ?_);rintro r ⟨hr,i⟩)
 all_goals try (have j:=a _ _ v!)
 all_goals try unfold VTx at*
 all_goals dsimp[len]at*
 all_goals first|omega|(refine⟨⟨?_,?_,⟨b,a⟩,?_⟩,?_⟩<;>(simp (disch:=omega) only[Aa];omega))|grind
def Rj{x:List Al}:As (KM x) λr=>r.1.length<=16777216:=by
 unfold KM;repeat' with_reducible first|intro a|apply AP|apply AL|apply AB|(apply AA (Do);intro r hr)|(refine AO ?_ (DU ?_);intro r hr)|(refine AO ?_ (WF ?_);intro r hr)
 all_goals ((try dsimp[len]at*);(try first|omega|assumption|grind[Xc]))
def CJ(b:B7):Prop:=b.1.length<=1099511627776/\0<=b.2.1/\b.2.1<=b.1.length
def F7{b:B7}{x:Int}(h:CJ b)(c:0<=x/\x<=8):As (Ca b x) λr=>CJ r.2/\(x<=2->0<=r.1/\r.1<65536):=by
 unfold Ca;unfold CJ at*
 exact x!
def To  {s:Int×List Int×B7}(h:0<=s.1/\s.1+s.2.1.length<=65536/\CJ s.2.2):As (Aj (Iv) s) λr=>CJ r.2/\r.1.length<=65536:=by
 refine AV (λ(s:Int×List Int×B7)=>0<=s.1/\s.1+s.2.1.length<=65536/\CJ s.2.2) (λ(s:Int×List Int×B7)=>s.1.toNat) h (λs c=>?_);unfold Iv;exact x!
def VL{b:B7}{x:Int}(h:CJ b)(a:0<=x/\x<=2):As (Fy b x) λr=>CJ r.2:=by
 unfold Fy;exact x!
def WE  {s:Int×List Al×B7}(h:0<=s.1/\s.1+s.2.1.length<=65536/\CJ s.2.2):As (Aj (Ls) s) λr=>CJ r.2/\r.1.length<=65536:=by
 refine AV (λ(s:Int×List Al×B7)=>0<=s.1/\s.1+s.2.1.length<=65536/\CJ s.2.2) (λ(s:Int×List Al×B7)=>s.1.toNat) h (λs c=>?_);unfold Ls;exact x!
def Ri{x:BY}(h:x.length<=1099511627776):As (KK x) λr=>r.1.length<=65536/\(r.2=0->Xc r.1):=by
 unfold KK;have b:CJ (x,0,false):=⟨h,k!,k!⟩
 exact x!
def WD{x:Bq}{s:BY×Int}(h:0<=s.2/\s.2<=x.length/\x.length<=64/\(s.1.length:Int)<=10+24*s.2):As (Aj (IL x) s) λr=>r.length<=2000:=by
 refine AV (λ(s:BY×Int)=>0<=s.2/\s.2<=x.length/\x.length<=64/\(s.1.length:Int)<=10+24*s.2) (λ(s:BY×Int)=>((x.length:Int)-s.2).toNat) h (λs b=>?_);unfold IL;exact x!
def Rh{x:Bq}:As (Hr x) λr=>r.1.length<=2000:=by
 unfold Hr;repeat' with_reducible first|intro a|apply AP|apply AL|apply AB|(apply AA (F5);intro r hr)|(refine AO ?_ (DU ?_);intro r hr)|(refine AO ?_ (WD ?_);intro r hr)
 all_goals ((try dsimp[len]at*);(try first|omega|assumption|grind[jO]))
def WC{x:BY}{a:Int×Int}{s:Int×List Dh}(h:0<=s.1/\s.1<=a.1/\a.1<=65536/\x.length<=1099511627776/\s.2.length<=s.1):As (Aj (IK x a) s) λr=>r.length<=65536:=by
 refine AV (λ(s:Int×List Dh)=>0<=s.1/\s.1<=a.1/\a.1<=65536/\x.length<=1099511627776/\s.2.length<=s.1) (λ(s:Int×List Dh)=>(a.1-s.1).toNat) h (λs d=>?_);unfold IK;exact x!
def Rg{x:BY}(h:x.length<=1099511627776):As (ET x) λr=>(r.2=0->jO r.1)/\r.1.length<=65536:=by
 unfold ET;exact x!
def QG{x:CT}{s:Int}(h:0<=s/\s<=x.2.2.1.length/\(x.2.2.1.length:Int)<=16777216):As (Aj (M8 x) s) λr=>r≠ .inl true:=by
 refine AV (λ(s:Int)=>0<=s/\s<=x.2.2.1.length/\(x.2.2.1.length:Int)<=16777216) (λ(s:Int)=>((x.2.2.1.length:Int)-s).toNat) h (λs b=>?_);unfold M8;exact x!
def oW(x:CT):Prop:=1<=x.1/\x.1<=64/\Xc x.2.2.1/\jO x.2.2.2.2/\x.2.2.2.2.length=x.1
def N1{x:CT}(h:x.2.2.2.1.length<=16777216):As (Gt x) λr=>r=true->oW x:=by
 unfold Gt oW
 repeat' first
   |with_reducible apply AC<;>intro a
   |with_reducible apply AP<;>intro a
   |with_reducible apply AM<;>intro a
   |(with_reducible apply A6<;>(intro u b;try subst b))
   |with_reducible apply AB
   |(with_reducible apply AA (Do);intro r hr)
   |(with_reducible refine AO ?_ (PC ?_);intro r hr)
   |(with_reducible apply AA (F5);intro r hr)
   |(with_reducible refine AO ?_ (QG ?_);intro r hr)
 all_goals ((try dsimp[len]at*);(try first|omega|assumption|grind[Xc]))
def WI{x:CT}{s:BY×Int}(h:0<=s.2/\s.2<=x.2.2.2.1.length/\x.2.2.2.1.length<=16777216/\(s.1.length:Int)<=100000000+24*s.2):As (Aj (IN x) s) λr=>r.length<=1073741824:=by
 refine AV (λ(s:BY×Int)=>0<=s.2/\s.2<=x.2.2.2.1.length/\x.2.2.2.1.length<=16777216/\(s.1.length:Int)<=100000000+24*s.2) (λ(s:BY×Int)=>((x.2.2.2.1.length:Int)-s.2).toNat) h (λs b=>?_);unfold IN;exact x!
def ZU{x:CT}(h:x.2.2.2.1.length<=16777216):As (GX x) λr=>r.1.length<=2147483648:=by
 unfold GX;exact x!
def Ta(c:Cc):BY:=bif c.1 then C8 (c.2.length:Int) 1++c.2 else C8 255 1
def B4(e:AE):BY:=
 C8 e.1 8++(C8 e.2.1 1++(C8 e.2.2.1 4++(C8 e.2.2.2.1 8++(C8 e.2.2.2.2.1 8++(C8 e.2.2.2.2.2.1 8++(C8 e.2.2.2.2.2.2.1.1 4++(C8 e.2.2.2.2.2.2.1.2.1 1++
 (Ta e.2.2.2.2.2.2.1.2.2.1++(Ta e.2.2.2.2.2.2.1.2.2.2++(C8 (e.2.2.2.2.2.2.2.length:Int) 4++e.2.2.2.2.2.2.2))))))))))
theorem fu{c:Cc}(h:FA c):(Ta c).length<=13:=by
 unfold Ta;cases c.1 with
 |true=>rw[cond_true,Ag,A0];have:=h.1;omega
 |false=>grind[A0]
def xn{s:BY}{c:Cc}(h:s.length<=1099511627776)(a:c.2.length<=8192):GC (s,c)=some (s++Ta c):=by grind[GC,Ta,Bool.not_false,Ha,Bool.not_true,sapp,C8,Int.toNat,List.length_append,A0,List.append_assoc]
def Io.cells{e:AE}(h:Io e):FA e.2.2.2.2.2.2.1.2.2.1/\FA e.2.2.2.2.2.2.1.2.2.2/\e.2.2.2.2.2.2.2.length<=8192/\Zk 8 e.1/\Zk 1 e.2.1/\Zk 4 e.2.2.1/\Zk 8 e.2.2.2.1/\Zk 8 e.2.2.2.2.1/\Zk 8 e.2.2.2.2.2.1/\Zk 4 e.2.2.2.2.2.2.1.1/\Zk 1 e.2.2.2.2.2.2.1.2.1:=by
 have⟨a1,a2,a3,a4,a5,a6,a7,a8,j⟩:=h;have k: ∀n:Int,0<=n->n<=1099511627776->Zk 8 n:=λn l m=>⟨n!,o!⟩
 have p: ∀n:Int,0<=n->n<=1073741824->Zk 4 n:=λn l m=>⟨λ_=>by rw[show(256:Int)^4=4294967296 by decide];omega,o!⟩
 have o: ∀n:Int,0<=n->n<=255->Zk 1 n:=λn l m=>⟨λ_=>by rw[show(256:Int)^1=256 by decide];omega,o!⟩
 have z:FA (false,[]):=⟨g!,.inr rfl⟩
 refine and_assoc.1 (and_assoc.1 ⟨?_,k _ o! o!,?_⟩);rcases j with⟨k1,f,d,g,c,a⟩|⟨k1,f,d,g,c,a,i,b⟩|⟨k1,f,d,g,c,a,i,b⟩|⟨k1,f,d,g,c,a,i⟩|j;exact⟨⟨a.2.2.2.2.1,a.2.2.2.2.2⟩,by rw[d];decide⟩;exact⟨⟨b.2.2.2.2.1,b.2.2.2.2.2⟩,by rw[c];decide⟩;rw[c,a];exact⟨⟨z,z⟩,g!⟩;rw[a];exact⟨⟨z,z⟩,i⟩;have⟨k1,f,d,g,c,a,i,b⟩:=j;rw[i,b];exact⟨⟨z,z⟩,g!⟩;have q:1<=e.2.1/\e.2.1<=8/\0<=e.2.2.1/\e.2.2.1<=1073741824/\0<=e.2.2.2.2.2.2.1.1/\e.2.2.2.2.2.2.1.1<64/\0<=e.2.2.2.2.2.2.1.2.1/\e.2.2.2.2.2.2.1.2.1<16:=by rcases j with⟨k1,f,d,g,c,a⟩|⟨k1,f,d,g,c,a,i,b⟩|⟨k1,f,d,g,c,a,i,b⟩|⟨k1,f,d,g,c,a,i⟩|j;have:=a.1;have:=a.2.1;have:=a.2.2.1;have:=a.2.2.2.1;omega;have:=b.1;have:=b.2.1;have:=b.2.2.1;have:=b.2.2.2.1;omega;grind[Pd];grind[Pd];grind[Pd]
 exact⟨o _ o! o!,p _ o! o!,k _ o! o!,k _ o! o!,k _ o! o!,p _ o! o!,o _ o! o!⟩
theorem RU{e:AE}(h:Io e):(B4 e).length<=8392:=by have⟨a,b,c,_⟩:=h.cells;grind[fu,B4,List.length_append,A0]
theorem nC{e:AE}(h:Io e):FQ e=some (B4 e,0):=by have⟨c,d,i,_⟩:=h.cells;have l1:=fu c;have l2:=fu d;have⟨b,f,g⟩:=CL (x:=e);have a:b=true:=g.2 h;subst a;unfold FQ;rw[f,AD,Cm,cond_false];rw[Ha k! g! g!,AD,By];rw[Ha (by simp only[Ag,A0];simp only[Int.reduceToNat];omega) g! g!,AD];rw[Ha (by simp only[Ag,A0];simp only[Int.reduceToNat];omega) g! g!,AD];rw[Ha (by simp only[Ag,A0];simp only[Int.reduceToNat];omega) g! g!,AD];rw[Ha (by simp only[Ag,A0];simp only[Int.reduceToNat];omega) g! g!,AD];rw[Ha (by simp only[Ag,A0];simp only[Int.reduceToNat];omega) g! g!,AD];rw[Ha (by simp only[Ag,A0];simp only[Int.reduceToNat];omega) g! g!,AD];rw[Ha (by simp only[Ag,A0];simp only[Int.reduceToNat];omega) g! g!,AD];rw[xn (by simp only[Ag,A0];simp only[Int.reduceToNat];omega) (by have:=c.1;omega),AD];rw[xn (by simp only[Ag,A0];simp[Int.reduceToNat];omega) (by have:=d.1;omega),AD];rw[Ha (by simp only[Ag,A0];simp[Int.reduceToNat];omega) g! g!,AD];unfold sapp;rw[if_pos (by simp only[Ag,A0];simp[Int.reduceToNat];omega),AD];simp[A2];rfl
def CS(x p:BY)(c:BY×Int×Int):Prop:=c.1=x/\(c.2.2=0-> ∃rest,x=p++rest/\c.2.1=p.length)
def oU{t:BY}{k:Nat}(h:k<=t.length)(a:k<=8):Zk k (rd (t.take k))/\C8 (rd (t.take k)) k=t.take k:=by grind[List.length_take,xK,tX]
def Zf{x p:BY}{c:BY×Int×Int}{k:Nat}(h:CS x p c)(o:x.length<=1099511627776)(q:1<=k)(m:k<=8):As (BO c (k:Int)) λr=>CS x (p++C8 r.1 k) r.2/\(r.2.2.2=0->Zk k r.1)/\(c.2.2≠0->r=(0,c)):=by have⟨s,l,e⟩:=c;have⟨g,i⟩:=h;dsimp only at g i;subst g;unfold BO;refine AM (λd=>AB ⟨⟨rfl,λb=>absurd b d⟩,λb=>absurd b d,λ_=>rfl⟩) (λd=>?_);dsimp only at d;subst d;have⟨a,hr,n⟩:=i rfl;subst hr n;rw[Ag]at o;rw[fQ o! o! o!];by_cases j:(k:Int)<=a.length;rw[if_pos j,AD,Dl];have⟨q1,q2⟩:=oU (t:=a) (k:=k) o! m;rw[show((0:Int) !=0)=false by decide,cond_false];refine AB ⟨⟨rfl,λ_=>⟨a.drop k,?_,?_⟩⟩,λ_=>q1,λf=>absurd rfl f⟩;grind[List.append_assoc,List.take_append_drop];grind[Aa,List.length_append,A0];rw[if_neg j,AD];rw[show((5:Int) !=0)=true by decide,cond_true];exact AB ⟨⟨rfl,λb=>absurd (show(5:Int)=0 from b) g!⟩,λb=>absurd (show(5:Int)=0 from b) g!,λf=>absurd rfl f⟩
def ABm{x p:BY}{c:BY×Int×Int}{n:Int}(h:CS x p c)(k:x.length<=1099511627776)(hn:c.2.2=0->0<=n/\n<4294967296):As (Cy c n) λr=>CS x (p++r.1) r.2/\(r.2.2.2=0->(r.1.length:Int)=n/\c.2.2=0):=by have⟨s,g,e⟩:=c;have⟨d,f⟩:=h;dsimp only at d f hn;subst d;unfold Cy;by_cases j:e=0;subst j;have⟨a,hr,i⟩:=f rfl;have⟨l,q⟩:=hn rfl;subst hr i;obtain⟨m,rfl⟩:=EM l;rw[Ag]at k;rw[show((0:Int) !=0)=false by decide,cond_false];simp only[len];rw[show wi (((p++a).length:Int)-(p.length:Int))=a.length by rw[Ag,Aa];omega];by_cases o:(m:Int)<=a.length;rw[decide_eq_false o!,cond_false];rw[(by grind[Aa,RF,List.length_append,List.drop_left]:RF (p++a) (wi (wi ((p.length:Int)+(m:Int))-(m:Int))) (wi ((p.length:Int)+(m:Int)))=some (a.take m)),AD];refine AB ⟨⟨rfl,λ_=>⟨a.drop m,?_,?_⟩⟩,λ_=>⟨?_,by first|rfl|trivial⟩⟩;grind[List.append_assoc,List.take_append_drop];grind[Aa,List.length_append,List.length_take];grind[List.length_take];rw[decide_eq_true o!,cond_true];exact AB ⟨⟨rfl,λb=>absurd (show(5:Int)=0 from b) g!⟩,λb=>absurd (show(5:Int)=0 from b) g!⟩;grind[AB]
def ABj{x p:BY}{c:BY×Int×Int}(h:CS x p c)(i:x.length<=1099511627776):As (Cl c ()) λr=>CS x (p++Ta r.1) r.2/\(r.2.2.2=0->FA r.1):=by unfold Cl;refine AA (Zf (k:=1) h i g! g!) λv n=>?_;have⟨⟨f,j⟩,q,y⟩:=n;refine AM (λd=>AB ⟨⟨f,λb=>absurd b d⟩,λb=>absurd b d⟩) (λd=>?_);have⟨e,hr,g⟩:=j d;have m:=(q d).1 g!;rw[show(256:Int)^1=256 by decide]at m;refine AQ (λa=>AB ⟨⟨f,λ_=>⟨e,?_,?_⟩⟩,λ_=>⟨Bi _,.inr rfl⟩⟩) (λa=>?_);dsimp only;rw[a]at hr;exact hr;dsimp only;rw[a]at g;exact g;refine AC (λ_=>AB ⟨⟨f,λb=>absurd (show(4:Int)=0 from b) g!⟩,λb=>absurd (show(4:Int)=0 from b) g!⟩) (λl=>?_);refine AA (ABm (x:=x) (p:=p++C8 v.1 1) ⟨f,j⟩ i (λ_=>o!)) λw o=>AB ?_;have⟨⟨s,z⟩,t⟩:=o;refine⟨⟨s,λb=>?_⟩,λb=>?_⟩;grind[Ta,C8,List.append_assoc];dsimp only at b⊢;have⟨u,_⟩:=t b;exact⟨d!,.inl rfl⟩
def XT{x p a:BY}{n:Int}{k:Nat}(e:x=p++(C8 n k++a))(d:x.length<=1099511627776)(b:1<=k)(c:k<=8)(hn:Zk k n):BO (x,((p.length:Int),0)) (k:Int)=some (n,(x,(((p++C8 n k).length:Int),0))):=by grind[List.length,List.length_append,A0,BO,fQ,Int.toNat_natCast,List.take_left',mv,Aa]
theorem ABl{x p w a:BY}(c:x=p++(w++a))(d:x.length<=1099511627776):Cy (x,((p.length:Int),0)) (w.length:Int)=some (w,(x,(((p++w).length:Int),0))):=by
 have b:=congrArg List.length c;simp[Ag]at b;unfold Cy;dsimp only;rw[show((0:Int) !=0)=false by decide,cond_false];simp only[len];rw[show decide ((w.length:Int)>wi ((x.length:Int)-(p.length:Int)))=false from decide_eq_false (by rw[Aa];omega),cond_false];have e:RF x (wi (wi ((p.length:Int)+(w.length:Int))-(w.length:Int))) (wi ((p.length:Int)+(w.length:Int)))=some w:=by rw[Aa (x:=(p.length:Int)+(w.length:Int)),Aa];unfold RF;rw[if_pos o!,c,show((p.length:Int)+(w.length:Int)-(w.length:Int)).toNat=p.length by omega,QW,show((p.length:Int)+(w.length:Int)).toNat-p.length=w.length by omega,Wi]
 grind[Aa,List.length_append]
def ABi{x p a:BY}{c:Cc}(e:x=p++(Ta c++a))(i:x.length<=1099511627776)(k:FA c):Cl (x,((p.length:Int),0)) ()=some (c,(x,(((p++Ta c).length:Int),0))):=by
 have⟨b,d⟩:=c;have⟨j,f⟩:=k;dsimp only at j f;unfold Cl;cases b with
 |false=>
  have l:d=[]:=by rcases f with h|h;cases h;exact h
  subst l;rw[(rfl:Ta (false,[])=C8 255 1)]at e⊢;rw[show(1:Int)=((1:Nat):Int)from rfl,XT e i g! g! ⟨λ_=>g!,g!,g!⟩];rfl
 |true=>have g:Ta (true,d)=C8 (d.length:Int) 1++d:=rfl;rw[g,A2]at e;rw[g];rw[show(1:Int)=((1:Nat):Int)from rfl,XT e i g! g! ⟨λ_=>by rw[show(256:Int)^1=256 by decide];omega,o!⟩,AD];grind[ABl,List.append_assoc]
def AFI{x:BY}(a:x.length<=1099511627776):As (Dz x) λr=>r.2=0->x=B4 r.1/\FA r.1.2.2.2.2.2.2.1.2.2.1/\FA r.1.2.2.2.2.2.2.1.2.2.2/\Zk 4 (r.1.2.2.2.2.2.2.2.length:Int)/\Cp r.1=some true:=by
 unfold Dz;have I:CS x [] (x,(0,0)):=⟨rfl,λ_=>⟨x,rfl,rfl⟩⟩
 refine AA (Zf (k:=8) I a g! g!) λO y=>AA (Zf (k:=1) y.1 a g! g!) λP z=>AA (Zf (k:=4) z.1 a g! g!) λQ A=>AA (Zf (k:=8) A.1 a g! g!) λR B=>AA (Zf (k:=8) B.1 a g! g!) λS C=>AA (Zf (k:=8) C.1 a g! g!) λT D=>AA (Zf (k:=4) D.1 a g! g!) λU E=>AA (Zf (k:=1) E.1 a g! g!) λV F=>Dx (ABj F.1 a) λq M o=>Dx (ABj o.1 a) λs w p=>AA (Zf (k:=4) p.1 a g! g!) λj b=>AA (ABm (n:=j.1) b.1 a (λc=>?_)) λJ f=>?_;have:=(b.2.1 c).1 g!;rw[show(256:Int)^4=4294967296 by decide]at this;exact this;refine AM (λh=>AB λc=>absurd c h) (λh=>AM (λ_=>AB n!) (λG=>Dx (CL) λK i _=>AP (λ_=>AB n!) (λH=>AB λ_=>?_)));subst H;obtain⟨q11,d⟩:=f.2 h;have l:s.2.2.2=0:=QU λe=>by have:=b.2.2 e;rw[this]at d;exact e d
 have u:=p.2 l;have L:q.2.2.2=0:=QU λe=>by
  have:s=((false,[]),q.2):=by have:=w;unfold Cl BO at this;rw[bne_iff_ne.2 e,cond_true,AD,bne_iff_ne.2 e,cond_true]at this;injection this with this;exact this.symm
  rw[this]at l;exact e l
 have t:=o.2 L;obtain⟨g,m,N⟩:=f.1.2 h;have hr:g=[]:=by simp only[len]at G;have v:=congrArg List.length m;rw[Ag]at v;exact EP o!
 subst hr;refine⟨?_,t,u,?_,i⟩;rw[m];unfold B4;dsimp only;rw[q11];simp only[A2,By,Db];dsimp only;rw[q11];exact b.2.1 d
def ABk{e:AE}(h:Io e):Dz (B4 e)=some (e,0):=by
 obtain⟨s,t,H,w,y,z,A,B,C,D,E⟩:=h.cells;have I:=RU h;have g:Zk 4 (e.2.2.2.2.2.2.2.length:Int):=⟨λ_=>by rw[show(256:Int)^4=4294967296 by decide];omega,o!⟩
 have a:B4 e=[]++(C8 e.1 8++(C8 e.2.1 1++(C8 e.2.2.1 4++(C8 e.2.2.2.1 8++(C8 e.2.2.2.2.1 8++(C8 e.2.2.2.2.2.1 8++(C8 e.2.2.2.2.2.2.1.1 4++(C8 e.2.2.2.2.2.2.1.2.1 1++
 (Ta e.2.2.2.2.2.2.1.2.2.1++(Ta e.2.2.2.2.2.2.1.2.2.2++(C8 (e.2.2.2.2.2.2.2.length:Int) 4++(e.2.2.2.2.2.2.2++[])))))))))))):=by rw[Db];rfl
 generalize B4 e=x at*;have i:BO (x,(((0:Int)),0)) 8=_:=XT (p:=[]) (k:=8) a o! g! g! w;rw[By]at i;rw[By]at a;have j:=XT (k:=1) a o! g! g! y;rw[<-A2]at a;have l:=XT (k:=4) a o! g! g! z;rw[<-A2]at a;have m:=XT (k:=8) a o! g! g! A;rw[<-A2]at a;have n:=XT (k:=8) a o! g! g! B;rw[<-A2]at a;have o:=XT (k:=8) a o! g! g! C;rw[<-A2]at a;have q:=XT (k:=4) a o! g! g! D;rw[<-A2]at a;have r:=XT (k:=1) a o! g! g! E;rw[<-A2]at a;have F:=ABi a o! s;rw[<-A2]at a;have G:=ABi a o! t;rw[<-A2]at a;have c:=XT (k:=4) a o! g! g! g;rw[<-A2]at a;have d:=ABl a o!;rw[Db]at a;rw[<-a]at d;unfold Dz;rw[i,AD];rw[show((1:Nat):Int)=1 from rfl]at j r;rw[show((4:Nat):Int)=4 from rfl]at l q c;rw[show((8:Nat):Int)=8 from rfl]at m n o;rw[j,AD,l,AD,m,AD,n,AD,o,AD,q,AD,r,AD,F,AD,G,AD,c,AD,d,AD];obtain⟨b,u,v⟩:=CL (x:=e);have f:b=true:=v.2 h;subst f;dsimp only[len];rw[show((0:Int) !=0)=false by decide,cond_false,bne_self_eq_false,cond_false];rw[show(e.1,(e.2.1,(e.2.2.1,(e.2.2.2.1,(e.2.2.2.2.1,(e.2.2.2.2.2.1,((e.2.2.2.2.2.2.1.1,(e.2.2.2.2.2.2.1.2.1,(e.2.2.2.2.2.2.1.2.2.1,e.2.2.2.2.2.2.1.2.2.2))),e.2.2.2.2.2.2.2)))))))=e from rfl,u,AD,Cm,cond_false]
def KB(l:List AE):BY:=(l.map λe=>HM (B4 e)).flatten
theorem RW(l:List AE)(e:AE):KB (l++[e])=KB l++HM (B4 e):=by unfold KB;grind
theorem kp(e:AE)(l:List AE):KB (e::l)=HM (B4 e)++KB l:=rfl
def oH{l:List AE}(h: ∀e∈l,Io e):(KB l).length<=8400*l.length:=by
 induction l with
 |nil=>exact Aq _
 |cons e r b=>have c:=b λx a=>h x (Av.2 (.inr a));have d:=RU (h e (Av.2 (.inl rfl)));rw[kp,Ag,Ef,Bo];omega
def zM{x p a:BY}{at_:Int}{k:Nat}(c:x=p++a)(e:at_=p.length)(i:x.length≤1099511627776)(h:1≤k)(f:k≤8)(g:k≤a.length):
  ∃n b,Ay (x,(at_,(k:Int)))=some (n,0)/\CU (x,(at_,(k:Int)))=some (n,0)/\x=(p++C8 n k)++b/\Zk k n/\b.length+k=a.length:=by
 have d:=congrArg List.length c;rw[Ag]at d;obtain⟨q1,q2⟩:=oU (t:=a) g f;refine⟨rd (a.take k),a.drop k,?_,?_,?_,q1,?_⟩;rw[c,e,fQ o! o! o!,if_pos o!,Dl];rw[c,e,YQ o! o! o!,if_pos o!,Dl];rw[q2,A2,Di];exact c;rw[FJ];omega
def gN{x p rest:BY}{at_ n:Int}{k:Nat}(a:x=p++(C8 n k++rest))(d:at_=p.length)(f:x.length≤1099511627776)(e:1≤k)(c:k≤8)(hn:Zk k n):
  Ay (x,(at_,(k:Int)))=some (n,0)/\CU (x,(at_,(k:Int)))=some (n,0):=by
 have b:=congrArg List.length a;simp only[Ag,A0]at b;refine⟨?_,?_⟩;rw[a,d,fQ (by rw[Ag,A0];omega) o! o!,if_pos (by rw[Ag,A0];omega),Dl,Gd (A0 _ _),mv c hn];rw[a,d,YQ (by rw[Ag,A0];omega) o! o!,if_pos (by rw[Ag,A0];omega),Dl,Gd (A0 _ _),mv c hn]
def Xu{x:List Ar×Int×Bool×Cs}{s:Int×List Ar}(h:0<=s.1/\s.1<=x.1.length/\x.1.length<=16777216/\s.2.length<=s.1):As (Aj (Nx x) s) λr=>r.length<=x.1.length:=by
 refine AV (λ(s:Int×List Ar)=>0<=s.1/\s.1<=x.1.length/\x.1.length<=16777216/\s.2.length<=s.1) (λ(s:Int×List Ar)=>((x.1.length:Int)-s.1).toNat) h (λs b=>?_);unfold Nx;exact x!
def KH{x:List Ar×Int×Bool×Cs}(h:x.1.length<=16777216):As (GF x) λr=>r.length<=x.1.length:=by
 unfold GF;exact x!
def Xq{x:A5×Int}{s:Int}(h:0<=s/\s<=x.1.1.length/\(x.1.1.length:Int)<=16777216/\0<=x.2/\x.2<x.1.2.length):As (Aj (Nt x) s) λr=>True:=by
 refine AV (λ(s:Int)=>0<=s/\s<=x.1.1.length/\(x.1.1.length:Int)<=16777216/\0<=x.2/\x.2<x.1.2.length) (λ(s:Int)=>((x.1.1.length:Int)-s).toNat) h (λs a=>?_);unfold Nt;exact x!
def Xr{x:A5×Int}{s:Int}(h:0<=s/\s<=x.2/\(x.2:Int)<=16777216/\0<=x.2/\x.2<x.1.2.length):As (Aj (Nu x) s) λr=>True:=by
 refine AV (λ(s:Int)=>0<=s/\s<=x.2/\(x.2:Int)<=16777216/\0<=x.2/\x.2<x.1.2.length) (λ(s:Int)=>((x.2:Int)-s).toNat) h (λs a=>?_);unfold Nu;exact x!
def dK{x:A5×Int}(h:x.1.1.length<=4096/\x.1.2.length<=4096)(b:0<=x.2/\x.2<x.1.2.length):As (MI x) λr=>True:=by
 unfold MI;exact x!
def Xt{x:List Ar×Ar}{s:Bool×Int×List Ar}(h:0<=s.2.1/\s.2.1<=x.1.length/\x.1.length<=4096/\s.2.2.length<=s.2.1+1/\(s.1=false->(s.2.2.length:Int)<=s.2.1)):As (Aj (Nw x) s) λr=>r.2.length<=x.1.length+1/\(r.1=false->r.2.length<=x.1.length):=by
 refine AV (λ(s:Bool×Int×List Ar)=>0<=s.2.1/\s.2.1<=x.1.length/\x.1.length<=4096/\s.2.2.length<=s.2.1+1/\(s.1=false->(s.2.2.length:Int)<=s.2.1)) (λ(s:Bool×Int×List Ar)=>((x.1.length:Int)-s.2.1).toNat) h (λs c=>?_);unfold Nw;repeat' with_reducible first|intro a|apply AC|apply AP|apply AM|(apply A9;try dsimp only)|apply Bf|apply Bw|apply AB|(apply AA (Tm);intro r hr)|(refine AO ?_ (AI ?_ ?_);rintro r ⟨hr,f⟩)|(refine AO ?_ (Ac ?_);rintro r ⟨hr,d,b⟩)
 all_goals try (have e:=Aa (x:=s.2.1+1))
 all_goals (first|omega|grind)
def dL{x:List Ar×Ar}(h:x.1.length<=4096):As (MJ x) λr=>r.length<=x.1.length+1:=by
 unfold MJ;exact x!
def V9{B:Nat}(i:B<=2000){s:Int×A5}(h:0<=s.1/\s.1<=s.2.2.length/\s.2.1.length+s.2.2.length<=B):As (Aj Qu s) λr=>r.1.length+r.2.length<=B:=by refine AV (λs=>0<=s.1/\s.1<=s.2.2.length/\s.2.1.length+s.2.2.length<=B) (λs=>s.2.2.length*3000+((s.2.2.length:Int)-s.1).toNat) h (λs d=>?_);have⟨b,e,c⟩:=d;refine AC (λa=>?_) (λa=>AB c);simp[len]at a;refine AA (dK d! ⟨b,a⟩) λv _=>AA (P:=λv:Int×A5=>(v=s)\/(v.1= -1/\v.2.1.length<=s.2.1.length+1/\v.2.2.length+1=s.2.2.length)) ?_ λm g=>?_;refine AL (λ_=>?_) (λ_=>AB (.inl rfl));refine AA (AI b a) λj _=>AA (dL d!) λk c=>AA (Bb o! b) λl f=>?_;grind[Aa,AA,Bb,Ac,AB];grind[AB,Aa]
def I3{B:Nat}{x:A5}(a:B<=2000)(h:x.1.length+x.2.length<=B):As (FU x) λr=>r.1.length+r.2.length<=B:=by exact AA (V9 a ⟨k!,k!,h⟩) λr hr=>AB hr
theorem F9.of{x:A5}{B:Nat}(a:B<=2000)(h:x.1.length+x.2.length<=B):F9 x:=⟨by omega,by omega⟩
def F9.nil:F9 (([],[]):A5):=⟨k!,k!⟩
def Lo{x:A5×Int}(h:F9 x.1):As (HO x) λr=>F9 r:=by refine AA (E4 h) λv d=>AP (λ_=>AB h) (λc=>?_);have g:=d c;refine AA (KH h.1) λa e=>AA (KH h.2) λb f=>AA (I3 (B:=1024) g! ?_) λr hr=>AB (F9.of g! hr);grind[YW]
def ZI{x:A5×Int}(h:F9 x.1):As (Oh x) λr=>F9 r:=by refine AA (E4 h) λv c=>AP (λ_=>AB h) (λa=>?_);have e:=c a;refine AA (KH h.2) λb d=>AA (I3 (B:=1024) g! ?_) λr hr=>AB (F9.of g! hr);grind[YW]
def Tl{x:A5×Int×Cs}(h:F9 x.1):As (MH x) λr=>F9 r:=by refine AA (E4 h) λv c=>AP (λ_=>AB h) (λa=>?_);have e:=c a;refine AA (KH h.1) λb d=>AA (I3 (B:=1024) g! ?_) λr hr=>AB (F9.of g! hr);grind[YW]
def Vh{x:A5×Int}{s:Int×Ar}(h:0<=s.1/\s.1<=x.1.2.length/\x.1.2.length<=16777216):As (Aj (Kv x) s) λr=>True:=by
 refine AV (λ(s:Int×Ar)=>0<=s.1/\s.1<=x.1.2.length/\x.1.2.length<=16777216) (λ(s:Int×Ar)=>((x.1.2.length:Int)-s.1).toNat) h (λs b=>?_);unfold Kv;exact x!
def IJ{x:A5×Int}(h:F9 x.1):As (E5 x) λr=>r.2=true->YW x.1:=by
 unfold E5;repeat' with_reducible first|apply AL<;>intro b|(apply A9;try dsimp only)|apply Bf|apply Bw|apply Ml|(apply A6<;>(intro u a;try subst a))|apply AB|(refine AO ?_ (E4 ?_);intro r hr)|(refine AO ?_ (Vh ?_);intro r hr)
 all_goals ((try dsimp[len]at*);(try first|omega|assumption|grind[F9]))
def W8{x:A5×Ar}{s:Int}(h:0<=s/\s<=x.1.2.length/\(x.1.2.length:Int)<=16777216/\x.1.1.length<=16777216):As (Aj (My x) s) λr=> ∀u,r= .inl u->0<=u/\u<=x.1.2.length:=by
 refine AV (λ(s:Int)=>0<=s/\s<=x.1.2.length/\(x.1.2.length:Int)<=16777216/\x.1.1.length<=16777216) (λ(s:Int)=>((x.1.2.length:Int)-s).toNat) h (λs a=>?_);unfold My;exact x!
def bA{x:A5×Ar}(h:F9 x.1):As (IY x) λr=>0<=r/\r<=x.1.2.length:=by
 unfold IY;repeat' with_reducible first|apply AQ<;>intro b|(apply A6<;>(intro u a;try subst a))|apply AB|(refine AO ?_ (Hp ?_);intro r hr)|(refine AO ?_ (W8 ?_);intro r hr)
 all_goals ((try dsimp[len]at*);(try first|omega|assumption|grind[F9]))
def Xp{x:A5×Ar}(h:F9 x.1):As (Ns x) λr=>F9 r.1:=by refine AA (E4 h) λv o=>AP (λ_=>AB F9.nil) (λl=>?_);have n:=o l;unfold YW at n;refine AA Nv λ_ _=>AP (λ_=>AB F9.nil) (λ_=>AA (IJ h) λz _=>?_);apply AL<;>intro m;simp_all[AL,AB,F9.nil];refine AL (λ_=>AB h) (λ_=>AA (Hp h.1) λ_ _=>AL (λ_=>AB h) (λ_=>AL (λ_=>AB F9.nil) (λ_=>AA (bA h) λp e=>AA (Bb o! e.1 e.2) λq j=>AA (Bb e.1 (by simp[len];omega) i!) λs a=>?_)));have f:=a.2;simp[len]at f;refine AA (Ac w!) λt b=>?_;have g:=b.2.1;simp at g;refine AA (Ac w!) λu c=>?_;have i:=c.2.1;simp at i;refine AA (Ac o!) λw k=>AA (I3 (B:=1025) g! d!) λy d=>AA (Hp d!) λ_ _=>AB (F9.of g! d)
def Xx{x:List Int×Int}{s:Bool×Int×List Int}(h:0<=s.2.1/\s.2.1<=x.1.length/\x.1.length<=4096/\s.2.2.length<=s.2.1+1/\(s.1=false->(s.2.2.length:Int)<=s.2.1)):As (Aj (Nq x) s) λr=>r.2.length<=x.1.length+1/\(r.1=false->r.2.length<=x.1.length):=by
 refine AV (λ(s:Bool×Int×List Int)=>0<=s.2.1/\s.2.1<=x.1.length/\x.1.length<=4096/\s.2.2.length<=s.2.1+1/\(s.1=false->(s.2.2.length:Int)<=s.2.1)) (λ(s:Bool×Int×List Int)=>((x.1.length:Int)-s.2.1).toNat) h (λs b=>?_);unfold Nq;repeat' with_reducible first|intro a|apply AC|apply AP|apply AM|apply AL|(apply A9;try dsimp only)|apply Bf|apply Bw|apply AB|(refine AO ?_ (AI ?_ ?_);rintro r ⟨hr,g⟩)|(refine AO ?_ (Ac ?_);rintro r ⟨hr,f,d⟩)
 all_goals try dsimp[len]at*
 all_goals try (have e:=Aa (x:=s.2.1+1))
 all_goals try (have c:=b.2.2.2.2 v!)
 all_goals (try simp[Bo,Ba,Bool.true_eq_false,false_implies,and_true]at*)
 all_goals first|omega|grind
def Om{x:List Int×Int}(h:x.1.length<=4096):As (FF x) λr=>r.length<=x.1.length+1:=by
 unfold FF;exact x!
def Vi{x:A5}{s:List Int×Int}(h:0<=s.2/\s.2<=x.2.length/\x.2.length<=4096/\s.1.length<=s.2):As (Aj (Kw x) s) λr=>r.length<=x.2.length:=by
 refine AV (λ(s:List Int×Int)=>0<=s.2/\s.2<=x.2.length/\x.2.length<=4096/\s.1.length<=s.2) (λ(s:List Int×Int)=>((x.2.length:Int)-s.2).toNat) h (λs b=>?_);unfold Kw;exact x!
def Xw{x:A5}(h:F9 x):As (Ja x) λr=>r.length<=4096:=by
 unfold Ja;repeat' with_reducible first|apply AL<;>intro a|(apply A9;try dsimp only)|apply Bf|apply Bw|apply AB|(refine AO ?_ (E4 ?_);intro r hr)|(refine AO ?_ (Vi ?_);intro r hr)
 all_goals ((try dsimp[len]at*);(try first|omega|assumption|grind[Aa,YW]))
theorem ZJ{x:A5×Int}{b:Ar×Bool}{s:List Int×Int}(h:0<=s.2/\s.2<=x.1.1.length/\x.1.1.length<=1024/\s.1.length<=s.2):As (Aj (Oi x b) s) λr=>r.length<=x.1.1.length:=by
 refine AV (λ(s:List Int×Int)=>0<=s.2/\s.2<=x.1.1.length/\x.1.1.length<=1024/\s.1.length<=s.2) (λ(s:List Int×Int)=>((x.1.1.length:Int)-s.2).toNat) h (λs c=>?_);unfold Oi;exact x!
theorem ZK{x:A5×Int}{b:Ar×Bool}{s:List Int×Int}(h:0<=s.2/\s.2<=x.1.2.length/\x.1.2.length<=1024/\s.1.length<=s.2+1024):As (Aj (Oj x b) s) λr=>r.length<=4096:=by
 refine AV (λ(s:List Int×Int)=>0<=s.2/\s.2<=x.1.2.length/\x.1.2.length<=1024/\s.1.length<=s.2+1024) (λ(s:List Int×Int)=>((x.1.2.length:Int)-s.2).toNat) h (λs c=>?_);unfold Oj;exact x!
def LN{x:A5×Int}(h:F9 x.1):As (H9 x) λr=>r.length<=4096:=by unfold H9;refine AA (IJ h) λc b=>AP (λ_=>AB k!) (λa=>?_);grind[YW,AA,ZJ,ZK,AB]
theorem Pj{x:A5×List Int×Int}{a:List Int}{s:Int}(h:0<=s/\s<=a.length/\(a.length:Int)<=16777216/\1<=x.2.1.length/\x.2.1.length<=4096):As (Aj (Lq x a) s) λr=> ∀u,r= .inl u->u=x.2.1:=by
 refine AV (λ(s:Int)=>0<=s/\s<=a.length/\(a.length:Int)<=16777216/\1<=x.2.1.length/\x.2.1.length<=4096) (λ(s:Int)=>((a.length:Int)-s).toNat) h (λs c=>?_);unfold Lq;exact x!
def WA{x:A5×List Int×Int}{b:Int}{s:Bool×Int}(h:0<=s.2/\s.2<=x.2.1.length/\x.2.1.length<=4096):As (Aj (Lr x b) s) λr=>True:=by
 refine AV (λ(s:Bool×Int)=>0<=s.2/\s.2<=x.2.1.length/\x.2.1.length<=4096) (λ(s:Bool×Int)=>((x.2.1.length:Int)-s.2).toNat) h (λs c=>?_);unfold Lr;exact x!
def ACf(d:Nat){x:A5×List Int×Int}(h:F9 x.1)(o:1<=x.2.1.length)(A:(x.2.1.length:Int)+d=x.2.2)(p:x.2.2<=4096):As (kg EZ (d+1) x) λr=>r.length<=4096:=by
 induction d generalizing x with
 |zero=>show As (EZ _ x) _;unfold EZ;have e:=Aa (x:=(x.2.1.length:Int)-1);refine AA (AI (by simp[len];rw[e];omega) (by simp[len];rw[e];omega)) λv _=>AA (LN h) λm f=>AQ (λ_=>?_) (λc=>absurd (by simp[len];omega) c);refine AA (Pj ⟨k!,k!,o!,o,o!⟩) λr hr=>A6 (λu a=>AB (by rw[hr u a];omega)) (λ_ _=>AB k!)
 |succ d t=>show As (EZ _ x) _;unfold EZ;have e:=Aa (x:=(x.2.1.length:Int)-1);refine AA (AI (by simp[len];rw[e];omega) (by simp[len];rw[e];omega)) λv _=>AA (LN h) λm f=>AQ (λ_=>?_) (λ_=>?_);grind[AA,Pj,A6,AB];refine AA (P:=λr=> ∀u,r= .inl u->u.length<=4096) ?_ λr hr=>A6 (λu a=>AB (hr u a)) (λ_ _=>AB k!);refine AV (λ(s:Int)=>0<=s/\s<=m.length) (λ(s:Int)=>((m.length:Int)-s).toNat) (s:=(0:Int)) ⟨g!,o!⟩ (λs q=>?_);unfold Qv;have b:=Aa (x:=s+1);refine AC (λc=>?_) (λ_=>AB (λu a=>by cases a));simp[len]at c;refine AA (AI q.1 c) λB _=>AA (WA ⟨k!,k!,o!⟩) λw _=>AL (λ_=>AB ⟨by rw[b];omega,by rw[b];omega⟩) (λ_=>AA (Ac w!) λy g=>?_);have k:=g.2.1;simp[Ba]at k;refine AA (Ac w!) λn i=>?_;have l:=i.2.1;simp[Bo,Ba]at l;refine AA (t (x:=(x.1,n,x.2.2)) h d! d! p) λz j=>AC (λ_=>AB λu a=>by cases a;exact j) (λ_=>AB ⟨by rw[b];omega,by rw[b];omega⟩)
def ZL{x:A5×List Int×Int}(h:F9 x.1)(a:1<=x.2.1.length)(d:(x.2.1.length:Int)<=x.2.2)(b:x.2.2<=4096):As (Ol x) λr=>True:=by have⟨r,hr,_⟩:=ACf (x.2.2-x.2.1.length).toNat h a o! b;have⟨s,c⟩:=pL hr;exact⟨s,c,trivial⟩
def bB{x:A5×Int}(h:F9 x.1):As (LM x) λr=>True:=by unfold LM;refine AA (P:=λ_=>True) ?_ λr _=>A6 (λ_ _=>AB trivial) (λ_ _=>AB trivial);refine AV (λs=>1<=s/\s<=4097) (λs=>(4097-s).toNat) ⟨g!,g!⟩ (λs d=>?_);unfold Re;have a:=Aa (x:=s+1);refine AA (Xw h) λe c=>AC (λb=>?_) (λ_=>AB trivial);simp[len]at b;refine AA (ZL h k! (by show(1:Int)<=s;omega) (by show s<=4096;omega)) λf _=>AC (λ_=>AB trivial) (λ_=>AB ⟨by rw[a];omega,by rw[a];omega⟩)
def TP(l:List Al):Nat:=(l.map λt=>t.2.2.2.2.1.length+1).sum
theorem AEa{l:List Al}{i:Nat}{o n:Al}(h:l[i]? =some o):TP (l.set i n)+o.2.2.2.2.1.length=TP l+n.2.2.2.2.1.length:=by
 induction l generalizing i with
 |nil=>simp at h
 |cons t r a=>
  cases i with
  |zero=>simp at h;subst h;simp[TP];omega
  |succ i=>have:=a (i:=i) (by simpa using h);simp[TP,List.set_cons_succ,Bv,Uc]at*;omega
def rA{l:List Al}{id:Int}:TP (l.filter λt=>t.1 !=id)<=TP l:=by
 induction l with
 |nil=>simp
 |cons t r a=>simp[Ug];split;simp[TP,Bv,Uc]at*;omega;simp[TP,Bv,Uc]at*;omega
def si{l:List Al}{id:Int}{i:Nat}{t:Al}(h:l[i]? =some t)(a:t.1=id):TP (l.filter λt=>t.1 !=id)<TP l:=by
 induction l generalizing i with
 |nil=>simp at h
 |cons u r b=>
  have q:=rA (l:=r) (id:=id);cases i with
  |zero=>simp at h;subst h;simp[Ug,a,bne_self_eq_false,PG,if_false];simp[TP,Bv,Uc]at*;omega
  |succ i=>have:=b (i:=i) (by simpa using h);simp[Ug];split<;>(simp[TP,Bv,Uc]at*;omega)
def XB{x:List Al×Int}{s:Int×List Al}(h:0<=s.1/\s.1<=x.1.length/\x.1.length<=64/\s.2.length=s.1):As (Aj (M0 x) s) λr=>r.length<=x.1.length:=by
 refine AV (λ(s:Int×List Al)=>0<=s.1/\s.1<=x.1.length/\x.1.length<=64/\s.2.length=s.1) (λ(s:Int×List Al)=>((x.1.length:Int)-s.1).toNat) h (λs c=>?_);unfold M0;exact x!
def Sv{x:List Al×Int}:As (Ia x) λr=>r.2=0->r.1.length=x.1.length+1/\r.1.length<=64:=by
 unfold Ia;repeat' with_reducible first|intro a|apply AC|apply AP|apply AQ|apply AL|apply AB|(apply AA (Do);intro r hr)|(refine AO ?_ (Ht ?_);intro r hr)|(refine AO ?_ (XB ?_);intro r hr)|(refine AO ?_ (Ac ?_);rintro r ⟨hr,b,c⟩)|(refine AO ?_ (Bb ?_ ?_ ?_);rintro r ⟨hr,b⟩)
 all_goals ((try dsimp[len]at*);(try first|omega|assumption|grind[Aa,Xc]))
def zk(l:List Al)(id:Int):List Al:=l.filter λt=>t.1 !=id
theorem lQ(l:List Al)(id:Int):(zk l id).length<=l.length:=Fe _ _
theorem ADY(l:List Al)(id:Int):TP (zk l id)<=TP l:=rA
theorem ADZ{l:List Al}{id:Int}{i:Nat}{t:Al}(h:l[i]? =some t)(a:t.1=id):TP (zk l id)<TP l:=si h a
def iG{a:Type}{l:List a}{n:Int}{p:a->Bool}{x:a}(b:0<=n)(c:l[n.toNat]? =some x):(l.take (n+1).toNat).filter p=(l.take n.toNat).filter p++(if p x=true then [x]else []):=by
 have e:(n+1).toNat=n.toNat+1:=o!
 grind[List.take_add_one,Option.toList_some]
def ke{a:Type}{l:List a}{n:Int}{p:a->Bool}(b:0<=n):(((l.take n.toNat).filter p).length:Int)<=n:=by grind[List.length_filter_le,List.length_take]
def WG{x:List Al×Int}{s:Int×List Al}(h:0<=s.1/\s.1<=x.1.length/\x.1.length<=16777216/\s.2=(x.1.take s.1.toNat).filter (λt=>t.1 !=x.2)):As (Aj (Lv x) s) λr=>r=x.1.filter λt=>t.1 !=x.2:=by
 refine AV (λ(s:Int×List Al)=>0<=s.1/\s.1<=x.1.length/\x.1.length<=16777216/\s.2=(x.1.take s.1.toNat).filter (λt=>t.1 !=x.2)) (λ(s:Int×List Al)=>((x.1.length:Int)-s.1).toNat) h (λs f=>?_);unfold Lv;have⟨b,i,e,c⟩:=f;have a:=ke (l:=x.1) (p:=λt:Al=>t.1 !=x.2) b;rw[<-c]at a;repeat' with_reducible first|intro d|apply AC|apply AM|apply AL|(apply A9;try dsimp only)|apply Bf|apply Bw|apply AB|(refine AO ?_ (AI ?_ ?_);rintro r ⟨hr,k⟩)|(refine AO ?_ (Ac ?_);rintro r ⟨hr,j,g⟩)
 all_goals dsimp[len]at*
 all_goals first|omega|(rw[(Aa (x:=s.1+1))];refine⟨⟨o!,o!,e,?_⟩,o!⟩;rw[iG b v!];grind)|(rw[c,BQ o!])|(simp;omega)
def I5{x:List Al×Int}(h:x.1.length<=16777216):As (GW x) λr=>r=zk x.1 x.2:=by
 unfold GW zk
 exact x!
def M2{x:Al}(h:x.2.2.2.2.1.length<=16777216):As (Hu x) λr=>r.1=x.1/\r.2.2.2.2=x.2.2.2.2:=by
 unfold Hu;exact x!
def LR{x:List Al×Int×Al}(h:x.1.length<=16777216)(a:0<=x.2.1/\x.2.1<x.1.length):As (IB x) λr=>r=x.1.set x.2.1.toNat x.2.2:=by unfold IB;refine AA (Ac (by simpa using h)) λr hr=>?_;have⟨hr,b,_⟩:=hr;rw[By]at hr;subst hr;refine AA (AI a.1 a.2) λ_ _=>AA (AI a.1 a.2) λ_ _=>AB rfl
def Qx{x:List Al×AE}{a:Al}{s:Int×List Int}(h:0<=s.1/\s.1<=a.2.2.2.2.1.length/\a.2.2.2.2.1.length<=4096/\s.2.length<=s.1):As (Aj (N0 x a) s) λr=>r.length<=a.2.2.2.2.1.length:=by
 refine AV (λ(s:Int×List Int)=>0<=s.1/\s.1<=a.2.2.2.2.1.length/\a.2.2.2.2.1.length<=4096/\s.2.length<=s.1) (λ(s:Int×List Int)=>((a.2.2.2.2.1.length:Int)-s.1).toNat) h (λs d=>?_);unfold N0;exact x!
def fR(l:List Al)(id:Int):Prop:= ∃(j:Nat) (t:Al),l[j]? =some t/\t.1=id
theorem fR.set{l:List Al}{i:Nat}{n:Al}{id:Int}(h:i<l.length)(hn:n.1=id):fR (l.set i n) id:=⟨i,n,by rw[H8 h],hn⟩
def xd(l:List Al)(kind tx:Int)(m:List Al):Prop:=m.length<=l.length/\(tx=0->m=l)/\(tx≠0->kind≠1->(kind≠4->TP m<TP l)/\TP m<=TP l)/\(tx≠0->kind=4->fR m tx)
def dO{x:List Al×AE}:As (GG x) λr=>r.2=0->xd x.1 x.2.2.1 x.2.2.2.1 r.1:=by
 unfold GG;repeat' with_reducible first|intro a|apply AC|apply AP|apply AQ|apply AM|apply AL|(apply A9;try dsimp only)|apply Bf|apply Bw|apply Ml|(apply BK;try dsimp only)|(apply A4;try dsimp only)|(apply A6<;>(intro u c;try subst c))|apply AB|(apply AA (Do);intro r hr)|(apply AA (CL);intro r hr)|(refine AO ?_ (Ht ?_);intro r hr)|(refine AO ?_ (Qx ?_);intro r hr)|(refine AO ?_ (I5 ?_);intro r hr)|(refine AO ?_ (M2 ?_);intro r hr)|(refine AO ?_ (LR ?_ ?_);intro r hr)|(refine AO ?_ (AI ?_ ?_);rintro r ⟨hr,f⟩)|(refine AO ?_ (Ac ?_);rintro r ⟨hr,e,b⟩)
 all_goals dsimp[len]at*
 all_goals first|omega|(intro d;exact absurd d g!)|(unfold Xc VTx at*;(first|omega|grind[xd,AEa,ADZ,ADY,lQ,List.length_set,fR.set]))
variable {B:Int->Prop}
def Rk{x:List Al×Int}:As (Hs x) λr=>r.2=0->Xc x.1/\0<=r.1/\r.1<x.1.length:=by
 unfold Hs;repeat' with_reducible first|intro a|apply AC|apply AP|apply AM|apply AL|apply AB|(apply AA (Do);intro r hr)|(refine AO ?_ (Ht ?_);intro r hr)|(refine AO ?_ (AI ?_ ?_);rintro r ⟨hr,b⟩)
 all_goals ((try dsimp[len]at*);(try first|omega|assumption|grind[Aa,Xc]))
def dP{x:List Al×Int}:As (MM x) λr=>r.2=0->r.1.length<=64:=by
 unfold MM;repeat' with_reducible first|intro a|apply AQ|apply AM|apply AL|apply AB|(apply AA (Rk);intro r hr)|(refine AO ?_ (LR ?_ ?_);intro r hr)|(refine AO ?_ (AI ?_ ?_);rintro r ⟨hr,e⟩)|(refine AO ?_ (Ac ?_);rintro r ⟨hr,d,b⟩)
 all_goals try dsimp[len]at*
 all_goals first|omega|(intro c;exact absurd c v!)|grind[Xc,VTx,List.length_set]
def dN{x:List Al×Int×Int}:As (ML x) λr=>r.2=0->r.1.length<=64:=by
 unfold ML;repeat' with_reducible first|intro a|apply AC|apply AM|apply AL|apply AB|(apply AA (Rk);intro r hr)|(refine AO ?_ (M2 ?_);intro r hr)|(refine AO ?_ (LR ?_ ?_);intro r hr)|(refine AO ?_ (AI ?_ ?_);rintro r ⟨hr,e⟩)|(refine AO ?_ (Ac ?_);rintro r ⟨hr,b,c⟩)|(refine AO ?_ (Bb ?_ ?_ ?_);rintro r ⟨hr,b⟩)
 all_goals try dsimp[len]at*
 all_goals first|omega|(intro d;exact absurd d v!)|grind[Xc,VTx,List.length_set,Aa]
def fG{x:Bq×Int×Dh}(h:x.1.length<=16777216)(a:0<=x.2.1/\x.2.1<x.1.length):As (NS x) λr=>r=x.1.set x.2.1.toNat x.2.2:=by unfold NS;refine AA (Ac (by simpa using h)) λr hr=>?_;have⟨hr,b,_⟩:=hr;rw[By]at hr;subst hr;refine AA (AI a.1 a.2) λ_ _=>AA (AI a.1 a.2) λ_ _=>AB rfl
def Tn{x:Bq×AE}:As (HP x) λr=>r.2=0->r.1.length=x.1.length/\(x.2.2.1≠7->r.1=x.1)/\(x.2.2.1=7->0<=x.2.2.2.2.2.2.2.1.1/\ ∃w,x.1[x.2.2.2.2.2.2.2.1.1.toNat]? =some w/\r.1=x.1.set x.2.2.2.2.2.2.2.1.1.toNat ((if x.2.2.2.2.2.2.1>w.1 then x.2.2.2.2.2.2.1 else w.1),w.2)):=by
 unfold HP;refine AA F5 λv i=>AP (λa=>AB n!) (λa=>AA CL λl k=>AP (λa=>AB n!) (λf=>AM (λa=>AB λ_=>⟨rfl,λ_=>rfl,λe=>absurd e a⟩) (λd=>?_)));have i:Io x.2:=q!
 have c:0<=x.2.2.2.2.2.2.2.1.1:=by grind[Io,UA,OQ,Pd]
 refine AC (λa=>AB n!) (λg=>?_);simp[len]at g;refine AA (AI c) λw j=>AA (fG (by have:=(by grind:jO x.1).2;dsimp only;omega) ⟨c,d!⟩) λu h=>AB λ_=>?_;subst h;exact⟨k!,λe=>absurd d e,λ_=>⟨c,w,j.1,rfl⟩⟩
def KQ{x:AU×Int}(h:SB x.1):As (EV x) λr=>Bg x.1=some true->KP x.1.1 x.1.2.2.1.2.1 x.1.2.2.2.1.2.1 x.1.2.2.2.2.2.2.2 x.1.2.2.2.2.2.2.1->0<=x.2->x.2<x.1.1->r=B0 x.1.2.2.1.2.1 x.2:=by unfold EV;refine Dx (B9 h) λv u t=>AP (λa=>AB λe=>?_) (λa=>?_);rw[u,a]at e;cases e;refine AC (λa=>AB λ_ _ p=>absurd p o!) (λp=>AC (λa=>AB λ_ _ _ q=>absurd q o!) (λq=>AA IZ λg s=>AL (λa=>AB λ_ c d j=>?_) (λk=>?_)));have⟨_,_,_,e,f,n,b⟩:=s.1 a;have:=(c x.2 d j).1 f n (by rw[b];exact e);rw[b]at this;rw[this];exact Pb _ _;refine AA (Jd h) λl o=>AL (λa=>AB λ_ c d j=>(c x.2 d j).2.1 _ (o.1 a).1 (o.1 a).2) (λm=>AA (AI o! (by have:=(t a).2.2.2.2.2.2.2;omega)) λr hr=>AB λ_ c d j=>?_);exact((c x.2 d j).2.2 r hr.1).2 (o.2 m) λf n e=>by have⟨i,w⟩:=Dm n;exact absurd ⟨i,f,w,e⟩ (s.2 k (t a).2.2.2.1)
def LX(a b:Af):Prop:=b.1=a.1/\a.2.2<=b.2.2/\ ∃t,b.2.1=a.2.1++t
def LX.refl(a:Af):LX a a:=⟨rfl,Ae _,[],k!⟩
def LX.trans{a b c:Af}(h:LX a b)(g:LX b c):LX a c:=by have⟨i,k,t,j⟩:=h;have⟨d,f,u,e⟩:=g;exact⟨d.trans i,lh k f,t++u,by rw[e,j,A2]⟩
def LX.get{a b:Af}(h:LX a b){i:Nat}{e:AE}(f:a.2.1[i]? =some e):b.2.1[i]? =some e:=by have⟨c,_,t,d⟩:=h;grind[List.getElem?_append_left,Nat.lt_or_ge,List.getElem?_eq_none]
def AGW(k:AU)(z:AE)(m:AU):Prop:=
 ∃e,m.2.2.1.2.1=k.2.2.1.2.1++[e]/\e.1=k.2.2.1.1+k.2.2.1.2.1.length/\e.2.1=z.2.1/\e.2.2.2.2.2=z.2.2.2.2.2/\
  (KP k.1 k.2.2.1.2.1 k.2.2.2.1.2.1 k.2.2.2.2.2.2.2 k.2.2.2.2.2.2.1->(e.2.1=1\/e.2.1=2)->0<=e.2.2.2.2.2.2.1.1->e.2.2.2.2.2.2.1.1<k.1->e.2.2.2.2.1=B0 k.2.2.1.2.1 e.2.2.2.2.2.2.1.1)/\
  (z.2.1≠7->m.2.2.2.2.2.2.1=k.2.2.2.2.2.2.1)/\
  (z.2.1=7->0<=z.2.2.2.2.2.2.1.1/\ ∃w,k.2.2.2.2.2.2.1[z.2.2.2.2.2.2.1.1.toNat]? =some w/\m.2.2.2.2.2.2.1=k.2.2.2.2.2.2.1.set z.2.2.2.2.2.2.1.1.toNat ((if z.2.2.2.2.2.1>w.1 then z.2.2.2.2.2.1 else w.1),w.2))
def wA(k:AU)(z:AE)(m:AU):Prop:=
 m.1=k.1/\LX k.2.2.1 m.2.2.1/\Dg m.2.2.1/\m.2.2.2.1=k.2.2.2.1/\m.2.2.2.2.1=k.2.2.2.2.1/\xd k.2.2.2.2.2.1 z.2.1 z.2.2.1 m.2.2.2.2.2.1/\m.2.2.2.2.2.2.2=k.2.2.2.2.2.2.2/\SB m/\AGW k z m
def Fq{x:AU×AE}(h:SB x.1):As (EH x) λr=>r.2.2=0->VK x.1/\wA x.1 x.2 r.1/\r.2.1=x.1.2.2.1.1+x.1.2.2.1.2.1.length:=by
 unfold EH;refine Dx (B9 h) λv q E=>AP (λa=>AB n!) (λa=>?_);have n:=E a;rw[a]at q;refine AA (P:=λs=>(∃u,s= .inl u/\u.2.1≠0)\/ ∃u,s= .inr u/\u.1.2.1=x.2.2.1/\u.1.2.2.1=x.2.2.2.1/\u.1.2.2.2.2.2=x.2.2.2.2.2.2) ?_ λs D=>?_
 ·repeat' with_reducible first|intro a|apply AC|apply AP|apply AM|apply AL|(apply A9;try dsimp only)|apply Bf|apply Bw|apply Ml|(apply BK;try dsimp only)|(apply A4;try dsimp only)|(apply A6<;>(intro u b;try subst b))|apply AB|(refine AO ?_ (FW ?_);intro r hr)|(refine AO ?_ (AI ?_ ?_);rintro r ⟨hr,N⟩)
  all_goals ((try dsimp[len]at*);(try first|omega|assumption|grind[Aa,SB]))
 rcases D with⟨u,rfl,b⟩|⟨u,rfl,b⟩;exact BK (AB λc=>absurd c b);apply A4;refine AA (Bz) λO A=>AA (P:=λv:AE=>v.2.1=x.2.2.1/\v.2.2.1=x.2.2.2.1/\v.2.2.2.2.2=x.2.2.2.2.2.2/\(KP x.1.1 x.1.2.2.1.2.1 x.1.2.2.2.1.2.1 x.1.2.2.2.2.2.2.2 x.1.2.2.2.2.2.2.1->(v.2.1=1\/v.2.1=2)->0<=v.2.2.2.2.2.2.1.1->v.2.2.2.2.2.2.1.1<x.1.1->v.2.2.2.2.1=B0 x.1.2.2.1.2.1 v.2.2.2.2.2.2.1.1)) ?_ λt d=>?_;refine AL (λa=>?_) (λa=>AB ⟨b.1,b.2.1,b.2.2,λ_ n=>absurd (A.2 n) (by simp[a])⟩);exact AA (KQ h) λw F=>AB ⟨b.1,b.2.1,b.2.2,λo _ G H=>F q o G H⟩;refine AA (ZH) λi B=>AM (λa=>AB (λc=>absurd c a)) (λa=>?_);have⟨a1,a2,a3,a4,a5,a6⟩:=B a;dsimp only at a2 a3 a4 a5 a6;refine AA (Gr) λp e=>AA (dO) λI l=>AM (λa=>AB (λc=>absurd c a)) (λf=>AA (Tn) λJ m=>AM (λa=>AB (λc=>absurd c a)) (λg=>AB λ_=>⟨n,?_⟩))
 have L:=a2.1;have M:i.1.2.1.length=x.1.2.2.1.2.1.length+1:=by rw[a3];simp
 have⟨K,y,k,z⟩:=e.1 (e.2 a1 d! d!);dsimp only at y k z;have C:p.1=(i.2.1,t.2):=by
  have:(i.2.1-i.1.1).toNat=x.1.2.2.1.2.1.length:=o!
  rw[this,a3]at k;simpa using k.symm
 have hn:=l f;have j:=(m g).2;rw[C]at hn j;dsimp only at hn j;rw[d.1,d.2.1]at hn;rw[d.1,d.2.2.1]at j;exact⟨⟨rfl,⟨a4,Int.le_of_eq a6.symm,_,a3⟩,a1,rfl,rfl,hn,rfl,⟨h.1,by have:=hn.1;have:=h.2.1;dsimp only at*;omega,h.2.2⟩,(i.2.1,t.2),a3,a5,d.1,d.2.2.1,d.2.2.2,j⟩,a5⟩
def wA.ki{k m:AU}{z:AE}(h:wA k z m)(b:KI B k)(a:z.2.1≠1/\z.2.1≠2/\z.2.1≠6/\z.2.1≠7):KI B m:=by obtain⟨a1,_,_,a4,_,_,a7,_,e,c,g,d,i,j,f,l⟩:=h;unfold KI;rw[a1,a4,a7,c,f a.2.2.2];rw[<-d]at a;exact⟨b.1.app ⟨λh=>o!,λh=>o!,λh=>o!⟩,b.2.1.app ⟨a.1,a.2.1⟩,b.2.2⟩
def wA.sk{k m:AU}{z:AE}(h:wA k z m)(a:SK B k)(b:z.2.1≠1/\z.2.1≠2/\z.2.1≠6/\z.2.1≠7):SK B m:=h.2.2.2.2.2.2.2.1.sk (h.ki a.ki b)
end Go.Pm
namespace Go.Pm
open Go Go.Ab
set_option maxHeartbeats 400000
def DI(d:Bk):Prop:=d.1.length<=64/\(∀(i:Nat) (s:BY),d.1[i]? =some s->s.length=256)/\d.2.2.1=[]/\d.2.2.2.2=[]
def V8{x:Int}{s:Int×List BY}(h:0<=s.1/\s.1<=x/\x<=64/\s.2.length=s.1/\ ∀(i:Nat) (t:BY),s.2[i]? =some t->t=Ei (List.replicate (Int.toNat 256) 0)):As (Aj (Ln x) s) λr=>(r.length:Int)=x/\ ∀(i:Nat) (t:BY),r[i]? =some t->t=Ei (List.replicate (Int.toNat 256) 0):=by
 refine AV (λ(s:Int×List BY)=>0<=s.1/\s.1<=x/\x<=64/\s.2.length=s.1/\ ∀(i:Nat) (t:BY),s.2[i]? =some t->t=Ei (List.replicate (Int.toNat 256) 0)) (λ(s:Int×List BY)=>(x-s.1).toNat) h (λs c=>?_);unfold Ln;have⟨f,g,a,j,b⟩:=c;have k:(Ei (List.replicate (Int.toNat 256) 0)).length=256:=by rw[L9,HD];rfl
 repeat' with_reducible first|intro d|apply AC|apply AL|apply AB|(refine AO ?_ (Ac ?_);rintro r ⟨hr,l,e⟩)
 all_goals first|omega|(generalize Ei (List.replicate (Int.toNat 256) 0)=bs at*;simp;omega)|(generalize Ei (List.replicate (Int.toNat 256) 0)=bs at*;rw[(Aa (x:=s.1+1))];refine⟨⟨o!,o!,a,q!,?_⟩,o!⟩;grind)|(exact⟨o!,b⟩)
def Rb{x:Int}(h:0<=x/\x<=64):As (Of x) λr=>(r.length:Int)=x/\ ∀(i:Nat) (t:BY),r[i]? =some t->t=Ei (List.replicate (Int.toNat 256) 0):=by exact AA (V8 ⟨Ae _,h.1,h.2,rfl,λi t a=>by simp at a⟩) λr hr=>AB hr
def fA{x:Int}:As (J3 x) λr=>r.2=0->DI r.1/\r.1.1.length=x/\ ∀(i:Nat) (t:BY),r.1.1[i]? =some t->t=Ei (List.replicate (Int.toNat 256) 0):=by refine AC (λb=>AB n!) (λb=>AC (λb=>AB n!) (λc=>AA (Rb o!) λr hr=>AB λ_=>⟨⟨d!,λi t d=>?_,rfl,rfl⟩,hr⟩));rw[hr.2 i t d,L9,HD];rfl
def aw{x:Bk×C1}:As (LJ x) λr=>True:=by
 unfold LJ;exact x!
def Ww{x:Bk}{s:Int}(h:0<=s/\s<=x.1.length/\(x.1.length:Int)<=16777216):As (Aj (Mn x) s) λr=>r≠ .inl true:=by
 refine AV (λ(s:Int)=>0<=s/\s<=x.1.length/\(x.1.length:Int)<=16777216) (λ(s:Int)=>((x.1.length:Int)-s).toNat) h (λs b=>?_);unfold Mn;exact x!
def Wx{x:Bk}{s:Int}(h:0<=s/\s<=x.2.2.1.length/\(x.2.2.1.length:Int)<=16777216):As (Aj (Mo x) s) λr=>r≠ .inl true:=by
 refine AV (λ(s:Int)=>0<=s/\s<=x.2.2.1.length/\(x.2.2.1.length:Int)<=16777216) (λ(s:Int)=>((x.2.2.1.length:Int)-s).toNat) h (λs b=>?_);unfold Mo;repeat' with_reducible first|intro a|apply AC|apply AL|apply AB|(refine AO ?_ (AI ?_ ?_);rintro r ⟨hr,c⟩)
 all_goals ((try dsimp[len]at*);(try first|omega|assumption|grind[Aa]|((try simp (disch:=omega) only[Aa,len]at*)<;>(try intros)<;>(try and_intros)<;>(try intros)<;>(first|omega|assumption|grind))))
def Wy{x:Bk}{s:Int}(h:0<=s/\s<=x.2.2.2.2.length/\(x.2.2.2.2.length:Int)<=16777216):As (Aj (Mp x) s) λr=>r≠ .inl true:=by
 refine AV (λ(s:Int)=>0<=s/\s<=x.2.2.2.2.length/\(x.2.2.2.2.length:Int)<=16777216) (λ(s:Int)=>((x.2.2.2.2.length:Int)-s).toNat) h (λs b=>?_);unfold Mp;exact x!
def au{x:Bk}(h:x.2.2.1.length<=16777216):As (LH x) λr=>r=true->1<=x.1.length/\x.1.length<=64:=by
 unfold LH;exact x!
def Mt{x:Bk×Int}(h:x.1.2.2.1.length<=16777216):As (GS x) λr=>r=0->0<=x.2/\x.2<x.1.1.length/\x.1.1.length<=64:=by
 unfold GS;exact x!
def Vg{x:List Int×Int}{s:Int×List Int}(h:0<=s.1/\s.1<=x.1.length/\x.1.length<=16777216/\s.2.length<=s.1):As (Aj (Ku x) s) λr=>r.length<=x.1.length:=by
 refine AV (λ(s:Int×List Int)=>0<=s.1/\s.1<=x.1.length/\x.1.length<=16777216/\s.2.length<=s.1) (λ(s:Int×List Int)=>((x.1.length:Int)-s.1).toNat) h (λs c=>?_);unfold Ku;exact x!
def Qt{x:List Int×Int}(h:x.1.length<=16777216):As (E2 x) λr=>r.length<=x.1.length:=by
 unfold E2;exact x!
def ZD{x:List Int×Int}{s:Int}(h:0<=s/\s<=x.1.length/\(x.1.length:Int)<=16777216):As (Aj (Og x) s) λr=>True:=by
 refine AV (λ(s:Int)=>0<=s/\s<=x.1.length/\(x.1.length:Int)<=16777216) (λ(s:Int)=>((x.1.length:Int)-s).toNat) h (λs b=>?_);unfold Og;exact x!
def fB{x:List Int×Int}(h:x.1.length<=16777216):As (NP x) λr=>True:=by
 unfold NP;exact x!
def dH{x:Bk×Int}(h:DI x.1):As (MF x) λr=>r.2=0->r.1.length=256/\0<=x.2/\x.1.1[x.2.toNat]? =some r.1:=by
 unfold MF;repeat' with_reducible first|intro a|apply AM|apply AL|apply AB|(refine AO ?_ (Mt ?_);intro r hr)|(refine AO ?_ (fB ?_);intro r hr)|(refine AO ?_ (AI ?_ ?_);rintro r ⟨hr,b⟩)
 all_goals ((try dsimp[len]at*);(try first|omega|assumption|grind[DI]))
def DI.set{d:Bk}{l:List BY}{i:Int}{t:BY}{u:List Int}{w:Int}{b:Bool}(h:DI d)(c:l=d.1)(n:t.length=256)(e:u.length<=([]:List Int).length):DI (F6 l i t,w,u,b,[]):=by subst c;have⟨a,f,g,k⟩:=h;refine⟨by simpa[F6]using a,λj s m=>?_,List.length_eq_zero_iff.1 (by simpa using e),rfl⟩;grind[F6]
def dI{x:Bk×Int×BY×Int}(h:DI x.1):As (QA x) λr=>r.2=0->DI r.1/\ ∃o,0<=x.2.1/\x.1.1[x.2.1.toNat]? =some o/\r.1.1=F6 x.1.1 x.2.1 (x.2.2.1.take x.2.2.2.toNat++o.drop x.2.2.2.toNat):=by
 have⟨C,s,n,t⟩:=h;refine AA (Mt (by dsimp only;rw[n];simp)) λF i=>AM (λg=>AB (λa=>absurd a g)) (λg=>AC (λ_=>AB n!) (λc0=>AC (λ_=>AB n!) (λB=>AM (λ_=>AB n!) (λv=>?_))));have⟨b,c,E⟩:=i g;simp only[len]at v;refine AA (Ac w!) λw j=>AA (Ac (by rw[n];simp)) λz k=>AA (Ac (by rw[t];simp)) λA m=>?_;have j:w=x.1.1:=q!
 have k:z=[]:=q!
 have m:A=[]:=q!
 subst j k m;refine AA (CQ (Ae _)) λG e=>AA (AI b c) λH _=>AA (AI b c) λq p=>?_;have D:=s _ _ p.1;refine AA (CQ o! i! (by simp[len])) λI f=>AA (CA (by simp only[len]at f;omega)) λJ u=>AA (AI b c) λ_ _=>AA (AI b c) λ_ _=>AA (Qt k!) λy d=>AB λ_=>⟨h.set rfl (by simp only[len]at f;omega) d,q,b,p.1,?_⟩
 dsimp only;rw[u.1,e.1,f.1,BQ (l:=q.drop _) (by simp[len])];simp
def whole{l:List BY}{i:Nat}{s o a b r:BY}(h:len s=256)(f: ∀(i:Nat) (s:BY),l[i]? =some s->s.length=256)(hr:r=a++b)(c:a=List.take (Int.toNat 256-Int.toNat 0) (List.drop (Int.toNat 0) s))(d:b=List.take ((len o).toNat-Int.toNat 256) (List.drop (Int.toNat 256) o))(g:l[i]? =some o):r=s:=by have j:=f _ _ g;have e:List.drop (Int.toNat 256) o=[]:=gq (by simp only[Int.reduceToNat];omega);simp only[len]at h;rw[hr,c,d,e,List.take_nil,Db];exact BQ w!
def av{x:Bk×Int×BY}(h:DI x.1):As (PU x) λr=>r.2=0->DI r.1/\0<=x.2.1/\r.1.1=F6 x.1.1 x.2.1 x.2.2:=by
 have⟨B,o,i,j⟩:=h;refine AA (Mt (by dsimp only;rw[i];simp)) λC g=>?_;refine AM (λb=>AB (λc=>absurd c b)) (λb=>?_);refine AM (λb=>AB n!) (λd=>?_);refine AQ (λb=>AB n!) (λq=>?_);refine AA (Ac w!) λy t=>?_;refine AA (Ac (by rw[i];simp)) λz u=>?_;refine AA (Ac (by rw[j];simp)) λA v=>?_;have l:y=x.1.1:=q!
 have m:z=[]:=q!
 have n:A=[]:=q!
 subst l m n;have l1: ∀s,s.1=0->Aj (Mq x) s=some s.2:=λs e=>by rw[G5];unfold Mq;rw[j,e];rfl
 rw[l1 _ rfl];apply A9;have l2: ∀a s,a.1=[]->s.2.1=0->Aj (Mr x a) s=some (s.1,(s.2.2.2.2.2.2.1,(s.2.2.2.2.2.1,s.2.2.2.2.2.2.2))):=λa s f e=>by rw[G5];unfold Mr;rw[f,e];rfl
 have w: ∀a s,a.1=[]->s.1=0->Aj (Ms a) s=some (s.2.2.2.2.2.1,(s.2.2.2.2.1,s.2.2.2.2.2.2)):=λa s f e=>by rw[G5];unfold Ms;rw[f,e];rfl
 rw[l2 _ _ rfl rfl];repeat' with_reducible first|apply AC<;>intro b|apply AP<;>intro b|apply AQ<;>intro b|apply AM<;>intro b|apply AL<;>intro b|(apply A9;try dsimp only)|apply Bf|apply Bw|apply AB|(rw[w _ _ rfl rfl];apply A9;dsimp only)|(refine AO ?_ (Qt ?_);intro r hr)|(refine AO ?_ (AI ?_ ?_);rintro r ⟨hr,q⟩)|(refine AO ?_ (Ac ?_);rintro r ⟨hr,k,p⟩)|(refine AO ?_ (CA ?_);rintro r ⟨hr,k⟩)|(refine AO ?_ (CQ ?_ ?_ ?_);rintro r ⟨hr,k⟩)
 all_goals first|omega|(simp;done)|(intro c;exact absurd c g!)|(exact λ_=>⟨h.set rfl q! hr,(g v!).1,congrArg (F6 _ _) (whole d o v! v! v! v!)⟩)|(cases b;done)|grind
def DC(p:Br):Nat:=p.2.1.countP λf=>f.2.1
def UC(p:Br):Nat:=p.2.1.countP λf=>f.2.2.2
def wX{a:Type}{l:List a}{i:Nat}{o n:a}{q:a->Bool}(h:l[i]? =some o):(l.set i n).countP q+(if q o=true then 1 else 0)=l.countP q+(if q n=true then 1 else 0):=q!
theorem LP{x:Br×Int×BA}(h:x.1.2.1.length<=16777216)(a:0<=x.2.1/\x.2.1<x.1.2.1.length):As (IA x) λr=>r=(x.1.1,x.1.2.1.set x.2.1.toNat x.2.2,x.1.2.2):=by refine AA (Ac (by simpa using h)) λr hr=>?_;have⟨hr,b,_⟩:=hr;subst hr;refine AA (AI a.1 a.2) λ_ _=>AA (AI a.1 a.2) λ_ _=>AB rfl
def core(f:BA):AT×Bool×Int:=(f.1,f.2.1,f.2.2.1)
def CF(l:List BA):List (AT×Bool×Int):=l.map core
def AEE{l:List BA}{i:Nat}{f g:BA}(h:l[i]? =some f)(a:core g=core f):CF (l.set i g)=CF l:=by unfold CF;apply H7;grind
theorem oR{l m:List BA}(h:CF m=CF l){i:Nat}{f:BA}(a:m[i]? =some f): ∃g,l[i]? =some g/\core g=core f:=by
 have:(CF m)[i]? =some (core f):=by unfold CF;rw[List.getElem?_map,a];rfl
 rw[h]at this;unfold CF at this;grind
def AED{l m:List BA}(h:CF m=CF l):m.length=l.length:=by have:=congrArg List.length h;simpa[CF]using this
def xa{p:Br}:DC p=(CF p.2.1).countP λc=>c.2.1:=by unfold DC CF;rw[List.countP_map];rfl
theorem J8.congr{l m:List BA}{n:Int}(h:CF m=CF l)(d:J8 l n):J8 m n:=by refine⟨λi f r b=>?_,λi j f g c s b q=>?_⟩;have⟨g,a,o⟩:=oR h b;have:=d.1 i g r a;grind[core,lY];have⟨e,a,o⟩:=oR h b;have⟨k,p,t⟩:=oR h q;have:=d.2 i j e k c s a p;grind[core]
def O4.uniq{p:Br}(h:O4 p){i j:Nat}{f g:BA}(a:p.2.1[i]? =some f)(b:p.2.1[j]? =some g)(e:f.1.1=g.1.1):f=g:=by have c:=h.2.2.2.2.2.2;grind
def WB{c:List (AT×Bool×Int)}{z:Int}{s:Br}(h:c=CF s.2.1/\z=s.1/\0<=s.2.2/\s.2.2<s.2.1.length/\s.2.1.length<=64):As (Aj Qw s) λr=>c=CF r.2.1/\z=r.1/\0<=r.2.2/\r.2.2<r.2.1.length/\r.2.1.length<=64:=by
 refine AV (λs=>c=CF s.2.1/\z=s.1/\0<=s.2.2/\s.2.2<s.2.1.length/\s.2.1.length<=64) UC h (λs n=>?_);have⟨k,l,i,j,m⟩:=n;refine AA (AI i j) λf q=>AL (λo=>?_) (λo=>AB ⟨k,l,i,j,m⟩);refine AA (AI i j) λd t=>?_;have e:d=f:=q!
 subst e;refine AA (LP d! ⟨i,j⟩) λp u=>?_;subst u;refine AQ (λv=>?_) (λv=>AB ?_);grind;rw[(Aa (x:=s.2.2+1))];refine⟨⟨?_,l,(Int.tmod_nonneg (len (s.2.1.set s.2.2.toNat (d.1,d.2.1,d.2.2.1,false))) (a:=s.2.2+1) o!),(Int.tmod_lt_of_pos (s.2.2+1) (b:=len (s.2.1.set s.2.2.toNat (d.1,d.2.1,d.2.2.1,false))) w!),by rw[bg];exact m⟩,?_⟩;rw[k];exact(AEE (g:=(d.1,d.2.1,d.2.2.1,false)) q.1 rfl).symm;unfold UC;grind
def ZN{x:Br}:As (On x) λr=>(r.2.2=0->O4 x/\O4 r.1/\CF r.1.2.1=CF x.2.1/\j9 r.1 r.2.1)/\(O4 x->x.2.1.length≠0->r.2.2=0):=by refine AA EF λv g=>AP (λc=>AB ⟨n!,λh _=>?_⟩) (λc=>?_);grind;have b:=g.1 c;have e:=b;have⟨k,l,m,i,n,o⟩:=b;refine AQ (λa=>AB ⟨n!,λ_ h=>absurd a (by simpa[len]using h)⟩) (λa=>?_);simp only[len]at a;refine AA (WB ⟨rfl,rfl,i,o!⟩) λp b=>?_;have⟨q1,q2,q3,q4,q5⟩:=b;refine AA (AI q3 q4) λf d=>?_;have j:=AED q1;refine AB ⟨λ_=>⟨e,⟨d!,d!,d!,q3,.inr q4,?_⟩,q1.symm,⟨_,f,d.1,rfl⟩⟩,λ_ _=>rfl⟩;grind[J8.congr]
def dM{x:Br×Int}:As (MK x) λr=>O4 x.1-> ∀(i:Nat) (f:BA),x.1.2.1[i]? =some f->f.1.1=x.2->f.2.1=false->(∀g∈r.1.2.1,g∈x.1.2.1)/\ ∀g∈x.1.2.1,g.2.1=true->g∈r.1.2.1:=by
 unfold MK;refine AA EF λv A=>AP (λn=>AB λo=>absurd (A.2 o) (by simp[n])) (λn=>?_);have o:=A.1 n;have T:=o.2.1;have U:=o.2.2.1;refine AA (GV o!) λi G=>?_;have⟨R,J,K,L⟩:=G;refine AC (λn=>AB λ_ j f p e _=>absurd ⟨j,f,p,e⟩ (L n)) (λH=>?_);have⟨k,I,t⟩:=K o!;refine AA (AI o! J) λw Q=>?_;have B:w=k:=by grind[Option.some.inj]
 subst B;refine AL (λu=>AB λ_ j f p e l=>?_) (λu=>?_);have:=o.uniq p I (by rw[e,t]);subst this;rw[u]at l;cases l;have O:=Aa (x:=i+1);refine AA (Bb) λa C=>AA (Bb o! (by simp[len];omega) i!) λb D=>?_;have S:=C.2;have M:=D.2;simp[len]at M;refine AA (Ac (by rw[Ba];omega)) λc s=>?_;have N:=s.2.1;rw[Ba]at N;refine AA (Ac o!) λd E=>?_;have q: ∀(j:Nat) (f:BA),x.1.2.1[j]? =some f->f.1.1=x.2->f.2.1=false->(∀g∈d,g∈x.1.2.1)/\ ∀g∈x.1.2.1,g.2.1=true->g∈d:=by intro j f p e l;refine⟨λg y=>?_,λg y F=>?_⟩;grind[List.mem_of_mem_take,List.mem_of_mem_drop];have⟨m,z⟩:=Dm y;rw[(by grind[List.take_of_length_le,List.length_drop]:d=x.1.2.1.take i.toNat++x.1.2.1.drop (i.toNat+1)),Ao];rcases P1 m i.toNat with h|h|h;exact .inl (BP (i:=m) (by rw[JQ h];exact z));grind[Option.some.inj];exact .inr (BP (i:=m-(i.toNat+1)) (by rw[JP];rw[show i.toNat+1+(m-(i.toNat+1))=m by omega];exact z))
 refine AA (P:=λ_=>True) (AC (λ_=>AB trivial) (λ_=>AB trivial)) λV _=>AA (P:=λ_=>True) (AC (λ_=>AB trivial) (λ_=>AB trivial)) λW _=>AB λ_=>q
theorem bC{x:Br×Int×Int}:As (PV x) λr=>r.2=0->O4 x.1/\DC r.1<=DC x.1/\(∀(i:Nat) (f:BA),x.1.2.1[i]? =some f->f.1.1=x.2.1->f.2.1=true->f.1.2.1=x.2.2->DC r.1<DC x.1)/\(∀g∈r.1.2.1,∃f∈x.1.2.1,f.1.1=g.1.1/\f.1=g.1)/\ ∀f∈x.1.2.1,f.1.1≠x.2.1->f∈r.1.2.1:=by
 refine AA EF λv C=>?_;refine AP (λb=>AB (λo=>absurd o (by decide))) (λb=>?_);have l:=C.1 b;have J:=l.2.2.1;have I:=l.2.1;refine AA (GV (by dsimp only;omega)) λi B=>?_;have⟨G,D,E,H⟩:=B;refine AC (λb=>AB (λo=>absurd o (by decide))) (λb=>?_);have⟨f,c,d⟩:=E (by omega);refine AA (AI (by omega) D) λg z=>?_;have e:g=f:=by grind
 subst e;refine AC (λb=>AB (λo=>absurd o (by decide))) (λA=>?_);refine AP (λs=>AB (λ_=>⟨l,Aq _,λj k m a h _=>?_,λg z=>⟨g,z,rfl,rfl⟩,λf c _=>c⟩)) (λs=>?_);have:=l.uniq m c (by rw[a,d]);subst this;rw[s]at h;cases h;refine AA (P:=λn:BA=>(g.1.2.1=x.2.2->n.2.1=false)/\n.1=g.1) ?_ λn hn=>?_
 ·repeat' with_reducible first|refine AC ?_ ?_<;>intro b|refine AP ?_ ?_<;>intro b|refine AQ ?_ ?_<;>intro b|refine AL ?_ ?_<;>intro b|(refine A9 ?_;try dsimp only)|refine Bf ?_|refine Bw ?_|refine AB ?_|(refine AO ?_ (AI ?_ ?_);rintro r ⟨hr,F⟩)
  all_goals grind
 refine AA (LP (by dsimp only;omega) ⟨by dsimp only;omega,by dsimp only;omega⟩) λp y=>?_;subst y;refine AB λ_=>?_;have u:=wX (q:=λf:BA=>f.2.1) (n:=n) c;rw[s]at u;refine⟨l,?_,λj k m a h t=>?_,yV c hn.2,λk m w=>uJ c k m (by rw[d];exact w)⟩;unfold DC;dsimp only;simp at u;split at u<;>omega;have:=l.uniq m c (by rw[a,d]);subst this;rw[hn.1 t]at u;unfold DC;dsimp only;simp at u;omega
def fN(n:Nat):BY:=List.replicate n 0
def VE(c:Cc):BY:=C8 (if c.1=true then(c.2.length:Int)else 255) 1++(c.2++fN (12-c.2.length))
def cl(a:Hf 16 Cc)(i:Nat):Cc:=(GA a i).getD (false,[])
def Oc(a:Hf 16 Cc)(k:Nat):BY:=(List.range k).flatMap λi=>VE (cl a i)
def Km(x:AT):BY:=C8 x.2.1 8++(C8 x.1 4++(Oc x.2.2 16++fN 24))
def He(x:AT):BY:=Km x++(C8 (O8 (Km x)) 4++C8 x.2.1 8)
def jF{a:Hf 16 Cc}{i:Nat}(h:i<16):GA a (i:Int)=some (cl a i)/\cl a i=a ⟨i,h⟩:=by
 have e:GA a (i:Int)=some (a ⟨i,h⟩):=by unfold GA;rw[dif_pos o!];rfl
 unfold cl;rw[e];exact⟨rfl,rfl⟩
theorem P6(a:Hf 16 Cc)(k:Nat):Oc a (k+1)=Oc a k++VE (cl a k):=by unfold Oc;rw[List.range_succ,Zt,Iq,lz,Db]
def ae{c:Cc}(h:c.2.length<=12):(VE c).length=13:=by unfold VE fN;rw[Ag,Ag,A0,HD];omega
def Ex.cl{x:AT}(h:Ex x)(i:Nat):FA (cl x.2.2 i):=by rcases Aw i 16 with a|a;rw[(jF a).2];exact(h.2.2.2.2 _).1;unfold Go.Pm.cl GA;rw[dif_neg o!];exact⟨g!,.inr rfl⟩
theorem Ir{x:AT}(h:Ex x): ∀k:Nat,(Oc x.2.2 k).length=13*k
 |0=>rfl
 |k+1=>by rw[P6,Ag,Ir h k,ae (h.cl k).1];omega
def Gm{x:AT}(h:Ex x):(Km x).length=244:=by unfold Km fN;simp only[Ag,A0,Ir h,HD]
theorem ag{x:AT}(h:Ex x):(He x).length=256:=by unfold He;simp only[Ag,A0,Gm h]
def Tc{x:AT}:(He x).take 8=C8 x.2.1 8:=by unfold He Km;rw[A2,Gd (A0 _ _)]
def ka{x:AT}(h:Ex x):(He x).drop 248=C8 x.2.1 8:=by unfold He;rw[<-A2,lw (by rw[Ag,Gm h,A0])]
def jC(n:Nat):Ei (List.replicate n 0)=fN n:=by unfold Ei fN;rw[List.map_replicate];rfl
def uQ{x:Int}(h:0<=x/\x<=16777216):Gp x=some (fN x.toNat):=by unfold Gp Go.Ab.mk;rw[if_pos ⟨h.1,Ae _,h.2⟩,AD,jC]
def kC{s:BY}{n k:Int}(h:s.length<=1099511627776)(a:1<=k/\k<=8):As (Ak (s,(n,k))) λr=>r=s++C8 n k.toNat:=⟨_,Ha h a.1 a.2,rfl⟩
theorem kA{x:AT}(h:Ex x):CW x=some 0:=by have⟨a,g,c⟩:=II (x:=x);have⟨b,i,d⟩:=JX (x:=x);have e:a=true:=c.2 ⟨h.1,h.2.1,h.2.2.1,h.2.2.2.1⟩;have f:b=true:=d.2 h.2.2.2.2;unfold CW;rw[g,e,AD,i,f];rfl
theorem U2{x:AT}(h:Ex x):CY x=some (He x,0):=by
 suffices g:As (CY x) λr=>r=(He x,0) by obtain⟨r,hr,rfl⟩:=g;exact hr
 unfold CY;rw[kA h,AD];refine AM (λb=>absurd rfl b) λ_=>AA (kC g! g!) λL p=>AA (kC (by rw[p];simp[A0]) g!) λG z=>?_;have w:G=C8 x.2.1 8++C8 x.1 4:=by rw[z,p];rfl
 refine AA (P:=λr=>r=C8 x.2.1 8++(C8 x.1 4++Oc x.2.2 16)) ?_ λf d=>?_
 ·refine Cv (λ(s:BY×Int)=>0<=s.2/\s.2<=16/\s.1=C8 x.2.1 8++(C8 x.1 4++Oc x.2.2 s.2.toNat)) (λ(s:BY×Int)=>(16-s.2).toNat) ⟨Ae _,u!,by rw[w];simp[Oc]⟩ ?_;rintro⟨s,i⟩ ⟨u,C,g⟩;dsimp only at u C g;subst g;unfold Qs;dsimp only;refine AC (λb=>?_) (λb=>As.done (by rw[show i.toNat=16 by omega]));have⟨t,K⟩:=jF (a:=x.2.2) (i:=i.toNat) o!;rw[JO u]at t;have b:=(h.cl i.toNat).1;simp only[t,AD,Aa (x:=i+1)];have J:(C8 x.2.1 8++(C8 x.1 4++Oc x.2.2 i.toNat)).length<=300:=by simp only[Ag,A0,Ir h];omega
  refine AA (P:=λv=>v=if(cl x.2.2 i.toNat).1=true then((cl x.2.2 i.toNat).2.length:Int)else 255) ?_ λM A=>?_;exact AL (λb=>AB (if_pos b).symm) (λb=>AB (if_neg (by rw[b];decide)).symm);refine AA (kC o! g!) λN q=>?_;have y:wi (12-len (cl x.2.2 i.toNat).2)=((12-(cl x.2.2 i.toNat).2.length:Nat):Int):=by rw[Aa i!];simp only[len];omega
  rw[y,uQ o!,AD,Dl];refine AA (CA (by simp only[fN,HD];omega)) λn c=>?_;have D:n.length<=24:=by rw[c.2];simp only[fN,HD];omega
  refine AA (CA (by rw[q,Ag,A0];simp only[Int.reduceToNat];omega)) λF k=>As.next ⟨d!,d!,?_⟩ d!
  dsimp only;rw[k.1,c.1,q,A,show(i+1).toNat=i.toNat+1 by omega,P6];simp only[VE,A2,Int.reduceToNat]
 have E:f.length=220:=by rw[d];simp only[Ag,A0,Ir h]
 rw[show wi (244-len f)=24 by rw[Aa i!];simp only[len];omega,uQ g!,AD];refine AA (CA (by simp only[fN,HD,Int.reduceToNat];omega)) λo l=>?_;have j:o=Km x:=by rw[l.1,d];simp only[Km,A2,Int.reduceToNat]
 rw[j,sh (by rw[Gm h];decide),AD];have B:=YG (Km x);rw[Aa];refine AA (kC (by rw[Gm h];decide) g!) λH e=>AA (kC (by rw[e,Ag,Gm h,A0];decide) g!) λI m=>AB ?_;rw[m,e];simp only[He,A2,Int.reduceToNat]
def y0{c d:Cc}(e:FA c)(f:FA d)(h:VE c=VE d):c=d:=by obtain⟨g,l⟩:=c;obtain⟨i,m⟩:=d;obtain⟨j,b⟩:=EO h (by rw[A0,A0]);have l1:=e.1;have l2:=f.1;dsimp only at l1 l2;have a:=WL (k:=1) g! ⟨λ_=>by dsimp only;split<;>omega,by dsimp only;split<;>omega,by dsimp only;split<;>omega⟩ ⟨λ_=>by dsimp only;split<;>omega,by dsimp only;split<;>omega,by dsimp only;split<;>omega⟩ j;dsimp only at a b;cases g<;>cases i;have:=e.2;have:=f.2;simp_all;exfalso;simp at a;omega;exfalso;simp at a;omega;simp at a;exact DN rfl (EO b o!).1
def o0{x y:AT}(a:Ex x)(b:Ex y): ∀k:Nat,Oc x.2.2 k=Oc y.2.2 k-> ∀i,i<k->cl x.2.2 i=cl y.2.2 i
 |0,_=>λi c=>absurd c o!
 |k+1,h=>by rw[P6,P6]at h;obtain⟨d,e⟩:=EO h (by rw[Ir a,Ir b]);intro i c;by_cases f:i=k;subst f;exact y0 (a.cl i) (b.cl i) e;exact o0 a b k d i o!
theorem AAy{x y:AT}(a:Ex x)(b:Ex y)(h:He x=He y):x=y:=by obtain⟨h,_⟩:=EO h (by rw[Gm a,Gm b]);obtain⟨c,h⟩:=EO h (by rw[A0,A0]);obtain⟨d,h⟩:=EO h (by rw[A0,A0]);obtain⟨e,_⟩:=EO h (by rw[Ir a,Ir b]);have f:=a.1;have g:=a.2.1;have j:=a.2.2.1;have k:=a.2.2.2.1;have l:=b.1;have m:=b.2.1;have n:=b.2.2.1;have o:=b.2.2.2.1;refine DN (WL (by decide) ⟨λ_=>by omega,by omega,by omega⟩ ⟨λ_=>by omega,by omega,by omega⟩ d) (DN (WL (by decide) ⟨λ_=>by omega,by omega,by omega⟩ ⟨λ_=>by omega,by omega,by omega⟩ c) (funext λi=>?_));have:=o0 a b 16 e i.val i.isLt;rw[(jF i.isLt).2,(jF i.isLt).2]at this;exact this
def Ra{x:AT}:As (CY x) λr=>r.2=0->Ex x/\r.1=He x:=by have⟨v,b,h⟩:=No (x:=x);by_cases a:v=0;exact⟨_,U2 (h a),λ_=>⟨h a,rfl⟩⟩;unfold CY;rw[b,AD];exact AM (λ_=>AB λe=>absurd e a) (λe=>absurd e a)
theorem oE:IU ()=some (fN 256):=by unfold IU;rw[uQ g!];rfl
def V7{x:BY}{s:Int×AT×AT}(h:0<=s.1/\s.1<=16/\x.length=256):As (Aj (Ga x) s) λr=> ∀u,r= .inl u->u.1=4:=by
 refine AV (λ(s:Int×AT×AT)=>0<=s.1/\s.1<=16/\x.length=256) (λ(s:Int×AT×AT)=>(16-s.1).toNat) h (λs e=>?_);unfold Ga;obtain⟨g,i,j⟩:=e;have b:=Aa (x:=s.1*13);have c:=Aa (x:=12+s.1*13);have d:=Aa (x:=12+s.1*13+1);rw[b,c,d];repeat' with_reducible first|intro a|apply AC|apply AQ|apply AL|apply AB|(refine AO ?_ (CM ?_ ?_);intro r hr)|(refine AO ?_ (CQ ?_ ?_ ?_);rintro r ⟨hr,f⟩)|(refine AO ?_ (Qd ?_ ?_);rintro r ⟨hr,f⟩)
 all_goals try dsimp only[len]at*
 all_goals first|omega|grind[Aa]
def ZC{x:BY}(h:x.length<=1099511627776):As (EQ x) λr=>(r.2=0->Ex r.1/\x=He r.1/\x≠fN 256)/\(r.2=7->x=fN 256):=by
 unfold EQ;rw[oE,AD];repeat' with_reducible first|intro b|apply AQ|apply AM|apply AL|(apply BK;try dsimp only)|(apply A4;try dsimp only)|(apply A6<;>(intro u c;try subst c))|apply AB|(refine AO ?_ (Cj ?_);intro r hr)|(refine AO ?_ (PS ?_);intro r hr)|(refine AO ?_ (V7 ?_);intro r hr)|(apply AA (Ra);intro r hr)|(refine AO ?_ (CQ ?_ ?_ ?_);rintro r ⟨hr,d⟩)
 all_goals try dsimp only[len]at*
 all_goals first|trivial|omega|(exact⟨n!,n!⟩)|grind
def eu{x:Int}:As (Fj x) λr=>r=(x,(0,Hf.all (false,[]))):=by
 unfold Fj;exact x!
def Rd(s:BY)(p:Int)(q:AT):Prop:=q.1=p/\((s=fN 256/\q=(p,(0,Hf.all (false,[]))))\/(Ex q/\s=He q/\s≠fN 256))
def Wu{x:BY×Int}(h:x.1.length<=1099511627776):As (Ci x) λr=>r.2=0->Rd x.1 x.2 r.1:=by refine AC (λ_=>AB n!) (λ_=>AC (λ_=>AB n!) (λ_=>AA (ZC h) λv c=>AQ (λd=>?_) (λ_=>AQ (λf=>AM (λ_=>AB n!) (λb=>AB λa=>⟨b,.inr (c.1 a)⟩)) (λhn=>AB λa=>absurd a hn))));exact AA eu λw e=>AB λ_=>by rw[e];exact⟨rfl,.inl ⟨c.2 d,rfl⟩⟩
def bE{x:Bq×Int×Int×BY}(h:x.2.2.2.length<=1099511627776):As (LQ x) λr=>r.2=0->Rd x.2.2.2 x.2.1 r.1:=by
 unfold LQ;repeat' with_reducible first|intro a|apply AC|apply AP|apply AM|apply AL|apply AB|(apply AA (F5);intro r hr)|(refine AO ?_ (Wu ?_);intro r hr)|(refine AO ?_ (AI ?_ ?_);rintro r ⟨hr,c⟩)
 all_goals try dsimp only[len]at*
 all_goals first|assumption|omega|(intro b;exact absurd b v!)|(intro b;exact absurd b g!)|(intro _;exact hr v!)|grind
def Sr{x:AT×Dd}:As (Fp x) λr=>(r.2=0->OQ x.2/\GA x.1.2.2 x.2.2.1=some x.2.2.2.1)/\(OQ x.2->x.2.1=x.1.1->GA x.1.2.2 x.2.2.1=some x.2.2.2.1->r=((x.1.1,(x.1.2.1,T2 x.1.2.2 x.2.2.1 x.2.2.2.2)),0)):=by unfold Fp;refine AA Np λv g=>AP (λe=>AB ⟨n!,λh=>absurd (g.2 h) (by simp[e])⟩) (λe=>?_);have b:=g.1 e;refine AM (λe=>AB ⟨n!,λ_ h=>absurd h e⟩) (λj=>?_);obtain⟨c,i,_⟩:=CM (a:=x.1.2.2) b.2.2.1 b.2.2.2.1;rw[i];refine A9 (A9 (AL (λd=>AB ⟨n!,λ_ _ h=>?_⟩) (λd=>A9 (A9 (AB ⟨λ_=>⟨b,?_⟩,λ_ _ _=>rfl⟩)))));rw[BV h]at d;simp at d;obtain⟨k,l⟩:=c;simp at d;rw[d.1,d.2]
def xZ{x:AT}{e:AE}(h:Ex x)(d:Io e)(f:e.2.1=1\/e.2.1=2)(b:e.2.2.2.2.2.2.1.1=x.1)(g:e.2.2.2.2.1=x.2.1)(c:GA x.2.2 e.2.2.2.2.2.2.1.2.1=some e.2.2.2.2.2.2.1.2.2.1):Ft (x,e)=some (upd x e,0):=by
 suffices i:As (Ft (x,e)) λr=>r=(upd x e,0) by obtain⟨r,hr,rfl⟩:=i;exact hr
 have a:OQ e.2.2.2.2.2.2.1:=by grind[Io,UA]
 refine AA CL λv j=>AP (λa=>absurd (j.2 d) (by simp[a])) (λ_=>AA Bz λw k=>AP (λa=>absurd (k.2 f) (by simp[a])) (λ_=>?_));rw[kA h];refine A9 (AM (λa=>absurd rfl a) (λ_=>AM (λa=>absurd b a) (λ_=>AM (λa=>absurd g a) (λ_=>AA Sr λr hr=>?_))));rw[hr.2 a b c];exact AM (λa=>absurd rfl a) (λ_=>AB rfl)
def az{x:AE×List AE}(h:x.2.length<=16777215):As (LL x) λr=>r=x.1::x.2:=by
 unfold LL;exact x!
def Il(L:List AE):Prop:= ∀(i:Nat) (e:AE),L[i]? =some e->e.1=1+i/\Io e
def Dg.num{l:Af}(h:Dg l)(a:l.1=1):Il l.2.1:=λi e b=>by have:=h.2.2.2.2.2 i e b;rw[a]at this;exact this
def Il.take{L:List AE}(h:Il L)(k:Nat):Il (L.take k):=λi e a=>h i e q!
def ba{L:List AE}{k:Nat}(h:k<L.length):L.take (k+1)=L.take k++[L[k]]:=by rw[Ct,Au h];rfl
def Il.at{L:List AE}(h:Il L){k:Nat}(a:k<L.length):L[k].1=1+k/\Io L[k]:=h k _ (Au a)
def YN{L:List AE}(h:Il L)(p:Int):B0 L p<=L.length:=by
 have:=km (p:=p) (b:=L.length+1) L 0 o! λe c=>by have⟨i,a⟩:=Dm c;have:=(h i e a).1;have:=C0 a;omega
 unfold B0;omega
def PO{L:List AE}(h:Il L)(p:Int)(j:Nat): ∀k:Nat,j<=k->B0 (L.take j) p<=B0 (L.take k) p
 |0,hj=>by rw[show j=0 by omega];exact Ae _
 |k+1,hj=>by by_cases e:j=k+1;rw[e];exact Ae _;have c:=PO h p j k (by omega);by_cases a:k<L.length;rw[ba a,O2];have b:=YN (h.take k) p;have d:=(h.at a).1;rw[BR]at b;split<;>omega;rw[BQ (l:=L) (i:=k+1) (by omega)];rwa [BQ (l:=L) (i:=k) (by omega)]at c
def tW{L:List AE}(h:Il L){p:Int}{i:Nat}{e:AE}(a:L[i]? =some e)(c:af p e=true){k:Nat}(d:i<k):e.1<=B0 (L.take k) p:=by have b:=C0 a;have:=PO h p (i+1) k d;rw[ba b,O2,(BV ((Au b).symm.trans a):L[i]=e),if_pos c]at this;exact this
def sG{L:List AE}(h:Il L){p:Int}{j k:Nat}(g:B0 (L.take j) p=B0 (L.take k) p):((L.take k).drop j).filter (af p)=[]:=by refine List.filter_eq_nil_iff.2 λe f d=>?_;obtain⟨i,a⟩:=Dm f;rw[JP]at a;have b:=C0 a;rw[BR]at b;rw[JQ o!]at a;have:=tW h a d (k:=k) o!;have c:=YN (h.take j) p;have:=(h _ _ a).1;rw[BR]at c;omega
def qW(L:List AE){j k:Nat}(h:j<=k):L.take k=L.take j++(L.take k).drop j:=by
 conv=>lhs;rw[<-Di j (L.take k)]
 rw[Kk,P2 h]
def iQ{L:List AE}{p:Int}{j k:Nat}(h:j<=k):st (L.take k) p=(((L.take k).drop j).filter (af p)).foldl upd (st (L.take j) p):=by
 conv=>lhs;rw[qW L h]
 exact yW _ _ _
theorem iP{L:List AE}(h:Il L){p:Int}{j k:Nat}(b:B0 (L.take j) p=B0 (L.take k) p):st (L.take j) p=st (L.take k) p:=by rcases Nat.le_total j k with a|a;rw[iQ a,sG h b];rfl;rw[iQ a,sG h b.symm];rfl
def oJ{L:List AE}(h:Il L){p:Int}: ∀{k:Nat},0<B0 (L.take k) p-> ∃(i:Nat) (e:AE),i<k/\L[i]? =some e/\af p e=true/\(i:Int)+1=B0 (L.take k) p
 |0,hk=>absurd hk (by simp[B0])
 |k+1,hk=>by by_cases b:k<L.length;rw[ba b,O2]at hk⊢;by_cases a:af p L[k]=true;rw[if_pos a];exact⟨k,L[k],by omega,Au b,a,by have:=(h.at b).1;omega⟩;rw[if_neg a]at hk⊢;obtain⟨i,e,d,r⟩:=oJ h hk;exact⟨i,e,by omega,r⟩;rw[BQ (l:=L) (i:=k+1) (by omega)]at hk⊢;rw[<-BQ (l:=L) (i:=k) (by omega)]at hk;obtain⟨i,e,d,f,g,c⟩:=oJ h hk;rw[BQ (l:=L) (i:=k) (by omega)]at c;exact⟨i,e,by omega,f,g,c⟩
def WK{L:List AE}(h:Il L)(p:Int)(k:Nat):0<=B0 (L.take k) p:=PO h p 0 k (Bi _)
def bT{L:List AE}(h:Il L){p:Int}{k:Nat}:B0 (L.take (B0 (L.take k) p).toNat) p=B0 (L.take k) p:=by
 have f:=WK h p k;by_cases d:B0 (L.take k) p=0;rw[d];rfl;obtain⟨i,e,g,a,c,hn⟩:=oJ h (by omega:0<B0 (L.take k) p);have b:(B0 (L.take k) p).toNat=i+1:=o!
 have:=tW h a c (k:=i+1) o!;have:=YN (h.take (i+1)) p;have:=(h i e a).1;rw[b];rw[BR]at*;omega
theorem Vz{L:List AE}(h:Il L){p:Int}(b:0<=p/\p<64)(d:L.length<=1099511627776): ∀k:Nat,Ex (st (L.take k) p)
 |0=>⟨b.1,b.2,Ae 0,(by decide:(0:Int)<=1099511627776),λi=>⟨⟨Bi 12,.inr rfl⟩,λ_=>rfl⟩⟩
 |k+1=>by
  have a:=Vz h b d k;by_cases c:k<L.length;rw[ba c,xW];split;rename_i m;have⟨g,j⟩:=h.at c;have e:OQ L[k].2.2.2.2.2.2.1:=by grind[Io,UA,af]
  refine⟨a.1,a.2.1,by show 0<=L[k].1;omega,by show L[k].1<=_;omega,λi=>⟨?_,λf=>?_⟩⟩;show FA (T2 _ _ _ i);unfold T2;split;exact e.2.2.2.2.2;exact(a.2.2.2.2 i).1;have:L[k].1=0:=f;omega;exact a;rw[BQ (l:=L) (i:=k+1) o!];rwa [BQ (l:=L) (i:=k) o!]at a
def yn:AT->List AE->Prop
 |_,[]=>True
 |x,e::r=>(Ex x/\Io e/\(e.2.1=1\/e.2.1=2)/\e.2.2.2.2.2.2.1.1=x.1/\e.2.2.2.2.1=x.2.1/\GA x.2.2 e.2.2.2.2.2.2.1.2.1=some e.2.2.2.2.2.2.1.2.2.1)/\yn (upd x e) r
def yn.snoc: ∀{x:AT} {l:List AE} {e:AE},yn x l->yn (l.foldl upd x) [e]->yn x (l++[e])
 |_,[],_,_,h=>h
 |_,_::_,_,h,g=>⟨h.1,yn.snoc h.2 g⟩
def tf{n:Int}{L:List AE}(h:Il L)(g:LI n L){p:Int}(o:0<=p/\p<64)(m:L.length<=1099511627776)(j:Nat): ∀k:Nat,j<=k->yn (st (L.take j) p) (((L.take k).drop j).filter (af p))
 |0,hj=>by rw[show j=0 by omega];exact trivial
 |k+1,hj=>by
  by_cases e:j=k+1;rw[e,Uf (by rw[BR];omega)];exact trivial;have c:=tf h g o m j k o!;by_cases b:k<L.length;rw[ba b,lu (by rw[BR];omega),Ip,Ug,gu];split;rename_i q;refine c.snoc ⟨?_,trivial⟩;rw[<-iQ o!];have r:=g k _ (Au b);have a:(L[k].2.1=1\/L[k].2.1=2)/\L[k].2.2.2.2.2.2.1.1=p:=by simpa[af]using q
  have⟨d,f⟩:=r.1 a.1;rw[a.2]at d f;exact⟨Vz h o m k,(h.at b).2,a.1,by rw[a.2,TF],by rw[d,Pb],f⟩;rw[Db];exact c;rw[BQ (l:=L) (i:=k+1) o!];rwa [BQ (l:=L) (i:=k) o!]at c
def kY{L:List AE}(h:Il L){p:Int}{m j k:Nat}(l:m<=j)(n:B0 (L.take m) p=B0 (L.take j) p):((L.take k).drop m).filter (af p)=((L.take k).drop j).filter (af p):=by rw[<-Di (j-m) ((L.take k).drop m),Ip,Nf,show m+(j-m)=j by omega];refine(congrArg (· ++_) (List.filter_eq_nil_iff.2 λe g f=>?_)).trans (By _);obtain⟨i,a⟩:=Dm g;have c:=C0 a;rw[BR]at c;rw[JQ o!,JP]at a;have b:=C0 a;rw[BR]at b;rw[JQ o!]at a;have:=tW h a f (k:=j) o!;have d:=YN (h.take m) p;have:=(h _ _ a).1;rw[BR]at d;omega
def AFC{n:Int}{l:Af}(t:Dg l)(C:l.1=1)(I:LI n l.2.1){p:Int}(T:0<=p/\p<64){j k:Nat}(A:B0 (l.2.1.take j) p<=B0 (l.2.1.take k) p):As (QB (l,(p,(B0 (l.2.1.take k) p,B0 (l.2.1.take j) p)))) λr=>r=(((l.2.1.take k).drop j).filter (af p),0):=by
 have b:=t.num C;have O:=WK b p k;have Q:=WK b p j;have R:=t.2.2.1;refine AA BS λv B=>AP (λa=>absurd (B.2 t) (by simp[a])) (λ_=>AC (λa=>absurd a d!) (λ_=>AC (λa=>absurd a d!) (λ_=>AC (λa=>absurd a d!) (λ_=>AC (λa=>absurd a d!) (λ_=>AA (P:=λr=>r= .inr (((l.2.1.take k).drop j).filter (af p),B0 (l.2.1.take j) p)) ?_ λr hr=>?_)))))
 ·refine Cv (λ(s:List AE×Int)=> ∃m:Nat,m<=k/\s=(((l.2.1.take k).drop m).filter (af p),B0 (l.2.1.take m) p)/\B0 (l.2.1.take j) p<=s.2) (λs=>s.2.toNat) ⟨k,Aq _,by rw[Uf (by rw[BR];omega)];rfl,A⟩ ?_;rintro s ⟨m,S,rfl,x⟩;unfold Su;dsimp only at x⊢;refine AC (λa=>?_) (λa=>As.done ?_)
  ·obtain⟨i,e,K,q,o,J⟩:=oJ b (by omega:0<B0 (l.2.1.take m) p);have z:=C0 q;have c:(e.2.1=1\/e.2.1=2)/\e.2.2.2.2.2.2.1.1=p:=by simpa[af]using o
   refine AA Gr λg D=>?_;have F:=D.2 t d! d!;have⟨_,_,u,_⟩:=D.1 F;dsimp only at u;rw[C,show(B0 (l.2.1.take m) p-1).toNat=i by omega,q]at u;rw[F,<-BV u];refine AM (λa=>absurd rfl a) (λ_=>AA Bz λw N=>AP (λa=>absurd (N.2 c.1) (by simp[a])) (λ_=>AM (λa=>absurd c.2 a) (λ_=>?_)));have y:=Fe (af p) ((l.2.1.take k).drop m);rw[FJ,BR]at y;have d:=((I i e q).1 c.1).1;rw[c.2]at d;have E:=bT b (p:=p) (k:=m);rw[show(B0 (l.2.1.take m) p).toNat=i+1 by omega]at E;have L:=bT b (p:=p) (k:=j);have M:=PO b p (B0 (l.2.1.take j) p).toNat i o!;refine AA (az d!) λf H=>As.next ⟨i,o!,?_,d!⟩ (by dsimp only;rw[d];have:=YN (b.take i) p;rw[BR]at this;omega)
   rw[d,H,<-kY b (m:=i+1) (j:=m) o! E,QV (l:=l.2.1.take k) (i:=i) (by rw[BR];omega),Ug];have G:(l.2.1.take k)[i]'(by rw[BR];omega)=e:=by rw[List.getElem_take];exact BV ((Au z).symm.trans q)
   rw[G,if_pos o]
  have e:B0 (l.2.1.take m) p=B0 (l.2.1.take j) p:=o!
  rw[e];rcases Nat.le_total m j with h|h;rw[kY b h e];rw[kY b h e.symm]
 subst hr;exact A4 (AC (λa=>absurd a d!) (λ_=>AB rfl))
def AEW{n:Int}{l:Af}(f:Dg l)(C:l.1=1)(F:LI n l.2.1){p:Int}(t:0<=p/\p<64){j k:Nat}:As (QK (l,(st (l.2.1.take j) p,B0 (l.2.1.take k) p))) λr=>r=(if B0 (l.2.1.take j) p<=B0 (l.2.1.take k) p then st (l.2.1.take k) p else st (l.2.1.take j) p,0):=by
 generalize G:(if B0 (l.2.1.take j) p<=B0 (l.2.1.take k) p then st (l.2.1.take k) p else st (l.2.1.take j) p)=y;have d:=f.num C;have S:=WK d p k;have T:=f.2.2.1;have q:=Vz d t o!;suffices Q:As (QL (l,(st (l.2.1.take j) p,B0 (l.2.1.take k) p))) λr=>r.1=y/\r.2.2=0 from AA Q λr hr=>AB (by rw[hr.1,hr.2]);refine AA (P:=λr=> ∃b:List AE,r=(b,0)/\b.length<=4096/\yn (st (l.2.1.take j) p) b/\b.foldl upd (st (l.2.1.take j) p)=y) ?_ λr hr=>?_;refine AA BS λv w=>AP (λa=>absurd (w.2 f) (by simp[a])) (λ_=>?_);rw[kA (q j)];refine A9 (AM (λa=>absurd rfl a) (λ_=>AC (λa=>absurd a d!) (λ_=>AC (λa=>AB ?_) (λa=>?_))));rw[Pb]at a;refine⟨[],rfl,k!,trivial,?_⟩;rw[<-G];split;exact iP d (by dsimp only at a;omega);rfl;rw[Pb]at a;have c:j<=k:=by rcases Nat.le_total j k with h|h;exact h;have:=PO d p k j h;dsimp only at a;omega
 have e:((st (l.2.1.take j) p).1,(B0 (l.2.1.take k) p,(st (l.2.1.take j) p).2.1))=(p,(B0 (l.2.1.take k) p,B0 (l.2.1.take j) p)):=by rw[TF,Pb]
 dsimp only at e⊢;rw[e];refine AA (AFC f C F t (by dsimp only at a;omega)) λr hr=>AB ⟨_,hr,?_,tf d F t o! j k c,by rw[<-G,if_pos (by dsimp only at a;omega)];exact(iQ c).symm⟩;have o:=Fe (af p) ((l.2.1.take k).drop j);rw[FJ,BR]at o;omega
 ·obtain⟨b,rfl,m,O,u⟩:=hr;refine AM (λa=>absurd rfl a) (λ_=>AA (P:=λr=> ∃z,r= .inr (y,z)) ?_ λr hr=>?_)
  ·refine Cv (λ(s:Int×AT×AT)=> ∃A B,b=A++B/\s.1=A.length/\yn s.2.1 B/\B.foldl upd s.2.1=y) (λ(s:Int×AT×AT)=>((b.length:Int)-s.1).toNat) ⟨[],b,rfl,rfl,O,u⟩ ?_;rintro⟨i,x,z⟩ ⟨A,B,rfl,D,E,g⟩;dsimp only at D E g;subst D;unfold Sx;dsimp only[len];rw[Ag]at m;refine AC (λa=>?_) (λa=>As.done ?_)
   ·obtain _|⟨e,B⟩:=B;simp at a;have R:ix (A++e::B) (A.length:Int)=some e:=by unfold ix;rw[if_pos o!,Dl,Ch (Aq _),Ge];rfl
    obtain⟨⟨H,I,J,K,L,M⟩,N⟩:=E;rw[R,AD,xZ H I J K L M,AD,Aa (x:=(A.length:Int)+1)];refine AM (λa=>absurd rfl a) (λ_=>As.next ⟨A++[e],B,k!,k!,N,g⟩ d!)
   obtain _|⟨e,B⟩:=B;exact⟨z,by rw[<-g];rfl⟩;simp at a;omega
  obtain⟨z,rfl⟩:=hr;exact A4 (AB ⟨rfl,rfl⟩)
variable {B:Int->Prop}
def KS(B:Int->Prop)(k m:AU):Prop:=letI a:=m.2.2;m.1=k.1/\LX k.2.2.1 a.1/\Dg a.1/\a.2.2.1=k.2.2.2.2.1/\a.2.2.2.1=k.2.2.2.2.2.1/\SK B m
def KS.refl{k:AU}(h:SK B k)(a:Dg k.2.2.1):KS B k k:=⟨rfl,LX.refl _,a,rfl,rfl,h⟩
def KS.trans{a b c:AU}(h:KS B a b)(g:KS B b c):KS B a c:=letI d:=g.2.2;⟨g.1.trans h.1,h.2.1.trans g.2.1,d.1,d.2.1.trans h.2.2.2.1,d.2.2.1.trans h.2.2.2.2.1,d.2.2.2⟩
def LX.of{a b:Af}(h:b.1=a.1)(g:b.2.1=a.2.1)(d:a.2.2<=b.2.2):LX a b:=⟨h,d,[],by rw[g,Db]⟩
def KI.of{k m:AU}(h:KI B k)(a:m.1=k.1)(b:m.2.2.1.2.1=k.2.2.1.2.1)(c:m.2.2.2.1=k.2.2.2.1)(d:m.2.2.2.2.2.2=k.2.2.2.2.2.2):KI B m:=by unfold KI;rw[a,b,c,d];exact h
def oT{x:Af×Int}(h:Dg x.1)(c:x.2<=x.1.1+x.1.2.1.length-1):As (D9 x) λr=>r.2=0:=by refine AA BS λv d=>AP (λa=>?_) (λ_=>?_);grind;refine AA ES λe b=>?_;rw[h.last]at b;exact AC (λa=>absurd a o!) (λ_=>AB rfl)
def Jc{x:AU×Int}(h:SK B x.1)(c:Dg x.1.2.2.1):As (Fs x) λr=>KS B x.1 r/\r.2.2.2.1=x.1.2.2.2.1/\(x.2<=x.1.2.2.1.1+x.1.2.2.1.2.1.length-1->x.2<=r.2.2.1.2.2):=by unfold Fs;refine AA FT λv d=>?_;have d:=d c;refine AA (JZ.and (oT c (by dsimp only;split<;>omega))) λw a=>?_;have⟨i,e,j,k,f⟩:=a.1 a.2;refine Bf (AQ (λb=>AB ⟨⟨rfl,LX.of j e k,i,rfl,rfl,SB.sk h.sb (h.ki.of rfl e rfl rfl)⟩,rfl,λg=>?_⟩) (λb=>absurd a.2 b));dsimp only at f⊢;split at f<;>omega
def X1{x:AU×Int×Int}(h:SK B x.1)(p: ∃f∈x.1.2.2.2.1.2.1,f.1.1=x.2.1/\f.1.2.1=x.2.2):As (Je x) λr=>r.2=0->VK x.1/\KS B x.1 r.1/\DC r.1.2.2.2.1<=DC x.1.2.2.2.1/\ ∀(i:Nat) (f:BA),x.1.2.2.2.1.2.1[i]? =some f->f.1.1=x.2.1->f.2.1=true->f.1.2.1=x.2.2->DC r.1.2.2.2.1<DC x.1.2.2.2.1:=by unfold Je;refine AA (B9 h.sb) λv O=>AP (λb=>AB n!) (λb=>?_);have A:=O b;refine AC (λb=>AB n!) (λ_=>AC (λb=>AB n!) (λ_=>AC (λb=>AB n!) (λ_=>AA FT λ_ _=>AC (λb=>AB n!) (λ_=>AA FV λi L=>AA (P:=λs=>(∃u,s= .inl u/\u.1≠0)\/ ∃u,s= .inr u/\(DC u.1<=DC x.1.2.2.2.1/\ ∀(i:Nat) (f:BA),x.1.2.2.2.1.2.1[i]? =some f->f.1.1=x.2.1->f.2.1=true->f.1.2.1=x.2.2->DC u.1<DC x.1.2.2.2.1)/\(∀g∈u.1.2.1,∃f∈x.1.2.2.2.1.2.1,f.1.1=g.1.1/\f.1=g.1)/\ ∀f∈x.1.2.2.2.1.2.1,f.1.1≠x.2.1->f∈u.1.2.1) ?_ λs N=>?_))));refine AC (λb=>?_) (λb=>AB (.inr ⟨_,rfl,⟨Aq _,λj f M q _ _=>absurd (L.2.2.2 A.2.2.2.1 ⟨j,f,M,q⟩) b⟩,λg K=>⟨g,K,rfl,rfl⟩,λf n _=>n⟩));grind[AA,bC,AM,AB];rcases N with⟨u,rfl,t⟩|⟨u,rfl,t,m,y⟩;exact BK (AB λc=>absurd c t);apply A4;refine AA (Fq h.sb) λa J=>AM (λb=>AB (λc=>absurd c b)) (λb=>AB λ_=>?_);have⟨_,⟨a1,a2,a3,a4,a5,a6,a7,a8,e,E,Q,F,o,R,S,G⟩,_⟩:=J b;have⟨f,n,H,I⟩:=p;have⟨q0,w,C,D⟩:=G rfl;have T:=h.ki.2.2 f n;have d:=congrArg (λz=>z.2.1) ((h.ki.2.1 x.2.1 o! o!).1 f n H);rw[Pb]at d;refine⟨A,⟨a1,a2,a3,a5,a6.2.1 rfl,a8.1,a8.2.1,a8.2.2,?_⟩,t⟩;unfold KI;dsimp only at F o C D⊢;rw[a1,a7,E,D];have k:=congrArg (λz=>z.1) o;have l:=congrArg (λz=>z.2.1.1) o;dsimp only at k l;refine⟨h.ki.1.app ⟨λh=>o!,λ_=>?_,λh=>o!⟩,(h.ki.2.1.written o! o! o! m y C).app o!,h.ki.2.2.sub m⟩;rw[k,l,<-I];exact d
def dQ{x:AU}(h:SK B x):As (MN x) λr=>r.2.2.2=0->VK x/\KS B x r.1/\(r.2.2.1=true->DC r.1.2.2.2.1=DC x.2.2.2.1/\ ∃(i:Nat) (f:BA),r.1.2.2.2.1.2.1[i]? =some f/\f.1=r.2.1/\f.2.1=true/\r.2.1.2.1<=r.1.2.2.1.2.2):=by
 unfold MN;refine AA (B9 h.sb) λv M=>AP (λn=>AB n!) (λn=>?_);have c:=M n;refine AC (λn=>AB (λ_=>⟨c,KS.refl h c.2.2.1,λt=>by cases t⟩)) (λm=>AA ZN λw D=>?_);have⟨_,F,O,P⟩:=D.1 (D.2 c.2.2.2.1 (by have:=c.2.2.2.1.1;simp[len]at m;omega));have G: ∀g∈w.1.2.1,∃f∈x.2.2.2.1.2.1,core g=core f:=λg b=>by grind[List.getElem?_of_mem,oR,List.mem_of_getElem?]
 have H: ∀f∈x.2.2.2.1.2.1,∃g∈w.1.2.1,core g=core f:=λf l=>by grind[List.getElem?_of_mem,oR,List.mem_of_getElem?]
 have u: ∀{f g:BA},core f=core g->f.1=g.1/\f.2.1=g.2.1:=λe=>⟨congrArg (λz=>z.1) e,congrArg (λz=>z.2.1) e⟩
 have k1: ∀g∈w.1.2.1,∃f∈x.2.2.2.1.2.1,f.1.1=g.1.1/\f.1=g.1:=λg b=>by have⟨f,l,e⟩:=G g b;exact⟨f,l,by rw[(u e).1],by rw[(u e).1]⟩
 have N: ∀f∈x.2.2.2.1.2.1,f.2.1=true-> ∃g∈w.1.2.1,g.1.1=f.1.1/\g.2.1=true:=λf l y=>by have⟨g,b,e⟩:=H f l;exact⟨g,b,by rw[(u e).1],by rw[(u e).2,y]⟩
 refine AA FV λi A=>?_;have E:=A.2.2.2 F P;refine AA (AI E A.2.1) λf l=>?_;have a:KI B (x.1,(x.2.1,(x.2.2.1,(w.1,x.2.2.2.2)))):=⟨h.ki.1,h.ki.2.1.frames k1 N,h.ki.2.2.sub k1⟩
 apply AP<;>intro n;have⟨_,L,o,J⟩:=A.2.2.1 E;have K:L=f:=by have:=l.1;rw[o]at this;exact BV this
 subst K;refine AA dM λd y=>AB λ_=>⟨c,⟨rfl,LX.refl _,c.2.2.1,rfl,rfl,h.1,h.2.1,h.2.2.1,?_⟩,λt=>by cases t⟩
 have⟨C,I⟩:=y F _ _ o J n;exact⟨h.ki.1,a.2.1.frames (λg b=>⟨g,C g b,rfl,rfl⟩) (λg b s=>⟨g,I g b s,rfl,s⟩),a.2.2.sub λg b=>⟨g,C g b,rfl,rfl⟩⟩;refine AA (Jc (SB.sk ⟨h.1,h.2.1,h.2.2.1⟩ a) c.2.2.1) λk j=>AB λ_=>⟨c,j.1,λ_=>⟨?_,i.toNat,f,?_,rfl,n,j.2.2 ?_⟩⟩
 rw[j.2.1,xa,xa,O];rw[j.2.1];exact l.1;have q:=BP l.1;have p:=a.2.2 f q;have:=congrArg (λz=>z.2.1) ((a.2.1 f.1.1 p.1 p.2.1).1 f q rfl);dsimp only at this⊢;rw[this,Pb];have:=iH c.2.2.1 f.1.1;omega
def AEV(P:List AE)(p:Int)(s:BY):Prop:=s=fN 256\/ ∃j:Nat,s=He (st (P.take j) p)
def dead(s:BY):Prop:=s≠fN 256/\ ∀q,Ex q->s≠He q
def DP(B:Int->Prop)(P:List AE)(d:Bk):Prop:=DI d/\ ∀(i:Nat) (s:BY),d.1[i]? =some s->(B i->AEV P i s)/\(B i\/dead s)
def dl(l:Af):List AE:=l.2.1.take l.2.2.toNat
def DJ(B:Int->Prop)(l:Af)(d:Bk):Prop:=l.1=1/\DP B (dl l) d
def DP.up{P Q:List AE}{d:Bk}{m:Nat}(h:DP B P d)(e:P=Q.take m):DP B Q d:=⟨h.1,λi s a=>⟨λb=>by rcases(h.2 i s a).1 b with q|⟨j,q⟩;exact .inl q;rw[e,Kk]at q;exact .inr ⟨_,q⟩,(h.2 i s a).2⟩⟩
def DJ.up{a b:Af}{d:Bk}(h:DJ B a d)(g:LX a b):DJ B b d:=by obtain⟨c,f,t,e⟩:=g;refine⟨c.trans h.1,h.2.up (m:=min a.2.2.toNat a.2.1.length) ?_⟩;unfold dl;rw[e,Kk,P2 o!,bj o!,Nat.min_comm,<-Kk,BQ (l:=a.2.1.take _) (by rw[BR];omega)]
def AB0{L:List AE}(h:Il L){p d:Int}(f:B0 L p<=d):st (L.take d.toNat) p=st L p:=by
 have e:=Hj (l:=L);have a:=bT h (p:=p) (k:=L.length);rw[e]at a;have b:=PO h p (B0 L p).toNat d.toNat o!
 have c:B0 (L.take d.toNat) p<=B0 L p:=by rcases Nat.le_total d.toNat L.length with q|q;have:=PO h p _ _ q;rwa [e]at this;rw[BQ q];exact Ae _
 have:=iP h (p:=p) (j:=d.toNat) (k:=L.length) (by rw[e];omega);rwa [e]at this
def Sz{x:AW×AU×AT}(h:SK B x.2.1)(A:Dg x.2.1.2.2.1)(l:DJ B x.2.1.2.2.1 x.1.2)(n: ∃f∈x.2.1.2.2.2.1.2.1,f.1=x.2.2)(y:x.2.2.2.1<=x.2.1.2.2.1.2.2):As (Lf x) λr=>r.2=0->KS B x.2.1 r.1.1/\DJ B r.1.1.2.2.1 r.1.2/\DC r.1.1.2.2.2.1<=DC x.2.1.2.2.2.1/\((∃(i:Nat) (f:BA),x.2.1.2.2.2.1.2.1[i]? =some f/\f.1=x.2.2/\f.2.1=true)->DC r.1.1.2.2.2.1<DC x.2.1.2.2.2.1):=by
 have⟨f,m,b⟩:=n;have a:=h.ki.2.2 f m;have c:=(h.ki.2.1 f.1.1 a.1 a.2.1).1 f m rfl;refine Dx Ra λv G _=>AA (av l.2.1) λw L=>AM (λd=>AB (λo=>absurd o d)) (λd=>AA (X1 h ⟨f,m,by rw[b],by rw[b]⟩) λu K=>AM (λd=>AB (λo=>absurd o d)) (λq=>AB λ_=>?_));have⟨D,E,M,N⟩:=K q;have⟨O,P,F⟩:=L d;refine⟨E,DJ.up ⟨l.1,O,λi s j=>?_⟩ E.2.1,M,λ⟨i,g,H,t,I⟩=>N i g H (by rw[t]) I (by rw[t])⟩;have C:=A.num l.1;have k:=Vz C (p:=f.1.1) ⟨a.1,by have:=D.2.1;have:=D.1;dsimp only at*;omega⟩ (by have:=A.2.2.1;omega) x.2.1.2.2.1.2.1.length;rw[Hj,<-c,b]at k;rw[U2 k]at G;dsimp only at F j;rw[F]at j;by_cases J:i=x.2.2.1.toNat
 subst J;have e:s=He x.2.2:=by unfold F6 at j;grind
 rw[b]at a c;rw[show((x.2.2.1.toNat:Nat):Int)=x.2.2.1 by omega];refine⟨λ_=>.inr ⟨(dl x.2.1.2.2.1).length,?_⟩,.inl a.2.2.2⟩;rw[Hj,e];unfold dl;rw[AB0 C (by have:=congrArg (λz=>z.2.1) c;rw[Pb]at this;omega),<-c];exact l.2.2 i s (by unfold F6 at j;rwa [List.getElem?_set_ne o!]at j)
def SvR(B:Int->Prop)(s r:AW):Prop:=KS B s.1 r.1/\DJ B r.1.2.2.1 r.2
def dY{x:AW}(h:SK B x.1)(j:Dg x.1.2.2.1)(g:DJ B x.1.2.2.1 x.2):As (MR x) λr=>r.2=0->SvR B x r.1:=by unfold MR;refine AA (P:=λr=>r.1=0->SvR B x r.2) ?_ λr hr=>AB hr;refine AV (λs=>SvR B x s.1) (λs=>DC s.1.1.2.2.2.1) ⟨KS.refl h j,g⟩ (λs c=>?_);unfold Sy;refine AA (dQ c.1.2.2.2.2.2) λv k=>AM (λa=>AB (λe=>absurd e a)) (λa=>?_);have⟨q,b,m⟩:=k a;refine AP (λa=>AB (λ_=>⟨c.1.trans b,c.2.up b.2.1⟩)) (λd=>?_);have⟨q1,i,f,q2,q3,q4,q5⟩:=m d;refine AA (Sz b.2.2.2.2.2 b.2.2.1 (c.2.up b.2.1) ⟨f,BP q2,q3⟩ q5) λw l=>AM (λa=>AB (λe=>absurd e a)) (λa=>AB ?_);have⟨n,o,t,p⟩:=l a;exact⟨⟨(c.1.trans b).trans n,o⟩,by have:=p ⟨i,f,q2,q3,q4⟩;dsimp only at*;omega⟩
end Go.Pm
