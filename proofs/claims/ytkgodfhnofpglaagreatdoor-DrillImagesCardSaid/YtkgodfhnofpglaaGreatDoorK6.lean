/- Texts of wip, joined and shortened by wip/tools/pack.py; nothing is assumed. -/
import Derived.Test.YtkgodfhnofpglaaGreatDoorK5
noncomputable section
set_option linter.all false
open Option renaming some->D
open List renaming length->Z
open Go renaming Ψ->E
open Bool renaming false->X
open Option renaming none->A
open Bool renaming true->Y
open Go renaming Ω->V
open Option renaming some->δ,none->ε
open Bool renaming true->ζ,false->η
open List renaming length->θ
open Go.IntKind renaming wrap->ι
open BitVec renaming ofInt->κ,toNat->π
open Sum renaming elim->ν
open Nat renaming beq->ξ
open Int renaming toNat->ο
open Decidable renaming decide->τ
namespace Go.Pm
open Go Go.Ab
set_option maxRecDepth 100000
noncomputable section
abbrev C8:Type:=Int×Int×BV
def Fe:Ty:=.prod (.cons (.int .i64) (.cons (.int .i64) (.one .str)))
abbrev A0:Type:=Int×Int×List C8
def BY:Ty:=.prod (.cons (.int .i64) (.cons (.int .i64) (.one (.list Fe))))
abbrev No:Type:=BV
def Xd:Ty:=.prod (.one .str)
def UO(x:Int×Int):Option (Int×Int):=letI d:=κ 64 4294967295;letI c:=(π ((κ 64 x.1)&&&d));letI b:=(π ((κ 64 x.2)&&&d));letI a:=(2^(min (ο 32) 64));letI f:=Int.fdiv x.2 a;letI e:=Int.fdiv x.1 a;δ ((ι .u64 ((ι .u64 ((ι .u64 (e*f))+(Int.fdiv (ι .u64 ((ι .u64 (e*(ι .u64 ((b:Nat):Int))))+(Int.fdiv (ι .u64 ((ι .u64 ((c:Nat):Int))*(ι .u64 ((b:Nat):Int)))) a))) a)))+(Int.fdiv (ι .u64 ((ι .u64 (((π ((κ 64 (ι .u64 ((ι .u64 (e*(ι .u64 ((b:Nat):Int))))+(Int.fdiv (ι .u64 ((ι .u64 ((c:Nat):Int))*(ι .u64 ((b:Nat):Int)))) a))))&&&d)):Nat):Int))+(ι .u64 ((ι .u64 ((c:Nat):Int))*f)))) a))),ι .u64 (x.1*x.2))
def WY(x:Int×Int):Option (Int×Int):=(UO x).bind λa=>δ a
end
noncomputable section
def Wz(x:Unit):Option BV:=(Kp (([0]:List (UInt8)),256)).bind λa=>δ a
def G2(x:BV×Int×Int):Option Int:=(Bl x).bind λa=>δ a.1
def ja(x:BV):Lp (Int×AT×AT) ((Bool×AT)⊕(AT×AT)):=λa=>letI j:=a.2.1.2;letI i:=(wi (12+wi (a.1*13)));bif a.1<16 then(G2 (x,i,1)).bind λb=>(bif b==255 then δ (.inl a.2)else bif b>12 then δ (.inr (η,0,0,GF.all (η,[])))else(Ui x (wi (i+1)) (wi ((wi (i+1))+b))).bind λc=>(Fm j.2 a.1).bind λd=>(Fm j.2 a.1).bind λe=>δ (.inl ((a.2.1.1,j.1,WN j.2 a.1 (ζ,c)),a.2.2)):Option ((AT×AT)⊕(Bool×AT))).bind λf=>ν (λg=>δ (.next (wi (a.1+1),g))) (λh=>δ (.done (.inl h))) f else δ (.done (.inr a.2))
def V3(x:BV):Option (AT×Bool):=(G2 (x,8,4)).bind λa=>(G2 (x,0,8)).bind λb=>(Aa (ja x) (0,(a,b,GF.all (η,[])),0,0,GF.all (η,[]))).bind λc=>ν (λd=>δ (d.2,d.1)) (λe=>δ (e.1,ζ)) c
def Vs(x:AT):Option Bool:=(Hm x.1).bind λa=>bif a then bif x.2.1>=0 then δ (τ (x.2.1<=1099511627776))else δ η else δ η
def gi(x:AT):Lp Int (Bool⊕Unit):=λa=>letI c:=wi (a+1);bif a<16 then(Fm x.2.2 a).bind λb=>bif len b.2>12 then δ (.done (.inl η))else bif !b.1 then bif b.2 !=[]then δ (.done (.inl η))else bif b.1 then bif x.2.1==0 then δ (.done (.inl η))else δ (.next c)else δ (.next c)else bif b.1 then bif x.2.1==0 then δ (.done (.inl η))else δ (.next c)else δ (.next c)else δ (.done (.inr ()))
def UP(x:AT):Option Bool:=(Aa (gi x) 0).bind λa=>ν δ (λb=>δ ζ) a
def KA(b:No)(x:Ch):Option No:=(bif x.1 then δ (len x.2)else δ 255:Option Int).bind λa=>(OM (b,a,1)).bind λc=>(sapp c x.2).bind λd=>(Kp (([0]:List (UInt8)),wi (12-len x.2))).bind λe=>(sapp d e).bind λf=>δ f
def cU(x:AT):Lp (Int×No) No:=λa=>bif a.1<16 then(Fm x.2.2 a.1).bind λb=>(KA a.2 b).bind λc=>δ (.next (wi (a.1+1),c))else δ (.done a.2)
def M0(x:AT):Option (BV×Int):=(Vs x).bind λa=>bif !a then δ ([],1)else(UP x).bind λb=>bif !b then δ ([],22)else(OM ([],x.2.1,8)).bind λc=>(OM (c,x.1,4)).bind λd=>(Aa (cU x) (0,d)).bind λe=>(Kp (([0]:List (UInt8)),wi (244-len e))).bind λf=>(sapp e f).bind λg=>(ON g).bind λh=>(OM (g,wi h,4)).bind λi=>(OM (i,x.2.1,8)).bind λj=>δ (j,0)
def Pd(x:BV):Option (AT×Int):=bif len x !=256 then δ (p!,2)else(Wz ()).bind λa=>bif x==a then δ (p!,7)else(Ui x 0 8).bind λb=>(Ui x 248 (len x)).bind λc=>bif b !=c then δ (p!,27)else(Ui x 0 244).bind λd=>(G2 (x,244,4)).bind λe=>(ON d).bind λf=>bif e !=wi f then δ (p!,3)else(V3 x).bind λg=>(M0 g.1).bind λh=>bif !g.2 then δ (p!,4)else bif h.2 !=0 then δ (p!,4)else bif h.1 !=x then δ (p!,4)else δ (g.1,0)
def GD(x:BV×Int):Option (AT×Int):=(Hm x.2).bind λa=>bif !a then δ (p!,1)else(Pd x.1).bind λb=>bif b.2==7 then(Fa x.2).bind λc=>δ (c,0)else bif b.2 !=0 then δ (p!,b.2)else bif b.1.1 !=x.2 then δ (p!,6)else δ (b.1,0)
def cQ(x:A0):Lp Int (Bool⊕Unit):=λa=>bif a<len x.2.2 then(ix x.2.2 a).bind λb=>letI f:=GD (b.2.2,b.1);bif b.1>=x.2.1 then δ (.done (.inl η))else bif a>0 then(ix x.2.2 (wi (a-1))).bind λc=>bif c.1>=b.1 then δ (.done (.inl η))else f.bind λd=>bif d.2 !=0 then δ (.done (.inl η))else bif d.1.2.1 !=b.2.1 then δ (.done (.inl η))else δ (.next (wi (a+1)))else f.bind λe=>bif e.2 !=0 then δ (.done (.inl η))else bif e.1.2.1 !=b.2.1 then δ (.done (.inl η))else δ (.next (wi (a+1)))else δ (.done (.inr ()))
def Kk(x:A0):Option Bool:=bif x.1<1 then δ η else bif x.1>1073741824 then δ η else bif x.2.1<1 then δ η else bif x.2.1>64 then δ η else bif len x.2.2>x.2.1 then δ η else(Aa (cQ x) 0).bind λa=>ν δ (λb=>δ ζ) a
def Vr(x:A0):Option Bool:=(Kk x).bind λa=>bif a then δ (len x.2.2==x.2.1)else δ η
def QC(x:AM×AZ):Option Int:=(FW x.1).bind λa=>bif !a then δ 54 else(G8 x.2).bind λb=>bif !b then δ 26 else δ 0
def UI(x:AT×Dh):Option (AT×Int):=letI g:=x.2.2;letI f:=Fm x.1.2.2 g.1;(Nx x.2).bind λa=>bif !a then δ (p!,22)else bif x.2.1 !=x.1.1 then δ (p!,6)else f.bind λb=>f.bind λc=>bif !(c.1==g.2.1.1&&(c.2==g.2.1.2&&ζ))then δ (p!,20)else f.bind λd=>f.bind λe=>δ ((x.1.1,x.1.2.1,WN x.1.2.2 g.1 g.2.2),0)
def Ua(x:AT×AE):Option (AT×Int):=letI e:=x.2.2.2.2.2;(GB x.2).bind λa=>bif !a then δ (p!,12)else(BE x.2).bind λb=>bif !b then δ (p!,12)else(M0 x.1).bind λc=>bif c.2 !=0 then δ (p!,c.2)else bif e.2.2.1.1 !=x.1.1 then δ (p!,6)else bif e.1 !=x.1.2.1 then δ (p!,13)else(UI (x.1,e.2.2.1)).bind λd=>bif d.2 !=0 then δ (p!,d.2)else δ ((d.1.1,x.2.1,d.1.2.2),0)
def ZT(x:AT×List AE):Lp (Int×AT×AT) ((Int×AT)⊕(AT×AT)):=λa=>bif a.1<len x.2 then(ix x.2 a.1).bind λb=>bif b.1<=a.2.1.2.1 then δ (.next (wi (a.1+1),a.2))else(Ua (a.2.1,b)).bind λc=>bif c.2 !=0 then δ (.done (.inl (c.2,0,0,GF.all (η,[]))))else δ (.next (wi (a.1+1),c.1,a.2.2))else δ (.done (.inr a.2))
def Uc(x:AT×List AE):Option (AT×Int):=(Aa (ZT x) (0,x.1,0,0,GF.all (η,[]))).bind λa=>ν (λb=>δ (b.2,b.1)) (λc=>δ (c.1,0)) a
def JS(x:AT×AM×AZ×Int):Option (AT×Int):=letI e:=x.2.2;(QC (x.2.1,e.1)).bind λa=>bif a !=0 then δ (p!,a)else(M0 x.1).bind λb=>bif b.2 !=0 then δ (p!,b.2)else bif x.1.2.1>e.2 then δ (p!,9)else(Hn (x.2.1,e.1,x.1.1,x.1.2.1,e.2)).bind λc=>bif c.2 !=0 then δ (p!,c.2)else(Uc (x.1,c.1)).bind λd=>δ d
def TU(x:Int×Int):Lp (Int×List C8×Int×Int) (List C8×Int×Int):=λa=>bif a.1<x.2 then(IU ()).bind λb=>(app a.2.1 [(a.1,0,b)]).bind λc=>δ (.next (wi (a.1+1),c,a.2.2))else δ (.done a.2)
def JN(x:Int×Int):Option A0:=(Aa (TU x) (0,[],x)).bind λa=>δ (a.2.1,a.2.2,a.1)
end
noncomputable section
abbrev GH:Type:=List AY×List Int×AZ
def OX:Ty:=.prod (.cons (.list Bu) (.cons (.list (.int .i64)) (.one B0)))
def SS(x:A0):Lp Int (Bool⊕Unit):=λa=>bif a<len x.2.2 then(ix x.2.2 a).bind λb=>letI f:=Cp (b.2.2,b.1);bif b.1<0 then δ (.done (.inl η))else bif b.1>=x.2.1 then δ (.done (.inl η))else bif a>0 then(ix x.2.2 (wi (a-1))).bind λc=>bif c.1>=b.1 then δ (.done (.inl η))else f.bind λd=>bif d.2 !=0 then δ (.done (.inl η))else bif d.1.2.1 !=b.2.1 then δ (.done (.inl η))else δ (.next (wi (a+1)))else f.bind λe=>bif e.2 !=0 then δ (.done (.inl η))else bif e.1.2.1 !=b.2.1 then δ (.done (.inl η))else δ (.next (wi (a+1)))else δ (.done (.inr ()))
def Eh(x:A0):Option Bool:=bif x.1<1 then δ η else bif x.1>1073741824 then δ η else bif x.2.1<1 then δ η else bif x.2.1>64 then δ η else(Aa (SS x) 0).bind λa=>ν δ (λb=>δ ζ) a
def Re(x:A0):Lp (BV×Int) BV:=λa=>letI h:=ix x.2.2 a.2;bif a.2<len x.2.2 then h.bind λb=>h.bind λc=>(Ah ([],b.1,2)).bind λd=>(sapp d c.2.2).bind λe=>(DH e).bind λf=>(sapp a.1 f).bind λg=>δ (.next (g,wi (a.2+1)))else δ (.done a.1)
def H4(x:A0):Option (BV×Int):=(Eh x).bind λa=>bif !a then δ ([],43)else(Ah (([80,77,73,77]:List (UInt8)),x.1,4)).bind λb=>(Ah (b,x.2.1,2)).bind λc=>(Ah (c,len x.2.2,2)).bind λd=>(DH d).bind λe=>(Aa (Re x) (e,0)).bind λf=>δ (f,0)
def Nd(x:A0):Option Ad:=(H4 x).bind λa=>δ (2,x.1,a.1)
def Ln(x:A0):Option Bool:=(Eh x).bind λa=>bif a then δ (len x.2.2==x.2.1)else δ η
def Tm(x:A0×Int):Lp (Int×C8) ((Bool×C8)⊕C8):=λa=>letI e:=ix x.1.2.2 a.1;bif a.1<len x.1.2.2 then(Eh x.1).bind λb=>bif b then e.bind λc=>bif c.1==x.2 then e.bind λd=>δ (.done (.inl (ζ,d)))else δ (.next (wi (a.1+1),a.2))else δ (.done (.inr a.2))else δ (.done (.inr a.2))
def Mk(x:A0×Int):Option (C8×Bool):=(Aa (Tm x) (0,0,0,[])).bind λa=>ν (λb=>δ (b.2,b.1)) (λc=>δ ((0,0,[]),η)) a
def Ml(x:A0×Int):Option (AT×Int):=(Eh x.1).bind λa=>bif !a then δ (p!,43)else(Mk x).bind λb=>bif !b.2 then δ (p!,44)else(Cp (b.1.2.2,x.2)).bind λc=>δ c
def Ig(x:AM×AZ×Int×Int×Int):Option Int:=letI c:=x.2.2;(DQ x.1).bind λa=>bif !a then δ 54 else(Bw x.2.1).bind λb=>bif !b then δ 26 else bif c.1<0 then δ 1 else bif c.1>=x.1.2.1 then δ 1 else bif c.2.1<0 then δ 1 else bif c.2.1>c.2.2 then δ 1 else δ 0
def Tj(x:AM×Int):Lp Int Int:=λa=>bif wi (a+1)<len x.1.1 then(ix x.1.1 (wi (a+1))).bind λb=>bif b<=x.2 then δ (.next (wi (a+1)))else δ (.done a)else δ (.done a)
def Qo(x:AM×Int):Option (Int×Int×Bool):=(DQ x.1).bind λa=>bif !a then δ (0,0,η)else bif x.2<0 then δ (0,0,η)else bif x.2>=x.1.2.1 then δ (0,0,η)else(Aa (Tj x) 0).bind λb=>(D8 (x.1,b)).bind λc=>δ (c.1,c.2,ζ)
def Qp(x:AM):Option (List AY×List Int):=(Ll x).bind λa=>δ (a.1,a.2.1)
def P9(a:Int×Int×Bool)(b:List AY×List Int):Lp (Int×List AY×List Int×AZ) (List AY×List Int×AZ):=λc=>bif c.1<len b.1 then(ix b.1 c.1).bind λd=>(bif d.2.2.1==a.1 then(ix b.1 c.1).bind λe=>(ix b.2 c.1).bind λf=>(app c.2.1 [e]).bind λg=>(app c.2.2.1 [f]).bind λh=>δ (g,h,c.2.2.2)else δ c.2).bind λi=>δ (.next (wi (c.1+1),i))else δ (.done c.2)
def JF(x:AM×AZ×Int):Option GH:=(Qo (x.1,x.2.2)).bind λa=>(Qp x.1).bind λb=>(Aa (P9 a b) (0,[],[],x.2.1)).bind λc=>δ c
def If(x:AZ×Int):Option Bool:=bif x.2>=x.1.1 then δ (τ (x.2<(wi (x.1.1+len x.1.2.1))))else δ η
def Tl(x:GH×Int):Lp (Int×Int) Int:=λa=>letI f:=ix x.1.1 a.2;bif a.2<len x.1.1 then f.bind λb=>bif b.1<=x.2 then f.bind λc=>(bif x.2<=c.2.1 then f.bind λd=>δ (if(d.2.1>a.1)then d.2.1 else a.1)else δ a.1).bind λe=>δ (.next (e,wi (a.2+1)))else δ (.next (a.1,wi (a.2+1)))else δ (.done a.1)
def Qr(x:GH×Int):Option Int:=letI e:=x.1.2.2;letI d:=(wi ((wi (e.1+len e.2.1))-1));(Aa (Tl x) (wi (x.2-1),0)).bind λa=>(If (e,x.2)).bind λb=>(bif b then δ (if(d>a)then d else a)else δ a).bind λc=>δ c
def LA(x:GH×Int×Int):Lp Int (Bool⊕Unit):=λa=>bif a<x.2.2 then(Qr (x.1,wi (a+1))).bind λb=>bif b==a then δ (.done (.inl η))else δ (.next b)else δ (.done (.inr ()))
def Jw(x:GH×Int×Int):Option Bool:=(Aa (LA x) x.2.1).bind λa=>ν δ (λb=>δ ζ) a
def Ra(x:AY×Int):Lp (Int×List AE) (List AE):=letI f:=x.1.2.2.2.2.2;λa=>bif a.1<len f then(ix f a.1).bind λb=>(bif b.2.2.2.2.2.2.1.1==x.2 then(ix f a.1).bind λc=>(app a.2 [c]).bind λd=>δ d else δ a.2).bind λe=>δ (.next (wi (a.1+1),e))else δ (.done a.2)
def O7(x:AY×Int):Option (List AE):=(Eg x.1).bind λa=>bif !a then δ []else(Aa (Ra x) (0,[])).bind λb=>δ b
def Kg(x:List AY×Int×Int×Int)(a:List AE):Lp (List AE×Int) (List AE):=λb=>letI h:=ix a b.2;bif b.2<len a then h.bind λc=>bif c.1>x.2.2.1 then h.bind λd=>(bif d.1<=x.2.2.2 then h.bind λe=>(CD (b.1,e)).bind λf=>δ f.1 else δ b.1).bind λg=>δ (.next (g,wi (b.2+1)))else δ (.next (b.1,wi (b.2+1)))else δ (.done b.1)
def Kf(x:List AY×Int×Int×Int):Lp (List AE×Int) (List AE):=λa=>bif a.2<len x.1 then(ix x.1 a.2).bind λb=>(O7 (b,x.2.1)).bind λc=>(Aa (Kg x c) (a.1,0)).bind λd=>δ (.next (d,wi (a.2+1)))else δ (.done a.1)
def JE(x:List AY×Int×Int×Int):Option (List AE):=(Aa (Kf x) ([],0)).bind λa=>δ a
def Rc(x:AZ×Int×Int×Int):Lp (Int×List AE) (List AE):=λa=>letI f:=(wi (a.1+1),a.2);bif a.1<len x.1.2.1 then(ix x.1.2.1 a.1).bind λb=>(BE b).bind λc=>bif c then bif b.2.2.2.2.2.2.1.1==x.2.1 then bif b.1>x.2.2.1 then(bif b.1<=x.2.2.2 then(app a.2 [b]).bind λd=>δ d else δ a.2).bind λe=>δ (.next (wi (a.1+1),e))else δ (.next f)else δ (.next f)else δ (.next f)else δ (.done a.2)
def O9(x:AZ×Int×Int×Int):Option (List AE):=(Aa (Rc x) (0,[])).bind λa=>δ a
def MJ(x:List AY×Int):Lp Int (Int⊕Unit):=λa=>bif a<len x.1 then(ix x.1 a).bind λb=>bif b.1<=x.2 then(ix x.1 a).bind λc=>bif x.2<=c.2.1 then δ (.done (.inl a))else δ (.next (wi (a+1)))else δ (.next (wi (a+1)))else δ (.done (.inr ()))
def Kh(x:List AY×Int):Option Int:=(Aa (MJ x) 0).bind λa=>ν δ (λb=>δ (-1)) a
def O8(x:List AE×AE):Lp Int (Bool⊕Unit):=letI f:=x.2.2.2;letI c:=f.2.2.2;letI e:=c.2.1.2;λa=>bif a<len x.1 then(ix x.1 a).bind λb=>letI g:=b.2.2.2;letI d:=g.2.2.2;letI h:=d.1.2.2;bif b.1==x.2.1&&(b.2.1==x.2.2.1&&(b.2.2.1==f.1&&(g.1==f.2.1&&(g.2.1==f.2.2.1&&(g.2.2.1==c.1&&(d.1.1==c.2.1.1&&(d.1.2.1==e.1&&(h.1.1==e.2.1.1&&(h.1.2==e.2.1.2&&(h.2.1==e.2.2.1&&(h.2.2==e.2.2.2&&(d.2==c.2.2&&ζ))))))))))))then δ (.done (.inl ζ))else δ (.next (wi (a+1)))else δ (.done (.inr ()))
def H9(x:List AE×AE):Option Bool:=(Aa (O8 x) 0).bind λa=>ν δ (λb=>δ η) a
def NU(x:List AY×AZ×List AE×List AE):Lp (List AE×Int) ((List AE×Bool)⊕(List AE)):=λa=>letI j:=ix x.2.2.2 a.2;bif a.2<len x.2.2.2 then j.bind λb=>(Kh (x.1,b.1)).bind λc=>bif c>=0 then j.bind λd=>(H9 (x.2.2.1,d)).bind λe=>bif !e then δ (.done (.inl ([],η)))else j.bind λf=>(CD (a.1,f)).bind λg=>δ (.next (g.1,wi (a.2+1)))else j.bind λh=>(CD (a.1,h)).bind λi=>δ (.next (i.1,wi (a.2+1)))else δ (.done (.inr a.1))
def NV(x:List AY×AZ×List AE×List AE):Lp Int ((List AE×Bool)⊕Unit):=λa=>letI f:=ix x.2.2.1 a;bif a<len x.2.2.1 then f.bind λb=>(If (x.2.1,b.1)).bind λc=>bif c then f.bind λd=>(H9 (x.2.2.2,d)).bind λe=>bif !e then δ (.done (.inl ([],η)))else δ (.next (wi (a+1)))else δ (.next (wi (a+1)))else δ (.done (.inr ()))
def Lm(x:List AY×AZ×List AE×List AE):Option (List AE×Bool):=(app [] x.2.2.1).bind λa=>(Aa (NU x) (a,0)).bind λb=>ν δ (λc=>(Aa (NV x) 0).bind λd=>ν δ (λe=>δ (c,ζ)) d) b
def Ps(x:AM×AZ×Int×Int×Int)(a:List AE×Bool):Lp Int ((List AE×Int)⊕Unit):=λb=>letI j:=(ix a.1 (wi (b-1)));letI i:=ix a.1 b;letI h:=wi (b+1);bif b<len a.1 then bif b==0 then i.bind λc=>bif c.2.2.2.2.1>x.2.2.2.1 then δ (.done (.inl ([],13)))else bif b>0 then i.bind λd=>j.bind λe=>bif d.2.2.2.2.1 !=e.1 then δ (.done (.inl ([],13)))else δ (.next h)else δ (.next h)else bif b>0 then i.bind λf=>j.bind λg=>bif f.2.2.2.2.1 !=g.1 then δ (.done (.inl ([],13)))else δ (.next h)else δ (.next h)else δ (.done (.inr ()))
def FM(x:AM×AZ×Int×Int×Int):Option (List AE×Int):=(Ig x).bind λa=>bif a !=0 then δ ([],a)else(JF (x.1,x.2.1,x.2.2.1)).bind λb=>(Jw (b,x.2.2.2)).bind λc=>bif !c then δ ([],42)else(JE (b.1,x.2.2)).bind λd=>(O9 x.2).bind λe=>(Lm (b.1,x.2.1,d,e)).bind λf=>bif !f.2 then δ ([],41)else(Aa (Ps x f) 0).bind λg=>ν δ (λh=>δ (f.1,0)) g
def Tn(x:AT×List AE):Lp (Int×AT×AT) ((Int×AT)⊕(AT×AT)):=λa=>bif a.1<len x.2 then(ix x.2 a.1).bind λb=>bif b.1<=a.2.1.2.1 then δ (.next (wi (a.1+1),a.2))else(ix x.2 a.1).bind λc=>(Ie (a.2.1,c)).bind λd=>bif d.2 !=0 then δ (.done (.inl (d.2,0,0,GF.all (η,[]))))else δ (.next (wi (a.1+1),d.1,a.2.2))else δ (.done (.inr a.2))
def Mn(x:AT×List AE):Option (AT×Int):=(Aa (Tn x) (0,x.1,0,0,GF.all (η,[]))).bind λa=>ν (λb=>δ (b.2,b.1)) (λc=>δ (c.1,0)) a
def Mm(x:AT×AM×AZ×Int):Option (AT×Int):=letI f:=x.2.2;(DQ x.2.1).bind λa=>bif !a then δ (p!,54)else(Bw f.1).bind λb=>bif !b then δ (p!,26)else(C4 x.1).bind λc=>bif c.2 !=0 then δ (p!,c.2)else bif x.1.2.1>f.2 then δ (p!,9)else(FM (x.2.1,f.1,x.1.1,x.1.2.1,f.2)).bind λd=>bif d.2 !=0 then δ (p!,d.2)else(Mn (x.1,d.1)).bind λe=>δ e
def OH(x:A0×AM×AZ×Int×Int):Lp (Int×List C8×Int×Int×A0) ((Int×A0)⊕(List C8×Int×Int×A0)):=λa=>bif a.1<len x.1.2.2 then(ix x.1.2.2 a.1).bind λb=>(Ml (x.1,b.1)).bind λc=>(Mm (c.1,x.2.1,x.2.2.1,x.2.2.2.2)).bind λd=>bif d.2 !=0 then δ (.done (.inl (d.2,0,0,[])))else(bif d.1.2.1>0 then(C4 d.1).bind λe=>δ (d.1.1,d.1.2.1,e.1)else δ b).bind λf=>(app a.2.1 [f]).bind λg=>δ (.next (wi (a.1+1),g,a.2.2))else δ (.done (.inr a.2))
def HV(x:A0×AM×AZ×Int×Int):Option (A0×Int):=letI g:=x.2.2;(Ln x.1).bind λa=>bif !a then δ ((0,0,[]),43)else(DQ x.2.1).bind λb=>bif !b then δ ((0,0,[]),54)else(Bw g.1).bind λc=>bif !c then δ ((0,0,[]),26)else bif g.2.1<1 then δ ((0,0,[]),1)else bif g.2.1>1073741824 then δ ((0,0,[]),1)else bif g.2.2<0 then δ ((0,0,[]),1)else bif g.2.2>g.1.2.2 then δ ((0,0,[]),1)else(Aa (OH x) (0,[],g.2.1,x.1.2.1,0,0,[])).bind λd=>ν (λe=>δ (e.2,e.1)) (λf=>δ ((f.2.1,f.2.2.1,f.1),0)) d
end
noncomputable section
abbrev QK:Type:=Int×Int×Int×Int×List Int×Int×Int
def de:Ty:=.prod (.cons (.int .i64) (.cons (.int .i64) (.cons (.int .i64) (.cons (.int .i64) (.cons (.list (.int .i64)) (.cons (.int .i64) (.one (.int .i64))))))))
def AGH{α γ:Type}(c:α×α->Option γ)(n:γ->Bool)(x:Int×Int):Lp (Int×List α) (List α):=λa=>letI s:=(ix a.2 a.1);letI l:=(wi (a.1-1));letI v:=(ix a.2 l);(bif a.1>x.1 then s.bind λb=>s.bind λd=>v.bind λe=>v.bind λf=>(c (d,f)).bind λg=>bif n g then δ (.inr ())else δ (.inl ())else δ (.inl ()):Option (Unit⊕Unit)).bind λh=>ν (λi=>δ (.done a.2)) (λj=>v.bind λk=>v.bind λm=>letI w:=(E2 a.2 a.1 m);s.bind λo=>s.bind λp=>s.bind λq=>s.bind λr=>(ix w l).bind λt=>(ix w l).bind λu=>δ (.next (wi (a.1-1),E2 w l p))) h
def ADL{α γ:Type}(c:α×α->Option γ)(n:γ->Bool)(l:List α)(x:Int×Int):Option (List α):=(Aa (λa=>bif a.1<x.2 then(Aa (AGH c n x) a).bind λb=>δ (.next (wi (a.1+1),b))else δ (.done a.2)) (wi (x.1+1),l)).bind λd=>δ d
def AIR{α:Type}(f:List α->Int×Int->Option (List α)):Lp (Int×Int×Int×Bool×Bool×List α) (List α):=λa=>letI d:=a.2.2;letI e:=d.2.2.2;bif wi (a.2.1-a.1)<=12 then(f e (a.1,a.2.1)).bind λb=>bif ξ (θ b) (θ e)then δ (.done b)else ε else bif d.1==0 then ε else(bif ! d.2.1 then ε else δ (d.1,e):Option (Int×List α)).bind λc=>ε
def pdG{α:Type}(f:List α->Int×Int->Option (List α))(l:List α)(x:Int×Int×Int):Option (List α):=(Aa (AIR f) (x.1,x.2.1,x.2.2,ζ,ζ,l)).bind λa=>δ a
def soG{α:Type}(f:List α->Int×(Int×Int)->Option (List α))(l:List α):Option (List α):=(J3 (ι .u64 (len l))).bind λa=>(f l (0,len l,a)).bind λb=>bif ξ (θ b) (θ l)then δ b else ε
def P3(x:A0×A0):Option Int:=(D3 (x.1.1,x.2.1)).bind λa=>δ a
def P2(x:BW×BW):Option Int:=(D3 (x.2.1,x.1.1)).bind λa=>δ a
def Lv(l:List Int)(x:Int×Int):Option (List Int):=ADL Ny (λa=>a) l x
def OP(rec:(List Int×Int×Int×Int)->(Option (List Int)))(l:List Int)(x:Int×Int×Int):Option (List Int):=pdG Lv l x
def QB(l:List Int)(x:Int×Int×Int):Option (List Int):=qh (λg p=>OP g p.1 p.2) (l,x)
def Lq(l:List Int)(x:Unit):Option (List Int):=soG QB l
def I3(l:List A0)(x:Int×Int):Option (List A0):=ADL P3 (λa=>decide (a<0)) l x
def Km(rec:(List A0×Int×Int×Int)->(Option (List A0)))(l:List A0)(x:Int×Int×Int):Option (List A0):=pdG I3 l x
def Lw(l:List A0)(x:Int×Int×Int):Option (List A0):=qh (λg p=>Km g p.1 p.2) (l,x)
def GY(l:List A0)(x:Unit):Option (List A0):=soG Lw l
def Ea(l:List BW)(x:Int×Int):Option (List BW):=ADL P2 (λa=>decide (a<0)) l x
def Lx(x:Int):Lp (Int×Int×List BW) (Int×List BW):=λa=>letI c:=a.2.1;bif c<=x then(Ea a.2.2 (a.1,c)).bind λb=>bif ξ (θ b) (θ a.2.2)then δ (.next (c,wi (c+20),b))else ε else δ (.done (a.1,a.2.2))
def Ts(x:Int):Lp (Int×Int×List BW) (Int×List BW):=λa=>bif a.2.1<=x then ε else δ (.done (a.1,a.2.2))
def Ly(x:Int):Lp (Int×List BW) (List BW):=λa=>bif a.1<x then(Aa (Ts x) (0,wi (2*a.1),a.2)).bind λb=>(bif wi (b.1+a.1)<x then ε else δ b.2:Option (List BW)).bind λc=>δ (.next (wi (a.1*2),c))else δ (.done a.2)
def Iz(l:List BW)(x:Int):Option (List BW):=(Aa (Lx x) (0,20,l)).bind λa=>(Ea a.2 (a.1,x)).bind λb=>bif ξ (θ b) (θ a.2)then(Aa (Ly x) (20,b)).bind λc=>δ c else ε
def EF(l:List BW)(x:Unit):Option (List BW):=(Iz l (len l)).bind λa=>bif ξ (θ a) (θ l)then δ a else ε
def Q9(x:BV):Option C8:=(Ui x 2 (len x)).bind λa=>(Bl (x,0,2)).bind λb=>(GD (a,b.1)).bind λc=>δ (b.1,c.1.2.1,a)
def ZS(x:BV)(a:Int×Int):Lp (Int×Int×List C8×Int×Int×A0) ((Int×A0)⊕(Int×List C8×Int×Int×A0)):=λb=>bif b.2.1<a.1 then(Db (x,b.1)).bind λc=>bif c.2.2 !=0 then δ (.done (.inl (c.2.2,0,0,[])))else bif len c.1 !=258 then δ (.done (.inl (4,0,0,[])))else(Q9 c.1).bind λd=>(app b.2.2.1 [d]).bind λe=>δ (.next (c.2.1,wi (b.2.1+1),e,b.2.2.2))else δ (.done (.inr (b.1,b.2.2)))
def JM(x:BV):Option (A0×Int):=(Db (x,0)).bind λa=>bif a.2.2 !=0 then δ ((0,0,[]),a.2.2)else bif len a.1 !=12 then δ ((0,0,[]),4)else(Ep (a.1,([80,77,73,77]:List (UInt8)))).bind λb=>bif !b then δ ((0,0,[]),4)else(Bl (a.1,4,4)).bind λc=>(Bl (a.1,8,2)).bind λd=>(Bl (a.1,10,2)).bind λe=>bif e.1>64 then δ ((0,0,[]),4)else(Aa (ZS x e) (a.2.1,0,[],c.1,d.1,0,0,[])).bind λf=>ν (λg=>δ (g.2,g.1)) (λh=>letI j:=(h.2.2.1,h.2.2.2.1,h.2.1);bif h.1<len x then δ ((0,0,[]),4)else(Kk j).bind λi=>bif !i then δ ((0,0,[]),43)else δ (j,0)) f
def Xx(x:List Ad):Lp (Int×List (Int×Bool)×List A0) (List (Int×Bool)×List A0):=λa=>letI h:=(wi (a.1+1),a.2);bif a.1<len x then(ix x a.1).bind λb=>letI g:=Pv b.2.1 ζ a.2.1;letI f:=(wi (a.1+1),g,a.2.2);bif b.1 !=2 then δ (.next h)else bif Option.getD (LB b.2.1 a.2.1) η then δ (.next h)else(JM b.2.2).bind λc=>bif c.2==0 then(Vr c.1).bind λd=>bif d then bif c.1.1==b.2.1 then(app a.2.2 [c.1]).bind λe=>δ (.next (wi (a.1+1),g,e))else δ (.next f)else δ (.next f)else δ (.next f)else δ (.done a.2)
def G7(x:List Ad):Option (List A0):=(Aa (Xx x) (0,[],[])).bind λa=>(GY a.2 ()).bind λb=>bif ξ (θ b) (θ a.2)then δ b else ε
def PR(x:C8×Int):Option Int:=δ (wi (x.1.1-x.2))
def cR(x:A0×Int):Lp (Int×Int) Int:=λa=>letI e:=(wi (Int.fdiv (ι .u64 (wi (a.1+a.2))) (2^(min (ο 1) 64))));bif a.1<a.2 then(ix x.1.2.2 e).bind λb=>(PR (b,x.2)).bind λc=>(bif c<0 then δ (wi (e+1),a.2)else δ (a.1,e):Option (Int×Int)).bind λd=>δ (.next d)else δ (.done a.1)
def R5(x:A0×Int):Option (Int×Bool):=letI d:=x.1.2.2;(Aa (cR x) (0,len d)).bind λa=>bif a<len d then(ix d a).bind λb=>(PR (b,x.2)).bind λc=>δ (a,(c==0))else δ (a,η)
def UN(x:A0×Int):Option (C8×Bool):=(Kk x.1).bind λa=>bif !a then δ ((0,0,[]),η)else bif x.2<0 then δ ((0,0,[]),η)else bif x.2>=x.1.2.1 then δ ((0,0,[]),η)else(R5 x).bind λb=>bif !b.2 then δ ((0,0,[]),η)else(ix x.1.2.2 b.1).bind λc=>δ (c,ζ)
def Xw(x:List Ad×Int×Int)(a:List A0):Lp (Int×List BW) (List BW):=λb=>letI f:=(wi (b.1-1),b.2);bif b.1>=0 then(ix a b.1).bind λc=>(UN (c,x.2.1)).bind λd=>letI g:=d.1.2.1;bif d.2 then bif g<=x.2.2 then(app b.2 [(g,c.1,g)]).bind λe=>δ (.next (wi (b.1-1),e))else δ (.next f)else δ (.next f)else δ (.done b.2)
def Sf(x:List Ad×Int×Int):Option (List BW):=(G7 x.1).bind λa=>(Aa (Xw x a) (wi (len a-1),[])).bind λb=>(EF b ()).bind λc=>bif ξ (θ c) (θ b)then δ c else ε
def S7(b:BW)(x:A0):Option (Bool×BW):=δ ((x.1==b.2.1),b)
def Wy(x:A0×Int):Option (AT×Int):=(Kk x.1).bind λa=>bif !a then δ (p!,43)else(UN x).bind λb=>bif !b.2 then δ (p!,44)else(GD (b.1.2.2,x.2)).bind λc=>δ c
def ZP(x:AM×AZ×Int×Int×Int)(a:Int)(b:Int×Int×Bool)(c:List AY×List Int):Lp (Int×List Int) (List Int):=letI j:=x.2.2.2;letI o:=if(a<j.2)then a else j.2;letI k:=(if(x.2.1.1>wi (j.1+1))then x.2.1.1 else wi (j.1+1));λd=>letI n:=(wi (d.1+1),d.2);bif d.1<len c.1 then(ix c.1 d.1).bind λe=>letI m:=if(e.2.1<j.2)then e.2.1 else j.2;letI l:=(if(e.1>wi (j.1+1))then e.1 else wi (j.1+1));bif e.2.2.1==b.1 then(ix c.2 d.1).bind λf=>bif l>m then δ (.next n)else bif k>o then(app d.2 [f]).bind λg=>δ (.next (wi (d.1+1),g))else bif l<k then(app d.2 [f]).bind λh=>δ (.next (wi (d.1+1),h))else bif m>o then(app d.2 [f]).bind λi=>δ (.next (wi (d.1+1),i))else δ (.next n)else δ (.next n)else δ (.done d.2)
def N0(x:AM×AZ×Int×Int×Int):Option (List Int×Int×Int×Int):=letI i:=x.2.2.2;letI g:=(if(x.2.1.1>wi (i.1+1))then x.2.1.1 else wi (i.1+1));(Hn x).bind λa=>bif a.2 !=0 then δ ([],0,0,a.2)else(QY x.2.1).bind λb=>letI h:=if(b<i.2)then b else i.2;(GA (x.1,x.2.2.1)).bind λc=>bif !c.2.2 then ε else(G6 x.1).bind λd=>(Aa (ZP x b c d) (0,[])).bind λe=>(Lq e ()).bind λf=>bif ξ (θ f) (θ e)then bif g>h then δ (f,0,0,0)else δ (f,g,h,0)else ε
def Rm(a:List A0):Lp (Int×BW) ((Int×BW)⊕BW):=λb=>bif b.1<len a then(ix a b.1).bind λc=>(S7 b.2 c).bind λd=>bif d.1 then δ (.done (.inl (b.1,d.2)))else δ (.next (wi (b.1+1),d.2))else δ (.done (.inr b.2))
def Wr(x:List Ad×AM×AZ×Int×Int)(a:List A0)(b:List BW):Lp (Int×AT×QK) ((Int×AT×QK)⊕(AT×QK)):=letI l:=x.2.2.2;λc=>letI m:=(wi (c.1+1),c.2);bif c.1<len b then(ix b c.1).bind λd=>(Aa (Rm a) (0,d)).bind λe=>ν (λf=>(ix a f.1).bind λg=>(Wy (g,l.1)).bind λh=>bif h.2 !=0 then δ (.next m)else(JS (h.1,x.2.1,x.2.2.1,l.2)).bind λi=>bif i.2 !=0 then δ (.next m)else(N0 (x.2.1,x.2.2.1,l.1,h.1.2.1,l.2)).bind λj=>bif j.2.2.2==0 then δ (.done (.inl (0,i.1,l.1,f.2.2.1,h.1.2.1,l.2,j.1,j.2.1,j.2.2.1)))else δ (.next m)) (λk=>ε) e else δ (.done (.inr c.2))
def RD(x:List Ad×AM×AZ×Int×Int):Option (AT×QK×Int):=letI m:=x.2.1;letI l:=x.2.2;letI k:=l.2;(FW m).bind λa=>bif !a then δ (p!,(0,0,0,0,[],0,0),54)else(G8 l.1).bind λb=>bif !b then δ (p!,(0,0,0,0,[],0,0),26)else bif k.1<0 then δ (p!,(0,0,0,0,[],0,0),1)else bif k.1>=m.2.1 then δ (p!,(0,0,0,0,[],0,0),1)else bif k.2<0 then δ (p!,(0,0,0,0,[],0,0),1)else(G7 x.1).bind λc=>(Sf (x.1,k)).bind λd=>(Aa (Wr x c d) (0,p!,0,0,0,0,[],0,0)).bind λe=>ν (λf=>δ (f.2.1,f.2.2,f.1)) (λg=>(Fa k.1).bind λh=>(JS (h,m,l.1,k.2)).bind λi=>bif i.2 !=0 then δ (p!,(0,0,0,0,[],0,0),49)else(N0 (m,l.1,k.1,h.2.1,k.2)).bind λj=>bif j.2.2.2==0 then δ (i.1,(k.1,0,h.2.1,k.2,j.1,j.2.1,j.2.2.1),0)else δ (p!,(0,0,0,0,[],0,0),49)) e
end
noncomputable section
abbrev vp:Type:=A0×Int
def vt:Ty:=.prod (.cons BY (.one (.int .i64)))
abbrev xD:Type:=Bool×List Bool×List Int
def xH:Ty:=.prod (.cons .bool (.cons (.list .bool) (.one (.list (.int .i64)))))
abbrev pj:Type:=Int×Int
def xI:Ty:=.prod (.cons (.int .i64) (.one (.int .i64)))
abbrev TA:Type:=Int×Int×List pj×List Int
def iq:Ty:=.prod (.cons (.int .i64) (.cons (.int .i64) (.cons (.list xI) (.one (.list (.int .i64))))))
abbrev uC:Type:=Int×Int×Int×Int
def uD:Ty:=.prod (.cons (.int .i64) (.cons (.int .i64) (.cons (.int .i64) (.one (.int .i64)))))
abbrev xE:Type:=Int×List uC
def xJ:Ty:=.prod (.cons (.int .i64) (.one (.list uD)))
abbrev ZC:Type:=(GF 8 Int)×Int×Int
def im:Ty:=.prod (.cons (.arr 7 (.int .i64)) (.cons (.int .i64) (.one (.int .i64))))
abbrev CC:Type:=AP×Bb×AM×List Ad×vp×Bool×xD×TA×xE×ZC×List Int×Int
def Hf:Ty:=.prod (.cons Ay (.cons Ej (.cons Bf (.cons (.list Cm) (.cons vt (.cons .bool (.cons xH (.cons iq (.cons xJ (.cons im (.cons (.list (.int .i64)) (.one (.int .i64)))))))))))))
def Rn(x:Int×Int):Lp (Int×List Int) (List Int):=λa=>letI r:=ix a.2 a.1;letI l:=wi (a.1-1);letI s:=ix a.2 l;(bif a.1>x.1 then r.bind λb=>r.bind λc=>s.bind λd=>s.bind λe=>ε else δ (.inl ()):Option (Unit⊕Unit)).bind λf=>ν (λg=>δ (.done a.2)) (λh=>s.bind λi=>s.bind λj=>letI t:=E2 a.2 a.1 j;r.bind λk=>r.bind λm=>r.bind λn=>r.bind λo=>(ix t l).bind λp=>(ix t l).bind λq=>δ (.next (wi (a.1-1),E2 t l m))) f
def KG(x:Int×Int):Lp (Int×List Int) (List Int):=λa=>bif a.1<x.2 then(Aa (Rn x) a).bind λb=>δ (.next (wi (a.1+1),b))else δ (.done a.2)
def FQ(l:List Int)(x:Int×Int):Option (List Int):=(Aa (KG x) (wi (x.1+1),l)).bind λa=>δ a
def OJ:Lp (Int×Int×Int×Bool×Bool×List Int) (List Int):=λa=>letI d:=a.2.2;letI e:=d.2.2.2;bif wi (a.2.1-a.1)<=12 then(FQ e (a.1,a.2.1)).bind λb=>bif ξ (θ b) (θ e)then δ (.done b)else ε else bif d.1==0 then ε else(bif ! d.2.1 then ε else δ (d.1,e):Option (Int×List Int)).bind λc=>ε
def FA(rec:(List Int×Int×Int×Int)->(Option (List Int)))(l:List Int)(x:Int×Int×Int):Option (List Int):=(Aa (OJ) (x.1,x.2.1,x.2.2,ζ,ζ,l)).bind λa=>δ a
def QA(l:List Int)(x:Int×Int×Int):Option (List Int):=qh (λg p=>FA g p.1 p.2) (l,x)
def IP(l:List Int)(x:Unit):Option (List Int):=(J3 (ι .u64 (len l))).bind λa=>(QA l (0,len l,a)).bind λb=>bif ξ (θ b) (θ l)then δ b else ε
def SU(x:TA):Lp (Int×Int) (Bool⊕Int):=letI k:=x.2.2.2;λa=>letI j:=ix k a.2;bif a.2<len k then j.bind λb=>bif b<0 then δ (.done (.inl η))else j.bind λc=>bif c>=wi (x.1+x.2.1)then δ (.done (.inl η))else bif a.2>0 then(ix k (wi (a.2-1))).bind λd=>j.bind λe=>bif d>=e then δ (.done (.inl η))else j.bind λf=>(bif f<x.1 then δ (wi (a.1+1))else δ a.1).bind λg=>δ (.next (g,wi (a.2+1)))else j.bind λh=>(bif h<x.1 then δ (wi (a.1+1))else δ a.1).bind λi=>δ (.next (i,wi (a.2+1)))else δ (.done (.inr a.1))
def SX(x:TA)(a:Int)(b:pj):Lp Int (Bool⊕Unit):=λc=>bif c<a then(ix x.2.2.1 c).bind λd=>bif d.2==b.2 then δ (.done (.inl η))else δ (.next (wi (c+1)))else δ (.done (.inr ()))
def SV(x:TA):Lp Int (Bool⊕Unit):=letI l:=x.2.2;λa=>bif a<len l.1 then(ix l.1 a).bind λb=>letI q:=En (l.2,b.1);letI p:=En (l.2,b.2);letI o:=Aa (SX x a b) 0;bif b.1<0 then δ (.done (.inl η))else bif b.1>=x.1 then δ (.done (.inl η))else bif a>0 then(ix l.1 (wi (a-1))).bind λc=>bif c.1>=b.1 then δ (.done (.inl η))else bif b.2<x.1 then δ (.done (.inl η))else bif b.2>=wi (x.1+x.2.1)then δ (.done (.inl η))else p.bind λd=>bif d then δ (.done (.inl η))else q.bind λe=>bif !e then δ (.done (.inl η))else o.bind λf=>ν (λg=>δ (.done (.inl g))) (λh=>δ (.next (wi (a+1)))) f else bif b.2<x.1 then δ (.done (.inl η))else bif b.2>=wi (x.1+x.2.1)then δ (.done (.inl η))else p.bind λi=>bif i then δ (.done (.inl η))else q.bind λj=>bif !j then δ (.done (.inl η))else o.bind λk=>ν (λm=>δ (.done (.inl m))) (λn=>δ (.next (wi (a+1)))) k else δ (.done (.inr ()))
def Lo(x:TA):Option Bool:=bif x.1<1 then δ η else bif x.1>64 then δ η else bif x.2.1<0 then δ η else bif x.2.1>16 then δ η else bif wi (x.1+x.2.1)>64 then δ η else(Aa (SU x) (0,0)).bind λa=>ν δ (λb=>(Aa (SV x) 0).bind λc=>ν δ (λd=>δ (len x.2.2.1==b)) c) a
def Nl(x:Int×Int):Option (TA×Int):=(Lo (x.1,x.2,[],[])).bind λa=>bif !a then δ ((0,0,[],[]),1)else δ ((x.1,x.2,[],[]),0)
def UZ(x:Unit):Option (GF 8 Int):=δ (GF.all 1)
def SY(x:ZC):Lp Int (Bool⊕Unit):=λa=>letI f:=Fm x.1 a;bif a<8 then f.bind λb=>f.bind λc=>bif c<0 then δ (.done (.inl η))else f.bind λd=>f.bind λe=>bif e>100 then δ (.done (.inl η))else δ (.next (wi (a+1)))else δ (.done (.inr ()))
def Pt(x:ZC):Option Bool:=letI e:=(Fm x.1 (wi (x.2.1-1)));(Aa (SY x) 0).bind λa=>ν δ (λb=>bif x.2.1>=1 then bif x.2.1<=8 then bif x.2.2>=0 then e.bind λc=>e.bind λd=>δ (τ (x.2.2<=d))else δ η else δ η else δ η) a
def Nn(x:GF 8 Int):Option (ZC×Int):=(Pt (x,1,0)).bind λa=>bif !a then δ ((GF.all 0,0,0),53)else δ ((x,1,0),0)
def KF(x:Int×Int×Int×List Int):Option (CC×Int):=(Gk (x.1,x.2.1)).bind λa=>bif a.2 !=0 then δ ((j!,([],0,[],η,[]),([],0,[],0,0),[],((0,0,[]),0),η,(η,[],[]),(0,0,[],[]),(0,[]),(GF.all 0,0,0),[],0),a.2)else(Fb (wi (x.1+x.2.2.1))).bind λb=>bif b.2 !=0 then δ ((j!,([],0,[],η,[]),([],0,[],0,0),[],((0,0,[]),0),η,(η,[],[]),(0,0,[],[]),(0,[]),(GF.all 0,0,0),[],0),b.2)else(EE (x.1,x.2.2.2)).bind λc=>bif c.2 !=0 then δ ((j!,([],0,[],η,[]),([],0,[],0,0),[],((0,0,[]),0),η,(η,[],[]),(0,0,[],[]),(0,[]),(GF.all 0,0,0),[],0),c.2)else(Nl (x.1,x.2.2.1)).bind λd=>bif d.2 !=0 then δ ((j!,([],0,[],η,[]),([],0,[],0,0),[],((0,0,[]),0),η,(η,[],[]),(0,0,[],[]),(0,[]),(GF.all 0,0,0),[],0),d.2)else(UZ ()).bind λe=>(Nn e).bind λf=>δ ((a.1,b.1,c.1,[],((0,0,[]),0),η,(η,[],[]),d.1,(0,[]),f.1,[],0),0)
def pE(a:Int×Int×Int×Bool×Bool):Lp Int Unit:=λb=>bif b>a.1 then(ix ([]:List Int) b).bind λc=>(ix ([]:List Int) (wi (b-1))).bind λd=>(Ny (c,d)).bind λe=>bif e then(ix ([]:List Int) (wi (b-1))).bind λf=>(ix ([]:List Int) b).bind λg=>(ix ([]:List Int) b).bind λh=>ε else δ (.done ())else δ (.done ())
def cN(a:Int×Int×Int×Bool×Bool):Lp Int Unit:=λb=>bif b<a.2.1 then(Aa (pE a) b).bind λc=>δ (.next (wi (b+1)))else δ (.done ())
def Vc:Lp (Int×Int×Int×Bool×Bool) Unit:=λa=>bif wi (a.2.1-a.1)<=12 then(Aa (cN a) (wi (a.1+1))).bind λb=>δ (.done ())else bif a.2.2.1==0 then ε else bif !a.2.2.2.1 then ε else ε
def cO:Lp (Int×List Ad) (List Ad):=λa=>bif a.1<len ([]:List Int)then(ix ([]:List Int) a.1).bind λb=>(app a.2 ([(1,b,[])]:List (Int×Int×BV))).bind λc=>δ (.next (wi (a.1+1),c))else δ (.done a.2)
def Q7(a:List A0):Lp (Int×List Ad) (List Ad):=λb=>bif b.1<len a then(ix a b.1).bind λc=>(app b.2 [(2,c.1,[])]).bind λd=>δ (.next (wi (b.1+1),d))else δ (.done b.2)
def cP(a:List Int)(b:List Int):Lp (Int×List Ad) (List Ad):=λc=>bif c.1<len a then(ix b c.1).bind λd=>(ix b c.1).bind λe=>(app c.2 [(1,e,[])]).bind λf=>δ (.next (wi (c.1+1),f))else δ (.done c.2)
def pF(a:List Int)(b:List Int):Lp Int Unit:=λc=>letI i:=(ix b (wi (c-1)));bif c<len a then(ix b c).bind λd=>(ix b c).bind λe=>i.bind λf=>i.bind λg=>bif e==g then(WJ b c (len b)).bind λh=>ε else δ (.next (wi (c+1)))else δ (.done ())
def Vq(x:CC):Option (List Ad):=letI l:=G7 x.2.2.2.1;(G6 x.2.2.1).bind λa=>bif len a.2=0 then(J3 (ι .u64 (len ([]:List Int)))).bind λb=>(Aa (Vc) (0,len ([]:List Int),b,ζ,ζ)).bind λc=>(Aa (cO) (0,[])).bind λd=>l.bind λe=>(Aa (Q7 e) (0,d)).bind λf=>δ f else(app [] a.2).bind λg=>(Lq g ()).bind λh=>letI q:=Aa (cP g h) (0,[]);bif ξ (θ h) (θ g)then bif len g<2 then q.bind λi=>l.bind λj=>(Aa (Q7 j) (0,i)).bind λk=>δ k else(Aa (pF g h) 1).bind λm=>q.bind λn=>l.bind λo=>(Aa (Q7 o) (0,n)).bind λp=>δ p else ε
def TT(x:Int):Option Int:=bif x==0 then δ 0 else ε
def Pl(x:Int):Option Int:=(TT x).bind λa=>δ a
def gg(x:Int×Int):Lp (Int×List Int) (List Int):=λa=>bif a.1<(wi (1*(2^(min (ο x.1) 64))))then(Pl (ι .u64 a.1)).bind λb=>bif b==x.2 then(app a.2 [a.1]).bind λc=>δ (.next (wi (a.1+1),c))else δ (.next (wi (a.1+1),a.2))else δ (.done a.2)
def Wx(x:Int×Int):Option (List Int):=bif x.1<0 then ε else(Aa (gg x) (0,[])).bind λa=>(IP a ()).bind λb=>bif ξ (θ b) (θ a)then δ b else ε
def Kz(x:CC×List Ad)(a:Ad):Lp Int (Int⊕Unit):=λb=>bif b<len x.2 then(ix x.2 b).bind λc=>bif c.1==a.1 then bif c.2.1==a.2.1 then δ (.done (.inl b))else δ (.next (wi (b+1)))else δ (.next (wi (b+1)))else δ (.done (.inr ()))
def Oo(x:CC×List Ad):Lp Int (Int⊕Unit):=λa=>bif a<len ([]:List Ad)then(ix ([]:List Ad) a).bind λb=>(Aa (Kz x b) 0).bind λc=>ν (λd=>bif d>=0 then δ (.done (.inl a))else δ (.next (wi (a+1)))) (λe=>δ (.next (wi (a+1)))) c else δ (.done (.inr ()))
def K0(x:CC×List Ad)(a:List Ad):Lp Int (Int⊕Unit):=λb=>bif b<len a then(ix a b).bind λc=>(ix a b).bind λd=>(Aa (Kz x d) 0).bind λe=>ν (λf=>bif f>=0 then δ (.done (.inl b))else δ (.next (wi (b+1)))) (λg=>δ (.next (wi (b+1)))) e else δ (.done (.inr ()))
def K1(x:CC×List Ad):Lp (Int×Int×List Ad) (Int×List Ad):=λa=>letI m:=a.2.2;letI k:=ix m a.2.1;bif a.1<len m then(ix m a.1).bind λb=>(ix m a.1).bind λc=>letI l:=(wi (a.1+1),wi (a.2.1+1),E2 m a.2.1 c);(Aa (Kz x c) 0).bind λd=>ν (λe=>bif !(τ (e>=0))then k.bind λf=>k.bind λg=>δ (.next l)else δ (.next (wi (a.1+1),a.2))) (λh=>k.bind λi=>k.bind λj=>δ (.next l)) d else δ (.done a.2)
def PN(x:CC×List Ad):Option CC:=letI I:=Aa (Oo x) 0;letI D:=x.1.1;letI A:=x.1.2;letI F:=A.2.2;letI l:=A.2.1;letI E:=l.2.1;letI C:=l.2.2;(bif len C.1=0 then I.bind λa=>ν (λb=>bif b==(-1)then δ (D,A.1,(l.1,E,[],C.2),F)else ε) (λc=>δ (D,A.1,(l.1,E,[],C.2),F)) a else(app [] C.1).bind λd=>letI s:=(D,A.1,(l.1,E,d,C.2),F);(Aa (K0 x d) 0).bind λe=>ν (λf=>bif f==(-1)then δ s else(Aa (K1 x) (wi (f+1),f,d)).bind λg=>(zZ g.2 g.1 (0,0,[])).bind λh=>(WJ h 0 g.1).bind λi=>δ (D,A.1,(l.1,E,i,C.2),F)) (λj=>δ s) e:Option CC).bind λk=>letI G:=k.2.1;letI z:=k.2.2;letI H:=z.2.2;(bif len z.2.1=0 then I.bind λm=>ν (λn=>bif n==(-1)then δ (k.1,G,z.1,[],H)else ε) (λo=>δ (k.1,G,z.1,[],H)) m else(app [] z.2.1).bind λp=>letI B:=(k.1,G,z.1,p,H);(Aa (K0 x p) 0).bind λq=>ν (λr=>bif r==(-1)then δ B else(Aa (K1 x) (wi (r+1),r,p)).bind λt=>(zZ t.2 t.1 (0,0,[])).bind λu=>(WJ u 0 t.1).bind λv=>δ (k.1,G,z.1,v,H)) (λw=>δ B) q:Option CC).bind λy=>δ y
def Rl(a:CC):Lp Int (Bool⊕Unit):=λb=>bif b<a.2.2.1.2.1 then(RD (a.2.2.2.1,a.2.2.1,a.1.2.2.1,b,a.1.2.2.1.2.2)).bind λc=>bif c.2.2 !=0 then δ (.done (.inl η))else δ (.next (wi (b+1)))else δ (.done (.inr ()))
def FX(x:CC×List Ad):Option Bool:=(FW x.1.2.2.1).bind λa=>bif !a then δ η else(G8 x.1.1.2.2.1).bind λb=>bif !b then δ η else(PN x).bind λc=>(Aa (Rl c) 0).bind λd=>ν δ (λe=>δ ζ) d
def gf(a:Int×(List (List Ad))×(List Int))(b:Int):Lp Int (Int ⊕ Unit):=λc=>bif c<len a.2.2 then(ix a.2.2 c).bind λd=>(ix a.2.2 c).bind λe=>bif (wi (((BitVec.toNat ((BitVec.ofInt 64 e)&&&(BitVec.ofInt 64 b))):Nat):Int))==e then some (.done (.inl c))else some (.next (wi (c+1)))else some (.done (.inr ()))
def WT(a:List Ad)(b:Int):Lp (Int×List Ad) (List Ad):=λc=>bif c.1<len a then(ix a c.1).bind λd=>bif c.1<0 then ε else bif (wi (((π ((κ 64 (Int.fdiv b (2^(min (ο c.1) 64))))&&&(κ 64 1))):Nat):Int))==1 then(app c.2 [d]).bind λe=>δ (.next (wi (c.1+1),e))else δ (.next (wi (c.1+1),c.2))else δ (.done c.2)
def gd(x:CC×Int)(a:List Ad)(b:List Int):Lp (Int×(List (List Ad))×(List Int)) ((List (List Ad))×(List Int)):=λc=>letI l:=(wi (c.1+1),c.2);bif c.1<len b then(ix b c.1).bind λd=>letI q:=(Aa (WT a d) (0,[]));(Aa (gf c d) 0).bind λe=>Sum.elim (λf=>bif f>=0 then some (.next l)else q.bind λg=>(FX (x.1,g)).bind λh=>bif !h then(app c.2.2 ([d]:List Int)).bind λi=>(app c.2.1 ([g]:List (List (Int×Int×BV)))).bind λj=>some (.next (wi (c.1+1),j,i))else some (.next l)) (λk=>q.bind λm=>(FX (x.1,m)).bind λn=>bif !n then(app c.2.2 ([d]:List Int)).bind λo=>(app c.2.1 ([m]:List (List (Int×Int×BV)))).bind λp=>some (.next (wi (c.1+1),p,o))else some (.next l)) e else some (.done c.2)
def gb(x:CC×Int)(a:List Ad):Lp (Int×(List (List Ad))×(List Int)) ((List (List Ad))×(List Int)):=λb=>bif b.1<=x.2 then(Wx (len a,b.1)).bind λc=>(Aa (gd x a c) (0,b.2)).bind λd=>some (.next (wi (b.1+1),d))else some (.done b.2)
def UL(x:CC×Int):Option (List (List Ad)×Int):=(FW x.1.2.2.1).bind λa=>bif !a then δ ([],54)else(G8 x.1.1.2.2.1).bind λb=>bif !b then δ ([],26)else bif x.2<0 then δ ([],1)else bif x.2>3 then δ ([],1)else(Vq x.1).bind λc=>bif len c>12 then δ ([],21)else(Aa (gb x c) (0,[],[])).bind λd=>δ (d.1,0)
def Q8(x:CC):Option (Int×Int):=(UL (x,3)).bind λa=>bif a.2 !=0 then δ (0,a.2)else bif len a.1==0 then δ (3,0)else(ix a.1 0).bind λb=>δ (wi (len b-1),0)
def IT(x:Unit):Option Bool:=(KF (2,1,0,([0]:List Int))).bind λa=>(Q8 a.1).bind λb=>bif b.2==0 then bif b.1==3 then(FX (a.1,[])).bind λc=>δ c else δ η else δ η
end
noncomputable section
def GM(a:AM×Int):Lp (Int×List Ad) (List Ad):=λb=>bif b.1<len a.1.2.2.1 then(ix a.1.2.2.1 b.1).bind λc=>(app b.2 [(1,c.2.1,[])]).bind λd=>δ (.next (wi (b.1+1),d))else δ (.done b.2)
def Ix(a:Int×AZ×Ak)(b:A0×Int):Lp (Int×Bool) Bool:=λc=>bif c.1<len b.1.2.2 then bif c.2 then(ix b.1.2.2 c.1).bind λd=>δ (.next (wi (c.1+1),(d.2.1==a.2.1.2.2)))else δ (.next (wi (c.1+1),η))else δ (.done c.2)
def KQ(x:List Int):Option Bool:=(IT ()).bind λa=>bif !a then δ η else(bif len x>500 then(WJ x 0 500).bind λb=>δ b else δ x).bind λc=>(K2 (c,0) 20).bind λd=>letI s:=d.2.1;(EE (d.1,([0]:List Int))).bind λe=>(ER (e.1,s,4096)).bind λf=>(JN (1,d.1)).bind λg=>(HV (g,f.1,s,2,s.2.2)).bind λh=>(KF (d.1,1,0,([0]:List Int))).bind λi=>letI t:=i.1.2;letI u:=t.2.2.2;(KB (s,wi (s.2.2+1))).bind λj=>letI l:=(i.1.1.1,i.1.1.2.1,j.1,i.1.1.2.2.2);(Nd h.1).bind λk=>bif f.2 !=0 then δ η else bif h.2 !=0 then δ η else bif j.2 !=0 then δ η else(Aa (GM f) (0,[])).bind λm=>(Aa (Ix d h) (0,ζ)).bind λn=>(FX ((l,t.1,f.1,([k]:List (Int×Int×BV)),u),m)).bind λo=>bif o==n then(FX ((l,t.1,f.1,([k]:List (Int×Int×BV)),u),([(2,2,[])]:List (Int×Int×BV)))).bind λp=>bif p then(app m [(2,2,[])]).bind λq=>(FX ((l,t.1,f.1,([k]:List (Int×Int×BV)),u),q)).bind λr=>δ (r==(s.2.2==0))else δ η else δ η
end
end Go.Pm
