/- What the code computes, as functions of data; What these functions answer, part 8. Texts of the folder wip, laid in few files with shorter names by a program (wip/tools/pack.py); nothing is assumed. -/
import Derived.Test.YtimajmppopkomaaGreatK7
import Derived.KernelRfl
noncomputable section
set_option linter.unusedVariables false
set_option linter.unusedSimpArgs false
set_option linter.unusedSectionVars false
set_option linter.defProp false
set_option linter.unnecessarySimpa false
set_option linter.deprecated false
namespace Go.Pm
open Go Go.Ab
set_option maxRecDepth 100000
noncomputable section
abbrev KD:Type:=Int×Int×Bb
def Nr:Ty:=.prod (.cons (.int .i64) (.cons (.int .i64) (.one .str)))
abbrev Hp:Type:=Int×Int×(List KD)
def PD:Ty:=.prod (.cons (.int .i64) (.cons (.int .i64) (.one (.list Nr))))
abbrev M0:Type:=Bb
def Vi:Ty:=.prod (.one .str)
def Sp(x:Int×Int):Option (Int×Int):=letI d:=(BitVec.ofInt 64 4294967295);letI c:=(BitVec.toNat ((BitVec.ofInt 64 x.1)&&&d));letI b:=(BitVec.toNat ((BitVec.ofInt 64 x.2)&&&d));letI a:=(2^(min (Int.toNat 32) 64));letI f:=(Int.fdiv x.2 a);letI e:=(Int.fdiv x.1 a);some ((IntKind.wrap .u64 ((IntKind.wrap .u64 ((IntKind.wrap .u64 (e*f))+(Int.fdiv (IntKind.wrap .u64 ((IntKind.wrap .u64 (e*(IntKind.wrap .u64 ((b:Nat):Int))))+(Int.fdiv (IntKind.wrap .u64 ((IntKind.wrap .u64 ((c:Nat):Int))*(IntKind.wrap .u64 ((b:Nat):Int)))) a))) a)))+(Int.fdiv (IntKind.wrap .u64 ((IntKind.wrap .u64 (((BitVec.toNat ((BitVec.ofInt 64 (IntKind.wrap .u64 ((IntKind.wrap .u64 (e*(IntKind.wrap .u64 ((b:Nat):Int))))+(Int.fdiv (IntKind.wrap .u64 ((IntKind.wrap .u64 ((c:Nat):Int))*(IntKind.wrap .u64 ((b:Nat):Int)))) a))))&&&d)):Nat):Int))+(IntKind.wrap .u64 ((IntKind.wrap .u64 ((c:Nat):Int))*f)))) a))),(IntKind.wrap .u64 (x.1*x.2)))
def Ui(x:Int×Int):Option (Int×Int):=(Sp x).bind λa=>some a
end
noncomputable section
def U9(x:Unit):Option Bb:=(J9 (([0]:List (UInt8)),256)).bind λa=>some a
def Gq(x:Bb×Int×Int):Option Int:=(CE x).bind λa=>some a.1
def dv(x:Bb):Lp (Int×AZ×AZ) ((Bool×AZ)⊕ (AZ×AZ)):=λa=>letI j:=a.2.1.2;letI i:=(wi (12+wi (a.1*13)));bif a.1<16 then(Gq (x,i,1)).bind λb=>(bif b==255 then some (.inl a.2)else bif b>12 then some (.inr (false,0,0,(JR.all (false,[]))))else(TH x (wi (i+1)) (wi ((wi (i+1))+b))).bind λc=>(GX j.2 a.1).bind λd=>(GX j.2 a.1).bind λe=>some (.inl ((a.2.1.1,j.1,(U3 j.2 a.1 (true,c))),a.2.2)):Option ((AZ×AZ)⊕ (Bool×AZ))).bind λf=>Sum.elim (λg=>some (.next (wi (a.1+1),g))) (λh=>some (.done (.inl h))) f else some (.done (.inr a.2))
def UO(x:Bb):Option (AZ×Bool):=(Gq (x,8,4)).bind λa=>(Gq (x,0,8)).bind λb=>(Ad (dv x) (0,(a,b,(JR.all (false,[]))),0,0,(JR.all (false,[])))).bind λc=>Sum.elim (λd=>some (d.2,d.1)) (λe=>some (e.1,true)) c
def UD(x:AZ):Option Bool:=(HV x.1).bind λa=>bif a then bif x.2.1>=0 then some (decide (x.2.1<=1099511627776))else some false else some false
def cO(x:AZ):Lp Int (Bool ⊕ Unit):=λa=>letI c:=(wi (a+1));bif a<16 then(GX x.2.2 a).bind λb=>bif len b.2>12 then some (.done (.inl false))else bif !b.1 then bif b.2 !=[]then some (.done (.inl false))else bif b.1 then bif x.2.1==0 then some (.done (.inl false))else some (.next c)else some (.next c)else bif b.1 then bif x.2.1==0 then some (.done (.inl false))else some (.next c)else some (.next c)else some (.done (.inr ()))
def Sq(x:AZ):Option Bool:=(Ad (cO x) 0).bind λa=>Sum.elim some (λb=>some true) a
def Je(b:M0)(x:Cv):Option M0:=(bif x.1 then some (len x.2)else some 255:Option Int).bind λa=>(Nl (b,a,1)).bind λc=>(sapp c x.2).bind λd=>(J9 (([0]:List (UInt8)),(wi (12-len x.2)))).bind λe=>(sapp d e).bind λf=>some f
def Zf(x:AZ):Lp (Int×M0) M0:=λa=>bif a.1<16 then(GX x.2.2 a.1).bind λb=>(Je a.2 b).bind λc=>some (.next (wi (a.1+1),c))else some (.done a.2)
def J3(x:AZ):Option (Bb×Int):=(UD x).bind λa=>bif !a then some ([],1)else(Sq x).bind λb=>bif !b then some ([],22)else(Nl ([],x.2.1,8)).bind λc=>(Nl (c,x.1,4)).bind λd=>(Ad (Zf x) (0,d)).bind λe=>(J9 (([0]:List (UInt8)),(wi (244-len e)))).bind λf=>(sapp e f).bind λg=>(Nm g).bind λh=>(Nl (g,(wi h),4)).bind λi=>(Nl (i,x.2.1,8)).bind λj=>some (j,0)
def Oi(x:Bb):Option (AZ×Int):=bif len x !=256 then some ((0,0,(JR.all (false,[]))),2)else(U9 ()).bind λa=>bif x==a then some ((0,0,(JR.all (false,[]))),7)else(TH x 0 8).bind λb=>(TH x 248 (len x)).bind λc=>bif b !=c then some ((0,0,(JR.all (false,[]))),27)else(TH x 0 244).bind λd=>(Gq (x,244,4)).bind λe=>(Nm d).bind λf=>bif e !=wi f then some ((0,0,(JR.all (false,[]))),3)else(UO x).bind λg=>(J3 g.1).bind λh=>bif !g.2 then some ((0,0,(JR.all (false,[]))),4)else bif h.2 !=0 then some ((0,0,(JR.all (false,[]))),4)else bif h.1 !=x then some ((0,0,(JR.all (false,[]))),4)else some (g.1,0)
def Gz(x:Bb×Int):Option (AZ×Int):=(HV x.2).bind λa=>bif !a then some ((0,0,(JR.all (false,[]))),1)else(Oi x.1).bind λb=>bif b.2==7 then(Hj x.2).bind λc=>some (c,0)else bif b.2 !=0 then some ((0,0,(JR.all (false,[]))),b.2)else bif b.1.1 !=x.2 then some ((0,0,(JR.all (false,[]))),6)else some (b.1,0)
def Ze(x:Hp):Lp Int (Bool ⊕ Unit):=λa=>bif a<len x.2.2 then(ix x.2.2 a).bind λb=>letI f:=(Gz (b.2.2,b.1));bif b.1>=x.2.1 then some (.done (.inl false))else bif a>0 then(ix x.2.2 (wi (a-1))).bind λc=>bif c.1>=b.1 then some (.done (.inl false))else f.bind λd=>bif d.2 !=0 then some (.done (.inl false))else bif d.1.2.1 !=b.2.1 then some (.done (.inl false))else some (.next (wi (a+1)))else f.bind λe=>bif e.2 !=0 then some (.done (.inl false))else bif e.1.2.1 !=b.2.1 then some (.done (.inl false))else some (.next (wi (a+1)))else some (.done (.inr ()))
def Qo(x:Hp):Option Bool:=bif x.1<1 then some false else bif x.1>1073741824 then some false else bif x.2.1<1 then some false else bif x.2.1>64 then some false else bif len x.2.2>x.2.1 then some false else(Ad (Ze x) 0).bind λa=>Sum.elim some (λb=>some true) a
def UB(x:Hp):Option Bool:=(Qo x).bind λa=>bif a then some (len x.2.2==x.2.1)else some false
def L6(x:AM×Aj):Option Int:=(Ic x.1).bind λa=>bif !a then some 54 else(Lb x.2).bind λb=>bif !b then some 26 else some 0
def PR(x:AZ×De):Option (AZ×Int):=letI g:=x.2.2;letI f:=(GX x.1.2.2 g.1);(NC x.2).bind λa=>bif !a then some ((0,0,(JR.all (false,[]))),22)else bif x.2.1 !=x.1.1 then some ((0,0,(JR.all (false,[]))),6)else f.bind λb=>f.bind λc=>bif !((c.1==g.2.1.1)&&((c.2==g.2.1.2)&&true))then some ((0,0,(JR.all (false,[]))),20)else f.bind λd=>f.bind λe=>some ((x.1.1,x.1.2.1,(U3 x.1.2.2 g.1 g.2.2)),0)
def S0(x:AZ×AD):Option (AZ×Int):=letI e:=x.2.2.2.2.2;(GD x.2).bind λa=>bif !a then some ((0,0,(JR.all (false,[]))),12)else(A6 x.2).bind λb=>bif !b then some ((0,0,(JR.all (false,[]))),12)else(J3 x.1).bind λc=>bif c.2 !=0 then some ((0,0,(JR.all (false,[]))),c.2)else bif e.2.2.1.1 !=x.1.1 then some ((0,0,(JR.all (false,[]))),6)else bif e.1 !=x.1.2.1 then some ((0,0,(JR.all (false,[]))),13)else(PR (x.1,e.2.2.1)).bind λd=>bif d.2 !=0 then some ((0,0,(JR.all (false,[]))),d.2)else some ((d.1.1,x.2.1,d.1.2.2),0)
def XX(x:AZ×(List AD)):Lp (Int×AZ×AZ) ((Int×AZ)⊕ (AZ×AZ)):=λa=>bif a.1<len x.2 then(ix x.2 a.1).bind λb=>bif b.1<=a.2.1.2.1 then some (.next (wi (a.1+1),a.2))else(S0 (a.2.1,b)).bind λc=>bif c.2 !=0 then some (.done (.inl (c.2,0,0,(JR.all (false,[])))))else some (.next (wi (a.1+1),c.1,a.2.2))else some (.done (.inr a.2))
def S3(x:AZ×(List AD)):Option (AZ×Int):=(Ad (XX x) (0,x.1,0,0,(JR.all (false,[])))).bind λa=>Sum.elim (λb=>some (b.2,b.1)) (λc=>some (c.1,0)) a
def S2(x:AZ×AM×Aj×Int):Option (AZ×Int):=letI e:=x.2.2;(L6 (x.2.1,e.1)).bind λa=>bif a !=0 then some ((0,0,(JR.all (false,[]))),a)else(J3 x.1).bind λb=>bif b.2 !=0 then some ((0,0,(JR.all (false,[]))),b.2)else bif x.1.2.1>e.2 then some ((0,0,(JR.all (false,[]))),9)else(Li (x.2.1,e.1,x.1.1,x.1.2.1,e.2)).bind λc=>bif c.2 !=0 then some ((0,0,(JR.all (false,[]))),c.2)else(S3 (x.1,c.1)).bind λd=>some d
def Pt(x:KD×AM×Aj×Int):Option (KD×Int):=(Gz (x.1.2.2,x.1.1)).bind λa=>bif a.2 !=0 then some ((0,0,[]),a.2)else(S2 (a.1,x.2)).bind λb=>bif b.2 !=0 then some (x.1,b.2)else bif b.1.2.1==0 then some (x.1,b.2)else(J3 b.1).bind λc=>some ((x.1.1,b.1.2.1,c.1),c.2)
def XW(x:Hp×AM×Aj×Int×Int):Lp (Int×(List KD)×Int×Int×Int) ((Int×Int×Int)⊕ ((List KD)×Int×Int×Int)):=λa=>bif a.1<len x.1.2.2 then(ix x.1.2.2 a.1).bind λb=>(Pt (b,x.2.1,x.2.2.1,x.2.2.2.2)).bind λc=>bif c.2 !=0 then none else(app a.2.1 ([c.1]:List (Int×Int×Bb))).bind λd=>some (.next (wi (a.1+1),d,a.2.2))else some (.done (.inr a.2))
def Gw(x:Hp×AM×Aj×Int×Int):Option (Hp×Int):=letI f:=x.2.2;(UB x.1).bind λa=>bif !a then some ((0,0,[]),43)else(L6 (x.2.1,f.1)).bind λb=>bif b !=0 then bif b !=0 then some ((0,0,[]),b)else some ((0,0,[]),b)else bif f.2.1<1 then some ((0,0,[]),1)else bif f.2.1>1073741824 then some ((0,0,[]),1)else bif f.2.2<0 then some ((0,0,[]),1)else bif f.2.2>f.1.2.2 then some ((0,0,[]),1)else(Ad (XW x) (0,[],f.2.1,x.1.2.1,b)).bind λc=>Sum.elim (λd=>bif d.2.2 !=0 then some ((0,0,[]),d.2.2)else none) (λe=>some ((e.2.1,e.2.2.1,e.1),0)) c
def Ry(x:Int×Int):Lp (Int×(List KD)×Int×Int) ((List KD)×Int×Int):=λa=>bif a.1<x.2 then(ID ()).bind λb=>(app a.2.1 ([(a.1,0,b)]:List (Int×Int×Bb))).bind λc=>some (.next (wi (a.1+1),c,a.2.2))else some (.done a.2)
def F3(x:Int×Int):Option Hp:=(Ad (Ry x) (0,[],x)).bind λa=>some (a.2.1,a.2.2,a.1)
def IC(x:Unit):Option Bool:=(F3 (1,2)).bind λa=>(GZ ()).bind λb=>(Jo ([],0) (2,b)).bind λc=>(GZ ()).bind λd=>(Gw (a,c.1,d,2,0)).bind λe=>bif e.2==0 then bif e.1.1==2 then some (len e.1.2.2==2)else some false else some false
def SH(x:Hp×Hp):Lp Int (Bool ⊕ Unit):=λa=>bif a<len x.1.2.2 then(ix x.1.2.2 a).bind λb=>(ix x.2.2.2 a).bind λc=>bif !((b.1==c.1)&&((b.2.1==c.2.1)&&((b.2.2==c.2.2)&&true)))then some (.done (.inl false))else some (.next (wi (a+1)))else some (.done (.inr ()))
def HI(x:Hp×Hp):Option Bool:=bif x.1.1 !=x.2.1 then some false else bif x.1.2.1 !=x.2.2.1 then some false else bif len x.1.2.2 !=len x.2.2.2 then some false else(Ad (SH x) 0).bind λa=>Sum.elim some (λb=>some true) a
end
noncomputable section
def Ix(x:(List Int)×Int×Int):Option Bool:=(IC ()).bind λa=>bif !a then some false else(bif len x.1>500 then(bu x.1 0 500).bind λb=>some b else some x.1:Option (List Int)).bind λc=>(KR (c,0) 25).bind λd=>letI p:=d.2.1;letI l:=(Int.tmod (wi x.2.1) (wi (p.2.2+1)));(Jo d.2.2 (d.1,p)).bind λe=>(HH (e.1,2)).bind λf=>bif e.1.2.2.2.1==0 then none else(Jg (p,(wi (1+(Int.tmod (wi x.2.2) e.1.2.2.2.1))))).bind λg=>(Hn (d.1,([0]:List Int))).bind λh=>bif wi (p.2.2+1)==0 then none else(F3 (1,d.1)).bind λi=>(Gw (i,e.1,p,2,l)).bind λj=>(Gw (i,f.1,g.1,2,l)).bind λk=>(Gw (i,h.1,p,2,l)).bind λm=>bif j.2==0 then bif k.2==0 then bif m.2==0 then(HI (j.1,k.1)).bind λn=>bif n then(HI (j.1,m.1)).bind λo=>some o else some false else some false else some false else some false
end
def Z9(c:BitVec 32):BitVec 32:=if c.getLsbD 0=true then(c>>>1)^^^2197175160#32 else c>>>1
def jk:Nat->BitVec 32->BitVec 32
 |0,c=>c
 |n+1,c=>Z9 (jk n c)
def sH(c:BitVec 32)(b:UInt8):BitVec 32:=jk 8 (c^^^BitVec.ofNat 32 b.toNat)
def AEX(s:Bb):BitVec 32:=4294967295#32^^^s.foldl sH 4294967295#32
def YC(s:Bb):Int:=((AEX s).toNat:Int)
def xg(a b:BitVec 32):Z9 (a^^^b)=Z9 a^^^Z9 b:=by
 unfold Z9;rw[BitVec.getLsbD_xor,BitVec.ushiftRight_xor_distrib];cases a.getLsbD 0<;>cases b.getLsbD 0<;>simp;grind;grind;have:a>>>1^^^2197175160#32^^^(b>>>1^^^2197175160#32)=(a>>>1^^^b>>>1)^^^(2197175160#32^^^2197175160#32):=by ac_rfl
 grind
theorem wA: ∀(n:Nat) (a b:BitVec 32),jk n (a^^^b)=jk n a^^^jk n b
 |0,a,b=>rfl
 |n+1,a,b=>by rw[jk,jk,jk,wA n,xg]
def fR(s:Bb):0<=YC s/\YC s<4294967296:=by unfold YC;omega
theorem bvI(c:BitVec 32):BitVec.ofInt 32 (c.toNat:Int)=c:=by grind
theorem w32(c:BitVec 32):IntKind.wrap .u32 (c.toNat:Int)=(c.toNat:Int):=by rw[tu];omega
theorem fdN(c:BitVec 32)(k:Nat)(a:k<=32):Int.fdiv (c.toNat:Int) (2^(min (Int.toNat (k:Int)) 32))=((c>>>k).toNat:Int):=by rw[show min (Int.toNat (k:Int)) 32=k by omega,eZ _ (by exact_mod_cast Bt (2^k)),BitVec.toNat_ushiftRight,Nat.shiftRight_eq_div_pow];grind
theorem fd1(c:BitVec 32):Int.fdiv (c.toNat:Int) (2^(min (Int.toNat 1) 32))=((c>>>1).toNat:Int):=by grind[fdN]
def fd4(c:BitVec 32):Int.fdiv (c.toNat:Int) (2^(min (Int.toNat 4) 32))=((c>>>4).toNat:Int):=by grind[fdN]
theorem AA9(c:BitVec 32):((IntKind.wrap .u32 (((BitVec.toNat ((BitVec.ofInt 32 (c.toNat:Int))&&&(BitVec.ofInt 32 1))):Nat):Int))==1)=c.getLsbD 0:=by grind[bvI,w32,BitVec.toNat_and,BitVec.ofInt]
def AB6(c:BitVec 32):(bif ((IntKind.wrap .u32 (((BitVec.toNat ((BitVec.ofInt 32 (c.toNat:Int))&&&(BitVec.ofInt 32 1))):Nat):Int))==1)then
     some (IntKind.wrap .u32 (((BitVec.toNat ((BitVec.ofInt 32 (Int.fdiv (c.toNat:Int) (2^(min (Int.toNat 1) 32))))^^^(BitVec.ofInt 32 2197175160))):Nat):Int))
    else
    some (Int.fdiv (c.toNat:Int) (2^(min (Int.toNat 1) 32))):Option Int)=some ((Z9 c).toNat:Int):=by grind[AA9,fd1,bvI,w32,Z9]
def ADK(c:BitVec 32):Ad HX ((c.toNat:Int),0)=some ((jk 8 c).toNat:Int):=by
 have key:A3 (Ad HX ((c.toNat:Int),0)) λr=>r=((jk 8 c).toNat:Int):=by refine AQ (λ(s:Int×Int)=>0<=s.2/\s.2<=8/\s.1=((jk s.2.toNat c).toNat:Int)) (λs=>(8-s.2).toNat) ⟨Ak _,by dsimp only;omega,rfl⟩ ?_;rintro⟨g,a⟩ ⟨e,f,b⟩;dsimp only at e f b;subst b;refine AC (λd=>?_) (λd=>AA (by rw[show a.toNat=8 by omega]));rw[AB6,AE,AY];refine AA ⟨⟨by omega,by omega,?_⟩,by omega⟩;rw[show(a+1).toNat=a.toNat+1 by omega];rfl
 obtain⟨r,hr,rfl⟩:=key;exact hr
def yO(c:BitVec 32)(b:UInt8):IntKind.wrap .u32 (((BitVec.toNat ((BitVec.ofInt 32 (c.toNat:Int))^^^(BitVec.ofInt 32 (IntKind.wrap .u32 (b.toNat:Int))))):Nat):Int)=((c^^^BitVec.ofNat 32 b.toNat).toNat:Int):=by grind[IntKind.wrap,tu,bvI,w32]
def zo{x:Bb}{i:Int}(a:0<=i)(c:i<x.length): ∃b:UInt8,six x i=some (b.toNat:Int)/\x.take (i+1).toNat=x.take i.toNat++[b]:=by obtain⟨k,rfl⟩:=Ei a;refine⟨x[k],?_,?_⟩;grind[six];simp_all
def uF{x:Bb}(h:x.length<=2199023255552):Ew x=some (YC x):=by
 have key:A3 (Ad (HW x) (4294967295,0)) λr=>r=((x.foldl sH 4294967295#32).toNat:Int):=by refine AQ (λ(s:Int×Int)=>0<=s.2/\s.2<=x.length/\s.1=(((x.take s.2.toNat).foldl sH 4294967295#32).toNat:Int)) (λs=>((x.length:Int)-s.2).toNat) ⟨Ak _,by dsimp only;omega,rfl⟩ ?_;rintro⟨f,g⟩ ⟨c,e,d⟩;dsimp only at c e d;subst d;unfold HW;simp only[len];refine AC (λa=>?_) (λa=>AA (by rw[Bs (by omega)]));have⟨b,q1,q2⟩:=zo c a;rw[q1,AE,yO,ADK,AE,AY];refine AA ⟨⟨by omega,by omega,?_⟩,by omega⟩;rw[q2,fF];rfl
 obtain⟨r,hr,rfl⟩:=key;unfold Ew;rw[hr,AE,bvI];rw[show(BitVec.ofInt 32 (if(false=true)then(-1)else(if(false=true)then((2^(32-1))-1)else((2^32)-1))))=4294967295#32 by decide,w32];rfl
def AEc{d:BitVec 32}(b:d.getLsbD 0=false)(c:d.getLsbD 1=false)(f:d.getLsbD 2=false)(g:d.getLsbD 3=false):jk 4 d=d>>>4:=by
 have st: ∀e:BitVec 32,e.getLsbD 0=false->Z9 e=e>>>1:=λe a=>by unfold Z9;rw[if_neg (by rw[a];decide)]
 show Z9 (Z9 (Z9 (Z9 d)))=_;grind
def ACq(c:BitVec 32):(c>>>4)^^^jk 4 (c&&&15#32)=jk 4 c:=by
 have d:c=(c&&& ~~~15#32)^^^(c&&&15#32):=by apply pB;intro i a;rw[BitVec.getLsbD_xor,BitVec.getLsbD_and,BitVec.getLsbD_and,BitVec.getLsbD_not];grind
 have e:jk 4 (c&&& ~~~15#32)=c>>>4:=by
  have z: ∀i,i<4->(c&&& ~~~15#32).getLsbD i=false:=λi a=>by
   have:i=0\/i=1\/i=2\/i=3:=by omega
   grind
  rw[AEc (z 0 (by decide)) (z 1 (by decide)) (z 2 (by decide)) (z 3 (by decide))];apply pB;intro i a;have b:(15#32).getLsbD (4+i)=false:=by show(15#32).toNat.testBit (4+i)=false;grind
  grind
 grind[wA]
def ADF(c:BitVec 32):Ad Kg ((c.toNat:Int),0)=some ((jk 4 c).toNat:Int):=by
 have key:A3 (Ad Kg ((c.toNat:Int),0)) λr=>r=((jk 4 c).toNat:Int):=by refine AQ (λ(s:Int×Int)=>0<=s.2/\s.2<=4/\s.1=((jk s.2.toNat c).toNat:Int)) (λs=>(4-s.2).toNat) ⟨Ak _,by dsimp only;omega,rfl⟩ ?_;rintro⟨g,a⟩ ⟨e,f,b⟩;dsimp only at e f b;subst b;refine AC (λd=>?_) (λd=>AA (by rw[show a.toNat=4 by omega]));rw[AB6,AE,AY];refine AA ⟨⟨by omega,by omega,?_⟩,by omega⟩;rw[show(a+1).toNat=a.toNat+1 by omega];rfl
 obtain⟨r,hr,rfl⟩:=key;exact hr
def xq(t:Fin (15+1)->(Ty.int IntKind.u32).D):Prop:= ∀j:Fin 16,t j=((jk 4 (BitVec.ofNat 32 j.val)).toNat:Int)
def AD8:A3 (KQ ()) xq:=by refine AB (P:=xq) ?_ λr hr=>AA hr;refine AQ (λ(s:Int×(Fin (15+1)->(Ty.int IntKind.u32).D))=>0<=s.1/\s.1<=16/\ ∀j:Fin 16,(j.val:Int)<s.1->s.2 j=((jk 4 (BitVec.ofNat 32 j.val)).toNat:Int)) (λs=>(16-s.1).toNat) ⟨Ak _,by decide,λj b=>absurd b (by dsimp only;omega)⟩ ?_;rintro⟨h,i⟩ ⟨c,g,d⟩;refine AC (λa=>?_) (λa=>AA λj=>d j (by have:=j.isLt;omega));obtain⟨k,rfl⟩:=Ei c;rw[(by grind[tu,BitVec.toNat_ofNat]:IntKind.wrap .u32 (k:Int)=((BitVec.ofNat 32 k).toNat:Int)),ADF,AE];refine AB (DY (by omega) (by omega)) λl e=>?_;refine AB (DY (by omega) (by omega)) λm f=>AA ?_;grind[AY,U3]
theorem zx{t:Fin (15+1)->(Ty.int IntKind.u32).D}(b:xq t)(c:BitVec 32):GX t (IntKind.wrap .u32 (((BitVec.toNat ((BitVec.ofInt 32 (c.toNat:Int))&&&(BitVec.ofInt 32 15))):Nat):Int))=some ((jk 4 (c&&&15#32)).toNat:Int):=by
 rw[bvI,show BitVec.ofInt 32 15=15#32 by decide,w32];have a:(c&&&15#32).toNat<16:=by exact Nat.lt_succ_of_le Nat.and_le_right
 unfold GX;rw[dif_pos ⟨by omega,by omega⟩];refine congrArg some ((b ⟨(c&&&15#32).toNat,a⟩).trans ?_);grind
def ADs(c:BitVec 32):IntKind.wrap .u32 (((BitVec.toNat ((BitVec.ofInt 32 (Int.fdiv (c.toNat:Int) (2^(min (Int.toNat 4) 32))))^^^(BitVec.ofInt 32 ((jk 4 (c&&&15#32)).toNat:Int)))):Nat):Int)=((jk 4 c).toNat:Int):=by rw[fd4,bvI,bvI,ACq,w32]
def vz: ∀(m n:Nat) (c:BitVec 32),jk m (jk n c)=jk (m+n) c
 |0,n,c=>by rw[jk,ED]
 |m+1,n,c=>by rw[jk,vz m n,Nat.succ_add];rfl
def rG{x:Bb}(h:x.length<=2199023255552):Nm x=some (YC x):=by
 unfold Nm;have⟨t,f,a⟩:=AD8;rw[f,AE];have key:A3 (Ad (Sl x t) (4294967295,0)) λr=>r=((x.foldl sH 4294967295#32).toNat:Int):=by refine AQ (λ(s:Int×Int)=>0<=s.2/\s.2<=x.length/\s.1=(((x.take s.2.toNat).foldl sH 4294967295#32).toNat:Int)) (λs=>((x.length:Int)-s.2).toNat) ⟨Ak _,by dsimp only;omega,rfl⟩ ?_;rintro⟨i,j⟩ ⟨d,g,e⟩;dsimp only at d g e;subst e;unfold Sl;simp only[len];refine AC (λc=>?_) (λc=>AA (by rw[Bs (by omega)]));have⟨b,q1,q2⟩:=zo d c;rw[q1,AE,yO,zx a,AE,AE,ADs,zx a,AE,AE,ADs,AY];refine AA ⟨⟨by omega,by omega,?_⟩,by omega⟩;rw[q2,fF,vz];rfl
 obtain⟨r,hr,rfl⟩:=key;rw[hr,AE,bvI];rw[show(BitVec.ofInt 32 (if(false=true)then(-1)else(if(false=true)then((2^(32-1))-1)else((2^32)-1))))=4294967295#32 by decide,w32];rfl
set_option maxHeartbeats 400000
def gV(n:Nat):Bb:=List.replicate n 0
def Vw(c:Cv):Bb:=D9 (if c.1=true then(c.2.length:Int)else 255) 1++(c.2++gV (12-c.2.length))
def cl(a:JR 16 Cv)(i:Nat):Cv:=(GX a i).getD (false,[])
def Oq(a:JR 16 Cv)(k:Nat):Bb:=(List.range k).flatMap λi=>Vw (cl a i)
def P0(x:AZ):Bb:=D9 x.2.1 8++(D9 x.1 4++(Oq x.2.2 16++gV 24))
def MI(x:AZ):Bb:=P0 x++(D9 (YC (P0 x)) 4++D9 x.2.1 8)
theorem pN{a:JR 16 Cv}{i:Nat}(h:i<16):GX a (i:Int)=some (cl a i)/\cl a i=a ⟨i,h⟩:=by
 have e:GX a (i:Int)=some (a ⟨i,h⟩):=by unfold GX;rw[dif_pos ⟨by omega,by omega⟩];rfl
 unfold cl;rw[e];exact⟨rfl,rfl⟩
def Nk(a:JR 16 Cv)(k:Nat):Oq a (k+1)=Oq a k++Vw (cl a k):=by unfold Oq;rw[List.range_succ,fE,I4,jy,D8]
def fM{c:Cv}(h:c.2.length<=12):(Vw c).length=13:=by unfold Vw gV;rw[Af,Af,BB,I6];omega
def Hq.cl{x:AZ}(h:Hq x)(i:Nat):IA (cl x.2.2 i):=by rcases Ao i 16 with a|a;rw[(pN a).2];exact(h.2.2.2.2 _).1;unfold Go.Pm.cl GX;rw[dif_neg (by omega)];exact⟨by decide,.inr rfl⟩
def JV{x:AZ}(h:Hq x): ∀k:Nat,(Oq x.2.2 k).length=13*k
 |0=>rfl
 |k+1=>by rw[Nk,Af,JV h k,fM (h.cl k).1];omega
def I7{x:AZ}(h:Hq x):(P0 x).length=244:=by unfold P0 gV;simp only[Af,BB,JV h,I6]
def nI{x:AZ}(h:Hq x):(MI x).length=256:=by unfold MI;simp only[Af,BB,I7 h]
def U8{x:AZ}:(MI x).take 8=D9 x.2.1 8:=by unfold MI P0;rw[A0,MD (BB _ _)]
def mL{x:AZ}(h:Hq x):(MI x).drop 248=D9 x.2.1 8:=by unfold MI;rw[<-A0,List.drop_left' (by rw[Af,I7 h,BB])]
def gL(n:Nat):GU (List.replicate n 0)=gV n:=by unfold GU gV;rw[List.map_replicate];rfl
def rX{x:Int}(h:0<=x/\x<=16777216):Gi x=some (gV x.toNat):=by unfold Gi Go.Ab.mk;rw[if_pos ⟨h.1,Ak _,h.2⟩,AE,gL]
def rf{s:Bb}{n k:Int}(h:s.length<=1099511627776)(a:1<=k/\k<=8):A3 (Al (s,(n,k))) λr=>r=s++D9 n k.toNat:=⟨_,HN h a.1 a.2,rfl⟩
def mZ{x:AZ}(h:Hq x):Dl x=some 0:=by have⟨a,g,c⟩:=LC (x:=x);have⟨b,i,d⟩:=NG (x:=x);have e:a=true:=c.2 ⟨h.1,h.2.1,h.2.2.1,h.2.2.2.1⟩;have f:b=true:=d.2 h.2.2.2.2;unfold Dl;rw[g,e,AE,i,f];rfl
def ma{x:AZ}(h:Hq x):Dw x=some (MI x,0):=by
 suffices g:A3 (Dw x) λr=>r=(MI x,0) by obtain⟨r,hr,rfl⟩:=g;exact hr
 unfold Dw;rw[mZ h,AE];refine AL (λb=>absurd rfl b) λ_=>?_;refine AB (rf (by decide) (by decide)) λL p=>AB (rf (by rw[p];simp[BB]) (by decide)) λG z=>?_;have w:G=D9 x.2.1 8++D9 x.1 4:=by rw[z,p];rfl
 refine AB (P:=λr=>r=D9 x.2.1 8++(D9 x.1 4++Oq x.2.2 16)) ?_ λf d=>?_
 ·refine Gf (λ(s:Bb×Int)=>0<=s.2/\s.2<=16/\s.1=D9 x.2.1 8++(D9 x.1 4++Oq x.2.2 s.2.toNat)) (λ(s:Bb×Int)=>(16-s.2).toNat) ⟨Ak _,by dsimp only;decide,by rw[w];simp[Oq]⟩ ?_;rintro⟨s,i⟩ ⟨u,C,g⟩;dsimp only at u C g;subst g;unfold QE;dsimp only;refine AC (λb=>?_) (λb=>A3.done (by rw[show i.toNat=16 by omega]));have⟨t,K⟩:=pN (a:=x.2.2) (i:=i.toNat) (by omega);rw[LV u]at t;have b:=(h.cl i.toNat).1;simp only[t,AE,AY (x:=i+1)];have J:(D9 x.2.1 8++(D9 x.1 4++Oq x.2.2 i.toNat)).length<=300:=by simp only[Af,BB,JV h];omega
  refine AB (P:=λv=>v=if(cl x.2.2 i.toNat).1=true then((cl x.2.2 i.toNat).2.length:Int)else 255) ?_ λM A=>?_;exact AI (λb=>AA (if_pos b).symm) (λb=>AA (if_neg (by rw[b];decide)).symm);refine AB (rf (by omega) (by decide)) λN q=>?_;have y:wi (12-len (cl x.2.2 i.toNat).2)=((12-(cl x.2.2 i.toNat).2.length:Nat):Int):=by rw[AY (by simp only[len];omega)];simp only[len];omega
  rw[y,rX (by omega),AE,Df];refine AB (Cu (by simp only[gV,I6];omega)) λn c=>?_;have D:n.length<=24:=by rw[c.2];simp only[gV,I6];omega
  refine AB (Cu (by rw[q,Af,BB];simp only[Int.reduceToNat];omega)) λF k=>A3.next ⟨by dsimp only;omega,by dsimp only;omega,?_⟩ (by dsimp only;omega)
  dsimp only;rw[k.1,c.1,q,A,show(i+1).toNat=i.toNat+1 by omega,Nk];simp only[Vw,A0,Int.reduceToNat]
 have E:f.length=220:=by rw[d];simp only[Af,BB,JV h]
 rw[show wi (244-len f)=24 by rw[AY (by simp only[len];omega)];simp only[len];omega,rX (by decide),AE];refine AB (Cu (by simp only[gV,I6,Int.reduceToNat];omega)) λo l=>?_;have j:o=P0 x:=by rw[l.1,d];simp only[P0,A0,Int.reduceToNat]
 rw[j,uF (by rw[I7 h];decide),AE];have B:=fR (P0 x);rw[AY];refine AB (rf (by rw[I7 h];decide) (by decide)) λH e=>AB (rf (by rw[e,Af,I7 h,BB];decide) (by decide)) λI m=>AA ?_;rw[m,e];simp only[MI,A0,Int.reduceToNat]
def we{c d:Cv}(e:IA c)(f:IA d)(h:Vw c=Vw d):c=d:=by obtain⟨g,l⟩:=c;obtain⟨i,m⟩:=d;obtain⟨j,b⟩:=LW h (by rw[BB,BB]);have l1:=e.1;have l2:=f.1;dsimp only at l1 l2;have a:=Xa (k:=1) (by decide) ⟨λ_=>by dsimp only;split<;>omega,by dsimp only;split<;>omega,by dsimp only;split<;>omega⟩ ⟨λ_=>by dsimp only;split<;>omega,by dsimp only;split<;>omega,by dsimp only;split<;>omega⟩ j;dsimp only at a b;cases g<;>cases i;have:=e.2;have:=f.2;simp_all;exfalso;simp at a;omega;exfalso;simp at a;omega;simp at a;exact ES rfl (LW b (by omega)).1
def nA{x y:AZ}(a:Hq x)(b:Hq y): ∀k:Nat,Oq x.2.2 k=Oq y.2.2 k-> ∀i,i<k->cl x.2.2 i=cl y.2.2 i
 |0,_=>λi c=>absurd c (by omega)
 |k+1,h=>by rw[Nk,Nk]at h;obtain⟨d,e⟩:=LW h (by rw[JV a,JV b]);intro i c;by_cases f:i=k;subst f;exact we (a.cl i) (b.cl i) e;exact nA a b k d i (by omega)
theorem yk{x y:AZ}(a:Hq x)(b:Hq y)(h:MI x=MI y):x=y:=by obtain⟨h,_⟩:=LW h (by rw[I7 a,I7 b]);obtain⟨c,h⟩:=LW h (by rw[BB,BB]);obtain⟨d,h⟩:=LW h (by rw[BB,BB]);obtain⟨e,_⟩:=LW h (by rw[JV a,JV b]);have f:=a.1;have g:=a.2.1;have j:=a.2.2.1;have k:=a.2.2.2.1;have l:=b.1;have m:=b.2.1;have n:=b.2.2.1;have o:=b.2.2.2.1;refine ES (Xa (by decide) ⟨λ_=>by omega,by omega,by omega⟩ ⟨λ_=>by omega,by omega,by omega⟩ d) (ES (Xa (by decide) ⟨λ_=>by omega,by omega,by omega⟩ ⟨λ_=>by omega,by omega,by omega⟩ c) (funext λi=>?_));have:=nA a b 16 e i.val i.isLt;rw[(pN i.isLt).2,(pN i.isLt).2]at this;exact this
def oA{s:Bb}{n k:Int}(h:s.length<=1099511627776)(a:1<=k/\k<=8):Nl (s,(n,k))=some (s++D9 n k.toNat):=by unfold Nl;dsimp only;rw[decide_eq_true h,decide_eq_true a.1,decide_eq_true a.2];rfl
def uv{n:Int}(h:0<=n/\n<=8000):J9 ([0],n)=some (gV n.toNat):=by unfold J9;dsimp only;rw[decide_eq_true h.1,decide_eq_true h.2];rfl
def ADE{n:Int}{k:Nat}(hn:0<=n)(h:n<256^k)(a:n<9223372036854775808):rd (D9 n k)=n:=by unfold rd;rw[mP,Int.emod_eq_of_lt hn h,AY]
def ABH{b:Bb}{c:Cv}(j:b.length<=1000)(a:c.2.length<=12):Je b c=some (b++Vw c):=by
 suffices h:A3 (Je b c) λr=>r=b++Vw c by obtain⟨r,hr,rfl⟩:=h;exact hr
 unfold Je;refine AB (P:=λv=>v=if c.1=true then(c.2.length:Int)else 255) ?_ λk g=>?_;exact AI (λa=>AA (if_pos a).symm) (λa=>AA (if_neg (by rw[a];decide)).symm);rw[oA (by omega) (by decide),AE];refine AB (Cu (by rw[Af,BB];simp only[Int.reduceToNat];omega)) λl e=>?_;rw[AY (by simp only[len];omega),uv (by simp only[len];omega),AE];have f:(12-len c.2).toNat=12-c.2.length:=by simp only[len];omega
 rw[f];refine AB (Cu (by rw[e.2,Af,BB];simp only[gV,I6,Int.reduceToNat];omega)) λi d=>AA ?_;rw[d.1,e.1,g];simp only[Vw,A0,Int.reduceToNat]
def tR{x:Int}(h:0<=x/\x<64):HV x=some true:=by unfold HV;rw[decide_eq_true (show x>=0 from h.1),decide_eq_true h.2];rfl
def xR{x:AZ}(h:Hq x):UD x=some true:=by unfold UD;rw[tR ⟨h.1,h.2.1⟩,AE,decide_eq_true (show x.2.1>=0 from h.2.2.1),decide_eq_true h.2.2.2.1];rfl
theorem zT{x:AZ}(h:Hq x):Sq x=some true:=by
 suffices f:A3 (Sq x) λr=>r=true by obtain⟨r,hr,rfl⟩:=f;exact hr
 unfold Sq;refine AB (P:=λr=>r= .inr ()) ?_ λr hr=>by rw[hr];exact A9 (AA rfl)
 refine Gf (λ(s:Int)=>0<=s/\s<=16) (λs=>(16-s).toNat) ⟨Ak _,by decide⟩ (λs e=>?_);obtain⟨k,l⟩:=e;unfold cO;refine AC (λa=>?_) (λ_=>A3.done rfl);have c:A3 (some (Step.next (wi (s+1))):Option (Step Int (Bool ⊕ Unit))) (XJ (λ(s:Int)=>0<=s/\s<=16) (λs=>(16-s).toNat) (16-s).toNat λr=>r= .inr ()):=by rw[AY (by omega)];exact A3.next ⟨by omega,by omega⟩ (by omega)
 refine AB (DY k a) λv i=>?_;have b:=h.2.2.2.2 ⟨s.toNat,by omega⟩;rw[<-i]at b;refine AC (λa=>absurd a (by have:=b.1.1;simp only[len];omega)) (λ_=>AO (λd=>?_) (λg=>?_));refine AL (λhn=>absurd (b.1.2.resolve_left (by rw[d];decide)) hn) (λ_=>AI (λa=>by rw[d]at a;cases a) (λ_=>c));exact AI (λ_=>AU (λj=>by have:=b.2 j;rw[g]at this;cases this) (λ_=>c)) (λ_=>c)
def fe{x:AZ}(h:Hq x):J3 x=some (MI x,0):=by
 suffices d:A3 (J3 x) λr=>r=(MI x,0) by obtain⟨r,hr,rfl⟩:=d;exact hr
 unfold J3;rw[xR h,AE,zT h,AE,Ds,cond_false,cond_false,oA (by decide) (by decide),AE,oA (by rw[Cy,BB];decide) (by decide),AE];refine AB (P:=λr=>r=D9 x.2.1 8++(D9 x.1 4++Oq x.2.2 16)) ?_ λc b=>?_
 ·refine Gf (λ(s:Int×M0)=>0<=s.1/\s.1<=16/\s.2=D9 x.2.1 8++(D9 x.1 4++Oq x.2.2 s.1.toNat)) (λ(s:Int×M0)=>(16-s.1).toNat) ⟨Ak _,by dsimp only;decide,by simp[Oq]⟩ ?_;rintro⟨i,s⟩ ⟨k,n,d⟩;dsimp only at k n d;subst d;unfold Zf;dsimp only;refine AC (λl=>?_) (λl=>A3.done (by rw[show i.toNat=16 by omega]));have⟨j,p⟩:=pN (a:=x.2.2) (i:=i.toNat) (by omega);rw[LV k]at j;rw[j,AE,ABH (by simp only[Af,BB,JV h];omega) (h.cl i.toNat).1,AE,AY (x:=i+1)];refine A3.next ⟨by dsimp only;omega,by dsimp only;omega,?_⟩ (by dsimp only;omega)
  dsimp only;rw[show(i+1).toNat=i.toNat+1 by omega,Nk];simp only[A0]
 have o:c.length=220:=by rw[b];simp only[Af,BB,JV h]
 rw[show wi (244-len c)=24 by rw[AY (by simp only[len];omega)];simp only[len];omega,uv (by decide),AE];refine AB (Cu (by simp only[gV,I6,Int.reduceToNat];omega)) λg f=>?_;have e:g=P0 x:=by rw[f.1,b];simp only[P0,A0,Int.reduceToNat]
 rw[e,rG (by rw[I7 h];decide),AE];have m:=fR (P0 x);rw[AY,oA (by rw[I7 h];decide) (by decide),AE,oA (by rw[Af,I7 h,BB];decide) (by decide),AE];apply AA;simp only[MI,A0,Int.reduceToNat]
def nB(a:JR 16 Cv)(i:Nat): ∀k:Nat,i<=k-> ∃r,Oq a k=Oq a i++r
 |0,h=>⟨[],by rw[show i=0 by omega];rfl⟩
 |k+1,h=>by by_cases e:i=k+1;exact⟨[],by rw[e,D8]⟩;obtain⟨r,hr⟩:=nB a i k (by omega);exact⟨r++Vw (cl a k),by rw[Nk,hr,A0]⟩
def w6{x:AZ}(h:Hq x){i:Nat}(a:i<16): ∃A r,MI x=A++(Vw (cl x.2.2 i)++r)/\A.length=12+13*i:=by
 obtain⟨r,hr⟩:=nB x.2.2 (i+1) 16 (by omega);refine⟨D9 x.2.1 8++(D9 x.1 4++Oq x.2.2 i),r++(gV 24++(D9 (YC (P0 x)) 4++D9 x.2.1 8)),?_,by simp only[Af,BB,JV h];omega⟩;conv=>lhs;unfold MI P0
 rw[hr,Nk];simp only[A0,P0,hr,Nk]
def rL{a t:Bb}{n k:Int}(h:(a.length:Int)+t.length<=2199023255552)(b:1<=k)(d:k<=8)(e:k<=t.length)(g:t.take k.toNat=D9 n k.toNat)(hn:0<=n)(f:n<256^k.toNat)(c:n<9223372036854775808):Gq (a++t,((a.length:Int),k))=some n:=by unfold Gq;rw[Xd h b d,if_pos e,AE,g,ADE hn f c]
def ABM{x:AZ}(h:Hq x):UO (MI x)=some (x,true):=by
 suffices C:A3 (UO (MI x)) λr=>r=(x,true) by obtain⟨r,hr,rfl⟩:=C;exact hr
 have l:=nI h;have R:=h.1;have U:=h.2.1;have S:=h.2.2.1;have V:=h.2.2.2.1;have q1:Gq (MI x,(8,4))=some x.1:=by have:=rL (a:=D9 x.2.1 8) (t:=D9 x.1 4++(Oq x.2.2 16++(gV 24++(D9 (YC (P0 x)) 4++D9 x.2.1 8)))) (n:=x.1) (k:=4) (by simp only[Af,BB,JV h,gV,I6];omega) (by decide) (by decide) (by simp only[Af,BB];omega) (by exact MD (BB _ _)) R (by simp only[Int.reduceToNat];omega) (by omega);rw[BB]at this;rw[<-this];simp only[MI,P0,A0];rfl
 have q2:Gq (MI x,(0,8))=some x.2.1:=by have:=rL (a:=[]) (t:=MI x) (n:=x.2.1) (k:=8) (by rw[l];decide) (by decide) (by decide) (by rw[l];decide) U8 S (by simp only[Int.reduceToNat];omega) (by omega);exact this
 unfold UO;rw[q1,AE,q2,AE];refine AB (P:=λr=> ∃z,r= .inr (x,z)) ?_ λr hr=>by obtain⟨z,rfl⟩:=hr;exact A9 (AA rfl)
 refine Gf (λ(s:Int×AZ×AZ)=>0<=s.1/\s.1<=16/\s.2.1.1=x.1/\s.2.1.2.1=x.2.1/\ ∀j:Fin 16,s.2.1.2.2 j=if(j.val:Int)<s.1 then x.2.2 j else(false,[])) (λ(s:Int×AZ×AZ)=>(16-s.1).toNat) ⟨Ak _,by dsimp only;decide,rfl,rfl,λj=>by rw[if_neg (by dsimp only;omega)];rfl⟩ ?_;rintro⟨i,⟨p,n,a⟩,z⟩ ⟨I,Q,H,hn,g⟩;dsimp only at I Q H hn g;subst H hn;unfold dv;dsimp only;refine AC (λF=>?_) (λF=>A3.done ⟨z,?_⟩)
 ·rw[AY (x:=i*13),AY (x:=12+i*13),AY (x:=12+i*13+1),AY (x:=i+1)];have⟨T,m⟩:=pN (a:=x.2.2) (i:=i.toNat) (by omega);obtain⟨A,r,B,M⟩:=w6 h (i:=i.toNat) (by omega);have b:=h.cl i.toNat
  generalize N:cl x.2.2 i.toNat=c at*;have G:A.length+(13+r.length)=256:=by have:=l;rw[B,Af,Af,fM b.1]at this;exact this
  have f:Gq (MI x,(12+i*13,1))=some (if c.1=true then(c.2.length:Int)else 255):=by have y:=b.1;have:=rL (a:=A) (t:=Vw c++r) (n:=if c.1=true then(c.2.length:Int)else 255) (k:=1) (by rw[Af,fM b.1];omega) (by decide) (by decide) (by rw[Af,fM b.1];omega) (by unfold Vw;rw[List.append_assoc];exact List.take_left' (BB _ _)) (by split<;>omega) (by simp only[Int.reduceToNat];split<;>omega) (by split<;>omega);rw[<-B]at this;rw[<-this,M];congr 3;omega
  rw[f,AE];have J: ∀o:JR 16 Cv,(∀j:Fin 16,o j=if(j.val:Int)<i+1 then x.2.2 j else(false,[]))->A3 (some (Step.next (i+1,((x.1,(x.2.1,o)),z))):Option (Step (Int×AZ×AZ) ((Bool×AZ)⊕ (AZ×AZ)))) (XJ (λ(s:Int×AZ×AZ)=>0<=s.1/\s.1<=16/\s.2.1.1=x.1/\s.2.1.2.1=x.2.1/\ ∀j:Fin 16,s.2.1.2.2 j=if(j.val:Int)<s.1 then x.2.2 j else(false,[])) (λ(s:Int×AZ×AZ)=>(16-s.1).toNat) (16-i).toNat λr=> ∃z,r= .inr (x,z)):=λo w=>A3.next ⟨by dsimp only;omega,by dsimp only;omega,rfl,rfl,w⟩ (by dsimp only;omega)
  by_cases e:c.1=true;rw[if_pos e];have y:=b.1;rw[beq_eq_false_iff_ne.2 (by omega),cond_false,decide_eq_false (by omega),cond_false,AY];obtain⟨s,C,D⟩:=Dh (s:=MI x) (lo:=12+i*13+1) (hi:=12+i*13+1+(c.2.length:Int)) (by omega) (by omega) (by rw[l];omega);have E:s=c.2:=by
   rw[D.1,B];have K:(12+i*13+1).toNat=A.length+1:=by omega
   have L:(12+i*13+1+(c.2.length:Int)).toNat-(12+i*13+1).toNat=c.2.length:=by omega
   rw[L,K,<-Of,Po];unfold Vw;rw[if_pos e,A0,List.drop_left' (BB _ _),A0,Vm]
  rw[C,E,AE];have q: ∃v,GX a i=some v:=by obtain⟨v,m,_⟩:=DY (a:=a) I F;exact⟨v,m⟩
  obtain⟨v,q⟩:=q;rw[q,AE,AE,AE,gi];refine J _ λj=>?_;unfold U3;by_cases O:(j.val:Int)=i;have u:j=⟨i.toNat,by omega⟩:=Fin.ext (by dsimp only;omega);rw[if_pos (by omega),if_pos (by omega),u,<-m];exact ES e.symm rfl;rw[if_neg (by omega),g j];by_cases d:(j.val:Int)<i;rw[if_pos d,if_pos (by omega)];rw[if_neg d,if_neg (by omega)];rw[if_neg e,beq_iff_eq.2 rfl,cond_true,AE,gi];refine J _ λj=>?_;rw[g j];by_cases O:(j.val:Int)=i;have u:j=⟨i.toNat,by omega⟩:=Fin.ext (by dsimp only;omega);rw[if_neg (by omega),if_pos (by omega),u,<-m];have:c.1=false:=by simpa using e
  exact ES this.symm ((b.2.resolve_left e).symm);by_cases d:(j.val:Int)<i;rw[if_pos d,if_pos (by omega)];rw[if_neg d,if_neg (by omega)]
 refine congrArg Sum.inr (ES (ES rfl (ES rfl (funext λj=>?_))) rfl);exact(g j).trans (if_pos (by omega))
theorem AAr{x:AZ}(h:Hq x)(hn:x.2.1≠0):MI x≠gV 256:=λe=>hn (by have:=congrArg (List.take 8) e;rw[U8]at this;have a:=h.2.2.1;have b:=h.2.2.2.1;exact Xa (k:=8) (by decide) ⟨λ_=>by omega,by omega,by omega⟩ ⟨λ_=>by omega,by omega,by omega⟩ (this.trans (by decide)))
def tL:U9 ()=some (gV 256):=by unfold U9;rw[uv (by decide)];rfl
def xL{x:AZ}(h:Hq x)(hn:x.2.1≠0):Oi (MI x)=some (x,0):=by
 have b:=nI h;unfold Oi;have c:len (MI x)=256:=by simp only[len];omega
 obtain⟨m,q1,e⟩:=Dh (s:=MI x) (lo:=0) (hi:=8) (by decide) (by decide) (by rw[b];decide);obtain⟨o,q2,f⟩:=Dh (s:=MI x) (lo:=248) (hi:=256) (by decide) (by decide) (by rw[b];decide);obtain⟨p,q3,g⟩:=Dh (s:=MI x) (lo:=0) (hi:=244) (by decide) (by decide) (by rw[b];decide);have i:m=D9 x.2.1 8:=e.1.trans U8;have j:o=D9 x.2.1 8:=by rw[f.1];show List.take 8 (List.drop 248 (MI x))=_;rw[mL h,Bs (by rw[BB];exact Ag _)]
 have l:p=P0 x:=g.1.trans (by show List.take 244 (MI x)=_;unfold MI;exact MD (I7 h));have d:=fR (P0 x);have q4:Gq (MI x,(244,4))=some (YC (P0 x)):=by have:=rL (a:=P0 x) (t:=D9 (YC (P0 x)) 4++D9 x.2.1 8) (n:=YC (P0 x)) (k:=4) (by simp only[Af,BB,I7 h];decide) (by decide) (by decide) (by simp only[Af,BB];decide) (MD (BB _ _)) (by omega) (by simp only[Int.reduceToNat];omega) (by omega);rw[I7 h]at this;exact this
 rw[c,bne_self_eq_false,cond_false,tL,AE,beq_eq_false_iff_ne.2 (AAr h hn),cond_false,q1,AE,q2,AE,i,j,bne_self_eq_false,cond_false,q3,AE,l,q4,AE,rG (by rw[I7 h];decide),AE,AY,bne_self_eq_false,cond_false,ABM h,AE,fe h,AE,bne_self_eq_false,bne_self_eq_false];rfl
def yZ(x:AZ):Bb:=if x.2.1=0 then gV 256 else MI x
def zN{x:AZ}(h:Hq x)(a:x.2.1=0->x=(x.1,(0,JR.all (false,[])))):Gz (yZ x,x.1)=some (x,0):=by
 unfold Gz yZ;rw[tR ⟨h.1,h.2.1⟩,AE,Ds,cond_false];by_cases hn:x.2.1=0;rw[if_pos hn];have e:Oi (gV 256)=some ((0,(0,(JR.all (false,[])))),7):=by unfold Oi;rw[show len (gV 256)=256 by unfold len gV;rw[List.length_replicate];rfl,bne_self_eq_false,cond_false,tL,Option.bind_some,beq_self_eq_true,cond_true]
 rw[e,AE];exact congrArg (λq=>some (q,(0:Int))) (a hn).symm;rw[if_neg hn,xL h hn,AE];show(bif x.1 !=x.1 then _ else some (x,(0:Int)))=_;rw[bne_self_eq_false];rfl
def Jm(p:Bb):Bb:=D9 (p.length:Int) 4++(p++D9 (YC (D9 (p.length:Int) 4++p)) 4)
theorem Hu(p:Bb):(Jm p).length=p.length+8:=by grind[Jm,List.length_append,BB]
theorem iO{p:Bb}(h:p.length<=8392):EF p=some (Jm p):=by
 unfold EF;simp only[len];rw[decide_eq_false (by omega),cond_false,HN (by simp) (by decide) (by decide),AE,Cy];have b:(D9 (p.length:Int) 4++p).length=p.length+4:=by grind[List.length_append,BB]
 rw[(by grind[sapp,BB]:sapp (D9 (p.length:Int) (Int.toNat 4)) p=some (D9 (p.length:Int) 4++p)),AE,uF (by omega),AE];have a:=fR (D9 (p.length:Int) 4++p);rw[AY,HN (by omega) (by decide) (by decide),AE,A0];rfl
def UF(al:Nat)(t:Bb):Bb×Int×Int:=
 if t.length<4 then([],0,5)else
 if rd (t.take 4)>8392 then([],0,2)else
 if(t.length:Int)<rd (t.take 4)+8 then([],0,5)else
 if rd ((t.drop (4+(rd (t.take 4)).toNat)).take 4)≠YC (t.take (4+(rd (t.take 4)).toNat))then([],0,3)else
 ((t.drop 4).take (rd (t.take 4)).toNat,(al:Int)+8+rd (t.take 4),0)
def rd4{t:Bb}(h:4<=t.length):0<=rd (t.take 4)/\rd (t.take 4)<4294967296:=by
 have a:(t.take 4).length=4:=by rw[Bh];omega
 have:=(vB (l:=t.take 4) (by omega)).1 (by omega);rw[a]at this;exact this
theorem Ti{a t:Bb}(h:(a.length:Int)+t.length<=2199023255552):Bz (a++t,(a.length:Int))=some (UF a.length t):=by
 have b:len (a++t)=(a.length:Int)+t.length:=by grind[List.length_append]
 have o:((a++t).length:Int)=(a.length:Int)+t.length:=b;unfold Bz UF;dsimp only;rw[decide_eq_false (by omega),cond_false,decide_eq_false (by omega),cond_false,gW h (by decide) (by decide)];by_cases g:t.length<4;rw[if_neg (by omega),if_pos g];rfl;rw[if_pos (by omega),if_neg g,AE,show Int.toNat 4=4 from rfl];have⟨p,u⟩:=rd4 (t:=t) (by omega);generalize hn:rd (t.take 4)=n at*;obtain⟨m,rfl⟩:=Ei p;rw[show((0:Int) !=0)=false by decide,cond_false];by_cases d:(m:Int)>8392;rw[decide_eq_true d,cond_true,if_pos d];rw[decide_eq_false d,cond_false,if_neg d,b,AY,AY];by_cases i:(t.length:Int)<(m:Int)+8;rw[decide_eq_true (by omega),cond_true,if_pos i];rw[decide_eq_false (by omega),cond_false,if_neg i,Df];have f:wi (wi ((a.length:Int)+4)+(m:Int))=((a++t.take (4+m)).length:Int):=by rw[AY (x:=(a.length:Int)+4),AY,Af,Bh];omega
 have j:a++t=(a++t.take (4+m))++t.drop (4+m):=by rw[A0,Ee]
 have s:((t.drop (4+m)).length:Int)=t.length-(4+m):=by rw[G6];omega
 have c:((a++t.take (4+m)).length:Int)=a.length+4+m:=by rw[Af,Bh];omega
 have l:Av (a++t,(wi (wi ((a.length:Int)+4)+(m:Int)),4))=some (rd ((t.drop (4+m)).take 4),0):=by
  rw[f];conv=>lhs;rw[j]
  rw[gW (by omega) (by decide) (by decide),if_pos (by omega)];rfl
 have q:TH (a++t) (a.length:Int) (wi (wi ((a.length:Int)+4)+(m:Int)))=some (t.take (4+m)):=by unfold TH;rw[f,if_pos (by omega),c,Df,Po,show((a.length:Int)+4+m).toNat-a.length=4+m by omega]
 have r:TH (a++t) (wi ((a.length:Int)+4)) (wi (wi ((a.length:Int)+4)+(m:Int)))=some ((t.drop 4).take m):=by unfold TH;rw[f,AY (x:=(a.length:Int)+4),if_pos (by omega),c,show((a.length:Int)+4).toNat=a.length+4 by omega,Ys,Yt (by omega),Cy,Vn,show((a.length:Int)+4+m).toNat-(a.length+4)=m by omega]
 rw[l,AE,q,AE,uF (by rw[Bh];omega),AE,r];have⟨q1,q2⟩:=rd4 (t:=t.drop (4+m)) (by omega);have k:IntKind.wrap .u32 (rd ((t.drop (4+m)).take 4))=rd ((t.drop (4+m)).take 4):=by rw[tu];omega
 rw[k];by_cases e:rd ((t.drop (4+m)).take 4)=YC (t.take (4+m));rw[if_neg (by simp[e]),e,bne_self_eq_false,cond_false,AE,AY (x:=(a.length:Int)+8),AY];rw[if_pos e,bne_iff_ne.2 e,cond_true]
theorem zM{x:Bb}{i:Int}(a:0<=i)(h:i>x.length):CE (x,(i,4))=some (0,5):=by grind[CE]
theorem Xe{a t:Bb}(h:(a.length:Int)+t.length<=2199023255552):FZ (a++t,(a.length:Int))=some (UF a.length t):=by
 have f:len (a++t)=(a.length:Int)+t.length:=by grind[List.length_append]
 have p:((a++t).length:Int)=(a.length:Int)+t.length:=f;unfold FZ UF;dsimp only;rw[decide_eq_false (by omega),cond_false,decide_eq_false (by omega),cond_false,Xd h (by decide) (by decide)];by_cases i:t.length<4;rw[if_neg (by omega),if_pos i];rfl;rw[if_pos (by omega),if_neg i,AE,show Int.toNat 4=4 from rfl];have⟨q,w⟩:=rd4 (t:=t) (by omega);generalize hn:rd (t.take 4)=n at*;obtain⟨m,rfl⟩:=Ei q;rw[show((0:Int) !=0)=false by decide,cond_false];by_cases d:(m:Int)>8392;rw[decide_eq_true d,cond_true,if_pos d];rw[decide_eq_false d,cond_false,if_neg d];have k:wi (wi ((a.length:Int)+4)+(m:Int))=(a.length:Int)+4+m:=by grind[AY]
 by_cases j:(t.length:Int)<(m:Int)+8;rw[if_pos j];have:CE (a++t,(wi (wi ((a.length:Int)+4)+(m:Int)),4))=some (0,5):=by
  rw[k];by_cases v:(a.length:Int)+4+m>(a++t).length;grind[zM];have c:(a.length:Int)+4+m=((a++t.take (4+m)).length:Int):=by grind[List.length_append,List.length_take]
  have g:a++t=(a++t.take (4+m))++t.drop (4+m):=by rw[A0,Ee]
  grind[List.length_drop,Xd]
 rw[this];rfl;rw[if_neg j,Df];have c:wi (wi ((a.length:Int)+4)+(m:Int))=((a++t.take (4+m)).length:Int):=by grind[List.length_append,List.length_take]
 have g:a++t=(a++t.take (4+m))++t.drop (4+m):=by rw[A0,Ee]
 have u:((t.drop (4+m)).length:Int)=t.length-(4+m):=by rw[G6];omega
 have b:((a++t.take (4+m)).length:Int)=a.length+4+m:=by rw[Af,Bh];omega
 have l:CE (a++t,(wi (wi ((a.length:Int)+4)+(m:Int)),4))=some (rd ((t.drop (4+m)).take 4),0):=by
  rw[c];conv=>lhs;rw[g]
  rw[Xd (by omega) (by decide) (by decide),if_pos (by omega)];rfl
 have r:TH (a++t) (a.length:Int) (wi (wi ((a.length:Int)+4)+(m:Int)))=some (t.take (4+m)):=by unfold TH;rw[c,if_pos (by omega),b,Df,Po,show((a.length:Int)+4+m).toNat-a.length=4+m by omega]
 have s:TH (a++t) (wi ((a.length:Int)+4)) (wi (wi ((a.length:Int)+4)+(m:Int)))=some ((t.drop 4).take m):=by unfold TH;rw[c,AY (x:=(a.length:Int)+4),if_pos (by omega),b,show((a.length:Int)+4).toNat=a.length+4 by omega,Ys,Yt (by omega),Cy,Vn,show((a.length:Int)+4+m).toNat-(a.length+4)=m by omega]
 rw[l,AE,show(((rd ((t.drop (4+m)).take 4),(0:Int)):Int×Int).2 !=0)=false from rfl,cond_false,r,AE,rG (by rw[Bh];omega),AE,s];have o:=fR (t.take (4+m));rw[AY (x:=YC (t.take (4+m)))];by_cases e:rd ((t.drop (4+m)).take 4)=YC (t.take (4+m));rw[if_neg (by simp[e]),e,bne_self_eq_false,cond_false,AE,k,AY];refine congrArg some (ES rfl (ES ?_ rfl));dsimp only;omega;rw[if_pos e,bne_iff_ne.2 e,cond_true]
def rq{a:Nat}{t:Bb}(h:(UF a t).2.2=0):(UF a t).1.length<=8392/\(∃c,t=Jm (UF a t).1++c)/\(UF a t).2.1=(a:Int)+8+(UF a t).1.length:=by
 unfold UF at h⊢;by_cases j:t.length<4;rw[if_pos j]at h;exact absurd h (by decide);rw[if_neg j]at h⊢;obtain⟨q,r⟩:=rd4 (t:=t) (by omega);by_cases k:rd (t.take 4)>8392;rw[if_pos k]at h;exact absurd h (by decide);rw[if_neg k]at h⊢;by_cases o:(t.length:Int)<rd (t.take 4)+8;rw[if_pos o]at h;exact absurd h (by decide);rw[if_neg o]at h⊢;by_cases b:rd ((t.drop (4+(rd (t.take 4)).toNat)).take 4)≠YC (t.take (4+(rd (t.take 4)).toNat));rw[if_pos b]at h;exact absurd h (by decide);rw[if_neg b]at h⊢;have b:=Decidable.not_not.1 b;dsimp only;have e:(t.take 4).length=4:=by rw[Bh];omega
 have g:D9 (rd (t.take 4)) 4=t.take 4:=by have:=qy (l:=t.take 4) (by omega);rwa [e]at this
 generalize hn:rd (t.take 4)=n at*;obtain⟨m,rfl⟩:=Ei q;rw[Df]at b⊢;have i:((t.drop 4).take m).length=m:=by rw[Bh,G6];omega
 refine⟨by omega,?_,by omega⟩;have p:t.take (4+m)=D9 (m:Int) 4++(t.drop 4).take m:=by rw[List.take_add,g]
 have f:((t.drop (4+m)).take 4).length=4:=by rw[Bh,G6];omega
 have d:D9 (YC (t.take (4+m))) 4=(t.drop (4+m)).take 4:=by rw[<-b];have:=qy (l:=(t.drop (4+m)).take 4) (by omega);rwa [f]at this
 refine⟨t.drop (4+m+4),?_⟩;unfold Jm;rw[i,<-p,d,<-A0,<-p];conv=>lhs;rw[<-Ee (4+m) t,<-Ee 4 (t.drop (4+m)),Of]
 rw[A0]
theorem jm{c:Nat}{p a:Bb}(h:p.length<=8392):UF c (Jm p++a)=(p,((c:Int)+8+p.length,0)):=by
 have d:aE 4 (p.length:Int):=⟨λ_=>⟨by omega,by rw[show(256:Int)^4=4294967296 by decide];omega⟩,by omega⟩
 have e:=fR (D9 (p.length:Int) 4++p);have b:aE 4 (YC (D9 (p.length:Int) 4++p)):=⟨λ_=>⟨by omega,by rw[show(256:Int)^4=4294967296 by decide];omega⟩,by omega⟩
 unfold UF;rw[(by grind[Jm,List.append_assoc,List.take_left',BB]:(Jm p++a).take 4=D9 (p.length:Int) 4),(kw (by decide) d),Df,(by grind[Jm,List.append_assoc,List.take_left',List.length_append,BB]:(Jm p++a).take (4+p.length)=D9 (p.length:Int) 4++p),(by grind[Jm,List.append_assoc,List.drop_left',List.length_append,BB]:(Jm p++a).drop (4+p.length)=D9 (YC (D9 (p.length:Int) 4++p)) 4++a),(by grind[Jm,List.append_assoc,List.drop_left',BB]:(Jm p++a).drop 4=p++(D9 (YC (D9 (p.length:Int) 4++p)) 4++a)),(by rw[Af,(Hu p)]:(Jm p++a).length=p.length+8+a.length),if_neg (by omega),if_neg (by omega),if_neg (by omega),MD (BB _ _),kw (by decide) b,if_neg (by simp),MD rfl]
def CI(b:DW):Prop:=b.1.length<=1099511627776/\0<=b.2.1/\b.2.1<=b.1.length
def Mm{b:DW}{x:Int}(h:CI b)(c:0<=x/\x<=8):A3 (BF b x) λr=>CI r.2/\(x<=4->0<=r.1/\r.1<4294967296):=by
 unfold BF;unfold CI at*
 repeat' first
   |with_reducible apply AL<;>intro a
   |with_reducible apply AA
   |(with_reducible refine AJ ?_ (CU ?_);intro r hr)
 all_goals ((try dsimp[len]at*);(try first|omega|assumption|grind[AY]))
def NI{b:DW}{x:Int}(h:CI b)(d:0<=x/\x<=4294967296):A3 (Cj b x) λr=>CI r.2:=by
 unfold Cj;unfold CI at*
 repeat' first
   |with_reducible apply AC<;>intro a
   |with_reducible apply AL<;>intro a
   |with_reducible apply AA
   |(with_reducible refine AJ ?_ (Dh ?_ ?_ ?_);rintro r ⟨hr,c⟩)
 all_goals ((try dsimp[len]at*);(try first|omega|assumption|grind[AY]))
def UQ{b:DW}{x:Unit}(h:CI b):A3 (Ca b x) λr=>CI r.2:=by
 unfold Ca;repeat' with_reducible first|apply AC<;>intro a|apply AU<;>intro a|apply AL<;>intro a|apply AI<;>intro a|apply AA|(refine AJ ?_ (Mm ?_ ?_);intro r hr)|(refine AJ ?_ (NI ?_ ?_);intro r hr)
 all_goals ((try dsimp[len]at*);(try first|omega|assumption|grind[CI]))
theorem YL{x:Bb}(h:x.length<=1099511627776):A3 (Dx x) λr=>r.2=0->K8 r.1:=by
 unfold Dx;have b:CI (x,0,0):=⟨h,by simp,by simp⟩
 repeat' with_reducible first|apply AO<;>intro a|apply AL<;>intro a|apply AI<;>intro a|apply AA|(refine AJ ?_ (Mm ?_ ?_);intro r hr)|(refine AJ ?_ (UQ ?_);intro r hr)|(refine AJ ?_ (NI ?_ ?_);intro r hr)|(apply AB (B7);intro r hr)
 all_goals first|omega|assumption|(exact And.left (by assumption))|grind
def Um{x:Bb×List Int}{s:Bb×Int}(h:0<=s.2/\s.2<=x.2.length/\x.2.length<=16777216/\x.1.length<=1073741824/\(s.1.length:Int)<=x.1.length+8*s.2):A3 (Ad (KW x) s) λr=>(r.length:Int)<=x.1.length+8*x.2.length:=by
 refine AQ (λ(s:Bb×Int)=>0<=s.2/\s.2<=x.2.length/\x.2.length<=16777216/\x.1.length<=1073741824/\(s.1.length:Int)<=x.1.length+8*s.2) (λ(s:Bb×Int)=>((x.2.length:Int)-s.2).toNat) h (λs b=>?_);unfold KW;repeat' with_reducible first|apply AC<;>intro a|apply AI<;>intro a|apply AA|(refine AJ ?_ (DD ?_);intro r hr)|(refine AJ ?_ (AK ?_ ?_);rintro r ⟨hr,c⟩)
 all_goals ((try dsimp[len]at*);(try first|omega|assumption|grind[AY]))
def W9{x:Bb×List Int}(h:x.2.length<=16777216/\x.1.length<=1073741824):A3 (HB x) λr=>(r.length:Int)<=x.1.length+8*x.2.length:=by
 unfold HB;repeat' with_reducible first|apply AA|(refine AJ ?_ (Um ?_);intro r hr)
 all_goals ((try dsimp[len]at*);(try first|omega|assumption|grind[AY]))
def VN{x:List Ah}{s:Bb×Int}(h:0<=s.2/\s.2<=x.length/\Wf x/\(s.1.length:Int)<=10+40000*s.2):A3 (Ad (LK x) s) λr=>(r.length:Int)<=10+40000*x.length:=by
 refine AQ (λ(s:Bb×Int)=>0<=s.2/\s.2<=x.length/\Wf x/\(s.1.length:Int)<=10+40000*s.2) (λ(s:Bb×Int)=>((x.length:Int)-s.2).toNat) h (λs c=>?_);unfold LK;have⟨e,f,⟨b,a⟩,g⟩:=c;repeat' with_reducible first|apply AC<;>intro d|apply AI<;>intro d|apply AA|(refine AJ ?_ (DD ?_);intro r hr)|(refine AJ ?_ (W9 ?_);intro r hr)|(refine AJ ?_ (AK ?_ ?_);rintro r ⟨hr,i⟩)
 all_goals try (have j:=a _ _ (by assumption))
 all_goals try unfold VTx at*
 all_goals dsimp[len]at*
 all_goals first|omega|(refine⟨⟨?_,?_,⟨b,a⟩,?_⟩,?_⟩<;>(simp (disch:=omega) only[AY];omega))|grind
def Qy{x:List Ah}:A3 (Jv x) λr=>r.1.length<=16777216:=by
 unfold Jv;repeat' with_reducible first|apply AO<;>intro a|apply AI<;>intro a|apply AA|(apply AB (Di);intro r hr)|(refine AJ ?_ (DD ?_);intro r hr)|(refine AJ ?_ (VN ?_);intro r hr)
 all_goals ((try dsimp[len]at*);(try first|omega|assumption|grind[Wf]))
def CJ(b:Bk):Prop:=b.1.length<=1099511627776/\0<=b.2.1/\b.2.1<=b.1.length
def Fw{b:Bk}{x:Int}(h:CJ b)(c:0<=x/\x<=8):A3 (CL b x) λr=>CJ r.2/\(x<=2->0<=r.1/\r.1<65536):=by
 unfold CL;unfold CJ at*
 repeat' first
   |with_reducible apply AI<;>intro a
   |with_reducible apply AA
   |(with_reducible refine AJ ?_ (CU ?_);intro r hr)
 all_goals ((try dsimp[len]at*);(try first|omega|assumption|grind[AY]))
def Sv  {s:Int×List Int×Bk}(h:0<=s.1/\s.1+s.2.1.length<=65536/\CJ s.2.2):A3 (Ad (If) s) λr=>CJ r.2/\r.1.length<=65536:=by
 refine AQ (λ(s:Int×List Int×Bk)=>0<=s.1/\s.1+s.2.1.length<=65536/\CJ s.2.2) (λ(s:Int×List Int×Bk)=>s.1.toNat) h (λs c=>?_);unfold If;repeat' with_reducible first|apply AC<;>intro a|apply AO<;>intro a|apply AI<;>intro a|apply AA|(refine AJ ?_ (Fw ?_ ?_);intro r hr)|(refine AJ ?_ (Ae ?_);rintro r ⟨hr,d,b⟩)
 all_goals ((try dsimp[len]at*);(try first|omega|assumption|grind[AY]))
def UR{b:Bk}{x:Int}(h:CJ b)(a:0<=x/\x<=2):A3 (Fq b x) λr=>CJ r.2:=by
 unfold Fq;repeat' with_reducible first|apply AA|(refine AJ ?_ (Fw ?_ ?_);intro r hr)|(refine AJ ?_ (Sv ?_);intro r hr)
 all_goals ((try dsimp[len]at*);(try first|omega|assumption|grind[AY]))
def VM  {s:Int×List Ah×Bk}(h:0<=s.1/\s.1+s.2.1.length<=65536/\CJ s.2.2):A3 (Ad (LJ) s) λr=>CJ r.2/\r.1.length<=65536:=by
 refine AQ (λ(s:Int×List Ah×Bk)=>0<=s.1/\s.1+s.2.1.length<=65536/\CJ s.2.2) (λ(s:Int×List Ah×Bk)=>s.1.toNat) h (λs c=>?_);unfold LJ;repeat' with_reducible first|apply AC<;>intro a|apply AO<;>intro a|apply AI<;>intro a|apply AA|(refine AJ ?_ (Fw ?_ ?_);intro r hr)|(refine AJ ?_ (UR ?_ ?_);intro r hr)|(refine AJ ?_ (Ae ?_);rintro r ⟨hr,d,b⟩)
 all_goals ((try dsimp[len]at*);(try first|omega|assumption|grind[AY]))
def Qx{x:Bb}(h:x.length<=1099511627776):A3 (Ju x) λr=>r.1.length<=65536/\(r.2=0->Wf r.1):=by
 unfold Ju;have b:CJ (x,0,false):=⟨h,by simp,by simp⟩
 repeat' with_reducible first|apply AO<;>intro a|apply AL<;>intro a|apply AI<;>intro a|apply AA|(refine AJ ?_ (Fw ?_ ?_);intro r hr)|(refine AJ ?_ (VM ?_);intro r hr)|(apply AB (Di);intro r hr)
 all_goals ((try dsimp[len]at*);(try first|omega|assumption|grind[AY]))
def VL{x:BY}{s:Bb×Int}(h:0<=s.2/\s.2<=x.length/\x.length<=64/\(s.1.length:Int)<=10+24*s.2):A3 (Ad (H6 x) s) λr=>r.length<=2000:=by
 refine AQ (λ(s:Bb×Int)=>0<=s.2/\s.2<=x.length/\x.length<=64/\(s.1.length:Int)<=10+24*s.2) (λ(s:Bb×Int)=>((x.length:Int)-s.2).toNat) h (λs b=>?_);unfold H6;repeat' with_reducible first|apply AC<;>intro a|apply AI<;>intro a|apply AA|(refine AJ ?_ (DD ?_);intro r hr)|(refine AJ ?_ (AK ?_ ?_);rintro r ⟨hr,c⟩)
 all_goals ((try dsimp[len]at*);(try first|omega|assumption|grind[AY]))
def Qw{x:BY}:A3 (Ha x) λr=>r.1.length<=2000:=by
 unfold Ha;repeat' with_reducible first|apply AO<;>intro a|apply AI<;>intro a|apply AA|(apply AB (Fv);intro r hr)|(refine AJ ?_ (DD ?_);intro r hr)|(refine AJ ?_ (VL ?_);intro r hr)
 all_goals ((try dsimp[len]at*);(try first|omega|assumption|grind[gY]))
def VJ{x:Bb}{a:Int×Int}{s:Int×List DZ}(h:0<=s.1/\s.1<=a.1/\a.1<=65536/\x.length<=1099511627776/\s.2.length<=s.1):A3 (Ad (H4 x a) s) λr=>r.length<=65536:=by
 refine AQ (λ(s:Int×List DZ)=>0<=s.1/\s.1<=a.1/\a.1<=65536/\x.length<=1099511627776/\s.2.length<=s.1) (λ(s:Int×List DZ)=>(a.1-s.1).toNat) h (λs d=>?_);unfold H4;repeat' with_reducible first|apply AC<;>intro b|apply AI<;>intro b|apply AA|(refine AJ ?_ (CU ?_);intro r hr)|(refine AJ ?_ (Ae ?_);rintro r ⟨hr,e,c⟩)
 all_goals ((try dsimp[len]at*);(try first|omega|assumption|grind[AY]))
def Qv{x:Bb}(h:x.length<=1099511627776):A3 (EY x) λr=>(r.2=0->gY r.1)/\r.1.length<=65536:=by
 unfold EY;repeat' with_reducible first|apply AC<;>intro a|apply AO<;>intro a|apply AL<;>intro a|apply AI<;>intro a|apply AA|(refine AJ ?_ (CU ?_);intro r hr)|(refine AJ ?_ (VJ ?_);intro r hr)|(apply AB (Fv);intro r hr)
 all_goals ((try dsimp[len]at*);(try first|omega|assumption|grind[AY]))
def PZ{x:CA}{s:Int}(h:0<=s/\s<=x.2.2.1.length/\(x.2.2.1.length:Int)<=16777216):A3 (Ad (Mi x) s) λr=>r≠ .inl true:=by
 refine AQ (λ(s:Int)=>0<=s/\s<=x.2.2.1.length/\(x.2.2.1.length:Int)<=16777216) (λ(s:Int)=>((x.2.2.1.length:Int)-s).toNat) h (λs b=>?_);unfold Mi;repeat' with_reducible first|apply AC<;>intro a|apply AI<;>intro a|apply AA|(refine AJ ?_ (AK ?_ ?_);rintro r ⟨hr,c⟩)
 all_goals ((try dsimp[len]at*);(try first|omega|assumption|grind[AY]))
def mi(x:CA):Prop:=1<=x.1/\x.1<=64/\Wf x.2.2.1/\gY x.2.2.2.2/\x.2.2.2.2.length=x.1
def NT{x:CA}(h:x.2.2.2.1.length<=16777216):A3 (Gm x) λr=>r=true->mi x:=by
 unfold Gm mi
 repeat' first
   |with_reducible apply AC<;>intro a
   |with_reducible apply AO<;>intro a
   |with_reducible apply AL<;>intro a
   |(with_reducible apply BA<;>(intro u b;try subst b))
   |with_reducible apply AA
   |(with_reducible apply AB (Di);intro r hr)
   |(with_reducible refine AJ ?_ (Oa ?_);intro r hr)
   |(with_reducible apply AB (Fv);intro r hr)
   |(with_reducible refine AJ ?_ (PZ ?_);intro r hr)
 all_goals ((try dsimp[len]at*);(try first|omega|assumption|grind[Wf]))
def VQ{x:CA}{s:Bb×Int}(h:0<=s.2/\s.2<=x.2.2.2.1.length/\x.2.2.2.1.length<=16777216/\(s.1.length:Int)<=100000000+24*s.2):A3 (Ad (H8 x) s) λr=>r.length<=1073741824:=by
 refine AQ (λ(s:Bb×Int)=>0<=s.2/\s.2<=x.2.2.2.1.length/\x.2.2.2.1.length<=16777216/\(s.1.length:Int)<=100000000+24*s.2) (λ(s:Bb×Int)=>((x.2.2.2.1.length:Int)-s.2).toNat) h (λs b=>?_);unfold H8;repeat' with_reducible first|apply AC<;>intro a|apply AI<;>intro a|apply AA|(refine AJ ?_ (DD ?_);intro r hr)|(refine AJ ?_ (AK ?_ ?_);rintro r ⟨hr,c⟩)
 all_goals ((try dsimp[len]at*);(try first|omega|assumption|grind[AY]))
def Ya{x:CA}(h:x.2.2.2.1.length<=16777216):A3 (GQ x) λr=>r.1.length<=2147483648:=by
 unfold GQ;repeat' with_reducible first|apply AO<;>intro a|apply AI<;>intro a|apply AA|(refine AJ ?_ (NT ?_);intro r hr)|(apply AB (Qy);intro r hr)|(refine AJ ?_ (DD ?_);intro r hr)|(refine AJ ?_ (VQ ?_);intro r hr)|(apply AB (Qw);intro r hr)|(refine AJ ?_ (Cu ?_);rintro r ⟨hr,b⟩)
 all_goals ((try dsimp[len]at*);(try first|omega|assumption|grind[AY]))
def Ws(c:Cv):Bb:=bif c.1 then D9 (c.2.length:Int) 1++c.2 else D9 255 1
def Bw(e:AD):Bb:=
 D9 e.1 8++(D9 e.2.1 1++(D9 e.2.2.1 4++(D9 e.2.2.2.1 8++(D9 e.2.2.2.2.1 8++(D9 e.2.2.2.2.2.1 8++(D9 e.2.2.2.2.2.2.1.1 4++(D9 e.2.2.2.2.2.2.1.2.1 1++
 (Ws e.2.2.2.2.2.2.1.2.2.1++(Ws e.2.2.2.2.2.2.1.2.2.2++(D9 (e.2.2.2.2.2.2.2.length:Int) 4++e.2.2.2.2.2.2.2))))))))))
theorem nG{c:Cv}(h:IA c):(Ws c).length<=13:=by
 unfold Ws;cases c.1 with
 |true=>rw[cond_true,Af,BB];have:=h.1;omega
 |false=>grind[BB]
def vd{s:Bb}{c:Cv}(h:s.length<=1099511627776)(a:c.2.length<=8192):F4 (s,c)=some (s++Ws c):=by grind[F4,Ws,Bool.not_false,HN,Bool.not_true,sapp,D9,Int.toNat,List.length_append,BB,List.append_assoc]
def K8.cells{e:AD}(h:K8 e):IA e.2.2.2.2.2.2.1.2.2.1/\IA e.2.2.2.2.2.2.1.2.2.2/\e.2.2.2.2.2.2.2.length<=8192/\aE 8 e.1/\aE 1 e.2.1/\aE 4 e.2.2.1/\aE 8 e.2.2.2.1/\aE 8 e.2.2.2.2.1/\aE 8 e.2.2.2.2.2.1/\aE 4 e.2.2.2.2.2.2.1.1/\aE 1 e.2.2.2.2.2.2.1.2.1:=by
 have⟨a1,a2,a3,a4,a5,a6,a7,a8,j⟩:=h;have k: ∀n:Int,0<=n->n<=1099511627776->aE 8 n:=λn l m=>⟨λh=>absurd h (by decide),by omega⟩
 have p: ∀n:Int,0<=n->n<=1073741824->aE 4 n:=λn l m=>⟨λ_=>by rw[show(256:Int)^4=4294967296 by decide];omega,by omega⟩
 have o: ∀n:Int,0<=n->n<=255->aE 1 n:=λn l m=>⟨λ_=>by rw[show(256:Int)^1=256 by decide];omega,by omega⟩
 have z:IA (false,[]):=⟨by decide,.inr rfl⟩
 refine and_assoc.1 (and_assoc.1 ⟨?_,k _ (by omega) (by omega),?_⟩);rcases j with⟨k1,f,d,g,c,a⟩|⟨k1,f,d,g,c,a,i,b⟩|⟨k1,f,d,g,c,a,i,b⟩|⟨k1,f,d,g,c,a,i⟩|j;exact⟨⟨a.2.2.2.2.1,a.2.2.2.2.2⟩,by rw[d];decide⟩;exact⟨⟨b.2.2.2.2.1,b.2.2.2.2.2⟩,by rw[c];decide⟩;rw[c,a];exact⟨⟨z,z⟩,by decide⟩;rw[a];exact⟨⟨z,z⟩,i⟩;have⟨k1,f,d,g,c,a,i,b⟩:=j;rw[i,b];exact⟨⟨z,z⟩,by decide⟩;have q:1<=e.2.1/\e.2.1<=8/\0<=e.2.2.1/\e.2.2.1<=1073741824/\0<=e.2.2.2.2.2.2.1.1/\e.2.2.2.2.2.2.1.1<64/\0<=e.2.2.2.2.2.2.1.2.1/\e.2.2.2.2.2.2.1.2.1<16:=by rcases j with⟨k1,f,d,g,c,a⟩|⟨k1,f,d,g,c,a,i,b⟩|⟨k1,f,d,g,c,a,i,b⟩|⟨k1,f,d,g,c,a,i⟩|j;have:=a.1;have:=a.2.1;have:=a.2.2.1;have:=a.2.2.2.1;omega;have:=b.1;have:=b.2.1;have:=b.2.2.1;have:=b.2.2.2.1;omega;grind[O0];grind[O0];grind[O0]
 exact⟨o _ (by omega) (by omega),p _ (by omega) (by omega),k _ (by omega) (by omega),k _ (by omega) (by omega),k _ (by omega) (by omega),p _ (by omega) (by omega),o _ (by omega) (by omega)⟩
theorem Qm{e:AD}(h:K8 e):(Bw e).length<=8392:=by have⟨a,b,c,_⟩:=h.cells;grind[nG,Bw,List.length_append,BB]
theorem lC{e:AD}(h:K8 e):FM e=some (Bw e,0):=by have⟨c,d,i,_⟩:=h.cells;have l1:=nG c;have l2:=nG d;have⟨b,f,g⟩:=B7 (x:=e);have a:b=true:=g.2 h;subst a;unfold FM;rw[f,AE,Ds,cond_false];rw[HN (by simp) (by decide) (by decide),AE,Cy];rw[HN (by simp only[Af,BB];simp only[Int.reduceToNat];omega) (by decide) (by decide),AE];rw[HN (by simp only[Af,BB];simp only[Int.reduceToNat];omega) (by decide) (by decide),AE];rw[HN (by simp only[Af,BB];simp only[Int.reduceToNat];omega) (by decide) (by decide),AE];rw[HN (by simp only[Af,BB];simp only[Int.reduceToNat];omega) (by decide) (by decide),AE];rw[HN (by simp only[Af,BB];simp only[Int.reduceToNat];omega) (by decide) (by decide),AE];rw[HN (by simp only[Af,BB];simp only[Int.reduceToNat];omega) (by decide) (by decide),AE];rw[HN (by simp only[Af,BB];simp only[Int.reduceToNat];omega) (by decide) (by decide),AE];rw[vd (by simp only[Af,BB];simp only[Int.reduceToNat];omega) (by have:=c.1;omega),AE];rw[vd (by simp only[Af,BB];simp[Int.reduceToNat];omega) (by have:=d.1;omega),AE];rw[HN (by simp only[Af,BB];simp[Int.reduceToNat];omega) (by decide) (by decide),AE];unfold sapp;rw[if_pos (by simp only[Af,BB];simp[Int.reduceToNat];omega),AE];simp[A0];rfl
def CS(x p:Bb)(c:Bb×Int×Int):Prop:=c.1=x/\(c.2.2=0-> ∃rest,x=p++rest/\c.2.1=p.length)
def mf{t:Bb}{k:Nat}(h:k<=t.length)(a:k<=8):aE k (rd (t.take k))/\D9 (rd (t.take k)) k=t.take k:=by grind[List.length_take,vB,qy]
def Yl{x p:Bb}{c:Bb×Int×Int}{k:Nat}(h:CS x p c)(o:x.length<=1099511627776)(q:1<=k)(m:k<=8):A3 (BF c (k:Int)) λr=>CS x (p++D9 r.1 k) r.2/\(r.2.2.2=0->aE k r.1)/\(c.2.2≠0->r=(0,c)):=by have⟨s,l,e⟩:=c;have⟨g,i⟩:=h;dsimp only at g i;subst g;unfold BF;refine AL (λd=>AA ⟨⟨rfl,λb=>absurd b d⟩,λb=>absurd b d,λ_=>rfl⟩) (λd=>?_);dsimp only at d;subst d;have⟨a,hr,n⟩:=i rfl;subst hr n;rw[Af]at o;rw[gW (by omega) (by omega) (by omega)];by_cases j:(k:Int)<=a.length;rw[if_pos j,AE,Df];have⟨q1,q2⟩:=mf (t:=a) (k:=k) (by omega) m;rw[show((0:Int) !=0)=false by decide,cond_false];refine AA ⟨⟨rfl,λ_=>⟨a.drop k,?_,?_⟩⟩,λ_=>q1,λf=>absurd rfl f⟩;grind[List.append_assoc,List.take_append_drop];grind[AY,List.length_append,BB];rw[if_neg j,AE];rw[show((5:Int) !=0)=true by decide,cond_true];exact AA ⟨⟨rfl,λb=>absurd (show(5:Int)=0 from b) (by decide)⟩,λb=>absurd (show(5:Int)=0 from b) (by decide),λf=>absurd rfl f⟩
def zb{x p:Bb}{c:Bb×Int×Int}{n:Int}(h:CS x p c)(k:x.length<=1099511627776)(hn:c.2.2=0->0<=n/\n<4294967296):A3 (Cj c n) λr=>CS x (p++r.1) r.2/\(r.2.2.2=0->(r.1.length:Int)=n/\c.2.2=0):=by have⟨s,g,e⟩:=c;have⟨d,f⟩:=h;dsimp only at d f hn;subst d;unfold Cj;by_cases j:e=0;subst j;have⟨a,hr,i⟩:=f rfl;have⟨l,q⟩:=hn rfl;subst hr i;obtain⟨m,rfl⟩:=Ei l;rw[Af]at k;rw[show((0:Int) !=0)=false by decide,cond_false];simp only[len];rw[show wi (((p++a).length:Int)-(p.length:Int))=a.length by rw[Af,AY];omega];by_cases o:(m:Int)<=a.length;rw[decide_eq_false (by omega),cond_false];rw[(by grind[AY,TH,List.length_append,List.drop_left]:TH (p++a) (wi (wi ((p.length:Int)+(m:Int))-(m:Int))) (wi ((p.length:Int)+(m:Int)))=some (a.take m)),AE];refine AA ⟨⟨rfl,λ_=>⟨a.drop m,?_,?_⟩⟩,λ_=>⟨?_,by first|rfl|trivial⟩⟩;grind[List.append_assoc,List.take_append_drop];grind[AY,List.length_append,List.length_take];grind[List.length_take];rw[decide_eq_true (by omega),cond_true];exact AA ⟨⟨rfl,λb=>absurd (show(5:Int)=0 from b) (by decide)⟩,λb=>absurd (show(5:Int)=0 from b) (by decide)⟩;grind[AA]
theorem zY{x p:Bb}{c:Bb×Int×Int}(h:CS x p c)(i:x.length<=1099511627776):A3 (Ca c ()) λr=>CS x (p++Ws r.1) r.2/\(r.2.2.2=0->IA r.1):=by unfold Ca;refine AB (Yl (k:=1) h i (by decide) (by decide)) λv n=>?_;have⟨⟨f,j⟩,q,y⟩:=n;refine AL (λd=>AA ⟨⟨f,λb=>absurd b d⟩,λb=>absurd b d⟩) (λd=>?_);have⟨e,hr,g⟩:=j d;have m:=(q d).1 (by decide);rw[show(256:Int)^1=256 by decide]at m;refine AU (λa=>AA ⟨⟨f,λ_=>⟨e,?_,?_⟩⟩,λ_=>⟨Bt _,.inr rfl⟩⟩) (λa=>?_);dsimp only;rw[a]at hr;exact hr;dsimp only;rw[a]at g;exact g;refine AC (λ_=>AA ⟨⟨f,λb=>absurd (show(4:Int)=0 from b) (by decide)⟩,λb=>absurd (show(4:Int)=0 from b) (by decide)⟩) (λl=>?_);refine AB (zb (x:=x) (p:=p++D9 v.1 1) ⟨f,j⟩ i (λ_=>⟨by omega,by omega⟩)) λw o=>AA ?_;have⟨⟨s,z⟩,t⟩:=o;refine⟨⟨s,λb=>?_⟩,λb=>?_⟩;grind[Ws,D9,List.append_assoc];dsimp only at b⊢;have⟨u,_⟩:=t b;exact⟨by dsimp only;omega,.inl rfl⟩
def WY{x p a:Bb}{n:Int}{k:Nat}(e:x=p++(D9 n k++a))(d:x.length<=1099511627776)(b:1<=k)(c:k<=8)(hn:aE k n):BF (x,((p.length:Int),0)) (k:Int)=some (n,(x,(((p++D9 n k).length:Int),0))):=by grind[List.length,List.length_append,BB,BF,gW,Int.toNat_natCast,List.take_left',kw,AY]
theorem za{x p w a:Bb}(c:x=p++(w++a))(d:x.length<=1099511627776):Cj (x,((p.length:Int),0)) (w.length:Int)=some (w,(x,(((p++w).length:Int),0))):=by
 have b:=congrArg List.length c;simp[Af]at b;unfold Cj;dsimp only;rw[show((0:Int) !=0)=false by decide,cond_false];simp only[len];rw[show decide ((w.length:Int)>wi ((x.length:Int)-(p.length:Int)))=false from decide_eq_false (by rw[AY];omega),cond_false];have e:TH x (wi (wi ((p.length:Int)+(w.length:Int))-(w.length:Int))) (wi ((p.length:Int)+(w.length:Int)))=some w:=by rw[AY (x:=(p.length:Int)+(w.length:Int)),AY];unfold TH;rw[if_pos (by omega),c,show((p.length:Int)+(w.length:Int)-(w.length:Int)).toNat=p.length by omega,Po,show((p.length:Int)+(w.length:Int)).toNat-p.length=w.length by omega,Vm]
 grind[AY,List.length_append]
def zX{x p a:Bb}{c:Cv}(e:x=p++(Ws c++a))(i:x.length<=1099511627776)(k:IA c):Ca (x,((p.length:Int),0)) ()=some (c,(x,(((p++Ws c).length:Int),0))):=by
 have⟨b,d⟩:=c;have⟨j,f⟩:=k;dsimp only at j f;unfold Ca;cases b with
 |false=>
  have l:d=[]:=by rcases f with h|h;cases h;exact h
  subst l;rw[(rfl:Ws (false,[])=D9 255 1)]at e⊢;rw[show(1:Int)=((1:Nat):Int)from rfl,WY e i (by decide) (by decide) ⟨λ_=>by decide,by decide,by decide⟩];rfl
 |true=>have g:Ws (true,d)=D9 (d.length:Int) 1++d:=rfl;rw[g,A0]at e;rw[g];rw[show(1:Int)=((1:Nat):Int)from rfl,WY e i (by decide) (by decide) ⟨λ_=>by rw[show(256:Int)^1=256 by decide];omega,by omega⟩,AE];grind[za,List.append_assoc]
def ADB{x:Bb}(a:x.length<=1099511627776):A3 (Dx x) λr=>r.2=0->x=Bw r.1/\IA r.1.2.2.2.2.2.2.1.2.2.1/\IA r.1.2.2.2.2.2.2.1.2.2.2/\aE 4 (r.1.2.2.2.2.2.2.2.length:Int)/\Cd r.1=some true:=by
 unfold Dx;have I:CS x [] (x,(0,0)):=⟨rfl,λ_=>⟨x,rfl,rfl⟩⟩
 refine AB (Yl (k:=8) I a (by decide) (by decide)) λO y=>?_;refine AB (Yl (k:=1) y.1 a (by decide) (by decide)) λP z=>?_;refine AB (Yl (k:=4) z.1 a (by decide) (by decide)) λQ A=>?_;refine AB (Yl (k:=8) A.1 a (by decide) (by decide)) λR B=>?_;refine AB (Yl (k:=8) B.1 a (by decide) (by decide)) λS C=>?_;refine AB (Yl (k:=8) C.1 a (by decide) (by decide)) λT D=>?_;refine AB (Yl (k:=4) D.1 a (by decide) (by decide)) λU E=>?_;refine AB (Yl (k:=1) E.1 a (by decide) (by decide)) λV F=>?_;refine Dr (zY F.1 a) λq M o=>?_;refine Dr (zY o.1 a) λs w p=>?_;refine AB (Yl (k:=4) p.1 a (by decide) (by decide)) λj b=>?_;refine AB (zb (n:=j.1) b.1 a (λc=>?_)) λJ f=>?_;have:=(b.2.1 c).1 (by decide);rw[show(256:Int)^4=4294967296 by decide]at this;exact this;refine AL (λh=>AA λc=>absurd c h) (λh=>?_);refine AL (λ_=>AA λc=>absurd c (by decide)) (λG=>?_);refine Dr (B7) λK i _=>?_;refine AO (λ_=>AA λc=>absurd c (by decide)) (λH=>AA λ_=>?_);subst H;obtain⟨q11,d⟩:=f.2 h;have l:s.2.2.2=0:=Rk λe=>by have:=b.2.2 e;rw[this]at d;exact e d
 have u:=p.2 l;have L:q.2.2.2=0:=Rk λe=>by
  have:s=((false,[]),q.2):=by have:=w;unfold Ca BF at this;rw[bne_iff_ne.2 e,cond_true,AE,bne_iff_ne.2 e,cond_true]at this;injection this with this;exact this.symm
  rw[this]at l;exact e l
 have t:=o.2 L;obtain⟨g,m,N⟩:=f.1.2 h;have hr:g=[]:=by simp only[len]at G;have v:=congrArg List.length m;rw[Af]at v;exact EU (by omega)
 subst hr;refine⟨?_,t,u,?_,i⟩;rw[m];unfold Bw;dsimp only;rw[q11];simp only[A0,Cy,D8];dsimp only;rw[q11];exact b.2.1 d
def zZ{e:AD}(h:K8 e):Dx (Bw e)=some (e,0):=by
 obtain⟨s,t,H,w,y,z,A,B,C,D,E⟩:=h.cells;have I:=Qm h;have g:aE 4 (e.2.2.2.2.2.2.2.length:Int):=⟨λ_=>by rw[show(256:Int)^4=4294967296 by decide];omega,by omega⟩
 have a:Bw e=[]++(D9 e.1 8++(D9 e.2.1 1++(D9 e.2.2.1 4++(D9 e.2.2.2.1 8++(D9 e.2.2.2.2.1 8++(D9 e.2.2.2.2.2.1 8++(D9 e.2.2.2.2.2.2.1.1 4++(D9 e.2.2.2.2.2.2.1.2.1 1++
 (Ws e.2.2.2.2.2.2.1.2.2.1++(Ws e.2.2.2.2.2.2.1.2.2.2++(D9 (e.2.2.2.2.2.2.2.length:Int) 4++(e.2.2.2.2.2.2.2++[])))))))))))):=by rw[D8];rfl
 generalize Bw e=x at*;have i:BF (x,(((0:Int)),0)) 8=_:=WY (p:=[]) (k:=8) a (by omega) (by decide) (by decide) w;rw[Cy]at i;rw[Cy]at a;have j:=WY (k:=1) a (by omega) (by decide) (by decide) y;rw[<-A0]at a;have l:=WY (k:=4) a (by omega) (by decide) (by decide) z;rw[<-A0]at a;have m:=WY (k:=8) a (by omega) (by decide) (by decide) A;rw[<-A0]at a;have n:=WY (k:=8) a (by omega) (by decide) (by decide) B;rw[<-A0]at a;have o:=WY (k:=8) a (by omega) (by decide) (by decide) C;rw[<-A0]at a;have q:=WY (k:=4) a (by omega) (by decide) (by decide) D;rw[<-A0]at a;have r:=WY (k:=1) a (by omega) (by decide) (by decide) E;rw[<-A0]at a;have F:=zX a (by omega) s;rw[<-A0]at a;have G:=zX a (by omega) t;rw[<-A0]at a;have c:=WY (k:=4) a (by omega) (by decide) (by decide) g;rw[<-A0]at a;have d:=za a (by omega);rw[D8]at a;rw[<-a]at d;unfold Dx;rw[i,AE];rw[show((1:Nat):Int)=1 from rfl]at j r;rw[show((4:Nat):Int)=4 from rfl]at l q c;rw[show((8:Nat):Int)=8 from rfl]at m n o;rw[j,AE,l,AE,m,AE,n,AE,o,AE,q,AE,r,AE,F,AE,G,AE,c,AE,d,AE];obtain⟨b,u,v⟩:=B7 (x:=e);have f:b=true:=v.2 h;subst f;dsimp only[len];rw[show((0:Int) !=0)=false by decide,cond_false,bne_self_eq_false,cond_false];rw[show(e.1,(e.2.1,(e.2.2.1,(e.2.2.2.1,(e.2.2.2.2.1,(e.2.2.2.2.2.1,((e.2.2.2.2.2.2.1.1,(e.2.2.2.2.2.2.1.2.1,(e.2.2.2.2.2.2.1.2.2.1,e.2.2.2.2.2.2.1.2.2.2))),e.2.2.2.2.2.2.2)))))))=e from rfl,u,AE,Ds,cond_false]
def J2(l:List AD):Bb:=(l.map λe=>Jm (Bw e)).flatten
theorem Qn(l:List AD)(e:AD):J2 (l++[e])=J2 l++Jm (Bw e):=by unfold J2;grind
theorem jD(e:AD)(l:List AD):J2 (e::l)=Jm (Bw e)++J2 l:=rfl
def mM{l:List AD}(h: ∀e∈l,K8 e):(J2 l).length<=8400*l.length:=by
 induction l with
 |nil=>exact Ag _
 |cons e r b=>have c:=b λx a=>h x (A1.2 (.inr a));have d:=Qm (h e (A1.2 (.inl rfl)));rw[jD,Af,Hu,CD];omega
def xA{x p a:Bb}{at_:Int}{k:Nat}(c:x=p++a)(e:at_=p.length)(i:x.length≤1099511627776)(h:1≤k)(f:k≤8)(g:k≤a.length):
  ∃n b,Av (x,(at_,(k:Int)))=some (n,0)/\CE (x,(at_,(k:Int)))=some (n,0)/\x=(p++D9 n k)++b/\aE k n/\b.length+k=a.length:=by
 have d:=congrArg List.length c;rw[Af]at d;obtain⟨q1,q2⟩:=mf (t:=a) g f;refine⟨rd (a.take k),a.drop k,?_,?_,?_,q1,?_⟩;rw[c,e,gW (by omega) (by omega) (by omega),if_pos (by omega),Df];rw[c,e,Xd (by omega) (by omega) (by omega),if_pos (by omega),Df];rw[q2,A0,Ee];exact c;rw[G6];omega
def eD{x p rest:Bb}{at_ n:Int}{k:Nat}(a:x=p++(D9 n k++rest))(d:at_=p.length)(f:x.length≤1099511627776)(e:1≤k)(c:k≤8)(hn:aE k n):
  Av (x,(at_,(k:Int)))=some (n,0)/\CE (x,(at_,(k:Int)))=some (n,0):=by
 have b:=congrArg List.length a;simp only[Af,BB]at b;refine⟨?_,?_⟩;rw[a,d,gW (by rw[Af,BB];omega) (by omega) (by omega),if_pos (by rw[Af,BB];omega),Df,MD (BB _ _),kw c hn];rw[a,d,Xd (by rw[Af,BB];omega) (by omega) (by omega),if_pos (by rw[Af,BB];omega),Df,MD (BB _ _),kw c hn]
def Wy{x:List An×Int×Bool×Cf}{s:Int×List An}(h:0<=s.1/\s.1<=x.1.length/\x.1.length<=16777216/\s.2.length<=s.1):A3 (Ad (NP x) s) λr=>r.length<=x.1.length:=by
 refine AQ (λ(s:Int×List An)=>0<=s.1/\s.1<=x.1.length/\x.1.length<=16777216/\s.2.length<=s.1) (λ(s:Int×List An)=>((x.1.length:Int)-s.1).toNat) h (λs b=>?_);unfold NP;repeat' with_reducible first|apply AI<;>intro c|(apply Az;try dsimp only)|apply BS|apply Bd|apply AA|(refine AJ ?_ (AK ?_ ?_);rintro r ⟨hr,e⟩)|(refine AJ ?_ (Ae ?_);rintro r ⟨hr,d,a⟩)
 all_goals ((try dsimp[len]at*);(try first|omega|assumption|grind[AY]))
def Js{x:List An×Int×Bool×Cf}(h:x.1.length<=16777216):A3 (F6 x) λr=>r.length<=x.1.length:=by
 unfold F6;repeat' with_reducible first|apply AA|(refine AJ ?_ (Wy ?_);intro r hr)
 all_goals grind
def Wv{x:Ax×Int}{s:Int}(h:0<=s/\s<=x.1.1.length/\(x.1.1.length:Int)<=16777216/\0<=x.2/\x.2<x.1.2.length):A3 (Ad (NK x) s) λr=>True:=by
 refine AQ (λ(s:Int)=>0<=s/\s<=x.1.1.length/\(x.1.1.length:Int)<=16777216/\0<=x.2/\x.2<x.1.2.length) (λ(s:Int)=>((x.1.1.length:Int)-s).toNat) h (λs a=>?_);unfold NK;repeat' with_reducible first|apply AI<;>intro b|apply AA|(apply AB (F5);intro r hr)|(refine AJ ?_ (AK ?_ ?_);rintro r ⟨hr,c⟩)
 all_goals ((try dsimp[len]at*);(try first|omega|assumption|grind[AY]))
def Ww{x:Ax×Int}{s:Int}(h:0<=s/\s<=x.2/\(x.2:Int)<=16777216/\0<=x.2/\x.2<x.1.2.length):A3 (Ad (NM x) s) λr=>True:=by
 refine AQ (λ(s:Int)=>0<=s/\s<=x.2/\(x.2:Int)<=16777216/\0<=x.2/\x.2<x.1.2.length) (λ(s:Int)=>((x.2:Int)-s).toNat) h (λs a=>?_);unfold NM;repeat' with_reducible first|apply AI<;>intro b|apply AA|(apply AB (F5);intro r hr)|(refine AJ ?_ (AK ?_ ?_);rintro r ⟨hr,c⟩)
 all_goals ((try dsimp[len]at*);(try first|omega|assumption|grind[AY]))
def bP{x:Ax×Int}(h:x.1.1.length<=4096/\x.1.2.length<=4096)(b:0<=x.2/\x.2<x.1.2.length):A3 (Ln x) λr=>True:=by
 unfold Ln;repeat' with_reducible first|(apply BA<;>(intro u a;try subst a))|apply AA|(refine AJ ?_ (Wv ?_);intro r hr)|(refine AJ ?_ (Ww ?_);intro r hr)
 all_goals grind
def Wx{x:List An×An}{s:Bool×Int×List An}(h:0<=s.2.1/\s.2.1<=x.1.length/\x.1.length<=4096/\s.2.2.length<=s.2.1+1/\(s.1=false->(s.2.2.length:Int)<=s.2.1)):A3 (Ad (NO x) s) λr=>r.2.length<=x.1.length+1/\(r.1=false->r.2.length<=x.1.length):=by
 refine AQ (λ(s:Bool×Int×List An)=>0<=s.2.1/\s.2.1<=x.1.length/\x.1.length<=4096/\s.2.2.length<=s.2.1+1/\(s.1=false->(s.2.2.length:Int)<=s.2.1)) (λ(s:Bool×Int×List An)=>((x.1.length:Int)-s.2.1).toNat) h (λs c=>?_);unfold NO;repeat' with_reducible first|apply AC<;>intro a|apply AO<;>intro a|apply AL<;>intro a|(apply Az;try dsimp only)|apply BS|apply Bd|apply AA|(apply AB (Ss);intro r hr)|(refine AJ ?_ (AK ?_ ?_);rintro r ⟨hr,f⟩)|(refine AJ ?_ (Ae ?_);rintro r ⟨hr,d,b⟩)
 all_goals try (have e:=AY (x:=s.2.1+1))
 all_goals (first|omega|grind)
def bQ{x:List An×An}(h:x.1.length<=4096):A3 (Lo x) λr=>r.length<=x.1.length+1:=by
 unfold Lo;repeat' with_reducible first|apply AO<;>intro b|(apply Az;try dsimp only)|apply BS|apply Bd|apply AA|(refine AJ ?_ (Wx ?_);intro r hr)|(refine AJ ?_ (Ae ?_);rintro r ⟨hr,c,a⟩)
 all_goals grind
def VG{B:Nat}(i:B<=2000){s:Int×Ax}(h:0<=s.1/\s.1<=s.2.2.length/\s.2.1.length+s.2.2.length<=B):A3 (Ad QG s) λr=>r.1.length+r.2.length<=B:=by refine AQ (λs=>0<=s.1/\s.1<=s.2.2.length/\s.2.1.length+s.2.2.length<=B) (λs=>s.2.2.length*3000+((s.2.2.length:Int)-s.1).toNat) h (λs d=>?_);have⟨b,e,c⟩:=d;refine AC (λa=>?_) (λa=>AA c);simp[len]at a;refine AB (bP (by dsimp only;omega) ⟨b,a⟩) λv _=>?_;refine AB (P:=λv:Int×Ax=>(v=s)\/(v.1= -1/\v.2.1.length<=s.2.1.length+1/\v.2.2.length+1=s.2.2.length)) ?_ λm g=>?_;refine AI (λ_=>?_) (λ_=>AA (.inl rfl));refine AB (AK b a) λj _=>?_;refine AB (bQ (by dsimp only;omega)) λk c=>?_;refine AB (B9 (by omega) b) λl f=>?_;grind[AY,AB,B9,Ae,AA];grind[AA,AY]
def Im{B:Nat}{x:Ax}(a:B<=2000)(h:x.1.length+x.2.length<=B):A3 (FN x) λr=>r.1.length+r.2.length<=B:=by exact AB (VG a ⟨by simp,by simp,h⟩) λr hr=>AA hr
theorem Fy.of{x:Ax}{B:Nat}(a:B<=2000)(h:x.1.length+x.2.length<=B):Fy x:=⟨by omega,by omega⟩
def Fy.nil:Fy (([],[]):Ax):=⟨by simp,by simp⟩
def LF{x:Ax×Int}(h:Fy x.1):A3 (G9 x) λr=>Fy r:=by refine AB (E7 h) λv d=>?_;refine AO (λ_=>AA h) (λc=>?_);have g:=d c;refine AB (Js h.1) λa e=>?_;refine AB (Js h.2) λb f=>?_;refine AB (Im (B:=1024) (by decide) ?_) λr hr=>AA (Fy.of (by decide) hr);grind[Xk]
def YP{x:Ax×Int}(h:Fy x.1):A3 (N8 x) λr=>Fy r:=by refine AB (E7 h) λv c=>?_;refine AO (λ_=>AA h) (λa=>?_);have e:=c a;refine AB (Js h.2) λb d=>?_;refine AB (Im (B:=1024) (by decide) ?_) λr hr=>AA (Fy.of (by decide) hr);grind[Xk]
def Sr{x:Ax×Int×Cf}(h:Fy x.1):A3 (Lm x) λr=>Fy r:=by refine AB (E7 h) λv c=>?_;refine AO (λ_=>AA h) (λa=>?_);have e:=c a;refine AB (Js h.1) λb d=>?_;refine AB (Im (B:=1024) (by decide) ?_) λr hr=>AA (Fy.of (by decide) hr);grind[Xk]
def Uk{x:Ax×Int}{s:Int×An}(h:0<=s.1/\s.1<=x.1.2.length/\x.1.2.length<=16777216):A3 (Ad (KU x) s) λr=>True:=by
 refine AQ (λ(s:Int×An)=>0<=s.1/\s.1<=x.1.2.length/\x.1.2.length<=16777216) (λ(s:Int×An)=>((x.1.2.length:Int)-s.1).toNat) h (λs b=>?_);unfold KU;repeat' with_reducible first|apply AC<;>intro a|apply AU<;>intro a|apply AA|(refine AJ ?_ (AK ?_ ?_);rintro r ⟨hr,c⟩)
 all_goals ((try dsimp[len]at*);(try first|omega|assumption|grind[AY]))
def Hz{x:Ax×Int}(h:Fy x.1):A3 (E8 x) λr=>r.2=true->Xk x.1:=by
 unfold E8;repeat' with_reducible first|apply AI<;>intro b|(apply Az;try dsimp only)|apply BS|apply Bd|apply MJ|(apply BA<;>(intro u a;try subst a))|apply AA|(refine AJ ?_ (E7 ?_);intro r hr)|(refine AJ ?_ (Uk ?_);intro r hr)
 all_goals ((try dsimp[len]at*);(try first|omega|assumption|grind[Fy]))
def WC{x:Ax×An}{s:Int}(h:0<=s/\s<=x.1.2.length/\(x.1.2.length:Int)<=16777216/\x.1.1.length<=16777216):A3 (Ad (MY x) s) λr=> ∀u,r= .inl u->0<=u/\u<=x.1.2.length:=by
 refine AQ (λ(s:Int)=>0<=s/\s<=x.1.2.length/\(x.1.2.length:Int)<=16777216/\x.1.1.length<=16777216) (λ(s:Int)=>((x.1.2.length:Int)-s).toNat) h (λs a=>?_);unfold MY;repeat' with_reducible first|apply AI<;>intro b|apply AA|(refine AJ ?_ (HY ?_);intro r hr)|(refine AJ ?_ (AK ?_ ?_);rintro r ⟨hr,c⟩)
 all_goals ((try dsimp[len]at*);(try first|omega|assumption|grind[AY]))
def Zm{x:Ax×An}(h:Fy x.1):A3 (II x) λr=>0<=r/\r<=x.1.2.length:=by
 unfold II;repeat' with_reducible first|apply AU<;>intro b|(apply BA<;>(intro u a;try subst a))|apply AA|(refine AJ ?_ (HY ?_);intro r hr)|(refine AJ ?_ (WC ?_);intro r hr)
 all_goals ((try dsimp[len]at*);(try first|omega|assumption|grind[Fy]))
def Wu{x:Ax×An}(h:Fy x.1):A3 (NJ x) λr=>Fy r.1:=by refine AB (E7 h) λv o=>?_;refine AO (λ_=>AA Fy.nil) (λl=>?_);have n:=o l;unfold Xk at n;refine AB NN λ_ _=>?_;refine AO (λ_=>AA Fy.nil) (λ_=>?_);refine AB (Hz h) λz _=>?_;apply AI<;>intro m;simp_all[AI,AA,Fy.nil];refine AI (λ_=>AA h) (λ_=>?_);refine AB (HY h.1) λ_ _=>?_;refine AI (λ_=>AA h) (λ_=>?_);refine AI (λ_=>AA Fy.nil) (λ_=>?_);refine AB (Zm h) λp e=>?_;refine AB (B9 (by omega) e.1 e.2) λq j=>?_;refine AB (B9 e.1 (by simp[len];omega) (by simp only[len];omega)) λs a=>?_;have f:=a.2;simp[len]at f;refine AB (Ae (by simp;omega)) λt b=>?_;have g:=b.2.1;simp at g;refine AB (Ae (by simp;omega)) λu c=>?_;have i:=c.2.1;simp at i;refine AB (Ae (by omega)) λw k=>?_;refine AB (Im (B:=1025) (by decide) (by dsimp only;omega)) λy d=>?_;refine AB (HY (by dsimp only;omega)) λ_ _=>?_;exact AA (Fy.of (by decide) d)
def W6{x:List Int×Int}{s:Bool×Int×List Int}(h:0<=s.2.1/\s.2.1<=x.1.length/\x.1.length<=4096/\s.2.2.length<=s.2.1+1/\(s.1=false->(s.2.2.length:Int)<=s.2.1)):A3 (Ad (NH x) s) λr=>r.2.length<=x.1.length+1/\(r.1=false->r.2.length<=x.1.length):=by
 refine AQ (λ(s:Bool×Int×List Int)=>0<=s.2.1/\s.2.1<=x.1.length/\x.1.length<=4096/\s.2.2.length<=s.2.1+1/\(s.1=false->(s.2.2.length:Int)<=s.2.1)) (λ(s:Bool×Int×List Int)=>((x.1.length:Int)-s.2.1).toNat) h (λs b=>?_);unfold NH;repeat' with_reducible first|apply AC<;>intro a|apply AO<;>intro a|apply AL<;>intro a|apply AI<;>intro a|(apply Az;try dsimp only)|apply BS|apply Bd|apply AA|(refine AJ ?_ (AK ?_ ?_);rintro r ⟨hr,g⟩)|(refine AJ ?_ (Ae ?_);rintro r ⟨hr,f,d⟩)
 all_goals try dsimp[len]at*
 all_goals try (have e:=AY (x:=s.2.1+1))
 all_goals try (have c:=b.2.2.2.2 (by assumption))
 all_goals (try simp[CD,CT,Bool.true_eq_false,false_implies,and_true]at*)
 all_goals first|omega|grind
def OC{x:List Int×Int}(h:x.1.length<=4096):A3 (FG x) λr=>r.length<=x.1.length+1:=by
 unfold FG;repeat' with_reducible first|apply AO<;>intro a|apply AI<;>intro a|(apply Az;try dsimp only)|apply BS|apply Bd|apply AA|(refine AJ ?_ (W6 ?_);intro r hr)|(refine AJ ?_ (Ae ?_);rintro r ⟨hr,c,b⟩)
 all_goals ((try dsimp[len]at*);(try first|omega|assumption|grind[AY]))
def Ul{x:Ax}{s:List Int×Int}(h:0<=s.2/\s.2<=x.2.length/\x.2.length<=4096/\s.1.length<=s.2):A3 (Ad (KV x) s) λr=>r.length<=x.2.length:=by
 refine AQ (λ(s:List Int×Int)=>0<=s.2/\s.2<=x.2.length/\x.2.length<=4096/\s.1.length<=s.2) (λ(s:List Int×Int)=>((x.2.length:Int)-s.2).toNat) h (λs b=>?_);unfold KV;repeat' with_reducible first|apply AC<;>intro a|apply AI<;>intro a|apply AA|(refine AJ ?_ (OC ?_);intro r hr)|(refine AJ ?_ (AK ?_ ?_);rintro r ⟨hr,c⟩)
 all_goals ((try dsimp[len]at*);(try first|omega|assumption|grind[AY]))
def W5{x:Ax}(h:Fy x):A3 (JG x) λr=>r.length<=4096:=by
 unfold JG;repeat' with_reducible first|apply AI<;>intro a|(apply Az;try dsimp only)|apply BS|apply Bd|apply AA|(refine AJ ?_ (E7 ?_);intro r hr)|(refine AJ ?_ (Ul ?_);intro r hr)
 all_goals ((try dsimp[len]at*);(try first|omega|assumption|grind[AY,Xk]))
theorem YQ{x:Ax×Int}{b:An×Bool}{s:List Int×Int}(h:0<=s.2/\s.2<=x.1.1.length/\x.1.1.length<=1024/\s.1.length<=s.2):A3 (Ad (N9 x b) s) λr=>r.length<=x.1.1.length:=by
 refine AQ (λ(s:List Int×Int)=>0<=s.2/\s.2<=x.1.1.length/\x.1.1.length<=1024/\s.1.length<=s.2) (λ(s:List Int×Int)=>((x.1.1.length:Int)-s.2).toNat) h (λs c=>?_);unfold N9;repeat' with_reducible first|apply AC<;>intro a|apply AI<;>intro a|(apply Az;try dsimp only)|apply BS|apply Bd|apply AA|(refine AJ ?_ (OC ?_);intro r hr)|(apply AB (F5);intro r hr)|(refine AJ ?_ (AK ?_ ?_);rintro r ⟨hr,d⟩)
 all_goals ((try dsimp[len]at*);(try first|omega|assumption|grind[AY]))
theorem YR{x:Ax×Int}{b:An×Bool}{s:List Int×Int}(h:0<=s.2/\s.2<=x.1.2.length/\x.1.2.length<=1024/\s.1.length<=s.2+1024):A3 (Ad (OA x b) s) λr=>r.length<=4096:=by
 refine AQ (λ(s:List Int×Int)=>0<=s.2/\s.2<=x.1.2.length/\x.1.2.length<=1024/\s.1.length<=s.2+1024) (λ(s:List Int×Int)=>((x.1.2.length:Int)-s.2).toNat) h (λs c=>?_);unfold OA;repeat' with_reducible first|apply AC<;>intro a|apply AL<;>intro a|apply AI<;>intro a|(apply Az;try dsimp only)|apply BS|apply Bd|apply AA|(refine AJ ?_ (OC ?_);intro r hr)|(apply AB (F5);intro r hr)|(refine AJ ?_ (AK ?_ ?_);rintro r ⟨hr,d⟩)
 all_goals ((try dsimp[len]at*);(try first|omega|assumption|grind[AY]))
def Ko{x:Ax×Int}(h:Fy x.1):A3 (Hk x) λr=>r.length<=4096:=by unfold Hk;refine AB (Hz h) λc b=>?_;refine AO (λ_=>AA (by simp)) (λa=>?_);grind[Xk,AB,YQ,YR,AA]
theorem O5{x:Ax×List Int×Int}{a:List Int}{s:Int}(h:0<=s/\s<=a.length/\(a.length:Int)<=16777216/\1<=x.2.1.length/\x.2.1.length<=4096):A3 (Ad (LG x a) s) λr=> ∀u,r= .inl u->u=x.2.1:=by
 refine AQ (λ(s:Int)=>0<=s/\s<=a.length/\(a.length:Int)<=16777216/\1<=x.2.1.length/\x.2.1.length<=4096) (λ(s:Int)=>((a.length:Int)-s).toNat) h (λs c=>?_);unfold LG;repeat' with_reducible first|apply AC<;>intro b|apply AU<;>intro b|apply AI<;>intro b|apply AA|(refine AJ ?_ (AK ?_ ?_);rintro r ⟨hr,d⟩)
 all_goals ((try dsimp[len]at*);(try first|omega|assumption|grind[AY]))
def VH{x:Ax×List Int×Int}{b:Int}{s:Bool×Int}(h:0<=s.2/\s.2<=x.2.1.length/\x.2.1.length<=4096):A3 (Ad (LH x b) s) λr=>True:=by
 refine AQ (λ(s:Bool×Int)=>0<=s.2/\s.2<=x.2.1.length/\x.2.1.length<=4096) (λ(s:Bool×Int)=>((x.2.1.length:Int)-s.2).toNat) h (λs c=>?_);unfold LH;repeat' with_reducible first|apply AC<;>intro a|apply AU<;>intro a|apply AI<;>intro a|apply AA|(refine AJ ?_ (AK ?_ ?_);rintro r ⟨hr,d⟩)
 all_goals ((try dsimp[len]at*);(try first|omega|assumption|grind[AY]))
def AAa(d:Nat){x:Ax×List Int×Int}(h:Fy x.1)(o:1<=x.2.1.length)(A:(x.2.1.length:Int)+d=x.2.2)(p:x.2.2<=4096):A3 (fw Ef (d+1) x) λr=>r.length<=4096:=by
 induction d generalizing x with
 |zero=>show A3 (Ef _ x) _;unfold Ef;have e:=AY (x:=(x.2.1.length:Int)-1);refine AB (AK (by simp[len];rw[e];omega) (by simp[len];rw[e];omega)) λv _=>?_;refine AB (Ko h) λm f=>?_;refine AU (λ_=>?_) (λc=>absurd (by simp[len];omega) c);refine AB (O5 ⟨by simp,by simp,by omega,o,by omega⟩) λr hr=>?_;exact BA (λu a=>AA (by rw[hr u a];omega)) (λ_ _=>AA (by simp))
 |succ d t=>show A3 (Ef _ x) _;unfold Ef;have e:=AY (x:=(x.2.1.length:Int)-1);refine AB (AK (by simp[len];rw[e];omega) (by simp[len];rw[e];omega)) λv _=>?_;refine AB (Ko h) λm f=>?_;refine AU (λ_=>?_) (λ_=>?_);grind[AB,O5,BA,AA];refine AB (P:=λr=> ∀u,r= .inl u->u.length<=4096) ?_ λr hr=>BA (λu a=>AA (hr u a)) (λ_ _=>AA (by simp));refine AQ (λ(s:Int)=>0<=s/\s<=m.length) (λ(s:Int)=>((m.length:Int)-s).toNat) (s:=(0:Int)) ⟨by decide,by omega⟩ (λs q=>?_);unfold QH;have b:=AY (x:=s+1);refine AC (λc=>?_) (λ_=>AA (λu a=>by cases a));simp[len]at c;refine AB (AK q.1 c) λB _=>?_;refine AB (VH ⟨by simp,by simp,by omega⟩) λw _=>?_;refine AI (λ_=>AA ⟨by rw[b];omega,by rw[b];omega⟩) (λ_=>?_);refine AB (Ae (by simp;omega)) λy g=>?_;have k:=g.2.1;simp[CT]at k;refine AB (Ae (by simp;omega)) λn i=>?_;have l:=i.2.1;simp[CD,CT]at l;refine AB (t (x:=(x.1,n,x.2.2)) h (by dsimp only;omega) (by dsimp only;omega) p) λz j=>?_;exact AC (λ_=>AA λu a=>by cases a;exact j) (λ_=>AA ⟨by rw[b];omega,by rw[b];omega⟩)
def YS{x:Ax×List Int×Int}(h:Fy x.1)(a:1<=x.2.1.length)(d:(x.2.1.length:Int)<=x.2.2)(b:x.2.2<=4096):A3 (OB x) λr=>True:=by have⟨r,hr,_⟩:=AAa (x.2.2-x.2.1.length).toNat h a (by omega) b;have⟨s,c⟩:=g9 hr;exact⟨s,c,trivial⟩
def Zn{x:Ax×Int}(h:Fy x.1):A3 (Kn x) λr=>True:=by unfold Kn;refine AB (P:=λ_=>True) ?_ λr _=>BA (λ_ _=>AA trivial) (λ_ _=>AA trivial);refine AQ (λs=>1<=s/\s<=4097) (λs=>(4097-s).toNat) ⟨by decide,by decide⟩ (λs d=>?_);unfold Qt;have a:=AY (x:=s+1);refine AB (W5 h) λe c=>?_;refine AC (λb=>?_) (λ_=>AA trivial);simp[len]at b;refine AB (YS h (by simp) (by show(1:Int)<=s;omega) (by show s<=4096;omega)) λf _=>?_;exact AC (λ_=>AA trivial) (λ_=>AA ⟨by rw[a];omega,by rw[a];omega⟩)
def TP(l:List Ah):Nat:=(l.map λt=>t.2.2.2.2.1.length+1).sum
theorem ACQ{l:List Ah}{i:Nat}{o n:Ah}(h:l[i]? =some o):TP (l.set i n)+o.2.2.2.2.1.length=TP l+n.2.2.2.2.1.length:=by
 induction l generalizing i with
 |nil=>simp at h
 |cons t r a=>
  cases i with
  |zero=>simp at h;subst h;simp[TP];omega
  |succ i=>have:=a (i:=i) (by simpa using h);simp[TP,List.set_cons_succ,Be,Tm]at*;omega
def o8{l:List Ah}{id:Int}:TP (l.filter λt=>t.1 !=id)<=TP l:=by
 induction l with
 |nil=>simp
 |cons t r a=>simp[Tn];split;simp[TP,Be,Tm]at*;omega;simp[TP,Be,Tm]at*;omega
def qO{l:List Ah}{id:Int}{i:Nat}{t:Ah}(h:l[i]? =some t)(a:t.1=id):TP (l.filter λt=>t.1 !=id)<TP l:=by
 induction l generalizing i with
 |nil=>simp at h
 |cons u r b=>
  have q:=o8 (l:=r) (id:=id);cases i with
  |zero=>simp at h;subst h;simp[Tn,a,bne_self_eq_false,J5,if_false];simp[TP,Be,Tm]at*;omega
  |succ i=>have:=b (i:=i) (by simpa using h);simp[Tn];split<;>(simp[TP,Be,Tm]at*;omega)
def WF{x:List Ah×Int}{s:Int×List Ah}(h:0<=s.1/\s.1<=x.1.length/\x.1.length<=64/\s.2.length=s.1):A3 (Ad (Ma x) s) λr=>r.length<=x.1.length:=by
 refine AQ (λ(s:Int×List Ah)=>0<=s.1/\s.1<=x.1.length/\x.1.length<=64/\s.2.length=s.1) (λ(s:Int×List Ah)=>((x.1.length:Int)-s.1).toNat) h (λs c=>?_);unfold Ma;repeat' with_reducible first|apply AC<;>intro a|apply AI<;>intro a|apply AA|(refine AJ ?_ (AK ?_ ?_);rintro r ⟨hr,e⟩)|(refine AJ ?_ (Ae ?_);rintro r ⟨hr,d,b⟩)
 all_goals ((try dsimp[len]at*);(try first|omega|assumption|grind[AY]))
def R4{x:List Ah×Int}:A3 (IK x) λr=>r.2=0->r.1.length=x.1.length+1/\r.1.length<=64:=by
 unfold IK;repeat' with_reducible first|apply AC<;>intro a|apply AO<;>intro a|apply AU<;>intro a|apply AI<;>intro a|apply AA|(apply AB (Di);intro r hr)|(refine AJ ?_ (He ?_);intro r hr)|(refine AJ ?_ (WF ?_);intro r hr)|(refine AJ ?_ (Ae ?_);rintro r ⟨hr,b,c⟩)|(refine AJ ?_ (B9 ?_ ?_ ?_);rintro r ⟨hr,b⟩)
 all_goals ((try dsimp[len]at*);(try first|omega|assumption|grind[AY,Wf]))
def xX(l:List Ah)(id:Int):List Ah:=l.filter λt=>t.1 !=id
theorem jX(l:List Ah)(id:Int):(xX l id).length<=l.length:=LZ _ _
theorem ABT(l:List Ah)(id:Int):TP (xX l id)<=TP l:=o8
theorem ABU{l:List Ah}{id:Int}{i:Nat}{t:Ah}(h:l[i]? =some t)(a:t.1=id):TP (xX l id)<TP l:=qO h a
def pT{a:Type}{l:List a}{n:Int}{p:a->Bool}{x:a}(b:0<=n)(c:l[n.toNat]? =some x):(l.take (n+1).toNat).filter p=(l.take n.toNat).filter p++(if p x=true then [x]else []):=by
 have e:(n+1).toNat=n.toNat+1:=by omega
 grind[List.take_add_one,Option.toList_some]
def sX{a:Type}{l:List a}{n:Int}{p:a->Bool}(b:0<=n):(((l.take n.toNat).filter p).length:Int)<=n:=by grind[List.length_filter_le,List.length_take]
def VO{x:List Ah×Int}{s:Int×List Ah}(h:0<=s.1/\s.1<=x.1.length/\x.1.length<=16777216/\s.2=(x.1.take s.1.toNat).filter (λt=>t.1 !=x.2)):A3 (Ad (LL x) s) λr=>r=x.1.filter λt=>t.1 !=x.2:=by
 refine AQ (λ(s:Int×List Ah)=>0<=s.1/\s.1<=x.1.length/\x.1.length<=16777216/\s.2=(x.1.take s.1.toNat).filter (λt=>t.1 !=x.2)) (λ(s:Int×List Ah)=>((x.1.length:Int)-s.1).toNat) h (λs f=>?_);unfold LL;have⟨b,i,e,c⟩:=f;have a:=sX (l:=x.1) (p:=λt:Ah=>t.1 !=x.2) b;rw[<-c]at a;repeat' with_reducible first|apply AC<;>intro d|apply AL<;>intro d|apply AI<;>intro d|(apply Az;try dsimp only)|apply BS|apply Bd|apply AA|(refine AJ ?_ (AK ?_ ?_);rintro r ⟨hr,k⟩)|(refine AJ ?_ (Ae ?_);rintro r ⟨hr,j,g⟩)
 all_goals dsimp[len]at*
 all_goals first|omega|(rw[(AY (x:=s.1+1))];refine⟨⟨by omega,by omega,e,?_⟩,by omega⟩;rw[pT b (by assumption)];grind)|(rw[c,Bs (by omega)])|(simp;omega)
def Ip{x:List Ah×Int}(h:x.1.length<=16777216):A3 (GP x) λr=>r=xX x.1 x.2:=by
 unfold GP xX
 repeat' first
   |with_reducible apply AI<;>intro a
   |(with_reducible apply Az;try dsimp only)
   |with_reducible apply BS
   |with_reducible apply Bd
   |with_reducible apply AA
   |(with_reducible refine AJ ?_ (VO ?_);intro r hr)
 all_goals ((try dsimp[len]at*);(try first|omega|assumption|grind[AY]))
def Mc{x:Ah}(h:x.2.2.2.2.1.length<=16777216):A3 (Hf x) λr=>r.1=x.1/\r.2.2.2.2=x.2.2.2.2:=by
 unfold Hf;repeat' with_reducible first|apply AC<;>intro a|apply AU<;>intro a|apply AI<;>intro a|(apply Az;try dsimp only)|apply BS|apply Bd|apply AA|(refine AJ ?_ (AK ?_ ?_);rintro r ⟨hr,b⟩)
 all_goals ((try dsimp[len]at*);(try first|omega|assumption|grind[AY]))
def Ks{x:List Ah×Int×Ah}(h:x.1.length<=16777216)(a:0<=x.2.1/\x.2.1<x.1.length):A3 (Hm x) λr=>r=x.1.set x.2.1.toNat x.2.2:=by unfold Hm;refine AB (Ae (by simpa using h)) λr hr=>?_;have⟨hr,b,_⟩:=hr;rw[Cy]at hr;subst hr;refine AB (AK a.1 a.2) λ_ _=>?_;refine AB (AK a.1 a.2) λ_ _=>?_;exact AA rfl
def QJ{x:List Ah×AD}{a:Ah}{s:Int×List Int}(h:0<=s.1/\s.1<=a.2.2.2.2.1.length/\a.2.2.2.2.1.length<=4096/\s.2.length<=s.1):A3 (Ad (NS x a) s) λr=>r.length<=a.2.2.2.2.1.length:=by
 refine AQ (λ(s:Int×List Int)=>0<=s.1/\s.1<=a.2.2.2.2.1.length/\a.2.2.2.2.1.length<=4096/\s.2.length<=s.1) (λ(s:Int×List Int)=>((a.2.2.2.2.1.length:Int)-s.1).toNat) h (λs d=>?_);unfold NS;repeat' with_reducible first|apply AC<;>intro b|apply AL<;>intro b|apply AI<;>intro b|(apply Az;try dsimp only)|apply BS|apply Bd|apply AA|(refine AJ ?_ (AK ?_ ?_);rintro r ⟨hr,f⟩)|(refine AJ ?_ (Ae ?_);rintro r ⟨hr,e,c⟩)
 all_goals ((try dsimp[len]at*);(try first|omega|assumption|grind[AY]))
def dN(l:List Ah)(id:Int):Prop:= ∃(j:Nat) (t:Ah),l[j]? =some t/\t.1=id
theorem dN.set{l:List Ah}{i:Nat}{n:Ah}{id:Int}(h:i<l.length)(hn:n.1=id):dN (l.set i n) id:=⟨i,n,by rw[Hi h],hn⟩
def vS(l:List Ah)(kind tx:Int)(m:List Ah):Prop:=m.length<=l.length/\(tx=0->m=l)/\(tx≠0->kind≠1->(kind≠4->TP m<TP l)/\TP m<=TP l)/\(tx≠0->kind=4->dN m tx)
def bT{x:List Ah×AD}:A3 (F7 x) λr=>r.2=0->vS x.1 x.2.2.1 x.2.2.2.1 r.1:=by
 unfold F7;repeat' with_reducible first|apply AC<;>intro a|apply AO<;>intro a|apply AU<;>intro a|apply AL<;>intro a|apply AI<;>intro a|(apply Az;try dsimp only)|apply BS|apply Bd|apply MJ|(apply BH;try dsimp only)|(apply A9;try dsimp only)|(apply BA<;>(intro u c;try subst c))|apply AA|(apply AB (Di);intro r hr)|(apply AB (B7);intro r hr)|(refine AJ ?_ (He ?_);intro r hr)|(refine AJ ?_ (QJ ?_);intro r hr)|(refine AJ ?_ (Ip ?_);intro r hr)|(refine AJ ?_ (Mc ?_);intro r hr)|(refine AJ ?_ (Ks ?_ ?_);intro r hr)|(refine AJ ?_ (AK ?_ ?_);rintro r ⟨hr,f⟩)|(refine AJ ?_ (Ae ?_);rintro r ⟨hr,e,b⟩)
 all_goals dsimp[len]at*
 all_goals first|omega|(intro d;exact absurd d (by decide))|(unfold Wf VTx at*;(first|omega|grind[vS,ACQ,ABU,ABT,jX,List.length_set,dN.set]))
variable {B:Int->Prop}
def Qz{x:List Ah×Int}:A3 (Hd x) λr=>r.2=0->Wf x.1/\0<=r.1/\r.1<x.1.length:=by
 unfold Hd;repeat' with_reducible first|apply AC<;>intro a|apply AO<;>intro a|apply AL<;>intro a|apply AI<;>intro a|apply AA|(apply AB (Di);intro r hr)|(refine AJ ?_ (He ?_);intro r hr)|(refine AJ ?_ (AK ?_ ?_);rintro r ⟨hr,b⟩)
 all_goals ((try dsimp[len]at*);(try first|omega|assumption|grind[AY,Wf]))
def bU{x:List Ah×Int}:A3 (Ls x) λr=>r.2=0->r.1.length<=64:=by
 unfold Ls;repeat' with_reducible first|apply AU<;>intro a|apply AL<;>intro a|apply AI<;>intro a|apply AA|(apply AB (Qz);intro r hr)|(refine AJ ?_ (Ks ?_ ?_);intro r hr)|(refine AJ ?_ (AK ?_ ?_);rintro r ⟨hr,e⟩)|(refine AJ ?_ (Ae ?_);rintro r ⟨hr,d,b⟩)
 all_goals try dsimp[len]at*
 all_goals first|omega|(intro c;exact absurd c (by assumption))|grind[Wf,VTx,List.length_set]
def bS{x:List Ah×Int×Int}:A3 (Lr x) λr=>r.2=0->r.1.length<=64:=by
 unfold Lr;repeat' with_reducible first|apply AC<;>intro a|apply AL<;>intro a|apply AI<;>intro a|apply AA|(apply AB (Qz);intro r hr)|(refine AJ ?_ (Mc ?_);intro r hr)|(refine AJ ?_ (Ks ?_ ?_);intro r hr)|(refine AJ ?_ (AK ?_ ?_);rintro r ⟨hr,e⟩)|(refine AJ ?_ (Ae ?_);rintro r ⟨hr,b,c⟩)|(refine AJ ?_ (B9 ?_ ?_ ?_);rintro r ⟨hr,b⟩)
 all_goals try dsimp[len]at*
 all_goals first|omega|(intro d;exact absurd d (by assumption))|grind[Wf,VTx,List.length_set,AY]
def dF{x:BY×Int×DZ}(h:x.1.length<=16777216)(a:0<=x.2.1/\x.2.1<x.1.length):A3 (Mt x) λr=>r=x.1.set x.2.1.toNat x.2.2:=by unfold Mt;refine AB (Ae (by simpa using h)) λr hr=>?_;have⟨hr,b,_⟩:=hr;rw[Cy]at hr;subst hr;refine AB (AK a.1 a.2) λ_ _=>?_;refine AB (AK a.1 a.2) λ_ _=>?_;exact AA rfl
def Su{x:BY×AD}:A3 (HA x) λr=>r.2=0->r.1.length=x.1.length/\(x.2.2.1≠7->r.1=x.1)/\(x.2.2.1=7->0<=x.2.2.2.2.2.2.2.1.1/\ ∃w,x.1[x.2.2.2.2.2.2.2.1.1.toNat]? =some w/\r.1=x.1.set x.2.2.2.2.2.2.2.1.1.toNat ((if x.2.2.2.2.2.2.1>w.1 then x.2.2.2.2.2.2.1 else w.1),w.2)):=by
 unfold HA;refine AB Fv λv i=>?_;refine AO (λa=>AA (λb=>absurd b (by decide))) (λa=>?_);refine AB B7 λl k=>?_;refine AO (λa=>AA (λb=>absurd b (by decide))) (λf=>?_);refine AL (λa=>AA λ_=>⟨rfl,λ_=>rfl,λe=>absurd e a⟩) (λd=>?_);have i:K8 x.2:=by grind
 have c:0<=x.2.2.2.2.2.2.2.1.1:=by grind[K8,TI,Nu,O0]
 refine AC (λa=>AA (λb=>absurd b (by decide))) (λg=>?_);simp[len]at g;refine AB (AK c) λw j=>?_;refine AB (dF (by have:=(by grind:gY x.1).2;dsimp only;omega) ⟨c,by dsimp only;omega⟩) λu h=>AA λ_=>?_;subst h;exact⟨by simp,λe=>absurd d e,λ_=>⟨c,w,j.1,rfl⟩⟩
def Jx{x:AP×Int}(h:SB x.1):A3 (Ea x) λr=>BT x.1=some true->KP x.1.1 x.1.2.2.1.2.1 x.1.2.2.2.1.2.1 x.1.2.2.2.2.2.2.2 x.1.2.2.2.2.2.2.1->0<=x.2->x.2<x.1.1->r=Bu x.1.2.2.1.2.1 x.2:=by unfold Ea;refine Dr (Bp h) λv u t=>?_;refine AO (λa=>AA λe=>?_) (λa=>?_);rw[u,a]at e;cases e;refine AC (λa=>AA λ_ _ p=>absurd p (by omega)) (λp=>?_);refine AC (λa=>AA λ_ _ _ q=>absurd q (by omega)) (λq=>?_);refine AB IJ λg s=>?_;refine AI (λa=>AA λ_ c d j=>?_) (λk=>?_);have⟨_,_,_,e,f,n,b⟩:=s.1 a;have:=(c x.2 d j).1 f n (by rw[b];exact e);rw[b]at this;rw[this];exact QW _ _;refine AB (JJ h) λl o=>?_;refine AI (λa=>AA λ_ c d j=>(c x.2 d j).2.1 _ (o.1 a).1 (o.1 a).2) (λm=>?_);refine AB (AK (by omega) (by have:=(t a).2.2.2.2.2.2.2;omega)) λr hr=>AA λ_ c d j=>?_;exact((c x.2 d j).2.2 r hr.1).2 (o.2 m) λf n e=>by have⟨i,w⟩:=EV n;exact absurd ⟨i,f,w,e⟩ (s.2 k (t a).2.2.2.1)
def LX(a b:Aj):Prop:=b.1=a.1/\a.2.2<=b.2.2/\ ∃t,b.2.1=a.2.1++t
def LX.refl(a:Aj):LX a a:=⟨rfl,Ak _,[],by simp⟩
def LX.trans{a b c:Aj}(h:LX a b)(g:LX b c):LX a c:=by have⟨i,k,t,j⟩:=h;have⟨d,f,u,e⟩:=g;exact⟨d.trans i,js k f,t++u,by rw[e,j,A0]⟩
def LX.get{a b:Aj}(h:LX a b){i:Nat}{e:AD}(f:a.2.1[i]? =some e):b.2.1[i]? =some e:=by have⟨c,_,t,d⟩:=h;grind[List.getElem?_append_left,Nat.lt_or_ge,List.getElem?_eq_none]
def AEQ(k:AP)(z:AD)(m:AP):Prop:=
 ∃e,m.2.2.1.2.1=k.2.2.1.2.1++[e]/\e.1=k.2.2.1.1+k.2.2.1.2.1.length/\e.2.1=z.2.1/\e.2.2.2.2.2=z.2.2.2.2.2/\
  (KP k.1 k.2.2.1.2.1 k.2.2.2.1.2.1 k.2.2.2.2.2.2.2 k.2.2.2.2.2.2.1->(e.2.1=1\/e.2.1=2)->0<=e.2.2.2.2.2.2.1.1->e.2.2.2.2.2.2.1.1<k.1->e.2.2.2.2.1=Bu k.2.2.1.2.1 e.2.2.2.2.2.2.1.1)/\
  (z.2.1≠7->m.2.2.2.2.2.2.1=k.2.2.2.2.2.2.1)/\
  (z.2.1=7->0<=z.2.2.2.2.2.2.1.1/\ ∃w,k.2.2.2.2.2.2.1[z.2.2.2.2.2.2.1.1.toNat]? =some w/\m.2.2.2.2.2.2.1=k.2.2.2.2.2.2.1.set z.2.2.2.2.2.2.1.1.toNat ((if z.2.2.2.2.2.1>w.1 then z.2.2.2.2.2.1 else w.1),w.2))
def uA(k:AP)(z:AD)(m:AP):Prop:=
 m.1=k.1/\LX k.2.2.1 m.2.2.1/\Du m.2.2.1/\m.2.2.2.1=k.2.2.2.1/\m.2.2.2.2.1=k.2.2.2.2.1/\vS k.2.2.2.2.2.1 z.2.1 z.2.2.1 m.2.2.2.2.2.1/\m.2.2.2.2.2.2.2=k.2.2.2.2.2.2.2/\SB m/\AEQ k z m
def Fk{x:AP×AD}(h:SB x.1):A3 (EM x) λr=>r.2.2=0->VK x.1/\uA x.1 x.2 r.1/\r.2.1=x.1.2.2.1.1+x.1.2.2.1.2.1.length:=by
 unfold EM;refine Dr (Bp h) λv q E=>?_;refine AO (λa=>AA (λc=>absurd c (by decide))) (λa=>?_);have n:=E a;rw[a]at q;refine AB (P:=λs=>(∃u,s= .inl u/\u.2.1≠0)\/ ∃u,s= .inr u/\u.1.2.1=x.2.2.1/\u.1.2.2.1=x.2.2.2.1/\u.1.2.2.2.2.2=x.2.2.2.2.2.2) ?_ λs D=>?_
 ·repeat' with_reducible first|apply AC<;>intro a|apply AO<;>intro a|apply AL<;>intro a|apply AI<;>intro a|(apply Az;try dsimp only)|apply BS|apply Bd|apply MJ|(apply BH;try dsimp only)|(apply A9;try dsimp only)|(apply BA<;>(intro u b;try subst b))|apply AA|(refine AJ ?_ (FQ ?_);intro r hr)|(refine AJ ?_ (AK ?_ ?_);rintro r ⟨hr,N⟩)
  all_goals ((try dsimp[len]at*);(try first|omega|assumption|grind[AY,SB]))
 rcases D with⟨u,rfl,b⟩|⟨u,rfl,b⟩;exact BH (AA λc=>absurd c b);apply A9;refine AB (B4) λO A=>?_;refine AB (P:=λv:AD=>v.2.1=x.2.2.1/\v.2.2.1=x.2.2.2.1/\v.2.2.2.2.2=x.2.2.2.2.2.2/\(KP x.1.1 x.1.2.2.1.2.1 x.1.2.2.2.1.2.1 x.1.2.2.2.2.2.2.2 x.1.2.2.2.2.2.2.1->(v.2.1=1\/v.2.1=2)->0<=v.2.2.2.2.2.2.1.1->v.2.2.2.2.2.2.1.1<x.1.1->v.2.2.2.2.1=Bu x.1.2.2.1.2.1 v.2.2.2.2.2.2.1.1)) ?_ λt d=>?_;refine AI (λa=>?_) (λa=>AA ⟨b.1,b.2.1,b.2.2,λ_ n=>absurd (A.2 n) (by simp[a])⟩);exact AB (Jx h) λw F=>AA ⟨b.1,b.2.1,b.2.2,λo _ G H=>F q o G H⟩;refine AB (YO) λi B=>?_;refine AL (λa=>AA (λc=>absurd c a)) (λa=>?_);have⟨a1,a2,a3,a4,a5,a6⟩:=B a;dsimp only at a2 a3 a4 a5 a6;refine AB (Gk) λp e=>?_;refine AB (bT) λI l=>?_;refine AL (λa=>AA (λc=>absurd c a)) (λf=>?_);refine AB (Su) λJ m=>?_;refine AL (λa=>AA (λc=>absurd c a)) (λg=>?_);refine AA λ_=>⟨n,?_⟩
 have L:=a2.1;have M:i.1.2.1.length=x.1.2.2.1.2.1.length+1:=by rw[a3];simp
 have⟨K,y,k,z⟩:=e.1 (e.2 a1 (by dsimp only;omega) (by dsimp only;omega));dsimp only at y k z;have C:p.1=(i.2.1,t.2):=by
  have:(i.2.1-i.1.1).toNat=x.1.2.2.1.2.1.length:=by omega
  rw[this,a3]at k;simpa using k.symm
 have hn:=l f;have j:=(m g).2;rw[C]at hn j;dsimp only at hn j;rw[d.1,d.2.1]at hn;rw[d.1,d.2.2.1]at j;exact⟨⟨rfl,⟨a4,Int.le_of_eq a6.symm,_,a3⟩,a1,rfl,rfl,hn,rfl,⟨h.1,by have:=hn.1;have:=h.2.1;dsimp only at*;omega,h.2.2⟩,(i.2.1,t.2),a3,a5,d.1,d.2.2.1,d.2.2.2,j⟩,a5⟩
def uA.ki{k m:AP}{z:AD}(h:uA k z m)(b:KI B k)(a:z.2.1≠1/\z.2.1≠2/\z.2.1≠6/\z.2.1≠7):KI B m:=by obtain⟨a1,_,_,a4,_,_,a7,_,e,c,g,d,i,j,f,l⟩:=h;unfold KI;rw[a1,a4,a7,c,f a.2.2.2];rw[<-d]at a;exact⟨b.1.app ⟨λh=>by omega,λh=>by omega,λh=>by omega⟩,b.2.1.app ⟨a.1,a.2.1⟩,b.2.2⟩
def uA.sk{k m:AP}{z:AD}(h:uA k z m)(a:SK B k)(b:z.2.1≠1/\z.2.1≠2/\z.2.1≠6/\z.2.1≠7):SK B m:=h.2.2.2.2.2.2.2.1.sk (h.ki a.ki b)
end Go.Pm
namespace Go.Pm
open Go Go.Ab
set_option maxHeartbeats 400000
def DI(d:BX):Prop:=d.1.length<=64/\(∀(i:Nat) (s:Bb),d.1[i]? =some s->s.length=256)/\d.2.2.1=[]/\d.2.2.2.2=[]
def VF{x:Int}{s:Int×List Bb}(h:0<=s.1/\s.1<=x/\x<=64/\s.2.length=s.1/\ ∀(i:Nat) (t:Bb),s.2[i]? =some t->t=GU (List.replicate (Int.toNat 256) 0)):A3 (Ad (LD x) s) λr=>(r.length:Int)=x/\ ∀(i:Nat) (t:Bb),r[i]? =some t->t=GU (List.replicate (Int.toNat 256) 0):=by
 refine AQ (λ(s:Int×List Bb)=>0<=s.1/\s.1<=x/\x<=64/\s.2.length=s.1/\ ∀(i:Nat) (t:Bb),s.2[i]? =some t->t=GU (List.replicate (Int.toNat 256) 0)) (λ(s:Int×List Bb)=>(x-s.1).toNat) h (λs c=>?_);unfold LD;have⟨f,g,a,j,b⟩:=c;have k:(GU (List.replicate (Int.toNat 256) 0)).length=256:=by rw[aR,I6];rfl
 repeat' with_reducible first|apply AC<;>intro d|apply AI<;>intro d|apply AA|(refine AJ ?_ (Ae ?_);rintro r ⟨hr,l,e⟩)
 all_goals first|omega|(generalize GU (List.replicate (Int.toNat 256) 0)=bs at*;simp;omega)|(generalize GU (List.replicate (Int.toNat 256) 0)=bs at*;rw[(AY (x:=s.1+1))];refine⟨⟨by omega,by omega,a,by grind,?_⟩,by omega⟩;grind)|(exact⟨by omega,b⟩)
def Qr{x:Int}(h:0<=x/\x<=64):A3 (N6 x) λr=>(r.length:Int)=x/\ ∀(i:Nat) (t:Bb),r[i]? =some t->t=GU (List.replicate (Int.toNat 256) 0):=by exact AB (VF ⟨Ak _,h.1,h.2,rfl,λi t a=>by simp at a⟩) λr hr=>AA hr
def cz{x:Int}:A3 (Jf x) λr=>r.2=0->DI r.1/\r.1.1.length=x/\ ∀(i:Nat) (t:Bb),r.1.1[i]? =some t->t=GU (List.replicate (Int.toNat 256) 0):=by refine AC (λb=>AA λa=>absurd a (by decide)) (λb=>AC (λb=>AA λa=>absurd a (by decide)) (λc=>AB (Qr (by omega)) λr hr=>AA λ_=>⟨⟨by dsimp only;omega,λi t d=>?_,rfl,rfl⟩,hr⟩));rw[hr.2 i t d,aR,I6];rfl
def Zj{x:BX×Cn}:A3 (Kk x) λr=>True:=by
 unfold Kk;repeat' with_reducible first|apply AC<;>intro a|apply AU<;>intro a|apply AI<;>intro a|(apply Az;try dsimp only)|apply BS|apply Bd|apply MJ|(apply BH;try dsimp only)|(apply A9;try dsimp only)|(apply BA<;>(intro u b;try subst b))|apply AA
 all_goals trivial
def V5{x:BX}{s:Int}(h:0<=s/\s<=x.1.length/\(x.1.length:Int)<=16777216):A3 (Ad (MM x) s) λr=>r≠ .inl true:=by
 refine AQ (λ(s:Int)=>0<=s/\s<=x.1.length/\(x.1.length:Int)<=16777216) (λ(s:Int)=>((x.1.length:Int)-s).toNat) h (λs b=>?_);unfold MM;repeat' with_reducible first|apply AC<;>intro a|apply AL<;>intro a|apply AI<;>intro a|apply AA|(refine AJ ?_ (AK ?_ ?_);rintro r ⟨hr,c⟩)
 all_goals ((try dsimp[len]at*);(try first|omega|assumption|grind[AY]))
def V6{x:BX}{s:Int}(h:0<=s/\s<=x.2.2.1.length/\(x.2.2.1.length:Int)<=16777216):A3 (Ad (MN x) s) λr=>r≠ .inl true:=by
 refine AQ (λ(s:Int)=>0<=s/\s<=x.2.2.1.length/\(x.2.2.1.length:Int)<=16777216) (λ(s:Int)=>((x.2.2.1.length:Int)-s).toNat) h (λs b=>?_);unfold MN;repeat' with_reducible first|apply AC<;>intro a|apply AI<;>intro a|apply AA|(refine AJ ?_ (AK ?_ ?_);rintro r ⟨hr,c⟩)
 all_goals ((try dsimp[len]at*);(try first|omega|assumption|grind[AY]|((try simp (disch:=omega) only[AY,len]at*)<;>(try intros)<;>(try and_intros)<;>(try intros)<;>(first|omega|assumption|grind))))
def V7{x:BX}{s:Int}(h:0<=s/\s<=x.2.2.2.2.length/\(x.2.2.2.2.length:Int)<=16777216):A3 (Ad (MO x) s) λr=>r≠ .inl true:=by
 refine AQ (λ(s:Int)=>0<=s/\s<=x.2.2.2.2.length/\(x.2.2.2.2.length:Int)<=16777216) (λ(s:Int)=>((x.2.2.2.2.length:Int)-s).toNat) h (λs b=>?_);unfold MO;repeat' with_reducible first|apply AC<;>intro a|apply AO<;>intro a|apply AI<;>intro a|apply AA|(apply AB (Zj);intro r hr)|(refine AJ ?_ (AK ?_ ?_);rintro r ⟨hr,c⟩)
 all_goals ((try dsimp[len]at*);(try first|omega|assumption|grind[AY]))
def Zh{x:BX}(h:x.2.2.1.length<=16777216):A3 (Kj x) λr=>r=true->1<=x.1.length/\x.1.length<=64:=by
 unfold Kj;repeat' with_reducible first|apply AC<;>intro a|apply AI<;>intro a|(apply BH;try dsimp only)|(apply A9;try dsimp only)|(apply BA<;>(intro u b;try subst b))|apply AA|(refine AJ ?_ (V5 ?_);intro r hr)|(refine AJ ?_ (V6 ?_);intro r hr)|(refine AJ ?_ (V7 ?_);intro r hr)
 all_goals ((try dsimp[len]at*);(try first|omega|assumption|grind[AY]))
def MS{x:BX×Int}(h:x.1.2.2.1.length<=16777216):A3 (GL x) λr=>r=0->0<=x.2/\x.2<x.1.1.length/\x.1.1.length<=64:=by
 unfold GL;repeat' with_reducible first|apply AC<;>intro a|apply AO<;>intro a|apply AI<;>intro a|apply AA|(refine AJ ?_ (Zh ?_);intro r hr)
 all_goals ((try dsimp[len]at*);(try first|omega|assumption|grind[AY]))
def Uj{x:List Int×Int}{s:Int×List Int}(h:0<=s.1/\s.1<=x.1.length/\x.1.length<=16777216/\s.2.length<=s.1):A3 (Ad (KT x) s) λr=>r.length<=x.1.length:=by
 refine AQ (λ(s:Int×List Int)=>0<=s.1/\s.1<=x.1.length/\x.1.length<=16777216/\s.2.length<=s.1) (λ(s:Int×List Int)=>((x.1.length:Int)-s.1).toNat) h (λs c=>?_);unfold KT;repeat' with_reducible first|apply AC<;>intro a|apply AL<;>intro a|apply AI<;>intro a|(apply Az;try dsimp only)|apply BS|apply Bd|apply AA|(refine AJ ?_ (AK ?_ ?_);rintro r ⟨hr,e⟩)|(refine AJ ?_ (Ae ?_);rintro r ⟨hr,d,b⟩)
 all_goals ((try dsimp[len]at*);(try first|omega|assumption|grind[AY]))
def QF{x:List Int×Int}(h:x.1.length<=16777216):A3 (E6 x) λr=>r.length<=x.1.length:=by
 unfold E6;repeat' with_reducible first|apply AA|(refine AJ ?_ (Uj ?_);intro r hr)
 all_goals ((try dsimp[len]at*);(try first|omega|assumption|grind[AY]))
def YK{x:List Int×Int}{s:Int}(h:0<=s/\s<=x.1.length/\(x.1.length:Int)<=16777216):A3 (Ad (N7 x) s) λr=>True:=by
 refine AQ (λ(s:Int)=>0<=s/\s<=x.1.length/\(x.1.length:Int)<=16777216) (λ(s:Int)=>((x.1.length:Int)-s).toNat) h (λs b=>?_);unfold N7;repeat' with_reducible first|apply AC<;>intro a|apply AU<;>intro a|apply AI<;>intro a|apply AA|(refine AJ ?_ (AK ?_ ?_);rintro r ⟨hr,c⟩)
 all_goals ((try dsimp[len]at*);(try first|omega|assumption|grind[AY]))
def c7{x:List Int×Int}(h:x.1.length<=16777216):A3 (Mq x) λr=>True:=by
 unfold Mq;repeat' with_reducible first|(apply BH;try dsimp only)|(apply A9;try dsimp only)|(apply BA<;>(intro u a;try subst a))|apply AA|(refine AJ ?_ (YK ?_);intro r hr)
 all_goals ((try dsimp[len]at*);(try first|omega|assumption|grind[AY]))
def bL{x:BX×Int}(h:DI x.1):A3 (Lk x) λr=>r.2=0->r.1.length=256/\0<=x.2/\x.1.1[x.2.toNat]? =some r.1:=by
 unfold Lk;repeat' with_reducible first|apply AL<;>intro a|apply AI<;>intro a|apply AA|(refine AJ ?_ (MS ?_);intro r hr)|(refine AJ ?_ (c7 ?_);intro r hr)|(refine AJ ?_ (AK ?_ ?_);rintro r ⟨hr,b⟩)
 all_goals ((try dsimp[len]at*);(try first|omega|assumption|grind[DI]))
def DI.set{d:BX}{l:List Bb}{i:Int}{t:Bb}{u:List Int}{w:Int}{b:Bool}(h:DI d)(c:l=d.1)(n:t.length=256)(e:u.length<=([]:List Int).length):DI (BU l i t,w,u,b,[]):=by subst c;have⟨a,f,g,k⟩:=h;refine⟨by simpa[BU]using a,λj s m=>?_,List.length_eq_zero_iff.1 (by simpa using e),rfl⟩;grind[BU]
def bM{x:BX×Int×Bb×Int}(h:DI x.1):A3 (PS x) λr=>r.2=0->DI r.1/\ ∃o,0<=x.2.1/\x.1.1[x.2.1.toNat]? =some o/\r.1.1=BU x.1.1 x.2.1 (x.2.2.1.take x.2.2.2.toNat++o.drop x.2.2.2.toNat):=by
 have⟨C,s,n,t⟩:=h;refine AB (MS (by dsimp only;rw[n];simp)) λF i=>AL (λg=>AA (λa=>absurd a g)) (λg=>?_);refine AC (λ_=>AA λa=>absurd a (by decide)) (λc0=>AC (λ_=>AA λa=>absurd a (by decide)) (λB=>AL (λ_=>AA λa=>absurd a (by decide)) (λv=>?_)));have⟨b,c,E⟩:=i g;simp only[len]at v;refine AB (Ae (by simp;omega)) λw j=>AB (Ae (by rw[n];simp)) λz k=>AB (Ae (by rw[t];simp)) λA m=>?_;have j:w=x.1.1:=by grind
 have k:z=[]:=by grind
 have m:A=[]:=by grind
 subst j k m;refine AB (Dh (Ak _)) λG e=>AB (AK b c) λH _=>AB (AK b c) λq p=>?_;have D:=s _ _ p.1;refine AB (Dh (by omega) (by simp only[len];omega) (by simp[len])) λI f=>AB (Cu (by simp only[len]at f;omega)) λJ u=>AB (AK b c) λ_ _=>AB (AK b c) λ_ _=>AB (QF (by simp)) λy d=>AA λ_=>⟨h.set rfl (by simp only[len]at f;omega) d,q,b,p.1,?_⟩
 dsimp only;rw[u.1,e.1,f.1,Bs (l:=q.drop _) (by simp[len])];simp
def whole{l:List Bb}{i:Nat}{s o a b r:Bb}(h:len s=256)(f: ∀(i:Nat) (s:Bb),l[i]? =some s->s.length=256)(hr:r=a++b)(c:a=List.take (Int.toNat 256-Int.toNat 0) (List.drop (Int.toNat 0) s))(d:b=List.take ((len o).toNat-Int.toNat 256) (List.drop (Int.toNat 256) o))(g:l[i]? =some o):r=s:=by have j:=f _ _ g;have e:List.drop (Int.toNat 256) o=[]:=fB (by simp only[Int.reduceToNat];omega);simp only[len]at h;rw[hr,c,d,e,List.take_nil,D8];exact Bs (by simp;omega)
def Zi{x:BX×Int×Bb}(h:DI x.1):A3 (Ou x) λr=>r.2=0->DI r.1/\0<=x.2.1/\r.1.1=BU x.1.1 x.2.1 x.2.2:=by
 have⟨B,o,i,j⟩:=h;refine AB (MS (by dsimp only;rw[i];simp)) λC g=>?_;refine AL (λb=>AA (λc=>absurd c b)) (λb=>?_);refine AL (λb=>AA (λc=>absurd c (by decide))) (λd=>?_);refine AU (λb=>AA (λc=>absurd c (by decide))) (λq=>?_);refine AB (Ae (by simp;omega)) λy t=>?_;refine AB (Ae (by rw[i];simp)) λz u=>?_;refine AB (Ae (by rw[j];simp)) λA v=>?_;have l:y=x.1.1:=by grind
 have m:z=[]:=by grind
 have n:A=[]:=by grind
 subst l m n;have l1: ∀s,s.1=0->Ad (MP x) s=some s.2:=λs e=>by rw[CZ];unfold MP;rw[j,e];rfl
 rw[l1 _ rfl];apply Az;have l2: ∀a s,a.1=[]->s.2.1=0->Ad (MQ x a) s=some (s.1,(s.2.2.2.2.2.2.1,(s.2.2.2.2.2.1,s.2.2.2.2.2.2.2))):=λa s f e=>by rw[CZ];unfold MQ;rw[f,e];rfl
 have w: ∀a s,a.1=[]->s.1=0->Ad (MR a) s=some (s.2.2.2.2.2.1,(s.2.2.2.2.1,s.2.2.2.2.2.2)):=λa s f e=>by rw[CZ];unfold MR;rw[f,e];rfl
 rw[l2 _ _ rfl rfl];repeat' with_reducible first|apply AC<;>intro b|apply AO<;>intro b|apply AU<;>intro b|apply AL<;>intro b|apply AI<;>intro b|(apply Az;try dsimp only)|apply BS|apply Bd|apply AA|(rw[w _ _ rfl rfl];apply Az;dsimp only)|(refine AJ ?_ (QF ?_);intro r hr)|(refine AJ ?_ (AK ?_ ?_);rintro r ⟨hr,q⟩)|(refine AJ ?_ (Ae ?_);rintro r ⟨hr,k,p⟩)|(refine AJ ?_ (Cu ?_);rintro r ⟨hr,k⟩)|(refine AJ ?_ (Dh ?_ ?_ ?_);rintro r ⟨hr,k⟩)
 all_goals first|omega|(simp;done)|(intro c;exact absurd c (by decide))|(exact λ_=>⟨h.set rfl (by grind) hr,(g (by assumption)).1,congrArg (BU _ _) (whole d o (by assumption) (by assumption) (by assumption) (by assumption))⟩)|(cases b;done)|grind
def DC(p:Ba):Nat:=p.2.1.countP λf=>f.2.1
def UC(p:Ba):Nat:=p.2.1.countP λf=>f.2.2.2
def uR{a:Type}{l:List a}{i:Nat}{o n:a}{q:a->Bool}(h:l[i]? =some o):(l.set i n).countP q+(if q o=true then 1 else 0)=l.countP q+(if q n=true then 1 else 0):=by grind
theorem Kq{x:Ba×Int×A2}(h:x.1.2.1.length<=16777216)(a:0<=x.2.1/\x.2.1<x.1.2.1.length):A3 (Hl x) λr=>r=(x.1.1,x.1.2.1.set x.2.1.toNat x.2.2,x.1.2.2):=by refine AB (Ae (by simpa using h)) λr hr=>?_;have⟨hr,b,_⟩:=hr;subst hr;refine AB (AK a.1 a.2) λ_ _=>?_;refine AB (AK a.1 a.2) λ_ _=>?_;exact AA rfl
def iw(f:A2):AZ×Bool×Int:=(f.1,f.2.1,f.2.2.1)
def CF(l:List A2):List (AZ×Bool×Int):=l.map iw
def ACB{l:List A2}{i:Nat}{f g:A2}(h:l[i]? =some f)(a:iw g=iw f):CF (l.set i g)=CF l:=by unfold CF;apply IY;grind
theorem mY{l m:List A2}(h:CF m=CF l){i:Nat}{f:A2}(a:m[i]? =some f): ∃g,l[i]? =some g/\iw g=iw f:=by
 have:(CF m)[i]? =some (iw f):=by unfold CF;rw[List.getElem?_map,a];rfl
 rw[h]at this;unfold CF at this;grind
def ACA{l m:List A2}(h:CF m=CF l):m.length=l.length:=by have:=congrArg List.length h;simpa[CF]using this
def vP{p:Ba}:DC p=(CF p.2.1).countP λc=>c.2.1:=by unfold DC CF;rw[List.countP_map];rfl
theorem Jj.congr{l m:List A2}{n:Int}(h:CF m=CF l)(d:Jj l n):Jj m n:=by refine⟨λi f r b=>?_,λi j f g c s b q=>?_⟩;have⟨g,a,o⟩:=mY h b;have:=d.1 i g r a;grind[iw,jn];have⟨e,a,o⟩:=mY h b;have⟨k,p,t⟩:=mY h q;have:=d.2 i j e k c s a p;grind[iw]
def OO.uniq{p:Ba}(h:OO p){i j:Nat}{f g:A2}(a:p.2.1[i]? =some f)(b:p.2.1[j]? =some g)(e:f.1.1=g.1.1):f=g:=by have c:=h.2.2.2.2.2.2;grind
def VI{c:List (AZ×Bool×Int)}{z:Int}{s:Ba}(h:c=CF s.2.1/\z=s.1/\0<=s.2.2/\s.2.2<s.2.1.length/\s.2.1.length<=64):A3 (Ad QI s) λr=>c=CF r.2.1/\z=r.1/\0<=r.2.2/\r.2.2<r.2.1.length/\r.2.1.length<=64:=by
 refine AQ (λs=>c=CF s.2.1/\z=s.1/\0<=s.2.2/\s.2.2<s.2.1.length/\s.2.1.length<=64) UC h (λs n=>?_);have⟨k,l,i,j,m⟩:=n;refine AB (AK i j) λf q=>?_;refine AI (λo=>?_) (λo=>AA ⟨k,l,i,j,m⟩);refine AB (AK i j) λd t=>?_;have e:d=f:=by grind
 subst e;refine AB (Kq (by dsimp only;omega) ⟨i,j⟩) λp u=>?_;subst u;refine AU (λv=>?_) (λv=>AA ?_);grind;rw[(AY (x:=s.2.2+1))];refine⟨⟨?_,l,(eu (len (s.2.1.set s.2.2.toNat (d.1,d.2.1,d.2.2.1,false))) (a:=s.2.2+1) (by omega)),(er (s.2.2+1) (b:=len (s.2.1.set s.2.2.toNat (d.1,d.2.1,d.2.2.1,false))) (by simp;omega)),by rw[fJ];exact m⟩,?_⟩;rw[k];exact(ACB (g:=(d.1,d.2.1,d.2.2.1,false)) q.1 rfl).symm;unfold UC;grind
def YU{x:Ba}:A3 (OD x) λr=>(r.2.2=0->OO x/\OO r.1/\CF r.1.2.1=CF x.2.1/\iN r.1 r.2.1)/\(OO x->x.2.1.length≠0->r.2.2=0):=by refine AB EJ λv g=>?_;refine AO (λc=>AA ⟨λa=>absurd a (by decide),λh _=>?_⟩) (λc=>?_);grind;have b:=g.1 c;have e:=b;have⟨k,l,m,i,n,o⟩:=b;refine AU (λa=>AA ⟨λa=>absurd a (by decide),λ_ h=>absurd a (by simpa[len]using h)⟩) (λa=>?_);simp only[len]at a;refine AB (VI ⟨rfl,rfl,i,by omega⟩) λp b=>?_;have⟨q1,q2,q3,q4,q5⟩:=b;refine AB (AK q3 q4) λf d=>?_;have j:=ACA q1;refine AA ⟨λ_=>⟨e,⟨by dsimp only;omega,by dsimp only;omega,by dsimp only;omega,q3,.inr q4,?_⟩,q1.symm,⟨_,f,d.1,rfl⟩⟩,λ_ _=>rfl⟩;grind[Jj.congr]
def bR{x:Ba×Int}:A3 (Lq x) λr=>OO x.1-> ∀(i:Nat) (f:A2),x.1.2.1[i]? =some f->f.1.1=x.2->f.2.1=false->(∀g∈r.1.2.1,g∈x.1.2.1)/\ ∀g∈x.1.2.1,g.2.1=true->g∈r.1.2.1:=by
 unfold Lq;refine AB EJ λv A=>?_;refine AO (λn=>AA λo=>absurd (A.2 o) (by simp[n])) (λn=>?_);have o:=A.1 n;have T:=o.2.1;have U:=o.2.2.1;refine AB (GO (by omega)) λi G=>?_;have⟨R,J,K,L⟩:=G;refine AC (λn=>AA λ_ j f p e _=>absurd ⟨j,f,p,e⟩ (L n)) (λH=>?_);have⟨k,I,t⟩:=K (by omega);refine AB (AK (by omega) J) λw Q=>?_;have B:w=k:=by grind[Option.some.inj]
 subst B;refine AI (λu=>AA λ_ j f p e l=>?_) (λu=>?_);have:=o.uniq p I (by rw[e,t]);subst this;rw[u]at l;cases l;have O:=AY (x:=i+1);refine AB (B9) λa C=>?_;refine AB (B9 (by omega) (by simp[len];omega) (by simp only[len];omega)) λb D=>?_;have S:=C.2;have M:=D.2;simp[len]at M;refine AB (Ae (by rw[CT];omega)) λc s=>?_;have N:=s.2.1;rw[CT]at N;refine AB (Ae (by omega)) λd E=>?_;have q: ∀(j:Nat) (f:A2),x.1.2.1[j]? =some f->f.1.1=x.2->f.2.1=false->(∀g∈d,g∈x.1.2.1)/\ ∀g∈x.1.2.1,g.2.1=true->g∈d:=by intro j f p e l;refine⟨λg y=>?_,λg y F=>?_⟩;grind[List.mem_of_mem_take,List.mem_of_mem_drop];have⟨m,z⟩:=EV y;rw[(by grind[List.take_of_length_le,List.length_drop]:d=x.1.2.1.take i.toNat++x.1.2.1.drop (i.toNat+1)),At];rcases PJ m i.toNat with h|h|h;exact .inl (BL (i:=m) (by rw[LY h];exact z));grind[Option.some.inj];exact .inr (BL (i:=m-(i.toNat+1)) (by rw[J6];rw[show i.toNat+1+(m-(i.toNat+1))=m by omega];exact z))
 refine AB (P:=λ_=>True) (AC (λ_=>AA trivial) (λ_=>AA trivial)) λV _=>?_;refine AB (P:=λ_=>True) (AC (λ_=>AA trivial) (λ_=>AA trivial)) λW _=>AA λ_=>q
theorem Zo{x:Ba×Int×Int}:A3 (Ov x) λr=>r.2=0->OO x.1/\DC r.1<=DC x.1/\(∀(i:Nat) (f:A2),x.1.2.1[i]? =some f->f.1.1=x.2.1->f.2.1=true->f.1.2.1=x.2.2->DC r.1<DC x.1)/\(∀g∈r.1.2.1,∃f∈x.1.2.1,f.1.1=g.1.1/\f.1=g.1)/\ ∀f∈x.1.2.1,f.1.1≠x.2.1->f∈r.1.2.1:=by
 refine AB EJ λv C=>?_;refine AO (λb=>AA (λo=>absurd o (by decide))) (λb=>?_);have l:=C.1 b;have J:=l.2.2.1;have I:=l.2.1;refine AB (GO (by dsimp only;omega)) λi B=>?_;have⟨G,D,E,H⟩:=B;refine AC (λb=>AA (λo=>absurd o (by decide))) (λb=>?_);have⟨f,c,d⟩:=E (by omega);refine AB (AK (by omega) D) λg z=>?_;have e:g=f:=by grind
 subst e;refine AC (λb=>AA (λo=>absurd o (by decide))) (λA=>?_);refine AO (λs=>AA (λ_=>⟨l,Ag _,λj k m a h _=>?_,λg z=>⟨g,z,rfl,rfl⟩,λf c _=>c⟩)) (λs=>?_);have:=l.uniq m c (by rw[a,d]);subst this;rw[s]at h;cases h;refine AB (P:=λn:A2=>(g.1.2.1=x.2.2->n.2.1=false)/\n.1=g.1) ?_ λn hn=>?_
 ·repeat' with_reducible first|refine AC ?_ ?_<;>intro b|refine AO ?_ ?_<;>intro b|refine AU ?_ ?_<;>intro b|refine AI ?_ ?_<;>intro b|(refine Az ?_;try dsimp only)|refine BS ?_|refine Bd ?_|refine AA ?_|(refine AJ ?_ (AK ?_ ?_);rintro r ⟨hr,F⟩)
  all_goals grind
 refine AB (Kq (by dsimp only;omega) ⟨by dsimp only;omega,by dsimp only;omega⟩) λp y=>?_;subst y;refine AA λ_=>?_;have u:=uR (q:=λf:A2=>f.2.1) (n:=n) c;rw[s]at u;refine⟨l,?_,λj k m a h t=>?_,wO c hn.2,λk m w=>rR c k m (by rw[d];exact w)⟩;unfold DC;dsimp only;simp at u;split at u<;>omega;have:=l.uniq m c (by rw[a,d]);subst this;rw[hn.1 t]at u;unfold DC;dsimp only;simp at u;omega
def Qq{x:AZ}:A3 (Dw x) λr=>r.2=0->Hq x/\r.1=MI x:=by have⟨v,b,h⟩:=NF (x:=x);by_cases a:v=0;exact⟨_,ma (h a),λ_=>⟨h a,rfl⟩⟩;unfold Dw;rw[b,AE];exact AL (λ_=>AA λe=>absurd e a) (λe=>absurd e a)
def vO:ID ()=some (gV 256):=by unfold ID;rw[rX (by decide)];rfl
def VE{x:Bb}{s:Int×AZ×AZ}(h:0<=s.1/\s.1<=16/\x.length=256):A3 (Ad (LB x) s) λr=> ∀u,r= .inl u->u.1=4:=by
 refine AQ (λ(s:Int×AZ×AZ)=>0<=s.1/\s.1<=16/\x.length=256) (λ(s:Int×AZ×AZ)=>(16-s.1).toNat) h (λs e=>?_);unfold LB;obtain⟨g,i,j⟩:=e;have b:=AY (x:=s.1*13);have c:=AY (x:=12+s.1*13);have d:=AY (x:=12+s.1*13+1);rw[b,c,d];repeat' with_reducible first|apply AC<;>intro a|apply AU<;>intro a|apply AI<;>intro a|apply AA|(refine AJ ?_ (DY ?_ ?_);intro r hr)|(refine AJ ?_ (Dh ?_ ?_ ?_);rintro r ⟨hr,f⟩)|(refine AJ ?_ (Si ?_ ?_);rintro r ⟨hr,f⟩)
 all_goals try dsimp only[len]at*
 all_goals first|omega|grind[AY]
def YJ{x:Bb}(h:x.length<=1099511627776):A3 (Jp x) λr=>(r.2=0->Hq r.1/\x=MI r.1/\x≠gV 256)/\(r.2=7->x=gV 256):=by
 unfold Jp;rw[vO,AE];repeat' with_reducible first|apply AU<;>intro b|apply AL<;>intro b|apply AI<;>intro b|(apply BH;try dsimp only)|(apply A9;try dsimp only)|(apply BA<;>(intro u c;try subst c))|apply AA|(refine AJ ?_ (CU ?_);intro r hr)|(refine AJ ?_ (Ot ?_);intro r hr)|(refine AJ ?_ (VE ?_);intro r hr)|(apply AB (Qq);intro r hr)|(refine AJ ?_ (Dh ?_ ?_ ?_);rintro r ⟨hr,d⟩)
 all_goals try dsimp only[len]at*
 all_goals first|trivial|omega|(exact⟨λa=>absurd a (by decide),λa=>absurd a (by decide)⟩)|grind
def cy{x:Int}:A3 (Hj x) λr=>r=(x,(0,JR.all (false,[]))):=by
 unfold Hj;repeat' with_reducible first|apply AA
 all_goals trivial
def Rd(s:Bb)(p:Int)(q:AZ):Prop:=q.1=p/\((s=gV 256/\q=(p,(0,JR.all (false,[]))))\/(Hq q/\s=MI q/\s≠gV 256))
def V3{x:Bb×Int}(h:x.1.length<=1099511627776):A3 (MK x) λr=>r.2=0->Rd x.1 x.2 r.1:=by refine AC (λ_=>AA λa=>absurd a (by decide)) (λ_=>AC (λ_=>AA λa=>absurd a (by decide)) (λ_=>AB (YJ h) λv c=>AU (λd=>?_) (λ_=>AU (λf=>AL (λ_=>AA λa=>absurd a (by decide)) (λb=>AA λa=>⟨b,.inr (c.1 a)⟩)) (λhn=>AA λa=>absurd a hn))));exact AB cy λw e=>AA λ_=>by rw[e];exact⟨rfl,.inl ⟨c.2 d,rfl⟩⟩
def Zq{x:BY×Int×Int×Bb}(h:x.2.2.2.length<=1099511627776):A3 (Kr x) λr=>r.2=0->Rd x.2.2.2 x.2.1 r.1:=by
 unfold Kr;repeat' with_reducible first|apply AC<;>intro a|apply AO<;>intro a|apply AL<;>intro a|apply AI<;>intro a|apply AA|(apply AB (Fv);intro r hr)|(refine AJ ?_ (V3 ?_);intro r hr)|(refine AJ ?_ (AK ?_ ?_);rintro r ⟨hr,c⟩)
 all_goals try dsimp only[len]at*
 all_goals first|assumption|omega|(intro b;exact absurd b (by assumption))|(intro b;exact absurd b (by decide))|(intro _;exact hr (by assumption))|grind
def R0{x:AZ×De}:A3 (IF x) λr=>(r.2=0->Nu x.2/\GX x.1.2.2 x.2.2.1=some x.2.2.2.1)/\(Nu x.2->x.2.1=x.1.1->GX x.1.2.2 x.2.2.1=some x.2.2.2.1->r=((x.1.1,(x.1.2.1,U3 x.1.2.2 x.2.2.1 x.2.2.2.2)),0)):=by unfold IF;refine AB R1 λv g=>AO (λe=>AA ⟨λf=>absurd f (by decide),λh=>absurd (g.2 h) (by simp[e])⟩) (λe=>?_);have b:=g.1 e;refine AL (λe=>AA ⟨λf=>absurd f (by decide),λ_ h=>absurd h e⟩) (λj=>?_);obtain⟨c,i,_⟩:=DY (a:=x.1.2.2) b.2.2.1 b.2.2.2.1;rw[i];refine Az (Az (AI (λd=>AA ⟨λf=>absurd f (by decide),λ_ _ h=>?_⟩) (λd=>Az (Az (AA ⟨λ_=>⟨b,?_⟩,λ_ _ _=>rfl⟩)))));rw[Cl h]at d;simp at d;obtain⟨k,l⟩:=c;simp at d;rw[d.1,d.2]
def AAG{x:AZ}{e:AD}(h:Hq x)(d:K8 e)(f:e.2.1=1\/e.2.1=2)(b:e.2.2.2.2.2.2.1.1=x.1)(g:e.2.2.2.2.1=x.2.1)(c:GX x.2.2 e.2.2.2.2.2.2.1.2.1=some e.2.2.2.2.2.2.1.2.2.1):Kz (x,e)=some (upd x e,0):=by
 suffices i:A3 (Kz (x,e)) λr=>r=(upd x e,0) by obtain⟨r,hr,rfl⟩:=i;exact hr
 have a:Nu e.2.2.2.2.2.2.1:=by grind[K8,TI]
 refine AB B7 λv j=>AO (λa=>absurd (j.2 d) (by simp[a])) (λ_=>AB B4 λw k=>AO (λa=>absurd (k.2 f) (by simp[a])) (λ_=>?_));rw[mZ h];refine Az (AL (λa=>absurd rfl a) (λ_=>AL (λa=>absurd b a) (λ_=>AL (λa=>absurd g a) (λ_=>AB R0 λr hr=>?_))));rw[hr.2 a b c];exact AL (λa=>absurd rfl a) (λ_=>AA rfl)
def Zl{x:AD×List AD}(h:x.2.length<=16777215):A3 (Km x) λr=>r=x.1::x.2:=by
 unfold Km;repeat' with_reducible first|apply AA|(refine AJ ?_ (Ae ?_);rintro r ⟨hr,b,a⟩)
 all_goals first|(simp at*;omega)|(simp at*;done)
def QZ(L:List AD):Prop:= ∀(i:Nat) (e:AD),L[i]? =some e->e.1=1+i/\K8 e
def Du.num{l:Aj}(h:Du l)(a:l.1=1):QZ l.2.1:=λi e b=>by have:=h.2.2.2.2.2 i e b;rw[a]at this;exact this
def QZ.take{L:List AD}(h:QZ L)(k:Nat):QZ (L.take k):=λi e a=>h i e (by grind)
def aB{L:List AD}{k:Nat}(h:k<L.length):L.take (k+1)=L.take k++[L[k]]:=by rw[Ed,Aw h];rfl
def QZ.at{L:List AD}(h:QZ L){k:Nat}(a:k<L.length):L[k].1=1+k/\K8 L[k]:=h k _ (Aw a)
def fW{L:List AD}(h:QZ L)(p:Int):Bu L p<=L.length:=by
 have:=jC (p:=p) (b:=L.length+1) L 0 (by omega) λe c=>by have⟨i,a⟩:=EV c;have:=(h i e a).1;have:=EB a;omega
 unfold Bu;omega
def Pu{L:List AD}(h:QZ L)(p:Int)(j:Nat): ∀k:Nat,j<=k->Bu (L.take j) p<=Bu (L.take k) p
 |0,hj=>by rw[show j=0 by omega];exact Ak _
 |k+1,hj=>by by_cases e:j=k+1;rw[e];exact Ak _;have c:=Pu h p j k (by omega);by_cases a:k<L.length;rw[aB a,OM];have b:=fW (h.take k) p;have d:=(h.at a).1;rw[Bh]at b;split<;>omega;rw[Bs (l:=L) (i:=k+1) (by omega)];rwa [Bs (l:=L) (i:=k) (by omega)]at c
def qx{L:List AD}(h:QZ L){p:Int}{i:Nat}{e:AD}(a:L[i]? =some e)(c:aF p e=true){k:Nat}(d:i<k):e.1<=Bu (L.take k) p:=by have b:=EB a;have:=Pu h p (i+1) k d;rw[aB b,OM,(Cl ((Aw b).symm.trans a):L[i]=e),if_pos c]at this;exact this
def pq{L:List AD}(h:QZ L){p:Int}{j k:Nat}(g:Bu (L.take j) p=Bu (L.take k) p):((L.take k).drop j).filter (aF p)=[]:=by refine List.filter_eq_nil_iff.2 λe f d=>?_;obtain⟨i,a⟩:=EV f;rw[J6]at a;have b:=EB a;rw[Bh]at b;rw[LY (by omega)]at a;have:=qx h a d (k:=k) (by omega);have c:=fW (h.take j) p;have:=(h _ _ a).1;rw[Bh]at c;omega
def oU(L:List AD){j k:Nat}(h:j<=k):L.take k=L.take j++(L.take k).drop j:=by
 conv=>lhs;rw[<-Ee j (L.take k)]
 rw[KJ,PK h]
def je{L:List AD}{p:Int}{j k:Nat}(h:j<=k):st (L.take k) p=(((L.take k).drop j).filter (aF p)).foldl upd (st (L.take j) p):=by
 conv=>lhs;rw[oU L h]
 exact wQ _ _ _
def jd{L:List AD}(h:QZ L){p:Int}{j k:Nat}(b:Bu (L.take j) p=Bu (L.take k) p):st (L.take j) p=st (L.take k) p:=by rcases Nat.le_total j k with a|a;rw[je a,pq h b];rfl;rw[je a,pq h b.symm];rfl
def mO{L:List AD}(h:QZ L){p:Int}: ∀{k:Nat},0<Bu (L.take k) p-> ∃(i:Nat) (e:AD),i<k/\L[i]? =some e/\aF p e=true/\(i:Int)+1=Bu (L.take k) p
 |0,hk=>absurd hk (by simp[Bu])
 |k+1,hk=>by by_cases b:k<L.length;rw[aB b,OM]at hk⊢;by_cases a:aF p L[k]=true;rw[if_pos a];exact⟨k,L[k],by omega,Aw b,a,by have:=(h.at b).1;omega⟩;rw[if_neg a]at hk⊢;obtain⟨i,e,d,r⟩:=mO h hk;exact⟨i,e,by omega,r⟩;rw[Bs (l:=L) (i:=k+1) (by omega)]at hk⊢;rw[<-Bs (l:=L) (i:=k) (by omega)]at hk;obtain⟨i,e,d,f,g,c⟩:=mO h hk;rw[Bs (l:=L) (i:=k) (by omega)]at c;exact⟨i,e,by omega,f,g,c⟩
def fX{L:List AD}(h:QZ L)(p:Int)(k:Nat):0<=Bu (L.take k) p:=Pu h p 0 k (Bt _)
def fY{L:List AD}(h:QZ L){p:Int}{k:Nat}:Bu (L.take (Bu (L.take k) p).toNat) p=Bu (L.take k) p:=by
 have f:=fX h p k;by_cases d:Bu (L.take k) p=0;rw[d];rfl;obtain⟨i,e,g,a,c,hn⟩:=mO h (by omega:0<Bu (L.take k) p);have b:(Bu (L.take k) p).toNat=i+1:=by omega
 have:=qx h a c (k:=i+1) (by omega);have:=fW (h.take (i+1)) p;have:=(h i e a).1;rw[b];rw[Bh]at*;omega
def jc{L:List AD}(h:QZ L){p:Int}(b:0<=p/\p<64)(d:L.length<=1099511627776): ∀k:Nat,Hq (st (L.take k) p)
 |0=>⟨b.1,b.2,Ak 0,(by decide:(0:Int)<=1099511627776),λi=>⟨⟨Bt 12,.inr rfl⟩,λ_=>rfl⟩⟩
 |k+1=>by
  have a:=jc h b d k;by_cases c:k<L.length;rw[aB c,vM];split;rename_i m;have⟨g,j⟩:=h.at c;have e:Nu L[k].2.2.2.2.2.2.1:=by grind[K8,TI,aF]
  refine⟨a.1,a.2.1,by show 0<=L[k].1;omega,by show L[k].1<=_;omega,λi=>⟨?_,λf=>?_⟩⟩;show IA (U3 _ _ _ i);unfold U3;split;exact e.2.2.2.2.2;exact(a.2.2.2.2 i).1;have:L[k].1=0:=f;omega;exact a;rw[Bs (l:=L) (i:=k+1) (by omega)];rwa [Bs (l:=L) (i:=k) (by omega)]at a
def xw:AZ->List AD->Prop
 |_,[]=>True
 |x,e::r=>(Hq x/\K8 e/\(e.2.1=1\/e.2.1=2)/\e.2.2.2.2.2.2.1.1=x.1/\e.2.2.2.2.1=x.2.1/\GX x.2.2 e.2.2.2.2.2.2.1.2.1=some e.2.2.2.2.2.2.1.2.2.1)/\xw (upd x e) r
def xw.snoc: ∀{x:AZ} {l:List AD} {e:AD},xw x l->xw (l.foldl upd x) [e]->xw x (l++[e])
 |_,[],_,_,h=>h
 |_,_::_,_,h,g=>⟨h.1,xw.snoc h.2 g⟩
def uo{n:Int}{L:List AD}(h:QZ L)(g:LI n L){p:Int}(o:0<=p/\p<64)(m:L.length<=1099511627776)(j:Nat): ∀k:Nat,j<=k->xw (st (L.take j) p) (((L.take k).drop j).filter (aF p))
 |0,hj=>by rw[show j=0 by omega];exact trivial
 |k+1,hj=>by
  by_cases e:j=k+1;rw[e,Yt (by rw[Bh];omega)];exact trivial;have c:=uo h g o m j k (by omega);by_cases b:k<L.length;rw[aB b,jx (by rw[Bh];omega),IZ,Tn,fD];split;rename_i q;refine c.snoc ⟨?_,trivial⟩;rw[<-je (by omega)];have r:=g k _ (Aw b);have a:(L[k].2.1=1\/L[k].2.1=2)/\L[k].2.2.2.2.2.2.1.1=p:=by simpa[aF]using q
  have⟨d,f⟩:=r.1 a.1;rw[a.2]at d f;exact⟨jc h o m k,(h.at b).2,a.1,by rw[a.2,eQ],by rw[d,QW],f⟩;rw[D8];exact c;rw[Bs (l:=L) (i:=k+1) (by omega)];rwa [Bs (l:=L) (i:=k) (by omega)]at c
def mK{L:List AD}(h:QZ L){p:Int}{m j k:Nat}(l:m<=j)(n:Bu (L.take m) p=Bu (L.take j) p):((L.take k).drop m).filter (aF p)=((L.take k).drop j).filter (aF p):=by rw[<-Ee (j-m) ((L.take k).drop m),IZ,Of,show m+(j-m)=j by omega];refine(congrArg (· ++_) (List.filter_eq_nil_iff.2 λe g f=>?_)).trans (Cy _);obtain⟨i,a⟩:=EV g;have c:=EB a;rw[Bh]at c;rw[LY (by omega),J6]at a;have b:=EB a;rw[Bh]at b;rw[LY (by omega)]at a;have:=qx h a f (k:=j) (by omega);have d:=fW (h.take m) p;have:=(h _ _ a).1;rw[Bh]at d;omega
def AC3{n:Int}{l:Aj}(t:Du l)(C:l.1=1)(I:LI n l.2.1){p:Int}(T:0<=p/\p<64){j k:Nat}(A:Bu (l.2.1.take j) p<=Bu (l.2.1.take k) p):A3 (PU (l,(p,(Bu (l.2.1.take k) p,Bu (l.2.1.take j) p)))) λr=>r=(((l.2.1.take k).drop j).filter (aF p),0):=by
 have b:=t.num C;have O:=fX b p k;have Q:=fX b p j;have R:=t.2.2.1;refine AB Bo λv B=>AO (λa=>absurd (B.2 t) (by simp[a])) (λ_=>?_);refine AC (λa=>absurd a (by dsimp only;omega)) (λ_=>AC (λa=>absurd a (by dsimp only;omega)) (λ_=>AC (λa=>absurd a (by dsimp only;omega)) (λ_=>AC (λa=>absurd a (by dsimp only;omega)) (λ_=>?_))));refine AB (P:=λr=>r= .inr (((l.2.1.take k).drop j).filter (aF p),Bu (l.2.1.take j) p)) ?_ λr hr=>?_
 ·refine Gf (λ(s:List AD×Int)=> ∃m:Nat,m<=k/\s=(((l.2.1.take k).drop m).filter (aF p),Bu (l.2.1.take m) p)/\Bu (l.2.1.take j) p<=s.2) (λs=>s.2.toNat) ⟨k,Ag _,by rw[Yt (by rw[Bh];omega)];rfl,A⟩ ?_;rintro s ⟨m,S,rfl,x⟩;unfold R3;dsimp only at x⊢;refine AC (λa=>?_) (λa=>A3.done ?_)
  ·obtain⟨i,e,K,q,o,J⟩:=mO b (by omega:0<Bu (l.2.1.take m) p);have z:=EB q;have c:(e.2.1=1\/e.2.1=2)/\e.2.2.2.2.2.2.1.1=p:=by simpa[aF]using o
   refine AB Gk λg D=>?_;have F:=D.2 t (by dsimp only;omega) (by dsimp only;omega);have⟨_,_,u,_⟩:=D.1 F;dsimp only at u;rw[C,show(Bu (l.2.1.take m) p-1).toNat=i by omega,q]at u;rw[F,<-Cl u];refine AL (λa=>absurd rfl a) (λ_=>AB B4 λw N=>AO (λa=>absurd (N.2 c.1) (by simp[a])) (λ_=>AL (λa=>absurd c.2 a) (λ_=>?_)));have y:=LZ (aF p) ((l.2.1.take k).drop m);rw[G6,Bh]at y;have d:=((I i e q).1 c.1).1;rw[c.2]at d;have E:=fY b (p:=p) (k:=m);rw[show(Bu (l.2.1.take m) p).toNat=i+1 by omega]at E;have L:=fY b (p:=p) (k:=j);have M:=Pu b p (Bu (l.2.1.take j) p).toNat i (by omega);refine AB (Zl (by dsimp only;omega)) λf H=>A3.next ⟨i,by omega,?_,by dsimp only;omega⟩ (by dsimp only;rw[d];have:=fW (b.take i) p;rw[Bh]at this;omega)
   rw[d,H,<-mK b (m:=i+1) (j:=m) (by omega) E,VY (l:=l.2.1.take k) (i:=i) (by rw[Bh];omega),Tn];have G:(l.2.1.take k)[i]'(by rw[Bh];omega)=e:=by rw[List.getElem_take];exact Cl ((Aw z).symm.trans q)
   rw[G,if_pos o]
  have e:Bu (l.2.1.take m) p=Bu (l.2.1.take j) p:=by omega
  rw[e];rcases Nat.le_total m j with h|h;rw[mK b h e];rw[mK b h e.symm]
 subst hr;exact A9 (AC (λa=>absurd a (by dsimp only;omega)) (λ_=>AA rfl))
def ACM{n:Int}{l:Aj}(f:Du l)(C:l.1=1)(F:LI n l.2.1){p:Int}(t:0<=p/\p<64){j k:Nat}:A3 (Pd (l,(st (l.2.1.take j) p,Bu (l.2.1.take k) p))) λr=>r=(if Bu (l.2.1.take j) p<=Bu (l.2.1.take k) p then st (l.2.1.take k) p else st (l.2.1.take j) p,0):=by
 generalize G:(if Bu (l.2.1.take j) p<=Bu (l.2.1.take k) p then st (l.2.1.take k) p else st (l.2.1.take j) p)=y;have d:=f.num C;have S:=fX d p k;have T:=f.2.2.1;have q:=jc d t (by omega);suffices Q:A3 (Pe (l,(st (l.2.1.take j) p,Bu (l.2.1.take k) p))) λr=>r.1=y/\r.2.2=0 from AB Q λr hr=>AA (by rw[hr.1,hr.2]);refine AB (P:=λr=> ∃b:List AD,r=(b,0)/\b.length<=4096/\xw (st (l.2.1.take j) p) b/\b.foldl upd (st (l.2.1.take j) p)=y) ?_ λr hr=>?_;refine AB Bo λv w=>AO (λa=>absurd (w.2 f) (by simp[a])) (λ_=>?_);rw[mZ (q j)];refine Az (AL (λa=>absurd rfl a) (λ_=>AC (λa=>absurd a (by dsimp only;omega)) (λ_=>AC (λa=>AA ?_) (λa=>?_))));rw[QW]at a;refine⟨[],rfl,by simp,trivial,?_⟩;rw[<-G];split;exact jd d (by dsimp only at a;omega);rfl;rw[QW]at a;have c:j<=k:=by rcases Nat.le_total j k with h|h;exact h;have:=Pu d p k j h;dsimp only at a;omega
 have e:((st (l.2.1.take j) p).1,(Bu (l.2.1.take k) p,(st (l.2.1.take j) p).2.1))=(p,(Bu (l.2.1.take k) p,Bu (l.2.1.take j) p)):=by rw[eQ,QW]
 dsimp only at e⊢;rw[e];refine AB (AC3 f C F t (by dsimp only at a;omega)) λr hr=>AA ⟨_,hr,?_,uo d F t (by omega) j k c,by rw[<-G,if_pos (by dsimp only at a;omega)];exact(je c).symm⟩;have o:=LZ (aF p) ((l.2.1.take k).drop j);rw[G6,Bh]at o;omega
 ·obtain⟨b,rfl,m,O,u⟩:=hr;refine AL (λa=>absurd rfl a) (λ_=>AB (P:=λr=> ∃z,r= .inr (y,z)) ?_ λr hr=>?_)
  ·refine Gf (λ(s:Int×AZ×AZ)=> ∃A B,b=A++B/\s.1=A.length/\xw s.2.1 B/\B.foldl upd s.2.1=y) (λ(s:Int×AZ×AZ)=>((b.length:Int)-s.1).toNat) ⟨[],b,rfl,rfl,O,u⟩ ?_;rintro⟨i,x,z⟩ ⟨A,B,rfl,D,E,g⟩;dsimp only at D E g;subst D;unfold R6;dsimp only[len];rw[Af]at m;refine AC (λa=>?_) (λa=>A3.done ?_)
   ·obtain _|⟨e,B⟩:=B;simp at a;have R:ix (A++e::B) (A.length:Int)=some e:=by unfold ix;rw[if_pos (by omega),Df,Cb (Ag _),G3];rfl
    obtain⟨⟨H,I,J,K,L,M⟩,N⟩:=E;rw[R,AE,AAG H I J K L M,AE,AY (x:=(A.length:Int)+1)];refine AL (λa=>absurd rfl a) (λ_=>A3.next ⟨A++[e],B,by simp,by simp,N,g⟩ (by dsimp only;omega))
   obtain _|⟨e,B⟩:=B;exact⟨z,by rw[<-g];rfl⟩;simp at a;omega
  obtain⟨z,rfl⟩:=hr;exact A9 (AA ⟨rfl,rfl⟩)
variable {B:Int->Prop}
def KS(B:Int->Prop)(k m:AP):Prop:=letI a:=m.2.2;m.1=k.1/\LX k.2.2.1 a.1/\Du a.1/\a.2.2.1=k.2.2.2.2.1/\a.2.2.2.1=k.2.2.2.2.2.1/\SK B m
def KS.refl{k:AP}(h:SK B k)(a:Du k.2.2.1):KS B k k:=⟨rfl,LX.refl _,a,rfl,rfl,h⟩
def KS.trans{a b c:AP}(h:KS B a b)(g:KS B b c):KS B a c:=letI d:=g.2.2;⟨g.1.trans h.1,h.2.1.trans g.2.1,d.1,d.2.1.trans h.2.2.2.1,d.2.2.1.trans h.2.2.2.2.1,d.2.2.2⟩
def LX.of{a b:Aj}(h:b.1=a.1)(g:b.2.1=a.2.1)(d:a.2.2<=b.2.2):LX a b:=⟨h,d,[],by rw[g,D8]⟩
def KI.of{k m:AP}(h:KI B k)(a:m.1=k.1)(b:m.2.2.1.2.1=k.2.2.1.2.1)(c:m.2.2.2.1=k.2.2.2.1)(d:m.2.2.2.2.2.2=k.2.2.2.2.2.2):KI B m:=by unfold KI;rw[a,b,c,d];exact h
def mc{x:Aj×Int}(h:Du x.1)(c:x.2<=x.1.1+x.1.2.1.length-1):A3 (EG x) λr=>r.2=0:=by refine AB Bo λv d=>AO (λa=>?_) (λ_=>?_);grind;refine AB EX λe b=>?_;rw[h.last]at b;exact AC (λa=>absurd a (by omega)) (λ_=>AA rfl)
def JI{x:AP×Int}(h:SK B x.1)(c:Du x.1.2.2.1):A3 (Fl x) λr=>KS B x.1 r/\r.2.2.2.1=x.1.2.2.2.1/\(x.2<=x.1.2.2.1.1+x.1.2.2.1.2.1.length-1->x.2<=r.2.2.1.2.2):=by unfold Fl;refine AB GN λv d=>?_;have d:=d c;refine AB (JF.and (mc c (by dsimp only;split<;>omega))) λw a=>?_;have⟨i,e,j,k,f⟩:=a.1 a.2;refine BS (AU (λb=>AA ⟨⟨rfl,LX.of j e k,i,rfl,rfl,SB.sk h.sb (h.ki.of rfl e rfl rfl)⟩,rfl,λg=>?_⟩) (λb=>absurd a.2 b));dsimp only at f⊢;split at f<;>omega
theorem XA{x:AP×Int×Int}(h:SK B x.1)(p: ∃f∈x.1.2.2.2.1.2.1,f.1.1=x.2.1/\f.1.2.1=x.2.2):A3 (JK x) λr=>r.2=0->VK x.1/\KS B x.1 r.1/\DC r.1.2.2.2.1<=DC x.1.2.2.2.1/\ ∀(i:Nat) (f:A2),x.1.2.2.2.1.2.1[i]? =some f->f.1.1=x.2.1->f.2.1=true->f.1.2.1=x.2.2->DC r.1.2.2.2.1<DC x.1.2.2.2.1:=by unfold JK;refine AB (Bp h.sb) λv O=>?_;refine AO (λb=>AA (λc=>absurd c (by decide))) (λb=>?_);have A:=O b;refine AC (λb=>AA (λc=>absurd c (by decide))) (λ_=>?_);refine AC (λb=>AA (λc=>absurd c (by decide))) (λ_=>?_);refine AC (λb=>AA (λc=>absurd c (by decide))) (λ_=>?_);refine AB GN λ_ _=>?_;refine AC (λb=>AA (λc=>absurd c (by decide))) (λ_=>?_);refine AB FO λi L=>?_;refine AB (P:=λs=>(∃u,s= .inl u/\u.1≠0)\/ ∃u,s= .inr u/\(DC u.1<=DC x.1.2.2.2.1/\ ∀(i:Nat) (f:A2),x.1.2.2.2.1.2.1[i]? =some f->f.1.1=x.2.1->f.2.1=true->f.1.2.1=x.2.2->DC u.1<DC x.1.2.2.2.1)/\(∀g∈u.1.2.1,∃f∈x.1.2.2.2.1.2.1,f.1.1=g.1.1/\f.1=g.1)/\ ∀f∈x.1.2.2.2.1.2.1,f.1.1≠x.2.1->f∈u.1.2.1) ?_ λs N=>?_;refine AC (λb=>?_) (λb=>AA (.inr ⟨_,rfl,⟨Ag _,λj f M q _ _=>absurd (L.2.2.2 A.2.2.2.1 ⟨j,f,M,q⟩) b⟩,λg K=>⟨g,K,rfl,rfl⟩,λf n _=>n⟩));grind[AB,Zo,AL,AA];rcases N with⟨u,rfl,t⟩|⟨u,rfl,t,m,y⟩;exact BH (AA λc=>absurd c t);refine A9 ?_;refine AB (Fk h.sb) λa J=>?_;refine AL (λb=>AA (λc=>absurd c b)) (λb=>AA λ_=>?_);have⟨_,⟨a1,a2,a3,a4,a5,a6,a7,a8,e,E,Q,F,o,R,S,G⟩,_⟩:=J b;have⟨f,n,H,I⟩:=p;have⟨q0,w,C,D⟩:=G rfl;have T:=h.ki.2.2 f n;have d:=congrArg (λz=>z.2.1) ((h.ki.2.1 x.2.1 (by omega) (by omega)).1 f n H);rw[QW]at d;refine⟨A,⟨a1,a2,a3,a5,a6.2.1 rfl,a8.1,a8.2.1,a8.2.2,?_⟩,t⟩;unfold KI;dsimp only at F o C D⊢;rw[a1,a7,E,D];have k:=congrArg (λz=>z.1) o;have l:=congrArg (λz=>z.2.1.1) o;dsimp only at k l;refine⟨h.ki.1.app ⟨λh=>by omega,λ_=>?_,λh=>by omega⟩,(h.ki.2.1.written (by omega) (by omega) (by omega) m y C).app ⟨by omega,by omega⟩,h.ki.2.2.sub m⟩;rw[k,l,<-I];exact d
def bV{x:AP}(h:SK B x):A3 (Lt x) λr=>r.2.2.2=0->VK x/\KS B x r.1/\(r.2.2.1=true->DC r.1.2.2.2.1=DC x.2.2.2.1/\ ∃(i:Nat) (f:A2),r.1.2.2.2.1.2.1[i]? =some f/\f.1=r.2.1/\f.2.1=true/\r.2.1.2.1<=r.1.2.2.1.2.2):=by
 unfold Lt;refine AB (Bp h.sb) λv M=>?_;refine AO (λn=>AA (λt=>absurd t (by decide))) (λn=>?_);have c:=M n;refine AC (λn=>AA (λ_=>⟨c,KS.refl h c.2.2.1,λt=>by cases t⟩)) (λm=>?_);refine AB YU λw D=>?_;have⟨_,F,O,P⟩:=D.1 (D.2 c.2.2.2.1 (by have:=c.2.2.2.1.1;simp[len]at m;omega));have G: ∀g∈w.1.2.1,∃f∈x.2.2.2.1.2.1,iw g=iw f:=λg b=>by grind[List.getElem?_of_mem,mY,List.mem_of_getElem?]
 have H: ∀f∈x.2.2.2.1.2.1,∃g∈w.1.2.1,iw g=iw f:=λf l=>by grind[List.getElem?_of_mem,mY,List.mem_of_getElem?]
 have u: ∀{f g:A2},iw f=iw g->f.1=g.1/\f.2.1=g.2.1:=λe=>⟨congrArg (λz=>z.1) e,congrArg (λz=>z.2.1) e⟩
 have k1: ∀g∈w.1.2.1,∃f∈x.2.2.2.1.2.1,f.1.1=g.1.1/\f.1=g.1:=λg b=>by have⟨f,l,e⟩:=G g b;exact⟨f,l,by rw[(u e).1],by rw[(u e).1]⟩
 have N: ∀f∈x.2.2.2.1.2.1,f.2.1=true-> ∃g∈w.1.2.1,g.1.1=f.1.1/\g.2.1=true:=λf l y=>by have⟨g,b,e⟩:=H f l;exact⟨g,b,by rw[(u e).1],by rw[(u e).2,y]⟩
 refine AB FO λi A=>?_;have E:=A.2.2.2 F P;refine AB (AK E A.2.1) λf l=>?_;have a:KI B (x.1,(x.2.1,(x.2.2.1,(w.1,x.2.2.2.2)))):=⟨h.ki.1,h.ki.2.1.frames k1 N,h.ki.2.2.sub k1⟩
 apply AO<;>intro n;have⟨_,L,o,J⟩:=A.2.2.1 E;have K:L=f:=by have:=l.1;rw[o]at this;exact Cl this
 subst K;refine AB bR λd y=>AA λ_=>⟨c,⟨rfl,LX.refl _,c.2.2.1,rfl,rfl,h.1,h.2.1,h.2.2.1,?_⟩,λt=>by cases t⟩
 have⟨C,I⟩:=y F _ _ o J n;exact⟨h.ki.1,a.2.1.frames (λg b=>⟨g,C g b,rfl,rfl⟩) (λg b s=>⟨g,I g b s,rfl,s⟩),a.2.2.sub λg b=>⟨g,C g b,rfl,rfl⟩⟩;refine AB (JI (SB.sk ⟨h.1,h.2.1,h.2.2.1⟩ a) c.2.2.1) λk j=>AA λ_=>⟨c,j.1,λ_=>⟨?_,i.toNat,f,?_,rfl,n,j.2.2 ?_⟩⟩
 rw[j.2.1,vP,vP,O];rw[j.2.1];exact l.1;have q:=BL l.1;have p:=a.2.2 f q;have:=congrArg (λz=>z.2.1) ((a.2.1 f.1.1 p.1 p.2.1).1 f q rfl);dsimp only at this⊢;rw[this,QW];have:=fV c.2.2.1 f.1.1;omega
def ACL(P:List AD)(p:Int)(s:Bb):Prop:=s=gV 256\/ ∃j:Nat,s=MI (st (P.take j) p)
def dead(s:Bb):Prop:=s≠gV 256/\ ∀q,Hq q->s≠MI q
def DP(B:Int->Prop)(P:List AD)(d:BX):Prop:=DI d/\ ∀(i:Nat) (s:Bb),d.1[i]? =some s->(B i->ACL P i s)/\(B i\/dead s)
def dl(l:Aj):List AD:=l.2.1.take l.2.2.toNat
def DJ(B:Int->Prop)(l:Aj)(d:BX):Prop:=l.1=1/\DP B (dl l) d
def DP.up{P Q:List AD}{d:BX}{m:Nat}(h:DP B P d)(e:P=Q.take m):DP B Q d:=⟨h.1,λi s a=>⟨λb=>by rcases(h.2 i s a).1 b with q|⟨j,q⟩;exact .inl q;rw[e,KJ]at q;exact .inr ⟨_,q⟩,(h.2 i s a).2⟩⟩
def DJ.up{a b:Aj}{d:BX}(h:DJ B a d)(g:LX a b):DJ B b d:=by obtain⟨c,f,t,e⟩:=g;refine⟨c.trans h.1,h.2.up (m:=min a.2.2.toNat a.2.1.length) ?_⟩;unfold dl;rw[e,KJ,PK (by omega),aI (by omega),Nat.min_comm,<-KJ,Bs (l:=a.2.1.take _) (by rw[Bh];omega)]
def zq{L:List AD}(h:QZ L){p d:Int}(f:Bu L p<=d):st (L.take d.toNat) p=st L p:=by
 have e:=HT (l:=L);have a:=fY h (p:=p) (k:=L.length);rw[e]at a;have b:=Pu h p (Bu L p).toNat d.toNat (by omega)
 have c:Bu (L.take d.toNat) p<=Bu L p:=by rcases Nat.le_total d.toNat L.length with q|q;have:=Pu h p _ _ q;rwa [e]at this;rw[Bs q];exact Ak _
 have:=jd h (p:=p) (j:=d.toNat) (k:=L.length) (by rw[e];omega);rwa [e]at this
def R8{x:AS×AP×AZ}(h:SK B x.2.1)(A:Du x.2.1.2.2.1)(l:DJ B x.2.1.2.2.1 x.1.2)(n: ∃f∈x.2.1.2.2.2.1.2.1,f.1=x.2.2)(y:x.2.2.2.1<=x.2.1.2.2.1.2.2):A3 (K4 x) λr=>r.2=0->KS B x.2.1 r.1.1/\DJ B r.1.1.2.2.1 r.1.2/\DC r.1.1.2.2.2.1<=DC x.2.1.2.2.2.1/\((∃(i:Nat) (f:A2),x.2.1.2.2.2.1.2.1[i]? =some f/\f.1=x.2.2/\f.2.1=true)->DC r.1.1.2.2.2.1<DC x.2.1.2.2.2.1):=by
 have⟨f,m,b⟩:=n;have a:=h.ki.2.2 f m;have c:=(h.ki.2.1 f.1.1 a.1 a.2.1).1 f m rfl;refine Dr Qq λv G _=>AB (Zi l.2.1) λw L=>AL (λd=>AA (λo=>absurd o d)) (λd=>?_);refine AB (XA h ⟨f,m,by rw[b],by rw[b]⟩) λu K=>AL (λd=>AA (λo=>absurd o d)) (λq=>AA λ_=>?_);have⟨D,E,M,N⟩:=K q;have⟨O,P,F⟩:=L d;refine⟨E,DJ.up ⟨l.1,O,λi s j=>?_⟩ E.2.1,M,λ⟨i,g,H,t,I⟩=>N i g H (by rw[t]) I (by rw[t])⟩;have C:=A.num l.1;have k:=jc C (p:=f.1.1) ⟨a.1,by have:=D.2.1;have:=D.1;dsimp only at*;omega⟩ (by have:=A.2.2.1;omega) x.2.1.2.2.1.2.1.length;rw[HT,<-c,b]at k;rw[ma k]at G;dsimp only at F j;rw[F]at j;by_cases J:i=x.2.2.1.toNat
 subst J;have e:s=MI x.2.2:=by unfold BU at j;grind
 rw[b]at a c;rw[show((x.2.2.1.toNat:Nat):Int)=x.2.2.1 by omega];refine⟨λ_=>.inr ⟨(dl x.2.1.2.2.1).length,?_⟩,.inl a.2.2.2⟩;rw[HT,e];unfold dl;rw[zq C (by have:=congrArg (λz=>z.2.1) c;rw[QW]at this;omega),<-c];exact l.2.2 i s (by unfold BU at j;rwa [List.getElem?_set_ne (by omega)]at j)
def SvR(B:Int->Prop)(s r:AS):Prop:=KS B s.1 r.1/\DJ B r.1.2.2.1 r.2
def be{x:AS}(h:SK B x.1)(j:Du x.1.2.2.1)(g:DJ B x.1.2.2.1 x.2):A3 (Lx x) λr=>r.2=0->SvR B x r.1:=by unfold Lx;refine AB (P:=λr=>r.1=0->SvR B x r.2) ?_ λr hr=>AA hr;refine AQ (λs=>SvR B x s.1) (λs=>DC s.1.1.2.2.2.1) ⟨KS.refl h j,g⟩ (λs c=>?_);unfold R7;refine AB (bV c.1.2.2.2.2.2) λv k=>?_;refine AL (λa=>AA (λe=>absurd e a)) (λa=>?_);have⟨q,b,m⟩:=k a;refine AO (λa=>AA (λ_=>⟨c.1.trans b,c.2.up b.2.1⟩)) (λd=>?_);have⟨q1,i,f,q2,q3,q4,q5⟩:=m d;refine AB (R8 b.2.2.2.2.2 b.2.2.1 (c.2.up b.2.1) ⟨f,BL q2,q3⟩ q5) λw l=>?_;refine AL (λa=>AA (λe=>absurd e a)) (λa=>AA ?_);have⟨n,o,t,p⟩:=l a;exact⟨⟨(c.1.trans b).trans n,o⟩,by have:=p ⟨i,f,q2,q3,q4⟩;dsimp only at*;omega⟩
end Go.Pm
namespace Go.Pm
open Go Go.Ab
set_option maxHeartbeats 400000
variable {B:Int->Prop}
def VP{x:AP×AZ}{s:Int×List Ac}(h:0<=s.1/\s.1<=x.1.2.2.2.2.2.2.2.length/\x.1.2.2.2.2.2.2.2.length<=16777216/\s.2=(x.1.2.2.2.2.2.2.2.take s.1.toNat).filter (λd=>d.1 !=x.2.1)):A3 (Ad (LM x) s) λr=>r=x.1.2.2.2.2.2.2.2.filter λd=>d.1 !=x.2.1:=by refine AQ (λ(s:Int×List Ac)=>0<=s.1/\s.1<=x.1.2.2.2.2.2.2.2.length/\x.1.2.2.2.2.2.2.2.length<=16777216/\s.2=(x.1.2.2.2.2.2.2.2.take s.1.toNat).filter (λd=>d.1 !=x.2.1)) (λ(s:Int×List Ac)=>((x.1.2.2.2.2.2.2.2.length:Int)-s.1).toNat) h (λs j=>?_);have⟨b,q,g,i⟩:=j;unfold LM;refine AC (λf=>?_) (λf=>AA ?_);simp[len]at f;have m:=sX (l:=x.1.2.2.2.2.2.2.2) (p:=λd=>d.1 !=x.2.1) b;rw[<-i]at m;refine AB (AK b f) λv o=>?_;have e:=AY (x:=s.1+1);have n:=pT (p:=λd:Ac=>d.1 !=x.2.1) b o.1;refine AB (P:=λa=>a=(x.1.2.2.2.2.2.2.2.take (s.1+1).toNat).filter (λd=>d.1 !=x.2.1)) ?_ λa c=>AA ⟨⟨by dsimp only;omega,by dsimp only;omega,g,by dsimp only;rw[c,e]⟩,by dsimp only;omega⟩;refine AI (λk=>?_) (λk=>AA ?_);grind[AB,AK,Option.some.inj,Ae,AA];grind;grind[List.take_of_length_le]
def YW{x:AP×AZ}(h:SK B x.1)(L:BT x.1=some true->x.2=st x.1.2.2.1.2.1 x.2.1/\B x.2.1):A3 (Jy x) λr=>r.2=0->KS B x.1 r.1/\iN r.1.2.2.2.1 x.2.1:=by
 unfold Jy;refine Dr (Bp h.sb) λv O hv=>?_;refine AO (λg=>AA (λb=>absurd b (by decide))) (λg=>?_);have K:=hv g;rw[g]at O;refine AC (λg=>AA (λb=>absurd b (by decide))) (λx0=>?_);refine AC (λg=>AA (λb=>absurd b (by decide))) (λx1=>?_);refine AB (Jx h.sb) λy1 al=>?_;refine AC (λg=>AA (λb=>absurd b (by decide))) (λx2=>?_);refine AB (Jx h.sb) λy2 ao=>?_;refine AC (λg=>AA (λb=>absurd b (by decide))) (λx3=>?_);have⟨R,Q⟩:=L O;refine AB EJ λv3 _=>?_;refine AO (λg=>AA (λb=>absurd b (by decide))) (λ_=>?_);refine AB NF λv4 _=>?_;refine AL (λg=>?_) (λ_=>?_);grind[AL,AA];have p2:=K.2.2.2.1.2.1;have p3:=K.2.2.2.1.2.2.1;refine AB (GO (by dsimp only;omega)) λi I=>?_;refine AC (λg=>AA (λb=>absurd b (by decide))) (λA=>?_);have A:=I.2.2.2 (by omega);refine AU (λg=>AA (λb=>absurd b (by decide))) (λ_=>?_);refine AB (Ae (by simp;omega)) λv8 C=>?_;have⟨C,Z,_⟩:=C;rw[Cy]at C;subst C;refine AB (Ae (by simp;omega)) λc n=>?_;have⟨n,o,_⟩:=n;have q:c[c.length-1]? =some (x.2,(false,(0,true))):=by rw[n];simp
 have hn:(c.length:Int)-1=((c.length-1:Nat):Int):=by simp at o;omega
 have e:=AY (x:=(c.length:Int)-1) (by simp at o;omega);have k: ∀f∈x.1.2.2.2.1.2.1,f.1.1≠x.2.1:=λf H e=>by have⟨i,I⟩:=EV H;exact A ⟨i,f,I,e⟩
 refine AB (JJ h.sb) λt w=>?_;refine AB (P:=λv:List A2×AP×Int×Int×Int×Int×Int×Int=>(∃(i:Nat) (f:A2),v.1[i]? =some f/\f.1.1=x.2.1)/\(v.2.1.1=x.1.1/\v.2.1.2.2.1=x.1.2.2.1/\v.2.1.2.2.2.2.1=x.1.2.2.2.2.1/\v.2.1.2.2.2.2.2.1=x.1.2.2.2.2.2.1/\SB v.2.1/\v.2.1.2.2.2.2.2.2.1=x.1.2.2.2.2.2.2.1)/\KP x.1.1 x.1.2.2.1.2.1 v.1 v.2.1.2.2.2.2.2.2.2 x.1.2.2.2.2.2.2.1/\FD B x.1.1 v.1 v.2.1.2.2.2.2.2.2.2) ?_ λa0 m=>?_
 ·refine AI (λs=>?_) (λs=>AA ⟨⟨_,_,q,rfl⟩,⟨rfl,rfl,rfl,rfl,h.sb,rfl⟩,?_,?_⟩);rotate_left 1;rw[n];exact h.ki.2.1.supply R k rfl (.inr ⟨rfl,w.2 s,rfl⟩);rw[n];exact h.ki.2.2.supply (p:=x.2.1) (by omega) (by omega) Q rfl (λd y=>y) (w.2 s);rw[hn]at e;simp only[len,hn,e];have z:c.length-1<c.length:=by simp at o;omega
  refine AB (AK) λap W=>?_;refine AB (AK) λj X=>?_;have V:j.1=x.2:=by grind[Int.toNat_natCast,Option.some.inj]
  have ad:(BU c ((c.length-1:Nat):Int) (j.1,(true,j.2.2))).length=c.length:=by simp[BU]
  refine AB (AK) λar Y=>?_;refine AB (AK) λa F=>?_;have l:a.1=x.2:=by grind[Int.toNat_natCast,BU,List.getElem?_set_self,Option.some.inj]
  refine AB (VP ⟨by simp,by simp,h.2.2.1,by simp⟩) λax G=>?_;have u:a.2.1=true:=by have:=F.1;simp[Df,BU]at this;rw[Hi z]at this;rw[<-Cl this]
  have N:BU (BU c ((c.length-1:Nat):Int) (j.1,(true,j.2.2))) ((c.length-1:Nat):Int) (a.1,(a.2.1,(t.1.2.1,a.2.2.2)))=x.1.2.2.2.1.2.1++[(a.1,(a.2.1,(t.1.2.1,a.2.2.2)))]:=by simp[BU,Df,Vl,(by rw[n];simp:c.length-1=x.1.2.2.2.1.2.1.length)];rw[n,RQ _ _ (Ag _)];simp
  subst G;refine AA ⟨⟨c.length-1,(a.1,(a.2.1,(t.1.2.1,a.2.2.2))),?_,by rw[l]⟩,⟨rfl,rfl,rfl,rfl,⟨h.1,h.2.1,EC (LZ _ _) h.2.2.1⟩,rfl⟩,?_,?_⟩;simp[BU,Df];rw[Hi (by simpa using z)];rw[N];exact h.ki.2.1.supply R k l (.inl ⟨u,rfl⟩);rw[N];exact h.ki.2.2.supply (p:=x.2.1) (by omega) (by omega) Q (by rw[l]) (λd y=>(Bq.1 y).1) (λd y=>by simpa using(Bq.1 y).2)
 have⟨i,f,H,J⟩:=m.1;have⟨M,D,S,T,E,U⟩:=m.2.1;refine AA λ_=>⟨⟨M,by dsimp only;rw[D];exact LX.refl _,by dsimp only;rw[D];exact K.2.2.1,S,T,E.1,E.2.1,E.2.2,?_⟩,i,f,H,J⟩
 unfold KI;dsimp only;rw[M,D,U];exact⟨h.ki.1,m.2.2⟩
def ADX{x:AP×Int}(h:BT x.1=some false):Ea x=some 0:=by unfold Ea;rw[h];rfl
def Rd.st{P:List AD}{p:Int}{s:Bb}{q:AZ}(h:Rd s p q)(d:ACL P p s)(e: ∀j,Hq (st (P.take j) p)): ∃j:Nat,q=Go.Pm.st (P.take j) p:=by obtain⟨_,⟨_,h⟩|⟨a,b,c⟩⟩:=h;exact⟨0,h⟩;rcases d with q|⟨j,q⟩;exact absurd q c;exact⟨j,yk a (e j) (b.symm.trans q)⟩
def HD{x:AS×Int}(h:SK B x.1.1)(g:DJ B x.1.1.2.2.1 x.1.2):A3 (Ep x) λr=>r.2=0->SvR B x.1 r.1/\iN r.1.1.2.2.2.1 x.2:=by
 unfold Ep;refine AB (Bp h.sb) λv X=>?_;refine AO (λa=>AA (λc=>absurd c (by decide))) (λa=>?_);have s:=X a;refine AC (λa=>AA (λc=>absurd c (by decide))) (λp0=>?_);refine AC (λa=>AA (λc=>absurd c (by decide))) (λp1=>?_);refine AB FO λi W=>?_;refine AC (λa=>AA λ_=>⟨⟨KS.refl h s.2.2.1,g⟩,?_⟩) (λ_=>?_);have⟨_,f,V,C⟩:=W.2.2.1 a;exact⟨_,f,V,C⟩;refine AB (be h s.2.2.1 g) λo Q=>?_;refine AL (λa=>AA (λc=>absurd c a)) (λw=>?_);have⟨t,m⟩:=Q w;have n:=t.2.2.2.2.2;have F:=t.2.2.1;have k1:=s.1;have k2:=s.2.1;have H:0<=x.2/\x.2<64:=by omega
 have M:=F.num m.1;have h4:=F.2.2.1;refine AB (bL m.2.1) λv3 R=>?_;refine AL (λa=>AA (λc=>absurd c a)) (λy=>?_);have⟨Y,Z,O⟩:=R y;have⟨b,u,_⟩:=Bp n.sb;refine AB (P:=λr=> ∃k:Nat,r=Bu (o.1.1.2.2.1.2.1.take k) x.2/\(b=true->k=o.1.1.2.2.1.2.1.length)) ?_ λv4 ⟨k,D,E⟩=>?_;cases b with
 |false=>exact⟨_,ADX u,0,rfl,λU=>by cases U⟩
 |true=>exact(Jx n.sb).mono λr hr=>⟨_,by rw[HT];exact hr u n.ki.2.1 H.1 (by have:=t.1;dsimp only at this⊢;omega),λ_=>rfl⟩
 refine AB (Zq (by dsimp only;omega)) λv5 e=>?_;refine AL (λa=>AA (λc=>absurd c a)) (λz=>?_);have e:=e z;dsimp only at e;have d:=m.2.2 _ _ O;rw[show((x.2.toNat:Nat):Int)=x.2 by omega]at d;have L:B x.2:=d.2.resolve_right λg=>by obtain⟨_,⟨q,_⟩|⟨q1,q2,_⟩⟩:=e;exact g.1 q;exact g.2 _ q1 q2
 have I:=jc M H (by omega);obtain⟨j,p⟩:=e.st (d.1 L) λj=>by unfold dl;rw[KJ];exact I _
 unfold dl at p;rw[KJ]at p;generalize min j o.1.1.2.2.1.2.2.toNat=j' at p;rw[p,D];refine AB (ACM F m.1 n.ki.1 H) λv6 S=>?_;subst S;refine AL (λa=>absurd rfl a) (λ_=>?_);refine AB (YW n λK=>?_) λv7 T=>?_;rw[u]at K;have l:=E (Cl K);have G:Bu (o.1.1.2.2.1.2.1.take j') x.2<=Bu (o.1.1.2.2.1.2.1.take k) x.2:=by rcases Nat.le_total j' k with q|q;exact Pu M _ _ _ q;rw[Bs (by omega),l,HT];exact Ak _
 dsimp only;rw[if_pos G,l,HT,eQ];exact⟨rfl,L⟩;refine AL (λa=>AA (λc=>absurd c a)) (λA=>AA λ_=>?_);have⟨N,J⟩:=T A;refine⟨⟨t.trans N,m.up N.2.1⟩,?_⟩;dsimp only at J;split at J<;>rwa [eQ]at J
end Go.Pm
