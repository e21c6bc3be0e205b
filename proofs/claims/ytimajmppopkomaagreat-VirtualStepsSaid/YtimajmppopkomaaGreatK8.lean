/- What the code computes, as functions of data; What these functions answer, part 8. Texts of the folder wip, laid in few files with shorter names by a program (wip/tools/pack.py); nothing is assumed. -/
import Derived.Test.YtimajmppopkomaaGreatK7
import Derived.KernelRfl
noncomputable section
set_option linter.unusedVariables false
set_option linter.unusedSimpArgs false
set_option linter.unusedSectionVars false
set_option linter.defProp false
set_option linter.unnecessarySimpa false
set_option linter.deprecated false
namespace Go.Pm
open Go Go.Ab
set_option maxRecDepth 100000
noncomputable section
abbrev KB:Type:=Int×Int×Bb
def Nq:Ty:=.prod (.cons (.int .i64) (.cons (.int .i64) (.one .str)))
abbrev Hm:Type:=Int×Int×(List KB)
def PC:Ty:=.prod (.cons (.int .i64) (.cons (.int .i64) (.one (.list Nq))))
abbrev Mz:Type:=Bb
def Ve:Ty:=.prod (.one .str)
def Sn(x:Int×Int):Option (Int×Int):=letI d:=(BitVec.ofInt 64 4294967295);letI c:=(BitVec.toNat ((BitVec.ofInt 64 x.1)&&&d));letI b:=(BitVec.toNat ((BitVec.ofInt 64 x.2)&&&d));letI a:=(2^(min (Int.toNat 32) 64));letI f:=(Int.fdiv x.2 a);letI e:=(Int.fdiv x.1 a);some ((IntKind.wrap .u64 ((IntKind.wrap .u64 ((IntKind.wrap .u64 (e*f))+(Int.fdiv (IntKind.wrap .u64 ((IntKind.wrap .u64 (e*(IntKind.wrap .u64 ((b:Nat):Int))))+(Int.fdiv (IntKind.wrap .u64 ((IntKind.wrap .u64 ((c:Nat):Int))*(IntKind.wrap .u64 ((b:Nat):Int)))) a))) a)))+(Int.fdiv (IntKind.wrap .u64 ((IntKind.wrap .u64 (((BitVec.toNat ((BitVec.ofInt 64 (IntKind.wrap .u64 ((IntKind.wrap .u64 (e*(IntKind.wrap .u64 ((b:Nat):Int))))+(Int.fdiv (IntKind.wrap .u64 ((IntKind.wrap .u64 ((c:Nat):Int))*(IntKind.wrap .u64 ((b:Nat):Int)))) a))))&&&d)):Nat):Int))+(IntKind.wrap .u64 ((IntKind.wrap .u64 ((c:Nat):Int))*f)))) a))),(IntKind.wrap .u64 (x.1*x.2)))
def Ue(x:Int×Int):Option (Int×Int):=(Sn x).bind λa=>some a
end
noncomputable section
def U5(x:Unit):Option Bb:=(J7 (([0]:List (UInt8)),256)).bind λa=>some a
def Gq(x:Bb×Int×Int):Option Int:=(CD x).bind λa=>some a.1
def dr(x:Bb):Lp (Int×AZ×AZ) ((Bool×AZ)⊕ (AZ×AZ)):=λa=>letI j:=a.2.1.2;letI i:=(wi (12+wi (a.1*13)));bif a.1<16 then(Gq (x,i,1)).bind λb=>(bif b==255 then some (.inl a.2)else bif b>12 then some (.inr (false,0,0,(JP.all (false,[]))))else(TE x (wi (i+1)) (wi ((wi (i+1))+b))).bind λc=>(GW j.2 a.1).bind λd=>(GW j.2 a.1).bind λe=>some (.inl ((a.2.1.1,j.1,(Uz j.2 a.1 (true,c))),a.2.2)):Option ((AZ×AZ)⊕ (Bool×AZ))).bind λf=>Sum.elim (λg=>some (.next (wi (a.1+1),g))) (λh=>some (.done (.inl h))) f else some (.done (.inr a.2))
def UL(x:Bb):Option (AZ×Bool):=(Gq (x,8,4)).bind λa=>(Gq (x,0,8)).bind λb=>(Ad (dr x) (0,(a,b,(JP.all (false,[]))),0,0,(JP.all (false,[])))).bind λc=>Sum.elim (λd=>some (d.2,d.1)) (λe=>some (e.1,true)) c
def T9(x:AZ):Option Bool:=(HT x.1).bind λa=>bif a then bif x.2.1>=0 then some (decide (x.2.1<=1099511627776))else some false else some false
def cL(x:AZ):Lp Int (Bool ⊕ Unit):=λa=>letI c:=(wi (a+1));bif a<16 then(GW x.2.2 a).bind λb=>bif len b.2>12 then some (.done (.inl false))else bif !b.1 then bif b.2 !=[]then some (.done (.inl false))else bif b.1 then bif x.2.1==0 then some (.done (.inl false))else some (.next c)else some (.next c)else bif b.1 then bif x.2.1==0 then some (.done (.inl false))else some (.next c)else some (.next c)else some (.done (.inr ()))
def So(x:AZ):Option Bool:=(Ad (cL x) 0).bind λa=>Sum.elim some (λb=>some true) a
def Jd(b:Mz)(x:Cv):Option Mz:=(bif x.1 then some (len x.2)else some 255:Option Int).bind λa=>(Nk (b,a,1)).bind λc=>(sapp c x.2).bind λd=>(J7 (([0]:List (UInt8)),(wi (12-len x.2)))).bind λe=>(sapp d e).bind λf=>some f
def Zb(x:AZ):Lp (Int×Mz) Mz:=λa=>bif a.1<16 then(GW x.2.2 a.1).bind λb=>(Jd a.2 b).bind λc=>some (.next (wi (a.1+1),c))else some (.done a.2)
def J2(x:AZ):Option (Bb×Int):=(T9 x).bind λa=>bif !a then some ([],1)else(So x).bind λb=>bif !b then some ([],22)else(Nk ([],x.2.1,8)).bind λc=>(Nk (c,x.1,4)).bind λd=>(Ad (Zb x) (0,d)).bind λe=>(J7 (([0]:List (UInt8)),(wi (244-len e)))).bind λf=>(sapp e f).bind λg=>(Nl g).bind λh=>(Nk (g,(wi h),4)).bind λi=>(Nk (i,x.2.1,8)).bind λj=>some (j,0)
def Oh(x:Bb):Option (AZ×Int):=bif len x !=256 then some ((0,0,(JP.all (false,[]))),2)else(U5 ()).bind λa=>bif x==a then some ((0,0,(JP.all (false,[]))),7)else(TE x 0 8).bind λb=>(TE x 248 (len x)).bind λc=>bif b !=c then some ((0,0,(JP.all (false,[]))),27)else(TE x 0 244).bind λd=>(Gq (x,244,4)).bind λe=>(Nl d).bind λf=>bif e !=wi f then some ((0,0,(JP.all (false,[]))),3)else(UL x).bind λg=>(J2 g.1).bind λh=>bif !g.2 then some ((0,0,(JP.all (false,[]))),4)else bif h.2 !=0 then some ((0,0,(JP.all (false,[]))),4)else bif h.1 !=x then some ((0,0,(JP.all (false,[]))),4)else some (g.1,0)
def Gy(x:Bb×Int):Option (AZ×Int):=(HT x.2).bind λa=>bif !a then some ((0,0,(JP.all (false,[]))),1)else(Oh x.1).bind λb=>bif b.2==7 then(Hh x.2).bind λc=>some (c,0)else bif b.2 !=0 then some ((0,0,(JP.all (false,[]))),b.2)else bif b.1.1 !=x.2 then some ((0,0,(JP.all (false,[]))),6)else some (b.1,0)
def Za(x:Hm):Lp Int (Bool ⊕ Unit):=λa=>bif a<len x.2.2 then(ix x.2.2 a).bind λb=>letI f:=(Gy (b.2.2,b.1));bif b.1>=x.2.1 then some (.done (.inl false))else bif a>0 then(ix x.2.2 (wi (a-1))).bind λc=>bif c.1>=b.1 then some (.done (.inl false))else f.bind λd=>bif d.2 !=0 then some (.done (.inl false))else bif d.1.2.1 !=b.2.1 then some (.done (.inl false))else some (.next (wi (a+1)))else f.bind λe=>bif e.2 !=0 then some (.done (.inl false))else bif e.1.2.1 !=b.2.1 then some (.done (.inl false))else some (.next (wi (a+1)))else some (.done (.inr ()))
def Qn(x:Hm):Option Bool:=bif x.1<1 then some false else bif x.1>1073741824 then some false else bif x.2.1<1 then some false else bif x.2.1>64 then some false else bif len x.2.2>x.2.1 then some false else(Ad (Za x) 0).bind λa=>Sum.elim some (λb=>some true) a
def T7(x:Hm):Option Bool:=(Qn x).bind λa=>bif a then some (len x.2.2==x.2.1)else some false
def L5(x:AM×Ak):Option Int:=(IZ x.1).bind λa=>bif !a then some 54 else(La x.2).bind λb=>bif !b then some 26 else some 0
def PQ(x:AZ×De):Option (AZ×Int):=letI g:=x.2.2;letI f:=(GW x.1.2.2 g.1);(NB x.2).bind λa=>bif !a then some ((0,0,(JP.all (false,[]))),22)else bif x.2.1 !=x.1.1 then some ((0,0,(JP.all (false,[]))),6)else f.bind λb=>f.bind λc=>bif !((c.1==g.2.1.1)&&((c.2==g.2.1.2)&&true))then some ((0,0,(JP.all (false,[]))),20)else f.bind λd=>f.bind λe=>some ((x.1.1,x.1.2.1,(Uz x.1.2.2 g.1 g.2.2)),0)
def Sy(x:AZ×AD):Option (AZ×Int):=letI e:=x.2.2.2.2.2;(GD x.2).bind λa=>bif !a then some ((0,0,(JP.all (false,[]))),12)else(A6 x.2).bind λb=>bif !b then some ((0,0,(JP.all (false,[]))),12)else(J2 x.1).bind λc=>bif c.2 !=0 then some ((0,0,(JP.all (false,[]))),c.2)else bif e.2.2.1.1 !=x.1.1 then some ((0,0,(JP.all (false,[]))),6)else bif e.1 !=x.1.2.1 then some ((0,0,(JP.all (false,[]))),13)else(PQ (x.1,e.2.2.1)).bind λd=>bif d.2 !=0 then some ((0,0,(JP.all (false,[]))),d.2)else some ((d.1.1,x.2.1,d.1.2.2),0)
def XT(x:AZ×(List AD)):Lp (Int×AZ×AZ) ((Int×AZ)⊕ (AZ×AZ)):=λa=>bif a.1<len x.2 then(ix x.2 a.1).bind λb=>bif b.1<=a.2.1.2.1 then some (.next (wi (a.1+1),a.2))else(Sy (a.2.1,b)).bind λc=>bif c.2 !=0 then some (.done (.inl (c.2,0,0,(JP.all (false,[])))))else some (.next (wi (a.1+1),c.1,a.2.2))else some (.done (.inr a.2))
def S1(x:AZ×(List AD)):Option (AZ×Int):=(Ad (XT x) (0,x.1,0,0,(JP.all (false,[])))).bind λa=>Sum.elim (λb=>some (b.2,b.1)) (λc=>some (c.1,0)) a
def S0(x:AZ×AM×Ak×Int):Option (AZ×Int):=letI e:=x.2.2;(L5 (x.2.1,e.1)).bind λa=>bif a !=0 then some ((0,0,(JP.all (false,[]))),a)else(J2 x.1).bind λb=>bif b.2 !=0 then some ((0,0,(JP.all (false,[]))),b.2)else bif x.1.2.1>e.2 then some ((0,0,(JP.all (false,[]))),9)else(Lh (x.2.1,e.1,x.1.1,x.1.2.1,e.2)).bind λc=>bif c.2 !=0 then some ((0,0,(JP.all (false,[]))),c.2)else(S1 (x.1,c.1)).bind λd=>some d
def Ps(x:KB×AM×Ak×Int):Option (KB×Int):=(Gy (x.1.2.2,x.1.1)).bind λa=>bif a.2 !=0 then some ((0,0,[]),a.2)else(S0 (a.1,x.2)).bind λb=>bif b.2 !=0 then some (x.1,b.2)else bif b.1.2.1==0 then some (x.1,b.2)else(J2 b.1).bind λc=>some ((x.1.1,b.1.2.1,c.1),c.2)
def XS(x:Hm×AM×Ak×Int×Int):Lp (Int×(List KB)×Int×Int×Int) ((Int×Int×Int)⊕ ((List KB)×Int×Int×Int)):=λa=>bif a.1<len x.1.2.2 then(ix x.1.2.2 a.1).bind λb=>(Ps (b,x.2.1,x.2.2.1,x.2.2.2.2)).bind λc=>bif c.2 !=0 then none else(app a.2.1 ([c.1]:List (Int×Int×Bb))).bind λd=>some (.next (wi (a.1+1),d,a.2.2))else some (.done (.inr a.2))
def Fa(x:Hm×AM×Ak×Int×Int):Option (Hm×Int):=letI f:=x.2.2;(T7 x.1).bind λa=>bif !a then some ((0,0,[]),43)else(L5 (x.2.1,f.1)).bind λb=>bif b !=0 then bif b !=0 then some ((0,0,[]),b)else some ((0,0,[]),b)else bif f.2.1<1 then some ((0,0,[]),1)else bif f.2.1>1073741824 then some ((0,0,[]),1)else bif f.2.2<0 then some ((0,0,[]),1)else bif f.2.2>f.1.2.2 then some ((0,0,[]),1)else(Ad (XS x) (0,[],f.2.1,x.1.2.1,b)).bind λc=>Sum.elim (λd=>bif d.2.2 !=0 then some ((0,0,[]),d.2.2)else none) (λe=>some ((e.2.1,e.2.2.1,e.1),0)) c
def Rx(x:Int×Int):Lp (Int×(List KB)×Int×Int) ((List KB)×Int×Int):=λa=>bif a.1<x.2 then(IA ()).bind λb=>(app a.2.1 ([(a.1,0,b)]:List (Int×Int×Bb))).bind λc=>some (.next (wi (a.1+1),c,a.2.2))else some (.done a.2)
def F3(x:Int×Int):Option Hm:=(Ad (Rx x) (0,[],x)).bind λa=>some (a.2.1,a.2.2,a.1)
def H9(x:Unit):Option Bool:=(F3 (1,2)).bind λa=>(GZ ()).bind λb=>(Jn ([],0) (2,b)).bind λc=>(GZ ()).bind λd=>(Fa (a,c.1,d,2,0)).bind λe=>bif e.2==0 then bif e.1.1==2 then some (len e.1.2.2==2)else some false else some false
def SG(x:Hm×Hm):Lp Int (Bool ⊕ Unit):=λa=>bif a<len x.1.2.2 then(ix x.1.2.2 a).bind λb=>(ix x.2.2.2 a).bind λc=>bif !((b.1==c.1)&&((b.2.1==c.2.1)&&((b.2.2==c.2.2)&&true)))then some (.done (.inl false))else some (.next (wi (a+1)))else some (.done (.inr ()))
def Iz(x:Hm×Hm):Option Bool:=bif x.1.1 !=x.2.1 then some false else bif x.1.2.1 !=x.2.2.1 then some false else bif len x.1.2.2 !=len x.2.2.2 then some false else(Ad (SG x) 0).bind λa=>Sum.elim some (λb=>some true) a
end
noncomputable section
def JY(x:(List Int)×Int×Int):Option Bool:=(H9 ()).bind λa=>bif !a then some false else(bif len x.1>500 then(cO x.1 0 500).bind λb=>some b else some x.1:Option (List Int)).bind λc=>(KO (c,0) 25).bind λd=>letI m:=d.2.1;letI k:=(Int.tmod (wi x.2.1) (wi (m.2.2+1)));letI n:=(wi ((wi (m.2.2-k))+1));letI l:=(wi (k+(Int.tmod (wi x.2.2) n)));(Jn d.2.2 (d.1,m)).bind λe=>bif wi (m.2.2+1)==0 then none else bif n==0 then none else(F3 (1,d.1)).bind λf=>(Fa (f,e.1,m,2,k)).bind λg=>(Fa (g.1,e.1,m,3,l)).bind λh=>(Fa (f,e.1,m,3,l)).bind λi=>bif g.2==0 then bif h.2==0 then bif i.2==0 then(Iz (h.1,i.1)).bind λj=>some j else some false else some false else some false
end
def Z5(c:BitVec 32):BitVec 32:=if c.getLsbD 0=true then(c>>>1)^^^2197175160#32 else c>>>1
def jg:Nat->BitVec 32->BitVec 32
 |0,c=>c
 |n+1,c=>Z5 (jg n c)
def sD(c:BitVec 32)(b:UInt8):BitVec 32:=jg 8 (c^^^BitVec.ofNat 32 b.toNat)
def AEQ(s:Bb):BitVec 32:=4294967295#32^^^s.foldl sD 4294967295#32
def X8(s:Bb):Int:=((AEQ s).toNat:Int)
def xc(a b:BitVec 32):Z5 (a^^^b)=Z5 a^^^Z5 b:=by
 unfold Z5;rw[BitVec.getLsbD_xor,BitVec.ushiftRight_xor_distrib];cases a.getLsbD 0<;>cases b.getLsbD 0<;>simp;grind;grind;have:a>>>1^^^2197175160#32^^^(b>>>1^^^2197175160#32)=(a>>>1^^^b>>>1)^^^(2197175160#32^^^2197175160#32):=by ac_rfl
 grind
theorem vw: ∀(n:Nat) (a b:BitVec 32),jg n (a^^^b)=jg n a^^^jg n b
 |0,a,b=>rfl
 |n+1,a,b=>by rw[jg,jg,jg,vw n,xc]
def fO(s:Bb):0<=X8 s/\X8 s<4294967296:=by unfold X8;omega
theorem bvI(c:BitVec 32):BitVec.ofInt 32 (c.toNat:Int)=c:=by grind
theorem w32(c:BitVec 32):IntKind.wrap .u32 (c.toNat:Int)=(c.toNat:Int):=by rw[tk];omega
theorem fdN(c:BitVec 32)(k:Nat)(a:k<=32):Int.fdiv (c.toNat:Int) (2^(min (Int.toNat (k:Int)) 32))=((c>>>k).toNat:Int):=by rw[show min (Int.toNat (k:Int)) 32=k by omega,eW _ (by exact_mod_cast Bn (2^k)),BitVec.toNat_ushiftRight,Nat.shiftRight_eq_div_pow];grind
theorem fd1(c:BitVec 32):Int.fdiv (c.toNat:Int) (2^(min (Int.toNat 1) 32))=((c>>>1).toNat:Int):=by grind[fdN]
def fd4(c:BitVec 32):Int.fdiv (c.toNat:Int) (2^(min (Int.toNat 4) 32))=((c>>>4).toNat:Int):=by grind[fdN]
theorem AA1(c:BitVec 32):((IntKind.wrap .u32 (((BitVec.toNat ((BitVec.ofInt 32 (c.toNat:Int))&&&(BitVec.ofInt 32 1))):Nat):Int))==1)=c.getLsbD 0:=by grind[bvI,w32,BitVec.toNat_and,BitVec.ofInt]
def ABy(c:BitVec 32):(bif ((IntKind.wrap .u32 (((BitVec.toNat ((BitVec.ofInt 32 (c.toNat:Int))&&&(BitVec.ofInt 32 1))):Nat):Int))==1)then
     some (IntKind.wrap .u32 (((BitVec.toNat ((BitVec.ofInt 32 (Int.fdiv (c.toNat:Int) (2^(min (Int.toNat 1) 32))))^^^(BitVec.ofInt 32 2197175160))):Nat):Int))
    else
    some (Int.fdiv (c.toNat:Int) (2^(min (Int.toNat 1) 32))):Option Int)=some ((Z5 c).toNat:Int):=by grind[AA1,fd1,bvI,w32,Z5]
def ADE(c:BitVec 32):Ad HV ((c.toNat:Int),0)=some ((jg 8 c).toNat:Int):=by
 have key:A3 (Ad HV ((c.toNat:Int),0)) λr=>r=((jg 8 c).toNat:Int):=by refine AQ (λ(s:Int×Int)=>0<=s.2/\s.2<=8/\s.1=((jg s.2.toNat c).toNat:Int)) (λs=>(8-s.2).toNat) ⟨Aj _,by dsimp only;omega,rfl⟩ ?_;rintro⟨g,a⟩ ⟨e,f,b⟩;dsimp only at e f b;subst b;refine AC (λd=>?_) (λd=>AA (by rw[show a.toNat=8 by omega]));rw[ABy,AE,AY];refine AA ⟨⟨by omega,by omega,?_⟩,by omega⟩;rw[show(a+1).toNat=a.toNat+1 by omega];rfl
 obtain⟨r,hr,rfl⟩:=key;exact hr
def yJ(c:BitVec 32)(b:UInt8):IntKind.wrap .u32 (((BitVec.toNat ((BitVec.ofInt 32 (c.toNat:Int))^^^(BitVec.ofInt 32 (IntKind.wrap .u32 (b.toNat:Int))))):Nat):Int)=((c^^^BitVec.ofNat 32 b.toNat).toNat:Int):=by grind[IntKind.wrap,tk,bvI,w32]
def zj{x:Bb}{i:Int}(a:0<=i)(c:i<x.length): ∃b:UInt8,six x i=some (b.toNat:Int)/\x.take (i+1).toNat=x.take i.toNat++[b]:=by obtain⟨k,rfl⟩:=EU a;refine⟨x[k],?_,?_⟩;grind[six];simp_all
def uC{x:Bb}(h:x.length<=2199023255552):Ev x=some (X8 x):=by
 have key:A3 (Ad (HU x) (4294967295,0)) λr=>r=((x.foldl sD 4294967295#32).toNat:Int):=by refine AQ (λ(s:Int×Int)=>0<=s.2/\s.2<=x.length/\s.1=(((x.take s.2.toNat).foldl sD 4294967295#32).toNat:Int)) (λs=>((x.length:Int)-s.2).toNat) ⟨Aj _,by dsimp only;omega,rfl⟩ ?_;rintro⟨f,g⟩ ⟨c,e,d⟩;dsimp only at c e d;subst d;unfold HU;simp only[len];refine AC (λa=>?_) (λa=>AA (by rw[Bs (by omega)]));have⟨b,q1,q2⟩:=zj c a;rw[q1,AE,yJ,ADE,AE,AY];refine AA ⟨⟨by omega,by omega,?_⟩,by omega⟩;rw[q2,fC];rfl
 obtain⟨r,hr,rfl⟩:=key;unfold Ev;rw[hr,AE,bvI];rw[show(BitVec.ofInt 32 (if(false=true)then(-1)else(if(false=true)then((2^(32-1))-1)else((2^32)-1))))=4294967295#32 by decide,w32];rfl
def AEV{d:BitVec 32}(b:d.getLsbD 0=false)(c:d.getLsbD 1=false)(f:d.getLsbD 2=false)(g:d.getLsbD 3=false):jg 4 d=d>>>4:=by
 have st: ∀e:BitVec 32,e.getLsbD 0=false->Z5 e=e>>>1:=λe a=>by unfold Z5;rw[if_neg (by rw[a];decide)]
 show Z5 (Z5 (Z5 (Z5 d)))=_;grind
def ACk(c:BitVec 32):(c>>>4)^^^jg 4 (c&&&15#32)=jg 4 c:=by
 have d:c=(c&&& ~~~15#32)^^^(c&&&15#32):=by apply o7;intro i a;rw[BitVec.getLsbD_xor,BitVec.getLsbD_and,BitVec.getLsbD_and,BitVec.getLsbD_not];grind
 have e:jg 4 (c&&& ~~~15#32)=c>>>4:=by
  have z: ∀i,i<4->(c&&& ~~~15#32).getLsbD i=false:=λi a=>by
   have:i=0\/i=1\/i=2\/i=3:=by omega
   grind
  rw[AEV (z 0 (by decide)) (z 1 (by decide)) (z 2 (by decide)) (z 3 (by decide))];apply o7;intro i a;have b:(15#32).getLsbD (4+i)=false:=by show(15#32).toNat.testBit (4+i)=false;grind
  grind
 grind[vw]
def AC9(c:BitVec 32):Ad Ke ((c.toNat:Int),0)=some ((jg 4 c).toNat:Int):=by
 have key:A3 (Ad Ke ((c.toNat:Int),0)) λr=>r=((jg 4 c).toNat:Int):=by refine AQ (λ(s:Int×Int)=>0<=s.2/\s.2<=4/\s.1=((jg s.2.toNat c).toNat:Int)) (λs=>(4-s.2).toNat) ⟨Aj _,by dsimp only;omega,rfl⟩ ?_;rintro⟨g,a⟩ ⟨e,f,b⟩;dsimp only at e f b;subst b;refine AC (λd=>?_) (λd=>AA (by rw[show a.toNat=4 by omega]));rw[ABy,AE,AY];refine AA ⟨⟨by omega,by omega,?_⟩,by omega⟩;rw[show(a+1).toNat=a.toNat+1 by omega];rfl
 obtain⟨r,hr,rfl⟩:=key;exact hr
def xm(t:Fin (15+1)->(Ty.int IntKind.u32).D):Prop:= ∀j:Fin 16,t j=((jg 4 (BitVec.ofNat 32 j.val)).toNat:Int)
def AD0:A3 (KM ()) xm:=by refine AB (P:=xm) ?_ λr hr=>AA hr;refine AQ (λ(s:Int×(Fin (15+1)->(Ty.int IntKind.u32).D))=>0<=s.1/\s.1<=16/\ ∀j:Fin 16,(j.val:Int)<s.1->s.2 j=((jg 4 (BitVec.ofNat 32 j.val)).toNat:Int)) (λs=>(16-s.1).toNat) ⟨Aj _,by decide,λj b=>absurd b (by dsimp only;omega)⟩ ?_;rintro⟨h,i⟩ ⟨c,g,d⟩;refine AC (λa=>?_) (λa=>AA λj=>d j (by have:=j.isLt;omega));obtain⟨k,rfl⟩:=EU c;rw[(by grind[tk,BitVec.toNat_ofNat]:IntKind.wrap .u32 (k:Int)=((BitVec.ofNat 32 k).toNat:Int)),AC9,AE];refine AB (DY (by omega) (by omega)) λl e=>?_;refine AB (DY (by omega) (by omega)) λm f=>AA ?_;grind[AY,Uz]
theorem zq{t:Fin (15+1)->(Ty.int IntKind.u32).D}(b:xm t)(c:BitVec 32):GW t (IntKind.wrap .u32 (((BitVec.toNat ((BitVec.ofInt 32 (c.toNat:Int))&&&(BitVec.ofInt 32 15))):Nat):Int))=some ((jg 4 (c&&&15#32)).toNat:Int):=by
 rw[bvI,show BitVec.ofInt 32 15=15#32 by decide,w32];have a:(c&&&15#32).toNat<16:=by exact Nat.lt_succ_of_le Nat.and_le_right
 unfold GW;rw[dif_pos ⟨by omega,by omega⟩];refine congrArg some ((b ⟨(c&&&15#32).toNat,a⟩).trans ?_);grind
def ADk(c:BitVec 32):IntKind.wrap .u32 (((BitVec.toNat ((BitVec.ofInt 32 (Int.fdiv (c.toNat:Int) (2^(min (Int.toNat 4) 32))))^^^(BitVec.ofInt 32 ((jg 4 (c&&&15#32)).toNat:Int)))):Nat):Int)=((jg 4 c).toNat:Int):=by rw[fd4,bvI,bvI,ACk,w32]
def vv: ∀(m n:Nat) (c:BitVec 32),jg m (jg n c)=jg (m+n) c
 |0,n,c=>by rw[jg,ED]
 |m+1,n,c=>by rw[jg,vv m n,Nat.succ_add];rfl
def rC{x:Bb}(h:x.length<=2199023255552):Nl x=some (X8 x):=by
 unfold Nl;have⟨t,f,a⟩:=AD0;rw[f,AE];have key:A3 (Ad (Sj x t) (4294967295,0)) λr=>r=((x.foldl sD 4294967295#32).toNat:Int):=by refine AQ (λ(s:Int×Int)=>0<=s.2/\s.2<=x.length/\s.1=(((x.take s.2.toNat).foldl sD 4294967295#32).toNat:Int)) (λs=>((x.length:Int)-s.2).toNat) ⟨Aj _,by dsimp only;omega,rfl⟩ ?_;rintro⟨i,j⟩ ⟨d,g,e⟩;dsimp only at d g e;subst e;unfold Sj;simp only[len];refine AC (λc=>?_) (λc=>AA (by rw[Bs (by omega)]));have⟨b,q1,q2⟩:=zj d c;rw[q1,AE,yJ,zq a,AE,AE,ADk,zq a,AE,AE,ADk,AY];refine AA ⟨⟨by omega,by omega,?_⟩,by omega⟩;rw[q2,fC,vv];rfl
 obtain⟨r,hr,rfl⟩:=key;rw[hr,AE,bvI];rw[show(BitVec.ofInt 32 (if(false=true)then(-1)else(if(false=true)then((2^(32-1))-1)else((2^32)-1))))=4294967295#32 by decide,w32];rfl
set_option maxHeartbeats 400000
def gS(n:Nat):Bb:=List.replicate n 0
def Vs(c:Cv):Bb:=D9 (if c.1=true then(c.2.length:Int)else 255) 1++(c.2++gS (12-c.2.length))
def cl(a:JP 16 Cv)(i:Nat):Cv:=(GW a i).getD (false,[])
def Oo(a:JP 16 Cv)(k:Nat):Bb:=(List.range k).flatMap λi=>Vs (cl a i)
def Pz(x:AZ):Bb:=D9 x.2.1 8++(D9 x.1 4++(Oo x.2.2 16++gS 24))
def MH(x:AZ):Bb:=Pz x++(D9 (X8 (Pz x)) 4++D9 x.2.1 8)
theorem pJ{a:JP 16 Cv}{i:Nat}(h:i<16):GW a (i:Int)=some (cl a i)/\cl a i=a ⟨i,h⟩:=by
 have e:GW a (i:Int)=some (a ⟨i,h⟩):=by unfold GW;rw[dif_pos ⟨by omega,by omega⟩];rfl
 unfold cl;rw[e];exact⟨rfl,rfl⟩
def Nj(a:JP 16 Cv)(k:Nat):Oo a (k+1)=Oo a k++Vs (cl a k):=by unfold Oo;rw[List.range_succ,fB,I2,jv,D8]
def fJ{c:Cv}(h:c.2.length<=12):(Vs c).length=13:=by unfold Vs gS;rw[Af,Af,BB,I4];omega
def Hn.cl{x:AZ}(h:Hn x)(i:Nat):H7 (cl x.2.2 i):=by rcases Ao i 16 with a|a;rw[(pJ a).2];exact(h.2.2.2.2 _).1;unfold Go.Pm.cl GW;rw[dif_neg (by omega)];exact⟨by decide,.inr rfl⟩
def JT{x:AZ}(h:Hn x): ∀k:Nat,(Oo x.2.2 k).length=13*k
 |0=>rfl
 |k+1=>by rw[Nj,Af,JT h k,fJ (h.cl k).1];omega
def I5{x:AZ}(h:Hn x):(Pz x).length=244:=by unfold Pz gS;simp only[Af,BB,JT h,I4]
def nD{x:AZ}(h:Hn x):(MH x).length=256:=by unfold MH;simp only[Af,BB,I5 h]
def U4{x:AZ}:(MH x).take 8=D9 x.2.1 8:=by unfold MH Pz;rw[A0,MC (BB _ _)]
def mG{x:AZ}(h:Hn x):(MH x).drop 248=D9 x.2.1 8:=by unfold MH;rw[<-A0,List.drop_left' (by rw[Af,I5 h,BB])]
def gI(n:Nat):GS (List.replicate n 0)=gS n:=by unfold GS gS;rw[List.map_replicate];rfl
def rT{x:Int}(h:0<=x/\x<=16777216):Gi x=some (gS x.toNat):=by unfold Gi Go.Ab.mk;rw[if_pos ⟨h.1,Aj _,h.2⟩,AE,gI]
def rX{s:Bb}{n k:Int}(h:s.length<=1099511627776)(a:1<=k/\k<=8):A3 (Al (s,(n,k))) λr=>r=s++D9 n k.toNat:=⟨_,HJ h a.1 a.2,rfl⟩
def mU{x:AZ}(h:Hn x):Dl x=some 0:=by have⟨a,g,c⟩:=LA (x:=x);have⟨b,i,d⟩:=NF (x:=x);have e:a=true:=c.2 ⟨h.1,h.2.1,h.2.2.1,h.2.2.2.1⟩;have f:b=true:=d.2 h.2.2.2.2;unfold Dl;rw[g,e,AE,i,f];rfl
def mV{x:AZ}(h:Hn x):Dv x=some (MH x,0):=by
 suffices g:A3 (Dv x) λr=>r=(MH x,0) by obtain⟨r,hr,rfl⟩:=g;exact hr
 unfold Dv;rw[mU h,AE];refine AL (λb=>absurd rfl b) λ_=>?_;refine AB (rX (by decide) (by decide)) λL p=>AB (rX (by rw[p];simp[BB]) (by decide)) λG z=>?_;have w:G=D9 x.2.1 8++D9 x.1 4:=by rw[z,p];rfl
 refine AB (P:=λr=>r=D9 x.2.1 8++(D9 x.1 4++Oo x.2.2 16)) ?_ λf d=>?_
 ·refine Gf (λ(s:Bb×Int)=>0<=s.2/\s.2<=16/\s.1=D9 x.2.1 8++(D9 x.1 4++Oo x.2.2 s.2.toNat)) (λ(s:Bb×Int)=>(16-s.2).toNat) ⟨Aj _,by dsimp only;decide,by rw[w];simp[Oo]⟩ ?_;rintro⟨s,i⟩ ⟨u,C,g⟩;dsimp only at u C g;subst g;unfold QD;dsimp only;refine AC (λb=>?_) (λb=>A3.done (by rw[show i.toNat=16 by omega]));have⟨t,K⟩:=pJ (a:=x.2.2) (i:=i.toNat) (by omega);rw[LR u]at t;have b:=(h.cl i.toNat).1;simp only[t,AE,AY (x:=i+1)];have J:(D9 x.2.1 8++(D9 x.1 4++Oo x.2.2 i.toNat)).length<=300:=by simp only[Af,BB,JT h];omega
  refine AB (P:=λv=>v=if(cl x.2.2 i.toNat).1=true then((cl x.2.2 i.toNat).2.length:Int)else 255) ?_ λM A=>?_;exact AI (λb=>AA (if_pos b).symm) (λb=>AA (if_neg (by rw[b];decide)).symm);refine AB (rX (by omega) (by decide)) λN q=>?_;have y:wi (12-len (cl x.2.2 i.toNat).2)=((12-(cl x.2.2 i.toNat).2.length:Nat):Int):=by rw[AY (by simp only[len];omega)];simp only[len];omega
  rw[y,rT (by omega),AE,Df];refine AB (Cu (by simp only[gS,I4];omega)) λn c=>?_;have D:n.length<=24:=by rw[c.2];simp only[gS,I4];omega
  refine AB (Cu (by rw[q,Af,BB];simp only[Int.reduceToNat];omega)) λF k=>A3.next ⟨by dsimp only;omega,by dsimp only;omega,?_⟩ (by dsimp only;omega)
  dsimp only;rw[k.1,c.1,q,A,show(i+1).toNat=i.toNat+1 by omega,Nj];simp only[Vs,A0,Int.reduceToNat]
 have E:f.length=220:=by rw[d];simp only[Af,BB,JT h]
 rw[show wi (244-len f)=24 by rw[AY (by simp only[len];omega)];simp only[len];omega,rT (by decide),AE];refine AB (Cu (by simp only[gS,I4,Int.reduceToNat];omega)) λo l=>?_;have j:o=Pz x:=by rw[l.1,d];simp only[Pz,A0,Int.reduceToNat]
 rw[j,uC (by rw[I5 h];decide),AE];have B:=fO (Pz x);rw[AY];refine AB (rX (by rw[I5 h];decide) (by decide)) λH e=>AB (rX (by rw[e,Af,I5 h,BB];decide) (by decide)) λI m=>AA ?_;rw[m,e];simp only[MH,A0,Int.reduceToNat]
def wZ{c d:Cv}(e:H7 c)(f:H7 d)(h:Vs c=Vs d):c=d:=by obtain⟨g,l⟩:=c;obtain⟨i,m⟩:=d;obtain⟨j,b⟩:=LU h (by rw[BB,BB]);have l1:=e.1;have l2:=f.1;dsimp only at l1 l2;have a:=XW (k:=1) (by decide) ⟨λ_=>by dsimp only;split<;>omega,by dsimp only;split<;>omega,by dsimp only;split<;>omega⟩ ⟨λ_=>by dsimp only;split<;>omega,by dsimp only;split<;>omega,by dsimp only;split<;>omega⟩ j;dsimp only at a b;cases g<;>cases i;have:=e.2;have:=f.2;simp_all;exfalso;simp at a;omega;exfalso;simp at a;omega;simp at a;exact ES rfl (LU b (by omega)).1
def m6{x y:AZ}(a:Hn x)(b:Hn y): ∀k:Nat,Oo x.2.2 k=Oo y.2.2 k-> ∀i,i<k->cl x.2.2 i=cl y.2.2 i
 |0,_=>λi c=>absurd c (by omega)
 |k+1,h=>by rw[Nj,Nj]at h;obtain⟨d,e⟩:=LU h (by rw[JT a,JT b]);intro i c;by_cases f:i=k;subst f;exact wZ (a.cl i) (b.cl i) e;exact m6 a b k d i (by omega)
theorem ye{x y:AZ}(a:Hn x)(b:Hn y)(h:MH x=MH y):x=y:=by obtain⟨h,_⟩:=LU h (by rw[I5 a,I5 b]);obtain⟨c,h⟩:=LU h (by rw[BB,BB]);obtain⟨d,h⟩:=LU h (by rw[BB,BB]);obtain⟨e,_⟩:=LU h (by rw[JT a,JT b]);have f:=a.1;have g:=a.2.1;have j:=a.2.2.1;have k:=a.2.2.2.1;have l:=b.1;have m:=b.2.1;have n:=b.2.2.1;have o:=b.2.2.2.1;refine ES (XW (by decide) ⟨λ_=>by omega,by omega,by omega⟩ ⟨λ_=>by omega,by omega,by omega⟩ d) (ES (XW (by decide) ⟨λ_=>by omega,by omega,by omega⟩ ⟨λ_=>by omega,by omega,by omega⟩ c) (funext λi=>?_));have:=m6 a b 16 e i.val i.isLt;rw[(pJ i.isLt).2,(pJ i.isLt).2]at this;exact this
def nu{s:Bb}{n k:Int}(h:s.length<=1099511627776)(a:1<=k/\k<=8):Nk (s,(n,k))=some (s++D9 n k.toNat):=by unfold Nk;dsimp only;rw[decide_eq_true h,decide_eq_true a.1,decide_eq_true a.2];rfl
def ur{n:Int}(h:0<=n/\n<=8000):J7 ([0],n)=some (gS n.toNat):=by unfold J7;dsimp only;rw[decide_eq_true h.1,decide_eq_true h.2];rfl
def AC8{n:Int}{k:Nat}(hn:0<=n)(h:n<256^k)(a:n<9223372036854775808):rd (D9 n k)=n:=by unfold rd;rw[mK,Int.emod_eq_of_lt hn h,AY]
def AA9{b:Bb}{c:Cv}(j:b.length<=1000)(a:c.2.length<=12):Jd b c=some (b++Vs c):=by
 suffices h:A3 (Jd b c) λr=>r=b++Vs c by obtain⟨r,hr,rfl⟩:=h;exact hr
 unfold Jd;refine AB (P:=λv=>v=if c.1=true then(c.2.length:Int)else 255) ?_ λk g=>?_;exact AI (λa=>AA (if_pos a).symm) (λa=>AA (if_neg (by rw[a];decide)).symm);rw[nu (by omega) (by decide),AE];refine AB (Cu (by rw[Af,BB];simp only[Int.reduceToNat];omega)) λl e=>?_;rw[AY (by simp only[len];omega),ur (by simp only[len];omega),AE];have f:(12-len c.2).toNat=12-c.2.length:=by simp only[len];omega
 rw[f];refine AB (Cu (by rw[e.2,Af,BB];simp only[gS,I4,Int.reduceToNat];omega)) λi d=>AA ?_;rw[d.1,e.1,g];simp only[Vs,A0,Int.reduceToNat]
def tO{x:Int}(h:0<=x/\x<64):HT x=some true:=by unfold HT;rw[decide_eq_true (show x>=0 from h.1),decide_eq_true h.2];rfl
def xO{x:AZ}(h:Hn x):T9 x=some true:=by unfold T9;rw[tO ⟨h.1,h.2.1⟩,AE,decide_eq_true (show x.2.1>=0 from h.2.2.1),decide_eq_true h.2.2.2.1];rfl
theorem zO{x:AZ}(h:Hn x):So x=some true:=by
 suffices f:A3 (So x) λr=>r=true by obtain⟨r,hr,rfl⟩:=f;exact hr
 unfold So;refine AB (P:=λr=>r= .inr ()) ?_ λr hr=>by rw[hr];exact A9 (AA rfl)
 refine Gf (λ(s:Int)=>0<=s/\s<=16) (λs=>(16-s).toNat) ⟨Aj _,by decide⟩ (λs e=>?_);obtain⟨k,l⟩:=e;unfold cL;refine AC (λa=>?_) (λ_=>A3.done rfl);have c:A3 (some (Step.next (wi (s+1))):Option (Step Int (Bool ⊕ Unit))) (XF (λ(s:Int)=>0<=s/\s<=16) (λs=>(16-s).toNat) (16-s).toNat λr=>r= .inr ()):=by rw[AY (by omega)];exact A3.next ⟨by omega,by omega⟩ (by omega)
 refine AB (DY k a) λv i=>?_;have b:=h.2.2.2.2 ⟨s.toNat,by omega⟩;rw[<-i]at b;refine AC (λa=>absurd a (by have:=b.1.1;simp only[len];omega)) (λ_=>AO (λd=>?_) (λg=>?_));refine AL (λhn=>absurd (b.1.2.resolve_left (by rw[d];decide)) hn) (λ_=>AI (λa=>by rw[d]at a;cases a) (λ_=>c));exact AI (λ_=>AU (λj=>by have:=b.2 j;rw[g]at this;cases this) (λ_=>c)) (λ_=>c)
def fZ{x:AZ}(h:Hn x):J2 x=some (MH x,0):=by
 suffices d:A3 (J2 x) λr=>r=(MH x,0) by obtain⟨r,hr,rfl⟩:=d;exact hr
 unfold J2;rw[xO h,AE,zO h,AE,Ds,cond_false,cond_false,nu (by decide) (by decide),AE,nu (by rw[Cy,BB];decide) (by decide),AE];refine AB (P:=λr=>r=D9 x.2.1 8++(D9 x.1 4++Oo x.2.2 16)) ?_ λc b=>?_
 ·refine Gf (λ(s:Int×Mz)=>0<=s.1/\s.1<=16/\s.2=D9 x.2.1 8++(D9 x.1 4++Oo x.2.2 s.1.toNat)) (λ(s:Int×Mz)=>(16-s.1).toNat) ⟨Aj _,by dsimp only;decide,by simp[Oo]⟩ ?_;rintro⟨i,s⟩ ⟨k,n,d⟩;dsimp only at k n d;subst d;unfold Zb;dsimp only;refine AC (λl=>?_) (λl=>A3.done (by rw[show i.toNat=16 by omega]));have⟨j,p⟩:=pJ (a:=x.2.2) (i:=i.toNat) (by omega);rw[LR k]at j;rw[j,AE,AA9 (by simp only[Af,BB,JT h];omega) (h.cl i.toNat).1,AE,AY (x:=i+1)];refine A3.next ⟨by dsimp only;omega,by dsimp only;omega,?_⟩ (by dsimp only;omega)
  dsimp only;rw[show(i+1).toNat=i.toNat+1 by omega,Nj];simp only[A0]
 have o:c.length=220:=by rw[b];simp only[Af,BB,JT h]
 rw[show wi (244-len c)=24 by rw[AY (by simp only[len];omega)];simp only[len];omega,ur (by decide),AE];refine AB (Cu (by simp only[gS,I4,Int.reduceToNat];omega)) λg f=>?_;have e:g=Pz x:=by rw[f.1,b];simp only[Pz,A0,Int.reduceToNat]
 rw[e,rC (by rw[I5 h];decide),AE];have m:=fO (Pz x);rw[AY,nu (by rw[I5 h];decide) (by decide),AE,nu (by rw[Af,I5 h,BB];decide) (by decide),AE];apply AA;simp only[MH,A0,Int.reduceToNat]
def m7(a:JP 16 Cv)(i:Nat): ∀k:Nat,i<=k-> ∃r,Oo a k=Oo a i++r
 |0,h=>⟨[],by rw[show i=0 by omega];rfl⟩
 |k+1,h=>by by_cases e:i=k+1;exact⟨[],by rw[e,D8]⟩;obtain⟨r,hr⟩:=m7 a i k (by omega);exact⟨r++Vs (cl a k),by rw[Nj,hr,A0]⟩
def ww{x:AZ}(h:Hn x){i:Nat}(a:i<16): ∃A r,MH x=A++(Vs (cl x.2.2 i)++r)/\A.length=12+13*i:=by
 obtain⟨r,hr⟩:=m7 x.2.2 (i+1) 16 (by omega);refine⟨D9 x.2.1 8++(D9 x.1 4++Oo x.2.2 i),r++(gS 24++(D9 (X8 (Pz x)) 4++D9 x.2.1 8)),?_,by simp only[Af,BB,JT h];omega⟩;conv=>lhs;unfold MH Pz
 rw[hr,Nj];simp only[A0,Pz,hr,Nj]
def rH{a t:Bb}{n k:Int}(h:(a.length:Int)+t.length<=2199023255552)(b:1<=k)(d:k<=8)(e:k<=t.length)(g:t.take k.toNat=D9 n k.toNat)(hn:0<=n)(f:n<256^k.toNat)(c:n<9223372036854775808):Gq (a++t,((a.length:Int),k))=some n:=by unfold Gq;rw[XZ h b d,if_pos e,AE,g,AC8 hn f c]
def ABE{x:AZ}(h:Hn x):UL (MH x)=some (x,true):=by
 suffices C:A3 (UL (MH x)) λr=>r=(x,true) by obtain⟨r,hr,rfl⟩:=C;exact hr
 have l:=nD h;have R:=h.1;have U:=h.2.1;have S:=h.2.2.1;have V:=h.2.2.2.1;have q1:Gq (MH x,(8,4))=some x.1:=by have:=rH (a:=D9 x.2.1 8) (t:=D9 x.1 4++(Oo x.2.2 16++(gS 24++(D9 (X8 (Pz x)) 4++D9 x.2.1 8)))) (n:=x.1) (k:=4) (by simp only[Af,BB,JT h,gS,I4];omega) (by decide) (by decide) (by simp only[Af,BB];omega) (by exact MC (BB _ _)) R (by simp only[Int.reduceToNat];omega) (by omega);rw[BB]at this;rw[<-this];simp only[MH,Pz,A0];rfl
 have q2:Gq (MH x,(0,8))=some x.2.1:=by have:=rH (a:=[]) (t:=MH x) (n:=x.2.1) (k:=8) (by rw[l];decide) (by decide) (by decide) (by rw[l];decide) U4 S (by simp only[Int.reduceToNat];omega) (by omega);exact this
 unfold UL;rw[q1,AE,q2,AE];refine AB (P:=λr=> ∃z,r= .inr (x,z)) ?_ λr hr=>by obtain⟨z,rfl⟩:=hr;exact A9 (AA rfl)
 refine Gf (λ(s:Int×AZ×AZ)=>0<=s.1/\s.1<=16/\s.2.1.1=x.1/\s.2.1.2.1=x.2.1/\ ∀j:Fin 16,s.2.1.2.2 j=if(j.val:Int)<s.1 then x.2.2 j else(false,[])) (λ(s:Int×AZ×AZ)=>(16-s.1).toNat) ⟨Aj _,by dsimp only;decide,rfl,rfl,λj=>by rw[if_neg (by dsimp only;omega)];rfl⟩ ?_;rintro⟨i,⟨p,n,a⟩,z⟩ ⟨I,Q,H,hn,g⟩;dsimp only at I Q H hn g;subst H hn;unfold dr;dsimp only;refine AC (λF=>?_) (λF=>A3.done ⟨z,?_⟩)
 ·rw[AY (x:=i*13),AY (x:=12+i*13),AY (x:=12+i*13+1),AY (x:=i+1)];have⟨T,m⟩:=pJ (a:=x.2.2) (i:=i.toNat) (by omega);obtain⟨A,r,B,M⟩:=ww h (i:=i.toNat) (by omega);have b:=h.cl i.toNat
  generalize N:cl x.2.2 i.toNat=c at*;have G:A.length+(13+r.length)=256:=by have:=l;rw[B,Af,Af,fJ b.1]at this;exact this
  have f:Gq (MH x,(12+i*13,1))=some (if c.1=true then(c.2.length:Int)else 255):=by have y:=b.1;have:=rH (a:=A) (t:=Vs c++r) (n:=if c.1=true then(c.2.length:Int)else 255) (k:=1) (by rw[Af,fJ b.1];omega) (by decide) (by decide) (by rw[Af,fJ b.1];omega) (by unfold Vs;rw[List.append_assoc];exact List.take_left' (BB _ _)) (by split<;>omega) (by simp only[Int.reduceToNat];split<;>omega) (by split<;>omega);rw[<-B]at this;rw[<-this,M];congr 3;omega
  rw[f,AE];have J: ∀o:JP 16 Cv,(∀j:Fin 16,o j=if(j.val:Int)<i+1 then x.2.2 j else(false,[]))->A3 (some (Step.next (i+1,((x.1,(x.2.1,o)),z))):Option (Step (Int×AZ×AZ) ((Bool×AZ)⊕ (AZ×AZ)))) (XF (λ(s:Int×AZ×AZ)=>0<=s.1/\s.1<=16/\s.2.1.1=x.1/\s.2.1.2.1=x.2.1/\ ∀j:Fin 16,s.2.1.2.2 j=if(j.val:Int)<s.1 then x.2.2 j else(false,[])) (λ(s:Int×AZ×AZ)=>(16-s.1).toNat) (16-i).toNat λr=> ∃z,r= .inr (x,z)):=λo w=>A3.next ⟨by dsimp only;omega,by dsimp only;omega,rfl,rfl,w⟩ (by dsimp only;omega)
  by_cases e:c.1=true;rw[if_pos e];have y:=b.1;rw[beq_eq_false_iff_ne.2 (by omega),cond_false,decide_eq_false (by omega),cond_false,AY];obtain⟨s,C,D⟩:=Dh (s:=MH x) (lo:=12+i*13+1) (hi:=12+i*13+1+(c.2.length:Int)) (by omega) (by omega) (by rw[l];omega);have E:s=c.2:=by
   rw[D.1,B];have K:(12+i*13+1).toNat=A.length+1:=by omega
   have L:(12+i*13+1+(c.2.length:Int)).toNat-(12+i*13+1).toNat=c.2.length:=by omega
   rw[L,K,<-Oe,Pn];unfold Vs;rw[if_pos e,A0,List.drop_left' (BB _ _),A0,Vi]
  rw[C,E,AE];have q: ∃v,GW a i=some v:=by obtain⟨v,m,_⟩:=DY (a:=a) I F;exact⟨v,m⟩
  obtain⟨v,q⟩:=q;rw[q,AE,AE,AE,gf];refine J _ λj=>?_;unfold Uz;by_cases O:(j.val:Int)=i;have u:j=⟨i.toNat,by omega⟩:=Fin.ext (by dsimp only;omega);rw[if_pos (by omega),if_pos (by omega),u,<-m];exact ES e.symm rfl;rw[if_neg (by omega),g j];by_cases d:(j.val:Int)<i;rw[if_pos d,if_pos (by omega)];rw[if_neg d,if_neg (by omega)];rw[if_neg e,beq_iff_eq.2 rfl,cond_true,AE,gf];refine J _ λj=>?_;rw[g j];by_cases O:(j.val:Int)=i;have u:j=⟨i.toNat,by omega⟩:=Fin.ext (by dsimp only;omega);rw[if_neg (by omega),if_pos (by omega),u,<-m];have:c.1=false:=by simpa using e
  exact ES this.symm ((b.2.resolve_left e).symm);by_cases d:(j.val:Int)<i;rw[if_pos d,if_pos (by omega)];rw[if_neg d,if_neg (by omega)]
 refine congrArg Sum.inr (ES (ES rfl (ES rfl (funext λj=>?_))) rfl);exact(g j).trans (if_pos (by omega))
theorem AAj{x:AZ}(h:Hn x)(hn:x.2.1≠0):MH x≠gS 256:=λe=>hn (by have:=congrArg (List.take 8) e;rw[U4]at this;have a:=h.2.2.1;have b:=h.2.2.2.1;exact XW (k:=8) (by decide) ⟨λ_=>by omega,by omega,by omega⟩ ⟨λ_=>by omega,by omega,by omega⟩ (this.trans (by decide)))
def tH:U5 ()=some (gS 256):=by unfold U5;rw[ur (by decide)];rfl
def xI{x:AZ}(h:Hn x)(hn:x.2.1≠0):Oh (MH x)=some (x,0):=by
 have b:=nD h;unfold Oh;have c:len (MH x)=256:=by simp only[len];omega
 obtain⟨m,q1,e⟩:=Dh (s:=MH x) (lo:=0) (hi:=8) (by decide) (by decide) (by rw[b];decide);obtain⟨o,q2,f⟩:=Dh (s:=MH x) (lo:=248) (hi:=256) (by decide) (by decide) (by rw[b];decide);obtain⟨p,q3,g⟩:=Dh (s:=MH x) (lo:=0) (hi:=244) (by decide) (by decide) (by rw[b];decide);have i:m=D9 x.2.1 8:=e.1.trans U4;have j:o=D9 x.2.1 8:=by rw[f.1];show List.take 8 (List.drop 248 (MH x))=_;rw[mG h,Bs (by rw[BB];exact Ag _)]
 have l:p=Pz x:=g.1.trans (by show List.take 244 (MH x)=_;unfold MH;exact MC (I5 h));have d:=fO (Pz x);have q4:Gq (MH x,(244,4))=some (X8 (Pz x)):=by have:=rH (a:=Pz x) (t:=D9 (X8 (Pz x)) 4++D9 x.2.1 8) (n:=X8 (Pz x)) (k:=4) (by simp only[Af,BB,I5 h];decide) (by decide) (by decide) (by simp only[Af,BB];decide) (MC (BB _ _)) (by omega) (by simp only[Int.reduceToNat];omega) (by omega);rw[I5 h]at this;exact this
 rw[c,bne_self_eq_false,cond_false,tH,AE,beq_eq_false_iff_ne.2 (AAj h hn),cond_false,q1,AE,q2,AE,i,j,bne_self_eq_false,cond_false,q3,AE,l,q4,AE,rC (by rw[I5 h];decide),AE,AY,bne_self_eq_false,cond_false,ABE h,AE,fZ h,AE,bne_self_eq_false,bne_self_eq_false];rfl
def yU(x:AZ):Bb:=if x.2.1=0 then gS 256 else MH x
def zH{x:AZ}(h:Hn x)(a:x.2.1=0->x=(x.1,(0,JP.all (false,[])))):Gy (yU x,x.1)=some (x,0):=by
 unfold Gy yU;rw[tO ⟨h.1,h.2.1⟩,AE,Ds,cond_false];by_cases hn:x.2.1=0;rw[if_pos hn];have e:Oh (gS 256)=some ((0,(0,(JP.all (false,[])))),7):=by unfold Oh;rw[show len (gS 256)=256 by unfold len gS;rw[List.length_replicate];rfl,bne_self_eq_false,cond_false,tH,Option.bind_some,beq_self_eq_true,cond_true]
 rw[e,AE];exact congrArg (λq=>some (q,(0:Int))) (a hn).symm;rw[if_neg hn,xI h hn,AE];show(bif x.1 !=x.1 then _ else some (x,(0:Int)))=_;rw[bne_self_eq_false];rfl
def Jl(p:Bb):Bb:=D9 (p.length:Int) 4++(p++D9 (X8 (D9 (p.length:Int) 4++p)) 4)
theorem Hr(p:Bb):(Jl p).length=p.length+8:=by grind[Jl,List.length_append,BB]
theorem iM{p:Bb}(h:p.length<=8392):EF p=some (Jl p):=by
 unfold EF;simp only[len];rw[decide_eq_false (by omega),cond_false,HJ (by simp) (by decide) (by decide),AE,Cy];have b:(D9 (p.length:Int) 4++p).length=p.length+4:=by grind[List.length_append,BB]
 rw[(by grind[sapp,BB]:sapp (D9 (p.length:Int) (Int.toNat 4)) p=some (D9 (p.length:Int) 4++p)),AE,uC (by omega),AE];have a:=fO (D9 (p.length:Int) 4++p);rw[AY,HJ (by omega) (by decide) (by decide),AE,A0];rfl
def UF(al:Nat)(t:Bb):Bb×Int×Int:=
 if t.length<4 then([],0,5)else
 if rd (t.take 4)>8392 then([],0,2)else
 if(t.length:Int)<rd (t.take 4)+8 then([],0,5)else
 if rd ((t.drop (4+(rd (t.take 4)).toNat)).take 4)≠X8 (t.take (4+(rd (t.take 4)).toNat))then([],0,3)else
 ((t.drop 4).take (rd (t.take 4)).toNat,(al:Int)+8+rd (t.take 4),0)
def rd4{t:Bb}(h:4<=t.length):0<=rd (t.take 4)/\rd (t.take 4)<4294967296:=by
 have a:(t.take 4).length=4:=by rw[Bh];omega
 have:=(u6 (l:=t.take 4) (by omega)).1 (by omega);rw[a]at this;exact this
theorem Te{a t:Bb}(h:(a.length:Int)+t.length<=2199023255552):By (a++t,(a.length:Int))=some (UF a.length t):=by
 have b:len (a++t)=(a.length:Int)+t.length:=by grind[List.length_append]
 have o:((a++t).length:Int)=(a.length:Int)+t.length:=b;unfold By UF;dsimp only;rw[decide_eq_false (by omega),cond_false,decide_eq_false (by omega),cond_false,gT h (by decide) (by decide)];by_cases g:t.length<4;rw[if_neg (by omega),if_pos g];rfl;rw[if_pos (by omega),if_neg g,AE,show Int.toNat 4=4 from rfl];have⟨p,u⟩:=rd4 (t:=t) (by omega);generalize hn:rd (t.take 4)=n at*;obtain⟨m,rfl⟩:=EU p;rw[show((0:Int) !=0)=false by decide,cond_false];by_cases d:(m:Int)>8392;rw[decide_eq_true d,cond_true,if_pos d];rw[decide_eq_false d,cond_false,if_neg d,b,AY,AY];by_cases i:(t.length:Int)<(m:Int)+8;rw[decide_eq_true (by omega),cond_true,if_pos i];rw[decide_eq_false (by omega),cond_false,if_neg i,Df];have f:wi (wi ((a.length:Int)+4)+(m:Int))=((a++t.take (4+m)).length:Int):=by rw[AY (x:=(a.length:Int)+4),AY,Af,Bh];omega
 have j:a++t=(a++t.take (4+m))++t.drop (4+m):=by rw[A0,Ee]
 have s:((t.drop (4+m)).length:Int)=t.length-(4+m):=by rw[G5];omega
 have c:((a++t.take (4+m)).length:Int)=a.length+4+m:=by rw[Af,Bh];omega
 have l:Av (a++t,(wi (wi ((a.length:Int)+4)+(m:Int)),4))=some (rd ((t.drop (4+m)).take 4),0):=by
  rw[f];conv=>lhs;rw[j]
  rw[gT (by omega) (by decide) (by decide),if_pos (by omega)];rfl
 have q:TE (a++t) (a.length:Int) (wi (wi ((a.length:Int)+4)+(m:Int)))=some (t.take (4+m)):=by unfold TE;rw[f,if_pos (by omega),c,Df,Pn,show((a.length:Int)+4+m).toNat-a.length=4+m by omega]
 have r:TE (a++t) (wi ((a.length:Int)+4)) (wi (wi ((a.length:Int)+4)+(m:Int)))=some ((t.drop 4).take m):=by unfold TE;rw[f,AY (x:=(a.length:Int)+4),if_pos (by omega),c,show((a.length:Int)+4).toNat=a.length+4 by omega,Yo,Yp (by omega),Cy,Vj,show((a.length:Int)+4+m).toNat-(a.length+4)=m by omega]
 rw[l,AE,q,AE,uC (by rw[Bh];omega),AE,r];have⟨q1,q2⟩:=rd4 (t:=t.drop (4+m)) (by omega);have k:IntKind.wrap .u32 (rd ((t.drop (4+m)).take 4))=rd ((t.drop (4+m)).take 4):=by rw[tk];omega
 rw[k];by_cases e:rd ((t.drop (4+m)).take 4)=X8 (t.take (4+m));rw[if_neg (by simp[e]),e,bne_self_eq_false,cond_false,AE,AY (x:=(a.length:Int)+8),AY];rw[if_pos e,bne_iff_ne.2 e,cond_true]
theorem zG{x:Bb}{i:Int}(a:0<=i)(h:i>x.length):CD (x,(i,4))=some (0,5):=by grind[CD]
theorem Xa{a t:Bb}(h:(a.length:Int)+t.length<=2199023255552):FZ (a++t,(a.length:Int))=some (UF a.length t):=by
 have f:len (a++t)=(a.length:Int)+t.length:=by grind[List.length_append]
 have p:((a++t).length:Int)=(a.length:Int)+t.length:=f;unfold FZ UF;dsimp only;rw[decide_eq_false (by omega),cond_false,decide_eq_false (by omega),cond_false,XZ h (by decide) (by decide)];by_cases i:t.length<4;rw[if_neg (by omega),if_pos i];rfl;rw[if_pos (by omega),if_neg i,AE,show Int.toNat 4=4 from rfl];have⟨q,w⟩:=rd4 (t:=t) (by omega);generalize hn:rd (t.take 4)=n at*;obtain⟨m,rfl⟩:=EU q;rw[show((0:Int) !=0)=false by decide,cond_false];by_cases d:(m:Int)>8392;rw[decide_eq_true d,cond_true,if_pos d];rw[decide_eq_false d,cond_false,if_neg d];have k:wi (wi ((a.length:Int)+4)+(m:Int))=(a.length:Int)+4+m:=by grind[AY]
 by_cases j:(t.length:Int)<(m:Int)+8;rw[if_pos j];have:CD (a++t,(wi (wi ((a.length:Int)+4)+(m:Int)),4))=some (0,5):=by
  rw[k];by_cases v:(a.length:Int)+4+m>(a++t).length;grind[zG];have c:(a.length:Int)+4+m=((a++t.take (4+m)).length:Int):=by grind[List.length_append,List.length_take]
  have g:a++t=(a++t.take (4+m))++t.drop (4+m):=by rw[A0,Ee]
  grind[List.length_drop,XZ]
 rw[this];rfl;rw[if_neg j,Df];have c:wi (wi ((a.length:Int)+4)+(m:Int))=((a++t.take (4+m)).length:Int):=by grind[List.length_append,List.length_take]
 have g:a++t=(a++t.take (4+m))++t.drop (4+m):=by rw[A0,Ee]
 have u:((t.drop (4+m)).length:Int)=t.length-(4+m):=by rw[G5];omega
 have b:((a++t.take (4+m)).length:Int)=a.length+4+m:=by rw[Af,Bh];omega
 have l:CD (a++t,(wi (wi ((a.length:Int)+4)+(m:Int)),4))=some (rd ((t.drop (4+m)).take 4),0):=by
  rw[c];conv=>lhs;rw[g]
  rw[XZ (by omega) (by decide) (by decide),if_pos (by omega)];rfl
 have r:TE (a++t) (a.length:Int) (wi (wi ((a.length:Int)+4)+(m:Int)))=some (t.take (4+m)):=by unfold TE;rw[c,if_pos (by omega),b,Df,Pn,show((a.length:Int)+4+m).toNat-a.length=4+m by omega]
 have s:TE (a++t) (wi ((a.length:Int)+4)) (wi (wi ((a.length:Int)+4)+(m:Int)))=some ((t.drop 4).take m):=by unfold TE;rw[c,AY (x:=(a.length:Int)+4),if_pos (by omega),b,show((a.length:Int)+4).toNat=a.length+4 by omega,Yo,Yp (by omega),Cy,Vj,show((a.length:Int)+4+m).toNat-(a.length+4)=m by omega]
 rw[l,AE,show(((rd ((t.drop (4+m)).take 4),(0:Int)):Int×Int).2 !=0)=false from rfl,cond_false,r,AE,rC (by rw[Bh];omega),AE,s];have o:=fO (t.take (4+m));rw[AY (x:=X8 (t.take (4+m)))];by_cases e:rd ((t.drop (4+m)).take 4)=X8 (t.take (4+m));rw[if_neg (by simp[e]),e,bne_self_eq_false,cond_false,AE,k,AY];refine congrArg some (ES rfl (ES ?_ rfl));dsimp only;omega;rw[if_pos e,bne_iff_ne.2 e,cond_true]
def re{a:Nat}{t:Bb}(h:(UF a t).2.2=0):(UF a t).1.length<=8392/\(∃c,t=Jl (UF a t).1++c)/\(UF a t).2.1=(a:Int)+8+(UF a t).1.length:=by
 unfold UF at h⊢;by_cases j:t.length<4;rw[if_pos j]at h;exact absurd h (by decide);rw[if_neg j]at h⊢;obtain⟨q,r⟩:=rd4 (t:=t) (by omega);by_cases k:rd (t.take 4)>8392;rw[if_pos k]at h;exact absurd h (by decide);rw[if_neg k]at h⊢;by_cases o:(t.length:Int)<rd (t.take 4)+8;rw[if_pos o]at h;exact absurd h (by decide);rw[if_neg o]at h⊢;by_cases b:rd ((t.drop (4+(rd (t.take 4)).toNat)).take 4)≠X8 (t.take (4+(rd (t.take 4)).toNat));rw[if_pos b]at h;exact absurd h (by decide);rw[if_neg b]at h⊢;have b:=Decidable.not_not.1 b;dsimp only;have e:(t.take 4).length=4:=by rw[Bh];omega
 have g:D9 (rd (t.take 4)) 4=t.take 4:=by have:=qu (l:=t.take 4) (by omega);rwa [e]at this
 generalize hn:rd (t.take 4)=n at*;obtain⟨m,rfl⟩:=EU q;rw[Df]at b⊢;have i:((t.drop 4).take m).length=m:=by rw[Bh,G5];omega
 refine⟨by omega,?_,by omega⟩;have p:t.take (4+m)=D9 (m:Int) 4++(t.drop 4).take m:=by rw[List.take_add,g]
 have f:((t.drop (4+m)).take 4).length=4:=by rw[Bh,G5];omega
 have d:D9 (X8 (t.take (4+m))) 4=(t.drop (4+m)).take 4:=by rw[<-b];have:=qu (l:=(t.drop (4+m)).take 4) (by omega);rwa [f]at this
 refine⟨t.drop (4+m+4),?_⟩;unfold Jl;rw[i,<-p,d,<-A0,<-p];conv=>lhs;rw[<-Ee (4+m) t,<-Ee 4 (t.drop (4+m)),Oe]
 rw[A0]
theorem jj{c:Nat}{p a:Bb}(h:p.length<=8392):UF c (Jl p++a)=(p,((c:Int)+8+p.length,0)):=by
 have d:aA 4 (p.length:Int):=⟨λ_=>⟨by omega,by rw[show(256:Int)^4=4294967296 by decide];omega⟩,by omega⟩
 have e:=fO (D9 (p.length:Int) 4++p);have b:aA 4 (X8 (D9 (p.length:Int) 4++p)):=⟨λ_=>⟨by omega,by rw[show(256:Int)^4=4294967296 by decide];omega⟩,by omega⟩
 unfold UF;rw[(by grind[Jl,List.append_assoc,List.take_left',BB]:(Jl p++a).take 4=D9 (p.length:Int) 4),(kq (by decide) d),Df,(by grind[Jl,List.append_assoc,List.take_left',List.length_append,BB]:(Jl p++a).take (4+p.length)=D9 (p.length:Int) 4++p),(by grind[Jl,List.append_assoc,List.drop_left',List.length_append,BB]:(Jl p++a).drop (4+p.length)=D9 (X8 (D9 (p.length:Int) 4++p)) 4++a),(by grind[Jl,List.append_assoc,List.drop_left',BB]:(Jl p++a).drop 4=p++(D9 (X8 (D9 (p.length:Int) 4++p)) 4++a)),(by rw[Af,(Hr p)]:(Jl p++a).length=p.length+8+a.length),if_neg (by omega),if_neg (by omega),if_neg (by omega),MC (BB _ _),kq (by decide) b,if_neg (by simp),MC rfl]
def CI(b:DW):Prop:=b.1.length<=1099511627776/\0<=b.2.1/\b.2.1<=b.1.length
def Ml{b:DW}{x:Int}(h:CI b)(c:0<=x/\x<=8):A3 (BF b x) λr=>CI r.2/\(x<=4->0<=r.1/\r.1<4294967296):=by
 unfold BF;unfold CI at*
 repeat' first
   |with_reducible apply AL<;>intro a
   |with_reducible apply AA
   |(with_reducible refine AJ ?_ (CR ?_);intro r hr)
 all_goals ((try dsimp[len]at*);(try first|omega|assumption|grind[AY]))
def NH{b:DW}{x:Int}(h:CI b)(d:0<=x/\x<=4294967296):A3 (Ci b x) λr=>CI r.2:=by
 unfold Ci;unfold CI at*
 repeat' first
   |with_reducible apply AC<;>intro a
   |with_reducible apply AL<;>intro a
   |with_reducible apply AA
   |(with_reducible refine AJ ?_ (Dh ?_ ?_ ?_);rintro r ⟨hr,c⟩)
 all_goals ((try dsimp[len]at*);(try first|omega|assumption|grind[AY]))
def UN{b:DW}{x:Unit}(h:CI b):A3 (CY b x) λr=>CI r.2:=by
 unfold CY;repeat' with_reducible first|apply AC<;>intro a|apply AU<;>intro a|apply AL<;>intro a|apply AI<;>intro a|apply AA|(refine AJ ?_ (Ml ?_ ?_);intro r hr)|(refine AJ ?_ (NH ?_ ?_);intro r hr)
 all_goals ((try dsimp[len]at*);(try first|omega|assumption|grind[CI]))
theorem YH{x:Bb}(h:x.length<=1099511627776):A3 (Dw x) λr=>r.2=0->K6 r.1:=by
 unfold Dw;have b:CI (x,0,0):=⟨h,by simp,by simp⟩
 repeat' with_reducible first|apply AO<;>intro a|apply AL<;>intro a|apply AI<;>intro a|apply AA|(refine AJ ?_ (Ml ?_ ?_);intro r hr)|(refine AJ ?_ (UN ?_);intro r hr)|(refine AJ ?_ (NH ?_ ?_);intro r hr)|(apply AB (B6);intro r hr)
 all_goals first|omega|assumption|(exact And.left (by assumption))|grind
def Ui{x:Bb×List Int}{s:Bb×Int}(h:0<=s.2/\s.2<=x.2.length/\x.2.length<=16777216/\x.1.length<=1073741824/\(s.1.length:Int)<=x.1.length+8*s.2):A3 (Ad (KU x) s) λr=>(r.length:Int)<=x.1.length+8*x.2.length:=by
 refine AQ (λ(s:Bb×Int)=>0<=s.2/\s.2<=x.2.length/\x.2.length<=16777216/\x.1.length<=1073741824/\(s.1.length:Int)<=x.1.length+8*s.2) (λ(s:Bb×Int)=>((x.2.length:Int)-s.2).toNat) h (λs b=>?_);unfold KU;repeat' with_reducible first|apply AC<;>intro a|apply AI<;>intro a|apply AA|(refine AJ ?_ (DD ?_);intro r hr)|(refine AJ ?_ (AK ?_ ?_);rintro r ⟨hr,c⟩)
 all_goals ((try dsimp[len]at*);(try first|omega|assumption|grind[AY]))
def W5{x:Bb×List Int}(h:x.2.length<=16777216/\x.1.length<=1073741824):A3 (HA x) λr=>(r.length:Int)<=x.1.length+8*x.2.length:=by
 unfold HA;repeat' with_reducible first|apply AA|(refine AJ ?_ (Ui ?_);intro r hr)
 all_goals ((try dsimp[len]at*);(try first|omega|assumption|grind[AY]))
def VI{x:List Ah}{s:Bb×Int}(h:0<=s.2/\s.2<=x.length/\Wb x/\(s.1.length:Int)<=10+40000*s.2):A3 (Ad (LH x) s) λr=>(r.length:Int)<=10+40000*x.length:=by
 refine AQ (λ(s:Bb×Int)=>0<=s.2/\s.2<=x.length/\Wb x/\(s.1.length:Int)<=10+40000*s.2) (λ(s:Bb×Int)=>((x.length:Int)-s.2).toNat) h (λs c=>?_);unfold LH;have⟨e,f,⟨b,a⟩,g⟩:=c;repeat' with_reducible first|apply AC<;>intro d|apply AI<;>intro d|apply AA|(refine AJ ?_ (DD ?_);intro r hr)|(refine AJ ?_ (W5 ?_);intro r hr)|(refine AJ ?_ (AK ?_ ?_);rintro r ⟨hr,i⟩)
 all_goals try (have j:=a _ _ (by assumption))
 all_goals try unfold z4 at*
 all_goals dsimp[len]at*
 all_goals first|omega|(refine⟨⟨?_,?_,⟨b,a⟩,?_⟩,?_⟩<;>(simp (disch:=omega) only[AY];omega))|grind
def Qx{x:List Ah}:A3 (Ju x) λr=>r.1.length<=16777216:=by
 unfold Ju;repeat' with_reducible first|apply AO<;>intro a|apply AI<;>intro a|apply AA|(apply AB (Di);intro r hr)|(refine AJ ?_ (DD ?_);intro r hr)|(refine AJ ?_ (VI ?_);intro r hr)
 all_goals ((try dsimp[len]at*);(try first|omega|assumption|grind[Wb]))
def CJ(b:Bk):Prop:=b.1.length<=1099511627776/\0<=b.2.1/\b.2.1<=b.1.length
def Fw{b:Bk}{x:Int}(h:CJ b)(c:0<=x/\x<=8):A3 (CG b x) λr=>CJ r.2/\(x<=2->0<=r.1/\r.1<65536):=by
 unfold CG;unfold CJ at*
 repeat' first
   |with_reducible apply AI<;>intro a
   |with_reducible apply AA
   |(with_reducible refine AJ ?_ (CR ?_);intro r hr)
 all_goals ((try dsimp[len]at*);(try first|omega|assumption|grind[AY]))
def Ss  {s:Int×List Int×Bk}(h:0<=s.1/\s.1+s.2.1.length<=65536/\CJ s.2.2):A3 (Ad (Ib) s) λr=>CJ r.2/\r.1.length<=65536:=by
 refine AQ (λ(s:Int×List Int×Bk)=>0<=s.1/\s.1+s.2.1.length<=65536/\CJ s.2.2) (λ(s:Int×List Int×Bk)=>s.1.toNat) h (λs c=>?_);unfold Ib;repeat' with_reducible first|apply AC<;>intro a|apply AO<;>intro a|apply AI<;>intro a|apply AA|(refine AJ ?_ (Fw ?_ ?_);intro r hr)|(refine AJ ?_ (Ae ?_);rintro r ⟨hr,d,b⟩)
 all_goals ((try dsimp[len]at*);(try first|omega|assumption|grind[AY]))
def UO{b:Bk}{x:Int}(h:CJ b)(a:0<=x/\x<=2):A3 (Fq b x) λr=>CJ r.2:=by
 unfold Fq;repeat' with_reducible first|apply AA|(refine AJ ?_ (Fw ?_ ?_);intro r hr)|(refine AJ ?_ (Ss ?_);intro r hr)
 all_goals ((try dsimp[len]at*);(try first|omega|assumption|grind[AY]))
def VH  {s:Int×List Ah×Bk}(h:0<=s.1/\s.1+s.2.1.length<=65536/\CJ s.2.2):A3 (Ad (LG) s) λr=>CJ r.2/\r.1.length<=65536:=by
 refine AQ (λ(s:Int×List Ah×Bk)=>0<=s.1/\s.1+s.2.1.length<=65536/\CJ s.2.2) (λ(s:Int×List Ah×Bk)=>s.1.toNat) h (λs c=>?_);unfold LG;repeat' with_reducible first|apply AC<;>intro a|apply AO<;>intro a|apply AI<;>intro a|apply AA|(refine AJ ?_ (Fw ?_ ?_);intro r hr)|(refine AJ ?_ (UO ?_ ?_);intro r hr)|(refine AJ ?_ (Ae ?_);rintro r ⟨hr,d,b⟩)
 all_goals ((try dsimp[len]at*);(try first|omega|assumption|grind[AY]))
def Qw{x:Bb}(h:x.length<=1099511627776):A3 (Jt x) λr=>r.1.length<=65536/\(r.2=0->Wb r.1):=by
 unfold Jt;have b:CJ (x,0,false):=⟨h,by simp,by simp⟩
 repeat' with_reducible first|apply AO<;>intro a|apply AL<;>intro a|apply AI<;>intro a|apply AA|(refine AJ ?_ (Fw ?_ ?_);intro r hr)|(refine AJ ?_ (VH ?_);intro r hr)|(apply AB (Di);intro r hr)
 all_goals ((try dsimp[len]at*);(try first|omega|assumption|grind[AY]))
def VG{x:BY}{s:Bb×Int}(h:0<=s.2/\s.2<=x.length/\x.length<=64/\(s.1.length:Int)<=10+24*s.2):A3 (Ad (Hy x) s) λr=>r.length<=2000:=by
 refine AQ (λ(s:Bb×Int)=>0<=s.2/\s.2<=x.length/\x.length<=64/\(s.1.length:Int)<=10+24*s.2) (λ(s:Bb×Int)=>((x.length:Int)-s.2).toNat) h (λs b=>?_);unfold Hy;repeat' with_reducible first|apply AC<;>intro a|apply AI<;>intro a|apply AA|(refine AJ ?_ (DD ?_);intro r hr)|(refine AJ ?_ (AK ?_ ?_);rintro r ⟨hr,c⟩)
 all_goals ((try dsimp[len]at*);(try first|omega|assumption|grind[AY]))
def Qv{x:BY}:A3 (HY x) λr=>r.1.length<=2000:=by
 unfold HY;repeat' with_reducible first|apply AO<;>intro a|apply AI<;>intro a|apply AA|(apply AB (Fv);intro r hr)|(refine AJ ?_ (DD ?_);intro r hr)|(refine AJ ?_ (VG ?_);intro r hr)
 all_goals ((try dsimp[len]at*);(try first|omega|assumption|grind[gV]))
def VF{x:Bb}{a:Int×Int}{s:Int×List DZ}(h:0<=s.1/\s.1<=a.1/\a.1<=65536/\x.length<=1099511627776/\s.2.length<=s.1):A3 (Ad (Hw x a) s) λr=>r.length<=65536:=by
 refine AQ (λ(s:Int×List DZ)=>0<=s.1/\s.1<=a.1/\a.1<=65536/\x.length<=1099511627776/\s.2.length<=s.1) (λ(s:Int×List DZ)=>(a.1-s.1).toNat) h (λs d=>?_);unfold Hw;repeat' with_reducible first|apply AC<;>intro b|apply AI<;>intro b|apply AA|(refine AJ ?_ (CR ?_);intro r hr)|(refine AJ ?_ (Ae ?_);rintro r ⟨hr,e,c⟩)
 all_goals ((try dsimp[len]at*);(try first|omega|assumption|grind[AY]))
def Qu{x:Bb}(h:x.length<=1099511627776):A3 (EY x) λr=>(r.2=0->gV r.1)/\r.1.length<=65536:=by
 unfold EY;repeat' with_reducible first|apply AC<;>intro a|apply AO<;>intro a|apply AL<;>intro a|apply AI<;>intro a|apply AA|(refine AJ ?_ (CR ?_);intro r hr)|(refine AJ ?_ (VF ?_);intro r hr)|(apply AB (Fv);intro r hr)
 all_goals ((try dsimp[len]at*);(try first|omega|assumption|grind[AY]))
def PY{x:B9}{s:Int}(h:0<=s/\s<=x.2.2.1.length/\(x.2.2.1.length:Int)<=16777216):A3 (Ad (Mh x) s) λr=>r≠ .inl true:=by
 refine AQ (λ(s:Int)=>0<=s/\s<=x.2.2.1.length/\(x.2.2.1.length:Int)<=16777216) (λ(s:Int)=>((x.2.2.1.length:Int)-s).toNat) h (λs b=>?_);unfold Mh;repeat' with_reducible first|apply AC<;>intro a|apply AI<;>intro a|apply AA|(refine AJ ?_ (AK ?_ ?_);rintro r ⟨hr,c⟩)
 all_goals ((try dsimp[len]at*);(try first|omega|assumption|grind[AY]))
def mb(x:B9):Prop:=1<=x.1/\x.1<=64/\Wb x.2.2.1/\gV x.2.2.2.2/\x.2.2.2.2.length=x.1
def NS{x:B9}(h:x.2.2.2.1.length<=16777216):A3 (Gm x) λr=>r=true->mb x:=by
 unfold Gm mb
 repeat' first
   |with_reducible apply AC<;>intro a
   |with_reducible apply AO<;>intro a
   |with_reducible apply AL<;>intro a
   |(with_reducible apply BA<;>(intro u b;try subst b))
   |with_reducible apply AA
   |(with_reducible apply AB (Di);intro r hr)
   |(with_reducible refine AJ ?_ (OZ ?_);intro r hr)
   |(with_reducible apply AB (Fv);intro r hr)
   |(with_reducible refine AJ ?_ (PY ?_);intro r hr)
 all_goals ((try dsimp[len]at*);(try first|omega|assumption|grind[Wb]))
def VM{x:B9}{s:Bb×Int}(h:0<=s.2/\s.2<=x.2.2.2.1.length/\x.2.2.2.1.length<=16777216/\(s.1.length:Int)<=100000000+24*s.2):A3 (Ad (H4 x) s) λr=>r.length<=1073741824:=by
 refine AQ (λ(s:Bb×Int)=>0<=s.2/\s.2<=x.2.2.2.1.length/\x.2.2.2.1.length<=16777216/\(s.1.length:Int)<=100000000+24*s.2) (λ(s:Bb×Int)=>((x.2.2.2.1.length:Int)-s.2).toNat) h (λs b=>?_);unfold H4;repeat' with_reducible first|apply AC<;>intro a|apply AI<;>intro a|apply AA|(refine AJ ?_ (DD ?_);intro r hr)|(refine AJ ?_ (AK ?_ ?_);rintro r ⟨hr,c⟩)
 all_goals ((try dsimp[len]at*);(try first|omega|assumption|grind[AY]))
def YW{x:B9}(h:x.2.2.2.1.length<=16777216):A3 (GP x) λr=>r.1.length<=2147483648:=by
 unfold GP;repeat' with_reducible first|apply AO<;>intro a|apply AI<;>intro a|apply AA|(refine AJ ?_ (NS ?_);intro r hr)|(apply AB (Qx);intro r hr)|(refine AJ ?_ (DD ?_);intro r hr)|(refine AJ ?_ (VM ?_);intro r hr)|(apply AB (Qv);intro r hr)|(refine AJ ?_ (Cu ?_);rintro r ⟨hr,b⟩)
 all_goals ((try dsimp[len]at*);(try first|omega|assumption|grind[AY]))
def Wo(c:Cv):Bb:=bif c.1 then D9 (c.2.length:Int) 1++c.2 else D9 255 1
def Bv(e:AD):Bb:=
 D9 e.1 8++(D9 e.2.1 1++(D9 e.2.2.1 4++(D9 e.2.2.2.1 8++(D9 e.2.2.2.2.1 8++(D9 e.2.2.2.2.2.1 8++(D9 e.2.2.2.2.2.2.1.1 4++(D9 e.2.2.2.2.2.2.1.2.1 1++
 (Wo e.2.2.2.2.2.2.1.2.2.1++(Wo e.2.2.2.2.2.2.1.2.2.2++(D9 (e.2.2.2.2.2.2.2.length:Int) 4++e.2.2.2.2.2.2.2))))))))))
theorem nB{c:Cv}(h:H7 c):(Wo c).length<=13:=by
 unfold Wo;cases c.1 with
 |true=>rw[cond_true,Af,BB];have:=h.1;omega
 |false=>grind[BB]
def vY{s:Bb}{c:Cv}(h:s.length<=1099511627776)(a:c.2.length<=8192):F4 (s,c)=some (s++Wo c):=by grind[F4,Wo,Bool.not_false,HJ,Bool.not_true,sapp,D9,Int.toNat,List.length_append,BB,List.append_assoc]
def K6.cells{e:AD}(h:K6 e):H7 e.2.2.2.2.2.2.1.2.2.1/\H7 e.2.2.2.2.2.2.1.2.2.2/\e.2.2.2.2.2.2.2.length<=8192/\aA 8 e.1/\aA 1 e.2.1/\aA 4 e.2.2.1/\aA 8 e.2.2.2.1/\aA 8 e.2.2.2.2.1/\aA 8 e.2.2.2.2.2.1/\aA 4 e.2.2.2.2.2.2.1.1/\aA 1 e.2.2.2.2.2.2.1.2.1:=by
 have⟨a1,a2,a3,a4,a5,a6,a7,a8,j⟩:=h;have k: ∀n:Int,0<=n->n<=1099511627776->aA 8 n:=λn l m=>⟨λh=>absurd h (by decide),by omega⟩
 have p: ∀n:Int,0<=n->n<=1073741824->aA 4 n:=λn l m=>⟨λ_=>by rw[show(256:Int)^4=4294967296 by decide];omega,by omega⟩
 have o: ∀n:Int,0<=n->n<=255->aA 1 n:=λn l m=>⟨λ_=>by rw[show(256:Int)^1=256 by decide];omega,by omega⟩
 have z:H7 (false,[]):=⟨by decide,.inr rfl⟩
 refine and_assoc.1 (and_assoc.1 ⟨?_,k _ (by omega) (by omega),?_⟩);rcases j with⟨k1,f,d,g,c,a⟩|⟨k1,f,d,g,c,a,i,b⟩|⟨k1,f,d,g,c,a,i,b⟩|⟨k1,f,d,g,c,a,i⟩|j;exact⟨⟨a.2.2.2.2.1,a.2.2.2.2.2⟩,by rw[d];decide⟩;exact⟨⟨b.2.2.2.2.1,b.2.2.2.2.2⟩,by rw[c];decide⟩;rw[c,a];exact⟨⟨z,z⟩,by decide⟩;rw[a];exact⟨⟨z,z⟩,i⟩;have⟨k1,f,d,g,c,a,i,b⟩:=j;rw[i,b];exact⟨⟨z,z⟩,by decide⟩;have q:1<=e.2.1/\e.2.1<=8/\0<=e.2.2.1/\e.2.2.1<=1073741824/\0<=e.2.2.2.2.2.2.1.1/\e.2.2.2.2.2.2.1.1<64/\0<=e.2.2.2.2.2.2.1.2.1/\e.2.2.2.2.2.2.1.2.1<16:=by rcases j with⟨k1,f,d,g,c,a⟩|⟨k1,f,d,g,c,a,i,b⟩|⟨k1,f,d,g,c,a,i,b⟩|⟨k1,f,d,g,c,a,i⟩|j;have:=a.1;have:=a.2.1;have:=a.2.2.1;have:=a.2.2.2.1;omega;have:=b.1;have:=b.2.1;have:=b.2.2.1;have:=b.2.2.2.1;omega;grind[Oz];grind[Oz];grind[Oz]
 exact⟨o _ (by omega) (by omega),p _ (by omega) (by omega),k _ (by omega) (by omega),k _ (by omega) (by omega),k _ (by omega) (by omega),p _ (by omega) (by omega),o _ (by omega) (by omega)⟩
theorem Ql{e:AD}(h:K6 e):(Bv e).length<=8392:=by have⟨a,b,c,_⟩:=h.cells;grind[nB,Bv,List.length_append,BB]
theorem k9{e:AD}(h:K6 e):FL e=some (Bv e,0):=by have⟨c,d,i,_⟩:=h.cells;have l1:=nB c;have l2:=nB d;have⟨b,f,g⟩:=B6 (x:=e);have a:b=true:=g.2 h;subst a;unfold FL;rw[f,AE,Ds,cond_false];rw[HJ (by simp) (by decide) (by decide),AE,Cy];rw[HJ (by simp only[Af,BB];simp only[Int.reduceToNat];omega) (by decide) (by decide),AE];rw[HJ (by simp only[Af,BB];simp only[Int.reduceToNat];omega) (by decide) (by decide),AE];rw[HJ (by simp only[Af,BB];simp only[Int.reduceToNat];omega) (by decide) (by decide),AE];rw[HJ (by simp only[Af,BB];simp only[Int.reduceToNat];omega) (by decide) (by decide),AE];rw[HJ (by simp only[Af,BB];simp only[Int.reduceToNat];omega) (by decide) (by decide),AE];rw[HJ (by simp only[Af,BB];simp only[Int.reduceToNat];omega) (by decide) (by decide),AE];rw[HJ (by simp only[Af,BB];simp only[Int.reduceToNat];omega) (by decide) (by decide),AE];rw[vY (by simp only[Af,BB];simp only[Int.reduceToNat];omega) (by have:=c.1;omega),AE];rw[vY (by simp only[Af,BB];simp[Int.reduceToNat];omega) (by have:=d.1;omega),AE];rw[HJ (by simp only[Af,BB];simp[Int.reduceToNat];omega) (by decide) (by decide),AE];unfold sapp;rw[if_pos (by simp only[Af,BB];simp[Int.reduceToNat];omega),AE];simp[A0];rfl
def CS(x p:Bb)(c:Bb×Int×Int):Prop:=c.1=x/\(c.2.2=0-> ∃rest,x=p++rest/\c.2.1=p.length)
def mY{t:Bb}{k:Nat}(h:k<=t.length)(a:k<=8):aA k (rd (t.take k))/\D9 (rd (t.take k)) k=t.take k:=by grind[List.length_take,u6,qu]
def Yh{x p:Bb}{c:Bb×Int×Int}{k:Nat}(h:CS x p c)(o:x.length<=1099511627776)(q:1<=k)(m:k<=8):A3 (BF c (k:Int)) λr=>CS x (p++D9 r.1 k) r.2/\(r.2.2.2=0->aA k r.1)/\(c.2.2≠0->r=(0,c)):=by have⟨s,l,e⟩:=c;have⟨g,i⟩:=h;dsimp only at g i;subst g;unfold BF;refine AL (λd=>AA ⟨⟨rfl,λb=>absurd b d⟩,λb=>absurd b d,λ_=>rfl⟩) (λd=>?_);dsimp only at d;subst d;have⟨a,hr,n⟩:=i rfl;subst hr n;rw[Af]at o;rw[gT (by omega) (by omega) (by omega)];by_cases j:(k:Int)<=a.length;rw[if_pos j,AE,Df];have⟨q1,q2⟩:=mY (t:=a) (k:=k) (by omega) m;rw[show((0:Int) !=0)=false by decide,cond_false];refine AA ⟨⟨rfl,λ_=>⟨a.drop k,?_,?_⟩⟩,λ_=>q1,λf=>absurd rfl f⟩;grind[List.append_assoc,List.take_append_drop];grind[AY,List.length_append,BB];rw[if_neg j,AE];rw[show((5:Int) !=0)=true by decide,cond_true];exact AA ⟨⟨rfl,λb=>absurd (show(5:Int)=0 from b) (by decide)⟩,λb=>absurd (show(5:Int)=0 from b) (by decide),λf=>absurd rfl f⟩
def zW{x p:Bb}{c:Bb×Int×Int}{n:Int}(h:CS x p c)(k:x.length<=1099511627776)(hn:c.2.2=0->0<=n/\n<4294967296):A3 (Ci c n) λr=>CS x (p++r.1) r.2/\(r.2.2.2=0->(r.1.length:Int)=n/\c.2.2=0):=by have⟨s,g,e⟩:=c;have⟨d,f⟩:=h;dsimp only at d f hn;subst d;unfold Ci;by_cases j:e=0;subst j;have⟨a,hr,i⟩:=f rfl;have⟨l,q⟩:=hn rfl;subst hr i;obtain⟨m,rfl⟩:=EU l;rw[Af]at k;rw[show((0:Int) !=0)=false by decide,cond_false];simp only[len];rw[show wi (((p++a).length:Int)-(p.length:Int))=a.length by rw[Af,AY];omega];by_cases o:(m:Int)<=a.length;rw[decide_eq_false (by omega),cond_false];rw[(by grind[AY,TE,List.length_append,List.drop_left]:TE (p++a) (wi (wi ((p.length:Int)+(m:Int))-(m:Int))) (wi ((p.length:Int)+(m:Int)))=some (a.take m)),AE];refine AA ⟨⟨rfl,λ_=>⟨a.drop m,?_,?_⟩⟩,λ_=>⟨?_,by first|rfl|trivial⟩⟩;grind[List.append_assoc,List.take_append_drop];grind[AY,List.length_append,List.length_take];grind[List.length_take];rw[decide_eq_true (by omega),cond_true];exact AA ⟨⟨rfl,λb=>absurd (show(5:Int)=0 from b) (by decide)⟩,λb=>absurd (show(5:Int)=0 from b) (by decide)⟩;grind[AA]
theorem zT{x p:Bb}{c:Bb×Int×Int}(h:CS x p c)(i:x.length<=1099511627776):A3 (CY c ()) λr=>CS x (p++Wo r.1) r.2/\(r.2.2.2=0->H7 r.1):=by unfold CY;refine AB (Yh (k:=1) h i (by decide) (by decide)) λv n=>?_;have⟨⟨f,j⟩,q,y⟩:=n;refine AL (λd=>AA ⟨⟨f,λb=>absurd b d⟩,λb=>absurd b d⟩) (λd=>?_);have⟨e,hr,g⟩:=j d;have m:=(q d).1 (by decide);rw[show(256:Int)^1=256 by decide]at m;refine AU (λa=>AA ⟨⟨f,λ_=>⟨e,?_,?_⟩⟩,λ_=>⟨Bn _,.inr rfl⟩⟩) (λa=>?_);dsimp only;rw[a]at hr;exact hr;dsimp only;rw[a]at g;exact g;refine AC (λ_=>AA ⟨⟨f,λb=>absurd (show(4:Int)=0 from b) (by decide)⟩,λb=>absurd (show(4:Int)=0 from b) (by decide)⟩) (λl=>?_);refine AB (zW (x:=x) (p:=p++D9 v.1 1) ⟨f,j⟩ i (λ_=>⟨by omega,by omega⟩)) λw o=>AA ?_;have⟨⟨s,z⟩,t⟩:=o;refine⟨⟨s,λb=>?_⟩,λb=>?_⟩;grind[Wo,D9,List.append_assoc];dsimp only at b⊢;have⟨u,_⟩:=t b;exact⟨by dsimp only;omega,.inl rfl⟩
def WU{x p a:Bb}{n:Int}{k:Nat}(e:x=p++(D9 n k++a))(d:x.length<=1099511627776)(b:1<=k)(c:k<=8)(hn:aA k n):BF (x,((p.length:Int),0)) (k:Int)=some (n,(x,(((p++D9 n k).length:Int),0))):=by grind[List.length,List.length_append,BB,BF,gT,Int.toNat_natCast,List.take_left',kq,AY]
theorem zV{x p w a:Bb}(c:x=p++(w++a))(d:x.length<=1099511627776):Ci (x,((p.length:Int),0)) (w.length:Int)=some (w,(x,(((p++w).length:Int),0))):=by
 have b:=congrArg List.length c;simp[Af]at b;unfold Ci;dsimp only;rw[show((0:Int) !=0)=false by decide,cond_false];simp only[len];rw[show decide ((w.length:Int)>wi ((x.length:Int)-(p.length:Int)))=false from decide_eq_false (by rw[AY];omega),cond_false];have e:TE x (wi (wi ((p.length:Int)+(w.length:Int))-(w.length:Int))) (wi ((p.length:Int)+(w.length:Int)))=some w:=by rw[AY (x:=(p.length:Int)+(w.length:Int)),AY];unfold TE;rw[if_pos (by omega),c,show((p.length:Int)+(w.length:Int)-(w.length:Int)).toNat=p.length by omega,Pn,show((p.length:Int)+(w.length:Int)).toNat-p.length=w.length by omega,Vi]
 grind[AY,List.length_append]
def zS{x p a:Bb}{c:Cv}(e:x=p++(Wo c++a))(i:x.length<=1099511627776)(k:H7 c):CY (x,((p.length:Int),0)) ()=some (c,(x,(((p++Wo c).length:Int),0))):=by
 have⟨b,d⟩:=c;have⟨j,f⟩:=k;dsimp only at j f;unfold CY;cases b with
 |false=>
  have l:d=[]:=by rcases f with h|h;cases h;exact h
  subst l;rw[(rfl:Wo (false,[])=D9 255 1)]at e⊢;rw[show(1:Int)=((1:Nat):Int)from rfl,WU e i (by decide) (by decide) ⟨λ_=>by decide,by decide,by decide⟩];rfl
 |true=>have g:Wo (true,d)=D9 (d.length:Int) 1++d:=rfl;rw[g,A0]at e;rw[g];rw[show(1:Int)=((1:Nat):Int)from rfl,WU e i (by decide) (by decide) ⟨λ_=>by rw[show(256:Int)^1=256 by decide];omega,by omega⟩,AE];grind[zV,List.append_assoc]
def AC5{x:Bb}(a:x.length<=1099511627776):A3 (Dw x) λr=>r.2=0->x=Bv r.1/\H7 r.1.2.2.2.2.2.2.1.2.2.1/\H7 r.1.2.2.2.2.2.2.1.2.2.2/\aA 4 (r.1.2.2.2.2.2.2.2.length:Int)/\Cc r.1=some true:=by
 unfold Dw;have I:CS x [] (x,(0,0)):=⟨rfl,λ_=>⟨x,rfl,rfl⟩⟩
 refine AB (Yh (k:=8) I a (by decide) (by decide)) λO y=>?_;refine AB (Yh (k:=1) y.1 a (by decide) (by decide)) λP z=>?_;refine AB (Yh (k:=4) z.1 a (by decide) (by decide)) λQ A=>?_;refine AB (Yh (k:=8) A.1 a (by decide) (by decide)) λR B=>?_;refine AB (Yh (k:=8) B.1 a (by decide) (by decide)) λS C=>?_;refine AB (Yh (k:=8) C.1 a (by decide) (by decide)) λT D=>?_;refine AB (Yh (k:=4) D.1 a (by decide) (by decide)) λU E=>?_;refine AB (Yh (k:=1) E.1 a (by decide) (by decide)) λV F=>?_;refine Dr (zT F.1 a) λq M o=>?_;refine Dr (zT o.1 a) λs w p=>?_;refine AB (Yh (k:=4) p.1 a (by decide) (by decide)) λj b=>?_;refine AB (zW (n:=j.1) b.1 a (λc=>?_)) λJ f=>?_;have:=(b.2.1 c).1 (by decide);rw[show(256:Int)^4=4294967296 by decide]at this;exact this;refine AL (λh=>AA λc=>absurd c h) (λh=>?_);refine AL (λ_=>AA λc=>absurd c (by decide)) (λG=>?_);refine Dr (B6) λK i _=>?_;refine AO (λ_=>AA λc=>absurd c (by decide)) (λH=>AA λ_=>?_);subst H;obtain⟨q11,d⟩:=f.2 h;have l:s.2.2.2=0:=Rj λe=>by have:=b.2.2 e;rw[this]at d;exact e d
 have u:=p.2 l;have L:q.2.2.2=0:=Rj λe=>by
  have:s=((false,[]),q.2):=by have:=w;unfold CY BF at this;rw[bne_iff_ne.2 e,cond_true,AE,bne_iff_ne.2 e,cond_true]at this;injection this with this;exact this.symm
  rw[this]at l;exact e l
 have t:=o.2 L;obtain⟨g,m,N⟩:=f.1.2 h;have hr:g=[]:=by simp only[len]at G;have v:=congrArg List.length m;rw[Af]at v;exact EV (by omega)
 subst hr;refine⟨?_,t,u,?_,i⟩;rw[m];unfold Bv;dsimp only;rw[q11];simp only[A0,Cy,D8];dsimp only;rw[q11];exact b.2.1 d
def zU{e:AD}(h:K6 e):Dw (Bv e)=some (e,0):=by
 obtain⟨s,t,H,w,y,z,A,B,C,D,E⟩:=h.cells;have I:=Ql h;have g:aA 4 (e.2.2.2.2.2.2.2.length:Int):=⟨λ_=>by rw[show(256:Int)^4=4294967296 by decide];omega,by omega⟩
 have a:Bv e=[]++(D9 e.1 8++(D9 e.2.1 1++(D9 e.2.2.1 4++(D9 e.2.2.2.1 8++(D9 e.2.2.2.2.1 8++(D9 e.2.2.2.2.2.1 8++(D9 e.2.2.2.2.2.2.1.1 4++(D9 e.2.2.2.2.2.2.1.2.1 1++
 (Wo e.2.2.2.2.2.2.1.2.2.1++(Wo e.2.2.2.2.2.2.1.2.2.2++(D9 (e.2.2.2.2.2.2.2.length:Int) 4++(e.2.2.2.2.2.2.2++[])))))))))))):=by rw[D8];rfl
 generalize Bv e=x at*;have i:BF (x,(((0:Int)),0)) 8=_:=WU (p:=[]) (k:=8) a (by omega) (by decide) (by decide) w;rw[Cy]at i;rw[Cy]at a;have j:=WU (k:=1) a (by omega) (by decide) (by decide) y;rw[<-A0]at a;have l:=WU (k:=4) a (by omega) (by decide) (by decide) z;rw[<-A0]at a;have m:=WU (k:=8) a (by omega) (by decide) (by decide) A;rw[<-A0]at a;have n:=WU (k:=8) a (by omega) (by decide) (by decide) B;rw[<-A0]at a;have o:=WU (k:=8) a (by omega) (by decide) (by decide) C;rw[<-A0]at a;have q:=WU (k:=4) a (by omega) (by decide) (by decide) D;rw[<-A0]at a;have r:=WU (k:=1) a (by omega) (by decide) (by decide) E;rw[<-A0]at a;have F:=zS a (by omega) s;rw[<-A0]at a;have G:=zS a (by omega) t;rw[<-A0]at a;have c:=WU (k:=4) a (by omega) (by decide) (by decide) g;rw[<-A0]at a;have d:=zV a (by omega);rw[D8]at a;rw[<-a]at d;unfold Dw;rw[i,AE];rw[show((1:Nat):Int)=1 from rfl]at j r;rw[show((4:Nat):Int)=4 from rfl]at l q c;rw[show((8:Nat):Int)=8 from rfl]at m n o;rw[j,AE,l,AE,m,AE,n,AE,o,AE,q,AE,r,AE,F,AE,G,AE,c,AE,d,AE];obtain⟨b,u,v⟩:=B6 (x:=e);have f:b=true:=v.2 h;subst f;dsimp only[len];rw[show((0:Int) !=0)=false by decide,cond_false,bne_self_eq_false,cond_false];rw[show(e.1,(e.2.1,(e.2.2.1,(e.2.2.2.1,(e.2.2.2.2.1,(e.2.2.2.2.2.1,((e.2.2.2.2.2.2.1.1,(e.2.2.2.2.2.2.1.2.1,(e.2.2.2.2.2.2.1.2.2.1,e.2.2.2.2.2.2.1.2.2.2))),e.2.2.2.2.2.2.2)))))))=e from rfl,u,AE,Ds,cond_false]
def J1(l:List AD):Bb:=(l.map λe=>Jl (Bv e)).flatten
theorem Qm(l:List AD)(e:AD):J1 (l++[e])=J1 l++Jl (Bv e):=by unfold J1;grind
theorem jB(e:AD)(l:List AD):J1 (e::l)=Jl (Bv e)++J1 l:=rfl
def mH{l:List AD}(h: ∀e∈l,K6 e):(J1 l).length<=8400*l.length:=by
 induction l with
 |nil=>exact Ag _
 |cons e r b=>have c:=b λx a=>h x (A1.2 (.inr a));have d:=Ql (h e (A1.2 (.inl rfl)));rw[jB,Af,Hr,CC];omega
def w7{x p a:Bb}{at_:Int}{k:Nat}(c:x=p++a)(e:at_=p.length)(i:x.length≤1099511627776)(h:1≤k)(f:k≤8)(g:k≤a.length):
  ∃n b,Av (x,(at_,(k:Int)))=some (n,0)/\CD (x,(at_,(k:Int)))=some (n,0)/\x=(p++D9 n k)++b/\aA k n/\b.length+k=a.length:=by
 have d:=congrArg List.length c;rw[Af]at d;obtain⟨q1,q2⟩:=mY (t:=a) g f;refine⟨rd (a.take k),a.drop k,?_,?_,?_,q1,?_⟩;rw[c,e,gT (by omega) (by omega) (by omega),if_pos (by omega),Df];rw[c,e,XZ (by omega) (by omega) (by omega),if_pos (by omega),Df];rw[q2,A0,Ee];exact c;rw[G5];omega
def dz{x p rest:Bb}{at_ n:Int}{k:Nat}(a:x=p++(D9 n k++rest))(d:at_=p.length)(f:x.length≤1099511627776)(e:1≤k)(c:k≤8)(hn:aA k n):
  Av (x,(at_,(k:Int)))=some (n,0)/\CD (x,(at_,(k:Int)))=some (n,0):=by
 have b:=congrArg List.length a;simp only[Af,BB]at b;refine⟨?_,?_⟩;rw[a,d,gT (by rw[Af,BB];omega) (by omega) (by omega),if_pos (by rw[Af,BB];omega),Df,MC (BB _ _),kq c hn];rw[a,d,XZ (by rw[Af,BB];omega) (by omega) (by omega),if_pos (by rw[Af,BB];omega),Df,MC (BB _ _),kq c hn]
def Wu{x:List An×Int×Bool×Ce}{s:Int×List An}(h:0<=s.1/\s.1<=x.1.length/\x.1.length<=16777216/\s.2.length<=s.1):A3 (Ad (NO x) s) λr=>r.length<=x.1.length:=by
 refine AQ (λ(s:Int×List An)=>0<=s.1/\s.1<=x.1.length/\x.1.length<=16777216/\s.2.length<=s.1) (λ(s:Int×List An)=>((x.1.length:Int)-s.1).toNat) h (λs b=>?_);unfold NO;repeat' with_reducible first|apply AI<;>intro c|(apply Az;try dsimp only)|apply BS|apply Bd|apply AA|(refine AJ ?_ (AK ?_ ?_);rintro r ⟨hr,e⟩)|(refine AJ ?_ (Ae ?_);rintro r ⟨hr,d,a⟩)
 all_goals ((try dsimp[len]at*);(try first|omega|assumption|grind[AY]))
def Jr{x:List An×Int×Bool×Ce}(h:x.1.length<=16777216):A3 (F6 x) λr=>r.length<=x.1.length:=by
 unfold F6;repeat' with_reducible first|apply AA|(refine AJ ?_ (Wu ?_);intro r hr)
 all_goals grind
def Wr{x:Ax×Int}{s:Int}(h:0<=s/\s<=x.1.1.length/\(x.1.1.length:Int)<=16777216/\0<=x.2/\x.2<x.1.2.length):A3 (Ad (NJ x) s) λr=>True:=by
 refine AQ (λ(s:Int)=>0<=s/\s<=x.1.1.length/\(x.1.1.length:Int)<=16777216/\0<=x.2/\x.2<x.1.2.length) (λ(s:Int)=>((x.1.1.length:Int)-s).toNat) h (λs a=>?_);unfold NJ;repeat' with_reducible first|apply AI<;>intro b|apply AA|(apply AB (F5);intro r hr)|(refine AJ ?_ (AK ?_ ?_);rintro r ⟨hr,c⟩)
 all_goals ((try dsimp[len]at*);(try first|omega|assumption|grind[AY]))
def Ws{x:Ax×Int}{s:Int}(h:0<=s/\s<=x.2/\(x.2:Int)<=16777216/\0<=x.2/\x.2<x.1.2.length):A3 (Ad (NK x) s) λr=>True:=by
 refine AQ (λ(s:Int)=>0<=s/\s<=x.2/\(x.2:Int)<=16777216/\0<=x.2/\x.2<x.1.2.length) (λ(s:Int)=>((x.2:Int)-s).toNat) h (λs a=>?_);unfold NK;repeat' with_reducible first|apply AI<;>intro b|apply AA|(apply AB (F5);intro r hr)|(refine AJ ?_ (AK ?_ ?_);rintro r ⟨hr,c⟩)
 all_goals ((try dsimp[len]at*);(try first|omega|assumption|grind[AY]))
def bL{x:Ax×Int}(h:x.1.1.length<=4096/\x.1.2.length<=4096)(b:0<=x.2/\x.2<x.1.2.length):A3 (Lm x) λr=>True:=by
 unfold Lm;repeat' with_reducible first|(apply BA<;>(intro u a;try subst a))|apply AA|(refine AJ ?_ (Wr ?_);intro r hr)|(refine AJ ?_ (Ws ?_);intro r hr)
 all_goals grind
def Wt{x:List An×An}{s:Bool×Int×List An}(h:0<=s.2.1/\s.2.1<=x.1.length/\x.1.length<=4096/\s.2.2.length<=s.2.1+1/\(s.1=false->(s.2.2.length:Int)<=s.2.1)):A3 (Ad (NN x) s) λr=>r.2.length<=x.1.length+1/\(r.1=false->r.2.length<=x.1.length):=by
 refine AQ (λ(s:Bool×Int×List An)=>0<=s.2.1/\s.2.1<=x.1.length/\x.1.length<=4096/\s.2.2.length<=s.2.1+1/\(s.1=false->(s.2.2.length:Int)<=s.2.1)) (λ(s:Bool×Int×List An)=>((x.1.length:Int)-s.2.1).toNat) h (λs c=>?_);unfold NN;repeat' with_reducible first|apply AC<;>intro a|apply AO<;>intro a|apply AL<;>intro a|(apply Az;try dsimp only)|apply BS|apply Bd|apply AA|(apply AB (Sq);intro r hr)|(refine AJ ?_ (AK ?_ ?_);rintro r ⟨hr,f⟩)|(refine AJ ?_ (Ae ?_);rintro r ⟨hr,d,b⟩)
 all_goals try (have e:=AY (x:=s.2.1+1))
 all_goals (first|omega|grind)
def bM{x:List An×An}(h:x.1.length<=4096):A3 (Ln x) λr=>r.length<=x.1.length+1:=by
 unfold Ln;repeat' with_reducible first|apply AO<;>intro b|(apply Az;try dsimp only)|apply BS|apply Bd|apply AA|(refine AJ ?_ (Wt ?_);intro r hr)|(refine AJ ?_ (Ae ?_);rintro r ⟨hr,c,a⟩)
 all_goals grind
def VC{B:Nat}(i:B<=2000){s:Int×Ax}(h:0<=s.1/\s.1<=s.2.2.length/\s.2.1.length+s.2.2.length<=B):A3 (Ad QF s) λr=>r.1.length+r.2.length<=B:=by refine AQ (λs=>0<=s.1/\s.1<=s.2.2.length/\s.2.1.length+s.2.2.length<=B) (λs=>s.2.2.length*3000+((s.2.2.length:Int)-s.1).toNat) h (λs d=>?_);have⟨b,e,c⟩:=d;refine AC (λa=>?_) (λa=>AA c);simp[len]at a;refine AB (bL (by dsimp only;omega) ⟨b,a⟩) λv _=>?_;refine AB (P:=λv:Int×Ax=>(v=s)\/(v.1= -1/\v.2.1.length<=s.2.1.length+1/\v.2.2.length+1=s.2.2.length)) ?_ λm g=>?_;refine AI (λ_=>?_) (λ_=>AA (.inl rfl));refine AB (AK b a) λj _=>?_;refine AB (bM (by dsimp only;omega)) λk c=>?_;refine AB (CN (by omega) b) λl f=>?_;grind[AY,AB,CN,Ae,AA];grind[AA,AY]
def Ij{B:Nat}{x:Ax}(a:B<=2000)(h:x.1.length+x.2.length<=B):A3 (FN x) λr=>r.1.length+r.2.length<=B:=by exact AB (VC a ⟨by simp,by simp,h⟩) λr hr=>AA hr
theorem Fy.of{x:Ax}{B:Nat}(a:B<=2000)(h:x.1.length+x.2.length<=B):Fy x:=⟨by omega,by omega⟩
def Fy.nil:Fy (([],[]):Ax):=⟨by simp,by simp⟩
def LC{x:Ax×Int}(h:Fy x.1):A3 (G8 x) λr=>Fy r:=by refine AB (E6 h) λv d=>?_;refine AO (λ_=>AA h) (λc=>?_);have g:=d c;refine AB (Jr h.1) λa e=>?_;refine AB (Jr h.2) λb f=>?_;refine AB (Ij (B:=1024) (by decide) ?_) λr hr=>AA (Fy.of (by decide) hr);grind[Xg]
def YL{x:Ax×Int}(h:Fy x.1):A3 (N7 x) λr=>Fy r:=by refine AB (E6 h) λv c=>?_;refine AO (λ_=>AA h) (λa=>?_);have e:=c a;refine AB (Jr h.2) λb d=>?_;refine AB (Ij (B:=1024) (by decide) ?_) λr hr=>AA (Fy.of (by decide) hr);grind[Xg]
def Sp{x:Ax×Int×Ce}(h:Fy x.1):A3 (Ll x) λr=>Fy r:=by refine AB (E6 h) λv c=>?_;refine AO (λ_=>AA h) (λa=>?_);have e:=c a;refine AB (Jr h.1) λb d=>?_;refine AB (Ij (B:=1024) (by decide) ?_) λr hr=>AA (Fy.of (by decide) hr);grind[Xg]
def Ug{x:Ax×Int}{s:Int×An}(h:0<=s.1/\s.1<=x.1.2.length/\x.1.2.length<=16777216):A3 (Ad (KR x) s) λr=>True:=by
 refine AQ (λ(s:Int×An)=>0<=s.1/\s.1<=x.1.2.length/\x.1.2.length<=16777216) (λ(s:Int×An)=>((x.1.2.length:Int)-s.1).toNat) h (λs b=>?_);unfold KR;repeat' with_reducible first|apply AC<;>intro a|apply AU<;>intro a|apply AA|(refine AJ ?_ (AK ?_ ?_);rintro r ⟨hr,c⟩)
 all_goals ((try dsimp[len]at*);(try first|omega|assumption|grind[AY]))
def Hu{x:Ax×Int}(h:Fy x.1):A3 (E7 x) λr=>r.2=true->Xg x.1:=by
 unfold E7;repeat' with_reducible first|apply AI<;>intro b|(apply Az;try dsimp only)|apply BS|apply Bd|apply MI|(apply BA<;>(intro u a;try subst a))|apply AA|(refine AJ ?_ (E6 ?_);intro r hr)|(refine AJ ?_ (Ug ?_);intro r hr)
 all_goals ((try dsimp[len]at*);(try first|omega|assumption|grind[Fy]))
def V8{x:Ax×An}{s:Int}(h:0<=s/\s<=x.1.2.length/\(x.1.2.length:Int)<=16777216/\x.1.1.length<=16777216):A3 (Ad (MX x) s) λr=> ∀u,r= .inl u->0<=u/\u<=x.1.2.length:=by
 refine AQ (λ(s:Int)=>0<=s/\s<=x.1.2.length/\(x.1.2.length:Int)<=16777216/\x.1.1.length<=16777216) (λ(s:Int)=>((x.1.2.length:Int)-s).toNat) h (λs a=>?_);unfold MX;repeat' with_reducible first|apply AI<;>intro b|apply AA|(refine AJ ?_ (HW ?_);intro r hr)|(refine AJ ?_ (AK ?_ ?_);rintro r ⟨hr,c⟩)
 all_goals ((try dsimp[len]at*);(try first|omega|assumption|grind[AY]))
def Zi{x:Ax×An}(h:Fy x.1):A3 (IF x) λr=>0<=r/\r<=x.1.2.length:=by
 unfold IF;repeat' with_reducible first|apply AU<;>intro b|(apply BA<;>(intro u a;try subst a))|apply AA|(refine AJ ?_ (HW ?_);intro r hr)|(refine AJ ?_ (V8 ?_);intro r hr)
 all_goals ((try dsimp[len]at*);(try first|omega|assumption|grind[Fy]))
def Wq{x:Ax×An}(h:Fy x.1):A3 (NI x) λr=>Fy r.1:=by refine AB (E6 h) λv o=>?_;refine AO (λ_=>AA Fy.nil) (λl=>?_);have n:=o l;unfold Xg at n;refine AB NM λ_ _=>?_;refine AO (λ_=>AA Fy.nil) (λ_=>?_);refine AB (Hu h) λz _=>?_;apply AI<;>intro m;simp_all[AI,AA,Fy.nil];refine AI (λ_=>AA h) (λ_=>?_);refine AB (HW h.1) λ_ _=>?_;refine AI (λ_=>AA h) (λ_=>?_);refine AI (λ_=>AA Fy.nil) (λ_=>?_);refine AB (Zi h) λp e=>?_;refine AB (CN (by omega) e.1 e.2) λq j=>?_;refine AB (CN e.1 (by simp[len];omega) (by simp only[len];omega)) λs a=>?_;have f:=a.2;simp[len]at f;refine AB (Ae (by simp;omega)) λt b=>?_;have g:=b.2.1;simp at g;refine AB (Ae (by simp;omega)) λu c=>?_;have i:=c.2.1;simp at i;refine AB (Ae (by omega)) λw k=>?_;refine AB (Ij (B:=1025) (by decide) (by dsimp only;omega)) λy d=>?_;refine AB (HW (by dsimp only;omega)) λ_ _=>?_;exact AA (Fy.of (by decide) d)
def Wx{x:List Int×Int}{s:Bool×Int×List Int}(h:0<=s.2.1/\s.2.1<=x.1.length/\x.1.length<=4096/\s.2.2.length<=s.2.1+1/\(s.1=false->(s.2.2.length:Int)<=s.2.1)):A3 (Ad (NG x) s) λr=>r.2.length<=x.1.length+1/\(r.1=false->r.2.length<=x.1.length):=by
 refine AQ (λ(s:Bool×Int×List Int)=>0<=s.2.1/\s.2.1<=x.1.length/\x.1.length<=4096/\s.2.2.length<=s.2.1+1/\(s.1=false->(s.2.2.length:Int)<=s.2.1)) (λ(s:Bool×Int×List Int)=>((x.1.length:Int)-s.2.1).toNat) h (λs b=>?_);unfold NG;repeat' with_reducible first|apply AC<;>intro a|apply AO<;>intro a|apply AL<;>intro a|apply AI<;>intro a|(apply Az;try dsimp only)|apply BS|apply Bd|apply AA|(refine AJ ?_ (AK ?_ ?_);rintro r ⟨hr,g⟩)|(refine AJ ?_ (Ae ?_);rintro r ⟨hr,f,d⟩)
 all_goals try dsimp[len]at*
 all_goals try (have e:=AY (x:=s.2.1+1))
 all_goals try (have c:=b.2.2.2.2 (by assumption))
 all_goals (try simp[CC,CQ,Bool.true_eq_false,false_implies,and_true]at*)
 all_goals first|omega|grind
def OB{x:List Int×Int}(h:x.1.length<=4096):A3 (FF x) λr=>r.length<=x.1.length+1:=by
 unfold FF;repeat' with_reducible first|apply AO<;>intro a|apply AI<;>intro a|(apply Az;try dsimp only)|apply BS|apply Bd|apply AA|(refine AJ ?_ (Wx ?_);intro r hr)|(refine AJ ?_ (Ae ?_);rintro r ⟨hr,c,b⟩)
 all_goals ((try dsimp[len]at*);(try first|omega|assumption|grind[AY]))
def Uh{x:Ax}{s:List Int×Int}(h:0<=s.2/\s.2<=x.2.length/\x.2.length<=4096/\s.1.length<=s.2):A3 (Ad (KT x) s) λr=>r.length<=x.2.length:=by
 refine AQ (λ(s:List Int×Int)=>0<=s.2/\s.2<=x.2.length/\x.2.length<=4096/\s.1.length<=s.2) (λ(s:List Int×Int)=>((x.2.length:Int)-s.2).toNat) h (λs b=>?_);unfold KT;repeat' with_reducible first|apply AC<;>intro a|apply AI<;>intro a|apply AA|(refine AJ ?_ (OB ?_);intro r hr)|(refine AJ ?_ (AK ?_ ?_);rintro r ⟨hr,c⟩)
 all_goals ((try dsimp[len]at*);(try first|omega|assumption|grind[AY]))
def Ww{x:Ax}(h:Fy x):A3 (JE x) λr=>r.length<=4096:=by
 unfold JE;repeat' with_reducible first|apply AI<;>intro a|(apply Az;try dsimp only)|apply BS|apply Bd|apply AA|(refine AJ ?_ (E6 ?_);intro r hr)|(refine AJ ?_ (Uh ?_);intro r hr)
 all_goals ((try dsimp[len]at*);(try first|omega|assumption|grind[AY,Xg]))
theorem YM{x:Ax×Int}{b:An×Bool}{s:List Int×Int}(h:0<=s.2/\s.2<=x.1.1.length/\x.1.1.length<=1024/\s.1.length<=s.2):A3 (Ad (N8 x b) s) λr=>r.length<=x.1.1.length:=by
 refine AQ (λ(s:List Int×Int)=>0<=s.2/\s.2<=x.1.1.length/\x.1.1.length<=1024/\s.1.length<=s.2) (λ(s:List Int×Int)=>((x.1.1.length:Int)-s.2).toNat) h (λs c=>?_);unfold N8;repeat' with_reducible first|apply AC<;>intro a|apply AI<;>intro a|(apply Az;try dsimp only)|apply BS|apply Bd|apply AA|(refine AJ ?_ (OB ?_);intro r hr)|(apply AB (F5);intro r hr)|(refine AJ ?_ (AK ?_ ?_);rintro r ⟨hr,d⟩)
 all_goals ((try dsimp[len]at*);(try first|omega|assumption|grind[AY]))
theorem YN{x:Ax×Int}{b:An×Bool}{s:List Int×Int}(h:0<=s.2/\s.2<=x.1.2.length/\x.1.2.length<=1024/\s.1.length<=s.2+1024):A3 (Ad (N9 x b) s) λr=>r.length<=4096:=by
 refine AQ (λ(s:List Int×Int)=>0<=s.2/\s.2<=x.1.2.length/\x.1.2.length<=1024/\s.1.length<=s.2+1024) (λ(s:List Int×Int)=>((x.1.2.length:Int)-s.2).toNat) h (λs c=>?_);unfold N9;repeat' with_reducible first|apply AC<;>intro a|apply AL<;>intro a|apply AI<;>intro a|(apply Az;try dsimp only)|apply BS|apply Bd|apply AA|(refine AJ ?_ (OB ?_);intro r hr)|(apply AB (F5);intro r hr)|(refine AJ ?_ (AK ?_ ?_);rintro r ⟨hr,d⟩)
 all_goals ((try dsimp[len]at*);(try first|omega|assumption|grind[AY]))
def Km{x:Ax×Int}(h:Fy x.1):A3 (Hi x) λr=>r.length<=4096:=by unfold Hi;refine AB (Hu h) λc b=>?_;refine AO (λ_=>AA (by simp)) (λa=>?_);grind[Xg,AB,YM,YN,AA]
theorem O4{x:Ax×List Int×Int}{a:List Int}{s:Int}(h:0<=s/\s<=a.length/\(a.length:Int)<=16777216/\1<=x.2.1.length/\x.2.1.length<=4096):A3 (Ad (LD x a) s) λr=> ∀u,r= .inl u->u=x.2.1:=by
 refine AQ (λ(s:Int)=>0<=s/\s<=a.length/\(a.length:Int)<=16777216/\1<=x.2.1.length/\x.2.1.length<=4096) (λ(s:Int)=>((a.length:Int)-s).toNat) h (λs c=>?_);unfold LD;repeat' with_reducible first|apply AC<;>intro b|apply AU<;>intro b|apply AI<;>intro b|apply AA|(refine AJ ?_ (AK ?_ ?_);rintro r ⟨hr,d⟩)
 all_goals ((try dsimp[len]at*);(try first|omega|assumption|grind[AY]))
def VD{x:Ax×List Int×Int}{b:Int}{s:Bool×Int}(h:0<=s.2/\s.2<=x.2.1.length/\x.2.1.length<=4096):A3 (Ad (LF x b) s) λr=>True:=by
 refine AQ (λ(s:Bool×Int)=>0<=s.2/\s.2<=x.2.1.length/\x.2.1.length<=4096) (λ(s:Bool×Int)=>((x.2.1.length:Int)-s.2).toNat) h (λs c=>?_);unfold LF;repeat' with_reducible first|apply AC<;>intro a|apply AU<;>intro a|apply AI<;>intro a|apply AA|(refine AJ ?_ (AK ?_ ?_);rintro r ⟨hr,d⟩)
 all_goals ((try dsimp[len]at*);(try first|omega|assumption|grind[AY]))
def AAS(d:Nat){x:Ax×List Int×Int}(h:Fy x.1)(o:1<=x.2.1.length)(A:(x.2.1.length:Int)+d=x.2.2)(p:x.2.2<=4096):A3 (ft Ef (d+1) x) λr=>r.length<=4096:=by
 induction d generalizing x with
 |zero=>show A3 (Ef _ x) _;unfold Ef;have e:=AY (x:=(x.2.1.length:Int)-1);refine AB (AK (by simp[len];rw[e];omega) (by simp[len];rw[e];omega)) λv _=>?_;refine AB (Km h) λm f=>?_;refine AU (λ_=>?_) (λc=>absurd (by simp[len];omega) c);refine AB (O4 ⟨by simp,by simp,by omega,o,by omega⟩) λr hr=>?_;exact BA (λu a=>AA (by rw[hr u a];omega)) (λ_ _=>AA (by simp))
 |succ d t=>show A3 (Ef _ x) _;unfold Ef;have e:=AY (x:=(x.2.1.length:Int)-1);refine AB (AK (by simp[len];rw[e];omega) (by simp[len];rw[e];omega)) λv _=>?_;refine AB (Km h) λm f=>?_;refine AU (λ_=>?_) (λ_=>?_);grind[AB,O4,BA,AA];refine AB (P:=λr=> ∀u,r= .inl u->u.length<=4096) ?_ λr hr=>BA (λu a=>AA (hr u a)) (λ_ _=>AA (by simp));refine AQ (λ(s:Int)=>0<=s/\s<=m.length) (λ(s:Int)=>((m.length:Int)-s).toNat) (s:=(0:Int)) ⟨by decide,by omega⟩ (λs q=>?_);unfold QG;have b:=AY (x:=s+1);refine AC (λc=>?_) (λ_=>AA (λu a=>by cases a));simp[len]at c;refine AB (AK q.1 c) λB _=>?_;refine AB (VD ⟨by simp,by simp,by omega⟩) λw _=>?_;refine AI (λ_=>AA ⟨by rw[b];omega,by rw[b];omega⟩) (λ_=>?_);refine AB (Ae (by simp;omega)) λy g=>?_;have k:=g.2.1;simp[CQ]at k;refine AB (Ae (by simp;omega)) λn i=>?_;have l:=i.2.1;simp[CC,CQ]at l;refine AB (t (x:=(x.1,n,x.2.2)) h (by dsimp only;omega) (by dsimp only;omega) p) λz j=>?_;exact AC (λ_=>AA λu a=>by cases a;exact j) (λ_=>AA ⟨by rw[b];omega,by rw[b];omega⟩)
def YO{x:Ax×List Int×Int}(h:Fy x.1)(a:1<=x.2.1.length)(d:(x.2.1.length:Int)<=x.2.2)(b:x.2.2<=4096):A3 (OA x) λr=>True:=by have⟨r,hr,_⟩:=AAS (x.2.2-x.2.1.length).toNat h a (by omega) b;have⟨s,c⟩:=gy hr;exact⟨s,c,trivial⟩
def Zj{x:Ax×Int}(h:Fy x.1):A3 (Kl x) λr=>True:=by unfold Kl;refine AB (P:=λ_=>True) ?_ λr _=>BA (λ_ _=>AA trivial) (λ_ _=>AA trivial);refine AQ (λs=>1<=s/\s<=4097) (λs=>(4097-s).toNat) ⟨by decide,by decide⟩ (λs d=>?_);unfold Qs;have a:=AY (x:=s+1);refine AB (Ww h) λe c=>?_;refine AC (λb=>?_) (λ_=>AA trivial);simp[len]at b;refine AB (YO h (by simp) (by show(1:Int)<=s;omega) (by show s<=4096;omega)) λf _=>?_;exact AC (λ_=>AA trivial) (λ_=>AA ⟨by rw[a];omega,by rw[a];omega⟩)
def TP(l:List Ah):Nat:=(l.map λt=>t.2.2.2.2.1.length+1).sum
theorem ACJ{l:List Ah}{i:Nat}{o n:Ah}(h:l[i]? =some o):TP (l.set i n)+o.2.2.2.2.1.length=TP l+n.2.2.2.2.1.length:=by
 induction l generalizing i with
 |nil=>simp at h
 |cons t r a=>
  cases i with
  |zero=>simp at h;subst h;simp[TP];omega
  |succ i=>have:=a (i:=i) (by simpa using h);simp[TP,List.set_cons_succ,Be,Ti]at*;omega
def oz{l:List Ah}{id:Int}:TP (l.filter λt=>t.1 !=id)<=TP l:=by
 induction l with
 |nil=>simp
 |cons t r a=>simp[Tj];split;simp[TP,Be,Ti]at*;omega;simp[TP,Be,Ti]at*;omega
def qK{l:List Ah}{id:Int}{i:Nat}{t:Ah}(h:l[i]? =some t)(a:t.1=id):TP (l.filter λt=>t.1 !=id)<TP l:=by
 induction l generalizing i with
 |nil=>simp at h
 |cons u r b=>
  have q:=oz (l:=r) (id:=id);cases i with
  |zero=>simp at h;subst h;simp[Tj,a,bne_self_eq_false,J4,if_false];simp[TP,Be,Ti]at*;omega
  |succ i=>have:=b (i:=i) (by simpa using h);simp[Tj];split<;>(simp[TP,Be,Ti]at*;omega)
def WB{x:List Ah×Int}{s:Int×List Ah}(h:0<=s.1/\s.1<=x.1.length/\x.1.length<=64/\s.2.length=s.1):A3 (Ad (MZ x) s) λr=>r.length<=x.1.length:=by
 refine AQ (λ(s:Int×List Ah)=>0<=s.1/\s.1<=x.1.length/\x.1.length<=64/\s.2.length=s.1) (λ(s:Int×List Ah)=>((x.1.length:Int)-s.1).toNat) h (λs c=>?_);unfold MZ;repeat' with_reducible first|apply AC<;>intro a|apply AI<;>intro a|apply AA|(refine AJ ?_ (AK ?_ ?_);rintro r ⟨hr,e⟩)|(refine AJ ?_ (Ae ?_);rintro r ⟨hr,d,b⟩)
 all_goals ((try dsimp[len]at*);(try first|omega|assumption|grind[AY]))
def R3{x:List Ah×Int}:A3 (IH x) λr=>r.2=0->r.1.length=x.1.length+1/\r.1.length<=64:=by
 unfold IH;repeat' with_reducible first|apply AC<;>intro a|apply AO<;>intro a|apply AU<;>intro a|apply AI<;>intro a|apply AA|(apply AB (Di);intro r hr)|(refine AJ ?_ (Ha ?_);intro r hr)|(refine AJ ?_ (WB ?_);intro r hr)|(refine AJ ?_ (Ae ?_);rintro r ⟨hr,b,c⟩)|(refine AJ ?_ (CN ?_ ?_ ?_);rintro r ⟨hr,b⟩)
 all_goals ((try dsimp[len]at*);(try first|omega|assumption|grind[AY,Wb]))
def xU(l:List Ah)(id:Int):List Ah:=l.filter λt=>t.1 !=id
theorem jV(l:List Ah)(id:Int):(xU l id).length<=l.length:=LY _ _
theorem ABL(l:List Ah)(id:Int):TP (xU l id)<=TP l:=oz
theorem ABM{l:List Ah}{id:Int}{i:Nat}{t:Ah}(h:l[i]? =some t)(a:t.1=id):TP (xU l id)<TP l:=qK h a
def pP{a:Type}{l:List a}{n:Int}{p:a->Bool}{x:a}(b:0<=n)(c:l[n.toNat]? =some x):(l.take (n+1).toNat).filter p=(l.take n.toNat).filter p++(if p x=true then [x]else []):=by
 have e:(n+1).toNat=n.toNat+1:=by omega
 grind[List.take_add_one,Option.toList_some]
def sU{a:Type}{l:List a}{n:Int}{p:a->Bool}(b:0<=n):(((l.take n.toNat).filter p).length:Int)<=n:=by grind[List.length_filter_le,List.length_take]
def VJ{x:List Ah×Int}{s:Int×List Ah}(h:0<=s.1/\s.1<=x.1.length/\x.1.length<=16777216/\s.2=(x.1.take s.1.toNat).filter (λt=>t.1 !=x.2)):A3 (Ad (LJ x) s) λr=>r=x.1.filter λt=>t.1 !=x.2:=by
 refine AQ (λ(s:Int×List Ah)=>0<=s.1/\s.1<=x.1.length/\x.1.length<=16777216/\s.2=(x.1.take s.1.toNat).filter (λt=>t.1 !=x.2)) (λ(s:Int×List Ah)=>((x.1.length:Int)-s.1).toNat) h (λs f=>?_);unfold LJ;have⟨b,i,e,c⟩:=f;have a:=sU (l:=x.1) (p:=λt:Ah=>t.1 !=x.2) b;rw[<-c]at a;repeat' with_reducible first|apply AC<;>intro d|apply AL<;>intro d|apply AI<;>intro d|(apply Az;try dsimp only)|apply BS|apply Bd|apply AA|(refine AJ ?_ (AK ?_ ?_);rintro r ⟨hr,k⟩)|(refine AJ ?_ (Ae ?_);rintro r ⟨hr,j,g⟩)
 all_goals dsimp[len]at*
 all_goals first|omega|(rw[(AY (x:=s.1+1))];refine⟨⟨by omega,by omega,e,?_⟩,by omega⟩;rw[pP b (by assumption)];grind)|(rw[c,Bs (by omega)])|(simp;omega)
def Il{x:List Ah×Int}(h:x.1.length<=16777216):A3 (GO x) λr=>r=xU x.1 x.2:=by
 unfold GO xU
 repeat' first
   |with_reducible apply AI<;>intro a
   |(with_reducible apply Az;try dsimp only)
   |with_reducible apply BS
   |with_reducible apply Bd
   |with_reducible apply AA
   |(with_reducible refine AJ ?_ (VJ ?_);intro r hr)
 all_goals ((try dsimp[len]at*);(try first|omega|assumption|grind[AY]))
def Mb{x:Ah}(h:x.2.2.2.2.1.length<=16777216):A3 (Hd x) λr=>r.1=x.1/\r.2.2.2.2=x.2.2.2.2:=by
 unfold Hd;repeat' with_reducible first|apply AC<;>intro a|apply AU<;>intro a|apply AI<;>intro a|(apply Az;try dsimp only)|apply BS|apply Bd|apply AA|(refine AJ ?_ (AK ?_ ?_);rintro r ⟨hr,b⟩)
 all_goals ((try dsimp[len]at*);(try first|omega|assumption|grind[AY]))
def Kq{x:List Ah×Int×Ah}(h:x.1.length<=16777216)(a:0<=x.2.1/\x.2.1<x.1.length):A3 (Hk x) λr=>r=x.1.set x.2.1.toNat x.2.2:=by unfold Hk;refine AB (Ae (by simpa using h)) λr hr=>?_;have⟨hr,b,_⟩:=hr;rw[Cy]at hr;subst hr;refine AB (AK a.1 a.2) λ_ _=>?_;refine AB (AK a.1 a.2) λ_ _=>?_;exact AA rfl
def QI{x:List Ah×AD}{a:Ah}{s:Int×List Int}(h:0<=s.1/\s.1<=a.2.2.2.2.1.length/\a.2.2.2.2.1.length<=4096/\s.2.length<=s.1):A3 (Ad (NR x a) s) λr=>r.length<=a.2.2.2.2.1.length:=by
 refine AQ (λ(s:Int×List Int)=>0<=s.1/\s.1<=a.2.2.2.2.1.length/\a.2.2.2.2.1.length<=4096/\s.2.length<=s.1) (λ(s:Int×List Int)=>((a.2.2.2.2.1.length:Int)-s.1).toNat) h (λs d=>?_);unfold NR;repeat' with_reducible first|apply AC<;>intro b|apply AL<;>intro b|apply AI<;>intro b|(apply Az;try dsimp only)|apply BS|apply Bd|apply AA|(refine AJ ?_ (AK ?_ ?_);rintro r ⟨hr,f⟩)|(refine AJ ?_ (Ae ?_);rintro r ⟨hr,e,c⟩)
 all_goals ((try dsimp[len]at*);(try first|omega|assumption|grind[AY]))
def dK(l:List Ah)(id:Int):Prop:= ∃(j:Nat) (t:Ah),l[j]? =some t/\t.1=id
theorem dK.set{l:List Ah}{i:Nat}{n:Ah}{id:Int}(h:i<l.length)(hn:n.1=id):dK (l.set i n) id:=⟨i,n,by rw[Hg h],hn⟩
def vP(l:List Ah)(kind tx:Int)(m:List Ah):Prop:=m.length<=l.length/\(tx=0->m=l)/\(tx≠0->kind≠1->(kind≠4->TP m<TP l)/\TP m<=TP l)/\(tx≠0->kind=4->dK m tx)
def bQ{x:List Ah×AD}:A3 (F7 x) λr=>r.2=0->vP x.1 x.2.2.1 x.2.2.2.1 r.1:=by
 unfold F7;repeat' with_reducible first|apply AC<;>intro a|apply AO<;>intro a|apply AU<;>intro a|apply AL<;>intro a|apply AI<;>intro a|(apply Az;try dsimp only)|apply BS|apply Bd|apply MI|(apply BH;try dsimp only)|(apply A9;try dsimp only)|(apply BA<;>(intro u c;try subst c))|apply AA|(apply AB (Di);intro r hr)|(apply AB (B6);intro r hr)|(refine AJ ?_ (Ha ?_);intro r hr)|(refine AJ ?_ (QI ?_);intro r hr)|(refine AJ ?_ (Il ?_);intro r hr)|(refine AJ ?_ (Mb ?_);intro r hr)|(refine AJ ?_ (Kq ?_ ?_);intro r hr)|(refine AJ ?_ (AK ?_ ?_);rintro r ⟨hr,f⟩)|(refine AJ ?_ (Ae ?_);rintro r ⟨hr,e,b⟩)
 all_goals dsimp[len]at*
 all_goals first|omega|(intro d;exact absurd d (by decide))|(unfold Wb z4 at*;(first|omega|grind[vP,ACJ,ABM,ABL,jV,List.length_set,dK.set]))
variable {B:Int->Prop}
def Qy{x:List Ah×Int}:A3 (HZ x) λr=>r.2=0->Wb x.1/\0<=r.1/\r.1<x.1.length:=by
 unfold HZ;repeat' with_reducible first|apply AC<;>intro a|apply AO<;>intro a|apply AL<;>intro a|apply AI<;>intro a|apply AA|(apply AB (Di);intro r hr)|(refine AJ ?_ (Ha ?_);intro r hr)|(refine AJ ?_ (AK ?_ ?_);rintro r ⟨hr,b⟩)
 all_goals ((try dsimp[len]at*);(try first|omega|assumption|grind[AY,Wb]))
def bR{x:List Ah×Int}:A3 (Lr x) λr=>r.2=0->r.1.length<=64:=by
 unfold Lr;repeat' with_reducible first|apply AU<;>intro a|apply AL<;>intro a|apply AI<;>intro a|apply AA|(apply AB (Qy);intro r hr)|(refine AJ ?_ (Kq ?_ ?_);intro r hr)|(refine AJ ?_ (AK ?_ ?_);rintro r ⟨hr,e⟩)|(refine AJ ?_ (Ae ?_);rintro r ⟨hr,d,b⟩)
 all_goals try dsimp[len]at*
 all_goals first|omega|(intro c;exact absurd c (by assumption))|grind[Wb,z4,List.length_set]
def bP{x:List Ah×Int×Int}:A3 (Lq x) λr=>r.2=0->r.1.length<=64:=by
 unfold Lq;repeat' with_reducible first|apply AC<;>intro a|apply AL<;>intro a|apply AI<;>intro a|apply AA|(apply AB (Qy);intro r hr)|(refine AJ ?_ (Mb ?_);intro r hr)|(refine AJ ?_ (Kq ?_ ?_);intro r hr)|(refine AJ ?_ (AK ?_ ?_);rintro r ⟨hr,e⟩)|(refine AJ ?_ (Ae ?_);rintro r ⟨hr,b,c⟩)|(refine AJ ?_ (CN ?_ ?_ ?_);rintro r ⟨hr,b⟩)
 all_goals try dsimp[len]at*
 all_goals first|omega|(intro d;exact absurd d (by assumption))|grind[Wb,z4,List.length_set,AY]
def dC{x:BY×Int×DZ}(h:x.1.length<=16777216)(a:0<=x.2.1/\x.2.1<x.1.length):A3 (Ms x) λr=>r=x.1.set x.2.1.toNat x.2.2:=by unfold Ms;refine AB (Ae (by simpa using h)) λr hr=>?_;have⟨hr,b,_⟩:=hr;rw[Cy]at hr;subst hr;refine AB (AK a.1 a.2) λ_ _=>?_;refine AB (AK a.1 a.2) λ_ _=>?_;exact AA rfl
def Sr{x:BY×AD}:A3 (G9 x) λr=>r.2=0->r.1.length=x.1.length/\(x.2.2.1≠7->r.1=x.1)/\(x.2.2.1=7->0<=x.2.2.2.2.2.2.2.1.1/\ ∃w,x.1[x.2.2.2.2.2.2.2.1.1.toNat]? =some w/\r.1=x.1.set x.2.2.2.2.2.2.2.1.1.toNat ((if x.2.2.2.2.2.2.1>w.1 then x.2.2.2.2.2.2.1 else w.1),w.2)):=by
 unfold G9;refine AB Fv λv i=>?_;refine AO (λa=>AA (λb=>absurd b (by decide))) (λa=>?_);refine AB B6 λl k=>?_;refine AO (λa=>AA (λb=>absurd b (by decide))) (λf=>?_);refine AL (λa=>AA λ_=>⟨rfl,λ_=>rfl,λe=>absurd e a⟩) (λd=>?_);have i:K6 x.2:=by grind
 have c:0<=x.2.2.2.2.2.2.2.1.1:=by grind[K6,TF,Nt,Oz]
 refine AC (λa=>AA (λb=>absurd b (by decide))) (λg=>?_);simp[len]at g;refine AB (AK c) λw j=>?_;refine AB (dC (by have:=(by grind:gV x.1).2;dsimp only;omega) ⟨c,by dsimp only;omega⟩) λu h=>AA λ_=>?_;subst h;exact⟨by simp,λe=>absurd d e,λ_=>⟨c,w,j.1,rfl⟩⟩
def Jw{x:AP×Int}(h:SB x.1):A3 (Ea x) λr=>BT x.1=some true->KP x.1.1 x.1.2.2.1.2.1 x.1.2.2.2.1.2.1 x.1.2.2.2.2.2.2.2 x.1.2.2.2.2.2.2.1->0<=x.2->x.2<x.1.1->r=Bt x.1.2.2.1.2.1 x.2:=by unfold Ea;refine Dr (Bp h) λv u t=>?_;refine AO (λa=>AA λe=>?_) (λa=>?_);rw[u,a]at e;cases e;refine AC (λa=>AA λ_ _ p=>absurd p (by omega)) (λp=>?_);refine AC (λa=>AA λ_ _ _ q=>absurd q (by omega)) (λq=>?_);refine AB IG λg s=>?_;refine AI (λa=>AA λ_ c d j=>?_) (λk=>?_);have⟨_,_,_,e,f,n,b⟩:=s.1 a;have:=(c x.2 d j).1 f n (by rw[b];exact e);rw[b]at this;rw[this];exact QV _ _;refine AB (JH h) λl o=>?_;refine AI (λa=>AA λ_ c d j=>(c x.2 d j).2.1 _ (o.1 a).1 (o.1 a).2) (λm=>?_);refine AB (AK (by omega) (by have:=(t a).2.2.2.2.2.2.2;omega)) λr hr=>AA λ_ c d j=>?_;exact((c x.2 d j).2.2 r hr.1).2 (o.2 m) λf n e=>by have⟨i,w⟩:=EW n;exact absurd ⟨i,f,w,e⟩ (s.2 k (t a).2.2.2.1)
def LX(a b:Ak):Prop:=b.1=a.1/\a.2.2<=b.2.2/\ ∃t,b.2.1=a.2.1++t
def LX.refl(a:Ak):LX a a:=⟨rfl,Aj _,[],by simp⟩
def LX.trans{a b c:Ak}(h:LX a b)(g:LX b c):LX a c:=by have⟨i,k,t,j⟩:=h;have⟨d,f,u,e⟩:=g;exact⟨d.trans i,jp k f,t++u,by rw[e,j,A0]⟩
def LX.get{a b:Ak}(h:LX a b){i:Nat}{e:AD}(f:a.2.1[i]? =some e):b.2.1[i]? =some e:=by have⟨c,_,t,d⟩:=h;grind[List.getElem?_append_left,Nat.lt_or_ge,List.getElem?_eq_none]
def AEJ(k:AP)(z:AD)(m:AP):Prop:=
 ∃e,m.2.2.1.2.1=k.2.2.1.2.1++[e]/\e.1=k.2.2.1.1+k.2.2.1.2.1.length/\e.2.1=z.2.1/\e.2.2.2.2.2=z.2.2.2.2.2/\
  (KP k.1 k.2.2.1.2.1 k.2.2.2.1.2.1 k.2.2.2.2.2.2.2 k.2.2.2.2.2.2.1->(e.2.1=1\/e.2.1=2)->0<=e.2.2.2.2.2.2.1.1->e.2.2.2.2.2.2.1.1<k.1->e.2.2.2.2.1=Bt k.2.2.1.2.1 e.2.2.2.2.2.2.1.1)/\
  (z.2.1≠7->m.2.2.2.2.2.2.1=k.2.2.2.2.2.2.1)/\
  (z.2.1=7->0<=z.2.2.2.2.2.2.1.1/\ ∃w,k.2.2.2.2.2.2.1[z.2.2.2.2.2.2.1.1.toNat]? =some w/\m.2.2.2.2.2.2.1=k.2.2.2.2.2.2.1.set z.2.2.2.2.2.2.1.1.toNat ((if z.2.2.2.2.2.1>w.1 then z.2.2.2.2.2.1 else w.1),w.2))
def tq(k:AP)(z:AD)(m:AP):Prop:=
 m.1=k.1/\LX k.2.2.1 m.2.2.1/\D7 m.2.2.1/\m.2.2.2.1=k.2.2.2.1/\m.2.2.2.2.1=k.2.2.2.2.1/\vP k.2.2.2.2.2.1 z.2.1 z.2.2.1 m.2.2.2.2.2.1/\m.2.2.2.2.2.2.2=k.2.2.2.2.2.2.2/\SB m/\AEJ k z m
def Fk{x:AP×AD}(h:SB x.1):A3 (EM x) λr=>r.2.2=0->VK x.1/\tq x.1 x.2 r.1/\r.2.1=x.1.2.2.1.1+x.1.2.2.1.2.1.length:=by
 unfold EM;refine Dr (Bp h) λv q E=>?_;refine AO (λa=>AA (λc=>absurd c (by decide))) (λa=>?_);have n:=E a;rw[a]at q;refine AB (P:=λs=>(∃u,s= .inl u/\u.2.1≠0)\/ ∃u,s= .inr u/\u.1.2.1=x.2.2.1/\u.1.2.2.1=x.2.2.2.1/\u.1.2.2.2.2.2=x.2.2.2.2.2.2) ?_ λs D=>?_
 ·repeat' with_reducible first|apply AC<;>intro a|apply AO<;>intro a|apply AL<;>intro a|apply AI<;>intro a|(apply Az;try dsimp only)|apply BS|apply Bd|apply MI|(apply BH;try dsimp only)|(apply A9;try dsimp only)|(apply BA<;>(intro u b;try subst b))|apply AA|(refine AJ ?_ (FQ ?_);intro r hr)|(refine AJ ?_ (AK ?_ ?_);rintro r ⟨hr,N⟩)
  all_goals ((try dsimp[len]at*);(try first|omega|assumption|grind[AY,SB]))
 rcases D with⟨u,rfl,b⟩|⟨u,rfl,b⟩;exact BH (AA λc=>absurd c b);apply A9;refine AB (B0) λO A=>?_;refine AB (P:=λv:AD=>v.2.1=x.2.2.1/\v.2.2.1=x.2.2.2.1/\v.2.2.2.2.2=x.2.2.2.2.2.2/\(KP x.1.1 x.1.2.2.1.2.1 x.1.2.2.2.1.2.1 x.1.2.2.2.2.2.2.2 x.1.2.2.2.2.2.2.1->(v.2.1=1\/v.2.1=2)->0<=v.2.2.2.2.2.2.1.1->v.2.2.2.2.2.2.1.1<x.1.1->v.2.2.2.2.1=Bt x.1.2.2.1.2.1 v.2.2.2.2.2.2.1.1)) ?_ λt d=>?_;refine AI (λa=>?_) (λa=>AA ⟨b.1,b.2.1,b.2.2,λ_ n=>absurd (A.2 n) (by simp[a])⟩);exact AB (Jw h) λw F=>AA ⟨b.1,b.2.1,b.2.2,λo _ G H=>F q o G H⟩;refine AB (YK) λi B=>?_;refine AL (λa=>AA (λc=>absurd c a)) (λa=>?_);have⟨a1,a2,a3,a4,a5,a6⟩:=B a;dsimp only at a2 a3 a4 a5 a6;refine AB (Gk) λp e=>?_;refine AB (bQ) λI l=>?_;refine AL (λa=>AA (λc=>absurd c a)) (λf=>?_);refine AB (Sr) λJ m=>?_;refine AL (λa=>AA (λc=>absurd c a)) (λg=>?_);refine AA λ_=>⟨n,?_⟩
 have L:=a2.1;have M:i.1.2.1.length=x.1.2.2.1.2.1.length+1:=by rw[a3];simp
 have⟨K,y,k,z⟩:=e.1 (e.2 a1 (by dsimp only;omega) (by dsimp only;omega));dsimp only at y k z;have C:p.1=(i.2.1,t.2):=by
  have:(i.2.1-i.1.1).toNat=x.1.2.2.1.2.1.length:=by omega
  rw[this,a3]at k;simpa using k.symm
 have hn:=l f;have j:=(m g).2;rw[C]at hn j;dsimp only at hn j;rw[d.1,d.2.1]at hn;rw[d.1,d.2.2.1]at j;exact⟨⟨rfl,⟨a4,Int.le_of_eq a6.symm,_,a3⟩,a1,rfl,rfl,hn,rfl,⟨h.1,by have:=hn.1;have:=h.2.1;dsimp only at*;omega,h.2.2⟩,(i.2.1,t.2),a3,a5,d.1,d.2.2.1,d.2.2.2,j⟩,a5⟩
def tq.ki{k m:AP}{z:AD}(h:tq k z m)(b:KI B k)(a:z.2.1≠1/\z.2.1≠2/\z.2.1≠6/\z.2.1≠7):KI B m:=by obtain⟨a1,_,_,a4,_,_,a7,_,e,c,g,d,i,j,f,l⟩:=h;unfold KI;rw[a1,a4,a7,c,f a.2.2.2];rw[<-d]at a;exact⟨b.1.app ⟨λh=>by omega,λh=>by omega,λh=>by omega⟩,b.2.1.app ⟨a.1,a.2.1⟩,b.2.2⟩
def tq.sk{k m:AP}{z:AD}(h:tq k z m)(a:SK B k)(b:z.2.1≠1/\z.2.1≠2/\z.2.1≠6/\z.2.1≠7):SK B m:=h.2.2.2.2.2.2.2.1.sk (h.ki a.ki b)
end Go.Pm
namespace Go.Pm
open Go Go.Ab
set_option maxHeartbeats 400000
def DI(d:BX):Prop:=d.1.length<=64/\(∀(i:Nat) (s:Bb),d.1[i]? =some s->s.length=256)/\d.2.2.1=[]/\d.2.2.2.2=[]
def U9{x:Int}{s:Int×List Bb}(h:0<=s.1/\s.1<=x/\x<=64/\s.2.length=s.1/\ ∀(i:Nat) (t:Bb),s.2[i]? =some t->t=GS (List.replicate (Int.toNat 256) 0)):A3 (Ad (LB x) s) λr=>(r.length:Int)=x/\ ∀(i:Nat) (t:Bb),r[i]? =some t->t=GS (List.replicate (Int.toNat 256) 0):=by
 refine AQ (λ(s:Int×List Bb)=>0<=s.1/\s.1<=x/\x<=64/\s.2.length=s.1/\ ∀(i:Nat) (t:Bb),s.2[i]? =some t->t=GS (List.replicate (Int.toNat 256) 0)) (λ(s:Int×List Bb)=>(x-s.1).toNat) h (λs c=>?_);unfold LB;have⟨f,g,a,j,b⟩:=c;have k:(GS (List.replicate (Int.toNat 256) 0)).length=256:=by rw[aN,I4];rfl
 repeat' with_reducible first|apply AC<;>intro d|apply AI<;>intro d|apply AA|(refine AJ ?_ (Ae ?_);rintro r ⟨hr,l,e⟩)
 all_goals first|omega|(generalize GS (List.replicate (Int.toNat 256) 0)=bs at*;simp;omega)|(generalize GS (List.replicate (Int.toNat 256) 0)=bs at*;rw[(AY (x:=s.1+1))];refine⟨⟨by omega,by omega,a,by grind,?_⟩,by omega⟩;grind)|(exact⟨by omega,b⟩)
def Qq{x:Int}(h:0<=x/\x<=64):A3 (N5 x) λr=>(r.length:Int)=x/\ ∀(i:Nat) (t:Bb),r[i]? =some t->t=GS (List.replicate (Int.toNat 256) 0):=by exact AB (U9 ⟨Aj _,h.1,h.2,rfl,λi t a=>by simp at a⟩) λr hr=>AA hr
def cw{x:Int}:A3 (Je x) λr=>r.2=0->DI r.1/\r.1.1.length=x/\ ∀(i:Nat) (t:Bb),r.1.1[i]? =some t->t=GS (List.replicate (Int.toNat 256) 0):=by refine AC (λb=>AA λa=>absurd a (by decide)) (λb=>AC (λb=>AA λa=>absurd a (by decide)) (λc=>AB (Qq (by omega)) λr hr=>AA λ_=>⟨⟨by dsimp only;omega,λi t d=>?_,rfl,rfl⟩,hr⟩));rw[hr.2 i t d,aN,I4];rfl
def Zf{x:BX×Cm}:A3 (Ki x) λr=>True:=by
 unfold Ki;repeat' with_reducible first|apply AC<;>intro a|apply AU<;>intro a|apply AI<;>intro a|(apply Az;try dsimp only)|apply BS|apply Bd|apply MI|(apply BH;try dsimp only)|(apply A9;try dsimp only)|(apply BA<;>(intro u b;try subst b))|apply AA
 all_goals trivial
def V1{x:BX}{s:Int}(h:0<=s/\s<=x.1.length/\(x.1.length:Int)<=16777216):A3 (Ad (ML x) s) λr=>r≠ .inl true:=by
 refine AQ (λ(s:Int)=>0<=s/\s<=x.1.length/\(x.1.length:Int)<=16777216) (λ(s:Int)=>((x.1.length:Int)-s).toNat) h (λs b=>?_);unfold ML;repeat' with_reducible first|apply AC<;>intro a|apply AL<;>intro a|apply AI<;>intro a|apply AA|(refine AJ ?_ (AK ?_ ?_);rintro r ⟨hr,c⟩)
 all_goals ((try dsimp[len]at*);(try first|omega|assumption|grind[AY]))
def V2{x:BX}{s:Int}(h:0<=s/\s<=x.2.2.1.length/\(x.2.2.1.length:Int)<=16777216):A3 (Ad (MM x) s) λr=>r≠ .inl true:=by
 refine AQ (λ(s:Int)=>0<=s/\s<=x.2.2.1.length/\(x.2.2.1.length:Int)<=16777216) (λ(s:Int)=>((x.2.2.1.length:Int)-s).toNat) h (λs b=>?_);unfold MM;repeat' with_reducible first|apply AC<;>intro a|apply AI<;>intro a|apply AA|(refine AJ ?_ (AK ?_ ?_);rintro r ⟨hr,c⟩)
 all_goals ((try dsimp[len]at*);(try first|omega|assumption|grind[AY]|((try simp (disch:=omega) only[AY,len]at*)<;>(try intros)<;>(try and_intros)<;>(try intros)<;>(first|omega|assumption|grind))))
def V3{x:BX}{s:Int}(h:0<=s/\s<=x.2.2.2.2.length/\(x.2.2.2.2.length:Int)<=16777216):A3 (Ad (MN x) s) λr=>r≠ .inl true:=by
 refine AQ (λ(s:Int)=>0<=s/\s<=x.2.2.2.2.length/\(x.2.2.2.2.length:Int)<=16777216) (λ(s:Int)=>((x.2.2.2.2.length:Int)-s).toNat) h (λs b=>?_);unfold MN;repeat' with_reducible first|apply AC<;>intro a|apply AO<;>intro a|apply AI<;>intro a|apply AA|(apply AB (Zf);intro r hr)|(refine AJ ?_ (AK ?_ ?_);rintro r ⟨hr,c⟩)
 all_goals ((try dsimp[len]at*);(try first|omega|assumption|grind[AY]))
def Zd{x:BX}(h:x.2.2.1.length<=16777216):A3 (Kh x) λr=>r=true->1<=x.1.length/\x.1.length<=64:=by
 unfold Kh;repeat' with_reducible first|apply AC<;>intro a|apply AI<;>intro a|(apply BH;try dsimp only)|(apply A9;try dsimp only)|(apply BA<;>(intro u b;try subst b))|apply AA|(refine AJ ?_ (V1 ?_);intro r hr)|(refine AJ ?_ (V2 ?_);intro r hr)|(refine AJ ?_ (V3 ?_);intro r hr)
 all_goals ((try dsimp[len]at*);(try first|omega|assumption|grind[AY]))
def MR{x:BX×Int}(h:x.1.2.2.1.length<=16777216):A3 (GK x) λr=>r=0->0<=x.2/\x.2<x.1.1.length/\x.1.1.length<=64:=by
 unfold GK;repeat' with_reducible first|apply AC<;>intro a|apply AO<;>intro a|apply AI<;>intro a|apply AA|(refine AJ ?_ (Zd ?_);intro r hr)
 all_goals ((try dsimp[len]at*);(try first|omega|assumption|grind[AY]))
def Uf{x:List Int×Int}{s:Int×List Int}(h:0<=s.1/\s.1<=x.1.length/\x.1.length<=16777216/\s.2.length<=s.1):A3 (Ad (KQ x) s) λr=>r.length<=x.1.length:=by
 refine AQ (λ(s:Int×List Int)=>0<=s.1/\s.1<=x.1.length/\x.1.length<=16777216/\s.2.length<=s.1) (λ(s:Int×List Int)=>((x.1.length:Int)-s.1).toNat) h (λs c=>?_);unfold KQ;repeat' with_reducible first|apply AC<;>intro a|apply AL<;>intro a|apply AI<;>intro a|(apply Az;try dsimp only)|apply BS|apply Bd|apply AA|(refine AJ ?_ (AK ?_ ?_);rintro r ⟨hr,e⟩)|(refine AJ ?_ (Ae ?_);rintro r ⟨hr,d,b⟩)
 all_goals ((try dsimp[len]at*);(try first|omega|assumption|grind[AY]))
def QE{x:List Int×Int}(h:x.1.length<=16777216):A3 (E5 x) λr=>r.length<=x.1.length:=by
 unfold E5;repeat' with_reducible first|apply AA|(refine AJ ?_ (Uf ?_);intro r hr)
 all_goals ((try dsimp[len]at*);(try first|omega|assumption|grind[AY]))
def YG{x:List Int×Int}{s:Int}(h:0<=s/\s<=x.1.length/\(x.1.length:Int)<=16777216):A3 (Ad (N6 x) s) λr=>True:=by
 refine AQ (λ(s:Int)=>0<=s/\s<=x.1.length/\(x.1.length:Int)<=16777216) (λ(s:Int)=>((x.1.length:Int)-s).toNat) h (λs b=>?_);unfold N6;repeat' with_reducible first|apply AC<;>intro a|apply AU<;>intro a|apply AI<;>intro a|apply AA|(refine AJ ?_ (AK ?_ ?_);rintro r ⟨hr,c⟩)
 all_goals ((try dsimp[len]at*);(try first|omega|assumption|grind[AY]))
def cy{x:List Int×Int}(h:x.1.length<=16777216):A3 (Mp x) λr=>True:=by
 unfold Mp;repeat' with_reducible first|(apply BH;try dsimp only)|(apply A9;try dsimp only)|(apply BA<;>(intro u a;try subst a))|apply AA|(refine AJ ?_ (YG ?_);intro r hr)
 all_goals ((try dsimp[len]at*);(try first|omega|assumption|grind[AY]))
def bI{x:BX×Int}(h:DI x.1):A3 (Lj x) λr=>r.2=0->r.1.length=256/\0<=x.2/\x.1.1[x.2.toNat]? =some r.1:=by
 unfold Lj;repeat' with_reducible first|apply AL<;>intro a|apply AI<;>intro a|apply AA|(refine AJ ?_ (MR ?_);intro r hr)|(refine AJ ?_ (cy ?_);intro r hr)|(refine AJ ?_ (AK ?_ ?_);rintro r ⟨hr,b⟩)
 all_goals ((try dsimp[len]at*);(try first|omega|assumption|grind[DI]))
def DI.set{d:BX}{l:List Bb}{i:Int}{t:Bb}{u:List Int}{w:Int}{b:Bool}(h:DI d)(c:l=d.1)(n:t.length=256)(e:u.length<=([]:List Int).length):DI (BU l i t,w,u,b,[]):=by subst c;have⟨a,f,g,k⟩:=h;refine⟨by simpa[BU]using a,λj s m=>?_,List.length_eq_zero_iff.1 (by simpa using e),rfl⟩;grind[BU]
def bJ{x:BX×Int×Bb×Int}(h:DI x.1):A3 (PR x) λr=>r.2=0->DI r.1/\ ∃o,0<=x.2.1/\x.1.1[x.2.1.toNat]? =some o/\r.1.1=BU x.1.1 x.2.1 (x.2.2.1.take x.2.2.2.toNat++o.drop x.2.2.2.toNat):=by
 have⟨C,s,n,t⟩:=h;refine AB (MR (by dsimp only;rw[n];simp)) λF i=>AL (λg=>AA (λa=>absurd a g)) (λg=>?_);refine AC (λ_=>AA λa=>absurd a (by decide)) (λc0=>AC (λ_=>AA λa=>absurd a (by decide)) (λB=>AL (λ_=>AA λa=>absurd a (by decide)) (λv=>?_)));have⟨b,c,E⟩:=i g;simp only[len]at v;refine AB (Ae (by simp;omega)) λw j=>AB (Ae (by rw[n];simp)) λz k=>AB (Ae (by rw[t];simp)) λA m=>?_;have j:w=x.1.1:=by grind
 have k:z=[]:=by grind
 have m:A=[]:=by grind
 subst j k m;refine AB (Dh (Aj _)) λG e=>AB (AK b c) λH _=>AB (AK b c) λq p=>?_;have D:=s _ _ p.1;refine AB (Dh (by omega) (by simp only[len];omega) (by simp[len])) λI f=>AB (Cu (by simp only[len]at f;omega)) λJ u=>AB (AK b c) λ_ _=>AB (AK b c) λ_ _=>AB (QE (by simp)) λy d=>AA λ_=>⟨h.set rfl (by simp only[len]at f;omega) d,q,b,p.1,?_⟩
 dsimp only;rw[u.1,e.1,f.1,Bs (l:=q.drop _) (by simp[len])];simp
def whole{l:List Bb}{i:Nat}{s o a b r:Bb}(h:len s=256)(f: ∀(i:Nat) (s:Bb),l[i]? =some s->s.length=256)(hr:r=a++b)(c:a=List.take (Int.toNat 256-Int.toNat 0) (List.drop (Int.toNat 0) s))(d:b=List.take ((len o).toNat-Int.toNat 256) (List.drop (Int.toNat 256) o))(g:l[i]? =some o):r=s:=by have j:=f _ _ g;have e:List.drop (Int.toNat 256) o=[]:=er (by simp only[Int.reduceToNat];omega);simp only[len]at h;rw[hr,c,d,e,List.take_nil,D8];exact Bs (by simp;omega)
def Ze{x:BX×Int×Bb}(h:DI x.1):A3 (Ot x) λr=>r.2=0->DI r.1/\0<=x.2.1/\r.1.1=BU x.1.1 x.2.1 x.2.2:=by
 have⟨B,o,i,j⟩:=h;refine AB (MR (by dsimp only;rw[i];simp)) λC g=>?_;refine AL (λb=>AA (λc=>absurd c b)) (λb=>?_);refine AL (λb=>AA (λc=>absurd c (by decide))) (λd=>?_);refine AU (λb=>AA (λc=>absurd c (by decide))) (λq=>?_);refine AB (Ae (by simp;omega)) λy t=>?_;refine AB (Ae (by rw[i];simp)) λz u=>?_;refine AB (Ae (by rw[j];simp)) λA v=>?_;have l:y=x.1.1:=by grind
 have m:z=[]:=by grind
 have n:A=[]:=by grind
 subst l m n;have l1: ∀s,s.1=0->Ad (MO x) s=some s.2:=λs e=>by rw[CW];unfold MO;rw[j,e];rfl
 rw[l1 _ rfl];apply Az;have l2: ∀a s,a.1=[]->s.2.1=0->Ad (MP x a) s=some (s.1,(s.2.2.2.2.2.2.1,(s.2.2.2.2.2.1,s.2.2.2.2.2.2.2))):=λa s f e=>by rw[CW];unfold MP;rw[f,e];rfl
 have w: ∀a s,a.1=[]->s.1=0->Ad (MQ a) s=some (s.2.2.2.2.2.1,(s.2.2.2.2.1,s.2.2.2.2.2.2)):=λa s f e=>by rw[CW];unfold MQ;rw[f,e];rfl
 rw[l2 _ _ rfl rfl];repeat' with_reducible first|apply AC<;>intro b|apply AO<;>intro b|apply AU<;>intro b|apply AL<;>intro b|apply AI<;>intro b|(apply Az;try dsimp only)|apply BS|apply Bd|apply AA|(rw[w _ _ rfl rfl];apply Az;dsimp only)|(refine AJ ?_ (QE ?_);intro r hr)|(refine AJ ?_ (AK ?_ ?_);rintro r ⟨hr,q⟩)|(refine AJ ?_ (Ae ?_);rintro r ⟨hr,k,p⟩)|(refine AJ ?_ (Cu ?_);rintro r ⟨hr,k⟩)|(refine AJ ?_ (Dh ?_ ?_ ?_);rintro r ⟨hr,k⟩)
 all_goals first|omega|(simp;done)|(intro c;exact absurd c (by decide))|(exact λ_=>⟨h.set rfl (by grind) hr,(g (by assumption)).1,congrArg (BU _ _) (whole d o (by assumption) (by assumption) (by assumption) (by assumption))⟩)|(cases b;done)|grind
def DC(p:Ba):Nat:=p.2.1.countP λf=>f.2.1
def UC(p:Ba):Nat:=p.2.1.countP λf=>f.2.2.2
def uO{a:Type}{l:List a}{i:Nat}{o n:a}{q:a->Bool}(h:l[i]? =some o):(l.set i n).countP q+(if q o=true then 1 else 0)=l.countP q+(if q n=true then 1 else 0):=by grind
theorem Ko{x:Ba×Int×A2}(h:x.1.2.1.length<=16777216)(a:0<=x.2.1/\x.2.1<x.1.2.1.length):A3 (Hj x) λr=>r=(x.1.1,x.1.2.1.set x.2.1.toNat x.2.2,x.1.2.2):=by refine AB (Ae (by simpa using h)) λr hr=>?_;have⟨hr,b,_⟩:=hr;subst hr;refine AB (AK a.1 a.2) λ_ _=>?_;refine AB (AK a.1 a.2) λ_ _=>?_;exact AA rfl
def iu(f:A2):AZ×Bool×Int:=(f.1,f.2.1,f.2.2.1)
def CF(l:List A2):List (AZ×Bool×Int):=l.map iu
def AB3{l:List A2}{i:Nat}{f g:A2}(h:l[i]? =some f)(a:iu g=iu f):CF (l.set i g)=CF l:=by unfold CF;apply IU;grind
theorem mT{l m:List A2}(h:CF m=CF l){i:Nat}{f:A2}(a:m[i]? =some f): ∃g,l[i]? =some g/\iu g=iu f:=by
 have:(CF m)[i]? =some (iu f):=by unfold CF;rw[List.getElem?_map,a];rfl
 rw[h]at this;unfold CF at this;grind
def AB2{l m:List A2}(h:CF m=CF l):m.length=l.length:=by have:=congrArg List.length h;simpa[CF]using this
def vM{p:Ba}:DC p=(CF p.2.1).countP λc=>c.2.1:=by unfold DC CF;rw[List.countP_map];rfl
theorem Ji.congr{l m:List A2}{n:Int}(h:CF m=CF l)(d:Ji l n):Ji m n:=by refine⟨λi f r b=>?_,λi j f g c s b q=>?_⟩;have⟨g,a,o⟩:=mT h b;have:=d.1 i g r a;grind[iu,jk];have⟨e,a,o⟩:=mT h b;have⟨k,p,t⟩:=mT h q;have:=d.2 i j e k c s a p;grind[iu]
def ON.uniq{p:Ba}(h:ON p){i j:Nat}{f g:A2}(a:p.2.1[i]? =some f)(b:p.2.1[j]? =some g)(e:f.1.1=g.1.1):f=g:=by have c:=h.2.2.2.2.2.2;grind
def VE{c:List (AZ×Bool×Int)}{z:Int}{s:Ba}(h:c=CF s.2.1/\z=s.1/\0<=s.2.2/\s.2.2<s.2.1.length/\s.2.1.length<=64):A3 (Ad QH s) λr=>c=CF r.2.1/\z=r.1/\0<=r.2.2/\r.2.2<r.2.1.length/\r.2.1.length<=64:=by
 refine AQ (λs=>c=CF s.2.1/\z=s.1/\0<=s.2.2/\s.2.2<s.2.1.length/\s.2.1.length<=64) UC h (λs n=>?_);have⟨k,l,i,j,m⟩:=n;refine AB (AK i j) λf q=>?_;refine AI (λo=>?_) (λo=>AA ⟨k,l,i,j,m⟩);refine AB (AK i j) λd t=>?_;have e:d=f:=by grind
 subst e;refine AB (Ko (by dsimp only;omega) ⟨i,j⟩) λp u=>?_;subst u;refine AU (λv=>?_) (λv=>AA ?_);grind;rw[(AY (x:=s.2.2+1))];refine⟨⟨?_,l,(eZ (len (s.2.1.set s.2.2.toNat (d.1,d.2.1,d.2.2.1,false))) (a:=s.2.2+1) (by omega)),(eY (s.2.2+1) (b:=len (s.2.1.set s.2.2.toNat (d.1,d.2.1,d.2.2.1,false))) (by simp;omega)),by rw[fF];exact m⟩,?_⟩;rw[k];exact(AB3 (g:=(d.1,d.2.1,d.2.2.1,false)) q.1 rfl).symm;unfold UC;grind
def YQ{x:Ba}:A3 (OC x) λr=>(r.2.2=0->ON x/\ON r.1/\CF r.1.2.1=CF x.2.1/\iK r.1 r.2.1)/\(ON x->x.2.1.length≠0->r.2.2=0):=by refine AB EJ λv g=>?_;refine AO (λc=>AA ⟨λa=>absurd a (by decide),λh _=>?_⟩) (λc=>?_);grind;have b:=g.1 c;have e:=b;have⟨k,l,m,i,n,o⟩:=b;refine AU (λa=>AA ⟨λa=>absurd a (by decide),λ_ h=>absurd a (by simpa[len]using h)⟩) (λa=>?_);simp only[len]at a;refine AB (VE ⟨rfl,rfl,i,by omega⟩) λp b=>?_;have⟨q1,q2,q3,q4,q5⟩:=b;refine AB (AK q3 q4) λf d=>?_;have j:=AB2 q1;refine AA ⟨λ_=>⟨e,⟨by dsimp only;omega,by dsimp only;omega,by dsimp only;omega,q3,.inr q4,?_⟩,q1.symm,⟨_,f,d.1,rfl⟩⟩,λ_ _=>rfl⟩;grind[Ji.congr]
def bO{x:Ba×Int}:A3 (Lo x) λr=>ON x.1-> ∀(i:Nat) (f:A2),x.1.2.1[i]? =some f->f.1.1=x.2->f.2.1=false->(∀g∈r.1.2.1,g∈x.1.2.1)/\ ∀g∈x.1.2.1,g.2.1=true->g∈r.1.2.1:=by
 unfold Lo;refine AB EJ λv A=>?_;refine AO (λn=>AA λo=>absurd (A.2 o) (by simp[n])) (λn=>?_);have o:=A.1 n;have T:=o.2.1;have U:=o.2.2.1;refine AB (GN (by omega)) λi G=>?_;have⟨R,J,K,L⟩:=G;refine AC (λn=>AA λ_ j f p e _=>absurd ⟨j,f,p,e⟩ (L n)) (λH=>?_);have⟨k,I,t⟩:=K (by omega);refine AB (AK (by omega) J) λw Q=>?_;have B:w=k:=by grind[Option.some.inj]
 subst B;refine AI (λu=>AA λ_ j f p e l=>?_) (λu=>?_);have:=o.uniq p I (by rw[e,t]);subst this;rw[u]at l;cases l;have O:=AY (x:=i+1);refine AB (CN) λa C=>?_;refine AB (CN (by omega) (by simp[len];omega) (by simp only[len];omega)) λb D=>?_;have S:=C.2;have M:=D.2;simp[len]at M;refine AB (Ae (by rw[CQ];omega)) λc s=>?_;have N:=s.2.1;rw[CQ]at N;refine AB (Ae (by omega)) λd E=>?_;have q: ∀(j:Nat) (f:A2),x.1.2.1[j]? =some f->f.1.1=x.2->f.2.1=false->(∀g∈d,g∈x.1.2.1)/\ ∀g∈x.1.2.1,g.2.1=true->g∈d:=by intro j f p e l;refine⟨λg y=>?_,λg y F=>?_⟩;grind[List.mem_of_mem_take,List.mem_of_mem_drop];have⟨m,z⟩:=EW y;rw[(by grind[List.take_of_length_le,List.length_drop]:d=x.1.2.1.take i.toNat++x.1.2.1.drop (i.toNat+1)),At];rcases PI m i.toNat with h|h|h;exact .inl (BM (i:=m) (by rw[LW h];exact z));grind[Option.some.inj];exact .inr (BM (i:=m-(i.toNat+1)) (by rw[LV];rw[show i.toNat+1+(m-(i.toNat+1))=m by omega];exact z))
 refine AB (P:=λ_=>True) (AC (λ_=>AA trivial) (λ_=>AA trivial)) λV _=>?_;refine AB (P:=λ_=>True) (AC (λ_=>AA trivial) (λ_=>AA trivial)) λW _=>AA λ_=>q
theorem Zk{x:Ba×Int×Int}:A3 (Ou x) λr=>r.2=0->ON x.1/\DC r.1<=DC x.1/\(∀(i:Nat) (f:A2),x.1.2.1[i]? =some f->f.1.1=x.2.1->f.2.1=true->f.1.2.1=x.2.2->DC r.1<DC x.1)/\(∀g∈r.1.2.1,∃f∈x.1.2.1,f.1.1=g.1.1/\f.1=g.1)/\ ∀f∈x.1.2.1,f.1.1≠x.2.1->f∈r.1.2.1:=by
 refine AB EJ λv C=>?_;refine AO (λb=>AA (λo=>absurd o (by decide))) (λb=>?_);have l:=C.1 b;have J:=l.2.2.1;have I:=l.2.1;refine AB (GN (by dsimp only;omega)) λi B=>?_;have⟨G,D,E,H⟩:=B;refine AC (λb=>AA (λo=>absurd o (by decide))) (λb=>?_);have⟨f,c,d⟩:=E (by omega);refine AB (AK (by omega) D) λg z=>?_;have e:g=f:=by grind
 subst e;refine AC (λb=>AA (λo=>absurd o (by decide))) (λA=>?_);refine AO (λs=>AA (λ_=>⟨l,Ag _,λj k m a h _=>?_,λg z=>⟨g,z,rfl,rfl⟩,λf c _=>c⟩)) (λs=>?_);have:=l.uniq m c (by rw[a,d]);subst this;rw[s]at h;cases h;refine AB (P:=λn:A2=>(g.1.2.1=x.2.2->n.2.1=false)/\n.1=g.1) ?_ λn hn=>?_
 ·repeat' with_reducible first|refine AC ?_ ?_<;>intro b|refine AO ?_ ?_<;>intro b|refine AU ?_ ?_<;>intro b|refine AI ?_ ?_<;>intro b|(refine Az ?_;try dsimp only)|refine BS ?_|refine Bd ?_|refine AA ?_|(refine AJ ?_ (AK ?_ ?_);rintro r ⟨hr,F⟩)
  all_goals grind
 refine AB (Ko (by dsimp only;omega) ⟨by dsimp only;omega,by dsimp only;omega⟩) λp y=>?_;subst y;refine AA λ_=>?_;have u:=uO (q:=λf:A2=>f.2.1) (n:=n) c;rw[s]at u;refine⟨l,?_,λj k m a h t=>?_,wL c hn.2,λk m w=>rN c k m (by rw[d];exact w)⟩;unfold DC;dsimp only;simp at u;split at u<;>omega;have:=l.uniq m c (by rw[a,d]);subst this;rw[hn.1 t]at u;unfold DC;dsimp only;simp at u;omega
def Qp{x:AZ}:A3 (Dv x) λr=>r.2=0->Hn x/\r.1=MH x:=by have⟨v,b,h⟩:=ND (x:=x);by_cases a:v=0;exact⟨_,mV (h a),λ_=>⟨h a,rfl⟩⟩;unfold Dv;rw[b,AE];exact AL (λ_=>AA λe=>absurd e a) (λe=>absurd e a)
def vL:IA ()=some (gS 256):=by unfold IA;rw[rT (by decide)];rfl
def U8{x:Bb}{s:Int×AZ×AZ}(h:0<=s.1/\s.1<=16/\x.length=256):A3 (Ad (K9 x) s) λr=> ∀u,r= .inl u->u.1=4:=by
 refine AQ (λ(s:Int×AZ×AZ)=>0<=s.1/\s.1<=16/\x.length=256) (λ(s:Int×AZ×AZ)=>(16-s.1).toNat) h (λs e=>?_);unfold K9;obtain⟨g,i,j⟩:=e;have b:=AY (x:=s.1*13);have c:=AY (x:=12+s.1*13);have d:=AY (x:=12+s.1*13+1);rw[b,c,d];repeat' with_reducible first|apply AC<;>intro a|apply AU<;>intro a|apply AI<;>intro a|apply AA|(refine AJ ?_ (DY ?_ ?_);intro r hr)|(refine AJ ?_ (Dh ?_ ?_ ?_);rintro r ⟨hr,f⟩)|(refine AJ ?_ (Sg ?_ ?_);rintro r ⟨hr,f⟩)
 all_goals try dsimp only[len]at*
 all_goals first|omega|grind[AY]
def YF{x:Bb}(h:x.length<=1099511627776):A3 (Jo x) λr=>(r.2=0->Hn r.1/\x=MH r.1/\x≠gS 256)/\(r.2=7->x=gS 256):=by
 unfold Jo;rw[vL,AE];repeat' with_reducible first|apply AU<;>intro b|apply AL<;>intro b|apply AI<;>intro b|(apply BH;try dsimp only)|(apply A9;try dsimp only)|(apply BA<;>(intro u c;try subst c))|apply AA|(refine AJ ?_ (CR ?_);intro r hr)|(refine AJ ?_ (Oq ?_);intro r hr)|(refine AJ ?_ (U8 ?_);intro r hr)|(apply AB (Qp);intro r hr)|(refine AJ ?_ (Dh ?_ ?_ ?_);rintro r ⟨hr,d⟩)
 all_goals try dsimp only[len]at*
 all_goals first|trivial|omega|(exact⟨λa=>absurd a (by decide),λa=>absurd a (by decide)⟩)|grind
def cu{x:Int}:A3 (Hh x) λr=>r=(x,(0,JP.all (false,[]))):=by
 unfold Hh;repeat' with_reducible first|apply AA
 all_goals trivial
def Rd(s:Bb)(p:Int)(q:AZ):Prop:=q.1=p/\((s=gS 256/\q=(p,(0,JP.all (false,[]))))\/(Hn q/\s=MH q/\s≠gS 256))
def Vz{x:Bb×Int}(h:x.1.length<=1099511627776):A3 (MJ x) λr=>r.2=0->Rd x.1 x.2 r.1:=by refine AC (λ_=>AA λa=>absurd a (by decide)) (λ_=>AC (λ_=>AA λa=>absurd a (by decide)) (λ_=>AB (YF h) λv c=>AU (λd=>?_) (λ_=>AU (λf=>AL (λ_=>AA λa=>absurd a (by decide)) (λb=>AA λa=>⟨b,.inr (c.1 a)⟩)) (λhn=>AA λa=>absurd a hn))));exact AB cu λw e=>AA λ_=>by rw[e];exact⟨rfl,.inl ⟨c.2 d,rfl⟩⟩
def Zm{x:BY×Int×Int×Bb}(h:x.2.2.2.length<=1099511627776):A3 (Kp x) λr=>r.2=0->Rd x.2.2.2 x.2.1 r.1:=by
 unfold Kp;repeat' with_reducible first|apply AC<;>intro a|apply AO<;>intro a|apply AL<;>intro a|apply AI<;>intro a|apply AA|(apply AB (Fv);intro r hr)|(refine AJ ?_ (Vz ?_);intro r hr)|(refine AJ ?_ (AK ?_ ?_);rintro r ⟨hr,c⟩)
 all_goals try dsimp only[len]at*
 all_goals first|assumption|omega|(intro b;exact absurd b (by assumption))|(intro b;exact absurd b (by decide))|(intro _;exact hr (by assumption))|grind
def Rz{x:AZ×De}:A3 (IC x) λr=>(r.2=0->Nt x.2/\GW x.1.2.2 x.2.2.1=some x.2.2.2.1)/\(Nt x.2->x.2.1=x.1.1->GW x.1.2.2 x.2.2.1=some x.2.2.2.1->r=((x.1.1,(x.1.2.1,Uz x.1.2.2 x.2.2.1 x.2.2.2.2)),0)):=by unfold IC;refine AB R0 λv g=>AO (λe=>AA ⟨λf=>absurd f (by decide),λh=>absurd (g.2 h) (by simp[e])⟩) (λe=>?_);have b:=g.1 e;refine AL (λe=>AA ⟨λf=>absurd f (by decide),λ_ h=>absurd h e⟩) (λj=>?_);obtain⟨c,i,_⟩:=DY (a:=x.1.2.2) b.2.2.1 b.2.2.2.1;rw[i];refine Az (Az (AI (λd=>AA ⟨λf=>absurd f (by decide),λ_ _ h=>?_⟩) (λd=>Az (Az (AA ⟨λ_=>⟨b,?_⟩,λ_ _ _=>rfl⟩)))));rw[Ck h]at d;simp at d;obtain⟨k,l⟩:=c;simp at d;rw[d.1,d.2]
def z6{x:AZ}{e:AD}(h:Hn x)(d:K6 e)(f:e.2.1=1\/e.2.1=2)(b:e.2.2.2.2.2.2.1.1=x.1)(g:e.2.2.2.2.1=x.2.1)(c:GW x.2.2 e.2.2.2.2.2.2.1.2.1=some e.2.2.2.2.2.2.1.2.2.1):Kx (x,e)=some (upd x e,0):=by
 suffices i:A3 (Kx (x,e)) λr=>r=(upd x e,0) by obtain⟨r,hr,rfl⟩:=i;exact hr
 have a:Nt e.2.2.2.2.2.2.1:=by grind[K6,TF]
 refine AB B6 λv j=>AO (λa=>absurd (j.2 d) (by simp[a])) (λ_=>AB B0 λw k=>AO (λa=>absurd (k.2 f) (by simp[a])) (λ_=>?_));rw[mU h];refine Az (AL (λa=>absurd rfl a) (λ_=>AL (λa=>absurd b a) (λ_=>AL (λa=>absurd g a) (λ_=>AB Rz λr hr=>?_))));rw[hr.2 a b c];exact AL (λa=>absurd rfl a) (λ_=>AA rfl)
def Zh{x:AD×List AD}(h:x.2.length<=16777215):A3 (Kk x) λr=>r=x.1::x.2:=by
 unfold Kk;repeat' with_reducible first|apply AA|(refine AJ ?_ (Ae ?_);rintro r ⟨hr,b,a⟩)
 all_goals first|(simp at*;omega)|(simp at*;done)
def QY(L:List AD):Prop:= ∀(i:Nat) (e:AD),L[i]? =some e->e.1=1+i/\K6 e
def D7.num{l:Ak}(h:D7 l)(a:l.1=1):QY l.2.1:=λi e b=>by have:=h.2.2.2.2.2 i e b;rw[a]at this;exact this
def QY.take{L:List AD}(h:QY L)(k:Nat):QY (L.take k):=λi e a=>h i e (by grind)
def Z7{L:List AD}{k:Nat}(h:k<L.length):L.take (k+1)=L.take k++[L[k]]:=by rw[Ed,Aw h];rfl
def QY.at{L:List AD}(h:QY L){k:Nat}(a:k<L.length):L[k].1=1+k/\K6 L[k]:=h k _ (Aw a)
def fT{L:List AD}(h:QY L)(p:Int):Bt L p<=L.length:=by
 have:=jA (p:=p) (b:=L.length+1) L 0 (by omega) λe c=>by have⟨i,a⟩:=EW c;have:=(h i e a).1;have:=EB a;omega
 unfold Bt;omega
def Pt{L:List AD}(h:QY L)(p:Int)(j:Nat): ∀k:Nat,j<=k->Bt (L.take j) p<=Bt (L.take k) p
 |0,hj=>by rw[show j=0 by omega];exact Aj _
 |k+1,hj=>by by_cases e:j=k+1;rw[e];exact Aj _;have c:=Pt h p j k (by omega);by_cases a:k<L.length;rw[Z7 a,OL];have b:=fT (h.take k) p;have d:=(h.at a).1;rw[Bh]at b;split<;>omega;rw[Bs (l:=L) (i:=k+1) (by omega)];rwa [Bs (l:=L) (i:=k) (by omega)]at c
def qt{L:List AD}(h:QY L){p:Int}{i:Nat}{e:AD}(a:L[i]? =some e)(c:aB p e=true){k:Nat}(d:i<k):e.1<=Bt (L.take k) p:=by have b:=EB a;have:=Pt h p (i+1) k d;rw[Z7 b,OL,(Ck ((Aw b).symm.trans a):L[i]=e),if_pos c]at this;exact this
def pk{L:List AD}(h:QY L){p:Int}{j k:Nat}(g:Bt (L.take j) p=Bt (L.take k) p):((L.take k).drop j).filter (aB p)=[]:=by refine List.filter_eq_nil_iff.2 λe f d=>?_;obtain⟨i,a⟩:=EW f;rw[LV]at a;have b:=EB a;rw[Bh]at b;rw[LW (by omega)]at a;have:=qt h a d (k:=k) (by omega);have c:=fT (h.take j) p;have:=(h _ _ a).1;rw[Bh]at c;omega
def oP(L:List AD){j k:Nat}(h:j<=k):L.take k=L.take j++(L.take k).drop j:=by
 conv=>lhs;rw[<-Ee j (L.take k)]
 rw[KG,PJ h]
def jc{L:List AD}{p:Int}{j k:Nat}(h:j<=k):st (L.take k) p=(((L.take k).drop j).filter (aB p)).foldl upd (st (L.take j) p):=by
 conv=>lhs;rw[oP L h]
 exact wN _ _ _
def ja{L:List AD}(h:QY L){p:Int}{j k:Nat}(b:Bt (L.take j) p=Bt (L.take k) p):st (L.take j) p=st (L.take k) p:=by rcases Nat.le_total j k with a|a;rw[jc a,pk h b];rfl;rw[jc a,pk h b.symm];rfl
def mJ{L:List AD}(h:QY L){p:Int}: ∀{k:Nat},0<Bt (L.take k) p-> ∃(i:Nat) (e:AD),i<k/\L[i]? =some e/\aB p e=true/\(i:Int)+1=Bt (L.take k) p
 |0,hk=>absurd hk (by simp[Bt])
 |k+1,hk=>by by_cases b:k<L.length;rw[Z7 b,OL]at hk⊢;by_cases a:aB p L[k]=true;rw[if_pos a];exact⟨k,L[k],by omega,Aw b,a,by have:=(h.at b).1;omega⟩;rw[if_neg a]at hk⊢;obtain⟨i,e,d,r⟩:=mJ h hk;exact⟨i,e,by omega,r⟩;rw[Bs (l:=L) (i:=k+1) (by omega)]at hk⊢;rw[<-Bs (l:=L) (i:=k) (by omega)]at hk;obtain⟨i,e,d,f,g,c⟩:=mJ h hk;rw[Bs (l:=L) (i:=k) (by omega)]at c;exact⟨i,e,by omega,f,g,c⟩
def fU{L:List AD}(h:QY L)(p:Int)(k:Nat):0<=Bt (L.take k) p:=Pt h p 0 k (Bn _)
def fV{L:List AD}(h:QY L){p:Int}{k:Nat}:Bt (L.take (Bt (L.take k) p).toNat) p=Bt (L.take k) p:=by
 have f:=fU h p k;by_cases d:Bt (L.take k) p=0;rw[d];rfl;obtain⟨i,e,g,a,c,hn⟩:=mJ h (by omega:0<Bt (L.take k) p);have b:(Bt (L.take k) p).toNat=i+1:=by omega
 have:=qt h a c (k:=i+1) (by omega);have:=fT (h.take (i+1)) p;have:=(h i e a).1;rw[b];rw[Bh]at*;omega
def jZ{L:List AD}(h:QY L){p:Int}(b:0<=p/\p<64)(d:L.length<=1099511627776): ∀k:Nat,Hn (st (L.take k) p)
 |0=>⟨b.1,b.2,Aj 0,(by decide:(0:Int)<=1099511627776),λi=>⟨⟨Bn 12,.inr rfl⟩,λ_=>rfl⟩⟩
 |k+1=>by
  have a:=jZ h b d k;by_cases c:k<L.length;rw[Z7 c,vJ];split;rename_i m;have⟨g,j⟩:=h.at c;have e:Nt L[k].2.2.2.2.2.2.1:=by grind[K6,TF,aB]
  refine⟨a.1,a.2.1,by show 0<=L[k].1;omega,by show L[k].1<=_;omega,λi=>⟨?_,λf=>?_⟩⟩;show H7 (Uz _ _ _ i);unfold Uz;split;exact e.2.2.2.2.2;exact(a.2.2.2.2 i).1;have:L[k].1=0:=f;omega;exact a;rw[Bs (l:=L) (i:=k+1) (by omega)];rwa [Bs (l:=L) (i:=k) (by omega)]at a
def xr:AZ->List AD->Prop
 |_,[]=>True
 |x,e::r=>(Hn x/\K6 e/\(e.2.1=1\/e.2.1=2)/\e.2.2.2.2.2.2.1.1=x.1/\e.2.2.2.2.1=x.2.1/\GW x.2.2 e.2.2.2.2.2.2.1.2.1=some e.2.2.2.2.2.2.1.2.2.1)/\xr (upd x e) r
def xr.snoc: ∀{x:AZ} {l:List AD} {e:AD},xr x l->xr (l.foldl upd x) [e]->xr x (l++[e])
 |_,[],_,_,h=>h
 |_,_::_,_,h,g=>⟨h.1,xr.snoc h.2 g⟩
def ul{n:Int}{L:List AD}(h:QY L)(g:LI n L){p:Int}(o:0<=p/\p<64)(m:L.length<=1099511627776)(j:Nat): ∀k:Nat,j<=k->xr (st (L.take j) p) (((L.take k).drop j).filter (aB p))
 |0,hj=>by rw[show j=0 by omega];exact trivial
 |k+1,hj=>by
  by_cases e:j=k+1;rw[e,Yp (by rw[Bh];omega)];exact trivial;have c:=ul h g o m j k (by omega);by_cases b:k<L.length;rw[Z7 b,ju (by rw[Bh];omega),IW,Tj,fA];split;rename_i q;refine c.snoc ⟨?_,trivial⟩;rw[<-jc (by omega)];have r:=g k _ (Aw b);have a:(L[k].2.1=1\/L[k].2.1=2)/\L[k].2.2.2.2.2.2.1.1=p:=by simpa[aB]using q
  have⟨d,f⟩:=r.1 a.1;rw[a.2]at d f;exact⟨jZ h o m k,(h.at b).2,a.1,by rw[a.2,eN],by rw[d,QV],f⟩;rw[D8];exact c;rw[Bs (l:=L) (i:=k+1) (by omega)];rwa [Bs (l:=L) (i:=k) (by omega)]at c
def mF{L:List AD}(h:QY L){p:Int}{m j k:Nat}(l:m<=j)(n:Bt (L.take m) p=Bt (L.take j) p):((L.take k).drop m).filter (aB p)=((L.take k).drop j).filter (aB p):=by rw[<-Ee (j-m) ((L.take k).drop m),IW,Oe,show m+(j-m)=j by omega];refine(congrArg (· ++_) (List.filter_eq_nil_iff.2 λe g f=>?_)).trans (Cy _);obtain⟨i,a⟩:=EW g;have c:=EB a;rw[Bh]at c;rw[LW (by omega),LV]at a;have b:=EB a;rw[Bh]at b;rw[LW (by omega)]at a;have:=qt h a f (k:=j) (by omega);have d:=fT (h.take m) p;have:=(h _ _ a).1;rw[Bh]at d;omega
def ACx{n:Int}{l:Ak}(t:D7 l)(C:l.1=1)(I:LI n l.2.1){p:Int}(T:0<=p/\p<64){j k:Nat}(A:Bt (l.2.1.take j) p<=Bt (l.2.1.take k) p):A3 (PS (l,(p,(Bt (l.2.1.take k) p,Bt (l.2.1.take j) p)))) λr=>r=(((l.2.1.take k).drop j).filter (aB p),0):=by
 have b:=t.num C;have O:=fU b p k;have Q:=fU b p j;have R:=t.2.2.1;refine AB B7 λv B=>AO (λa=>absurd (B.2 t) (by simp[a])) (λ_=>?_);refine AC (λa=>absurd a (by dsimp only;omega)) (λ_=>AC (λa=>absurd a (by dsimp only;omega)) (λ_=>AC (λa=>absurd a (by dsimp only;omega)) (λ_=>AC (λa=>absurd a (by dsimp only;omega)) (λ_=>?_))));refine AB (P:=λr=>r= .inr (((l.2.1.take k).drop j).filter (aB p),Bt (l.2.1.take j) p)) ?_ λr hr=>?_
 ·refine Gf (λ(s:List AD×Int)=> ∃m:Nat,m<=k/\s=(((l.2.1.take k).drop m).filter (aB p),Bt (l.2.1.take m) p)/\Bt (l.2.1.take j) p<=s.2) (λs=>s.2.toNat) ⟨k,Ag _,by rw[Yp (by rw[Bh];omega)];rfl,A⟩ ?_;rintro s ⟨m,S,rfl,x⟩;unfold R2;dsimp only at x⊢;refine AC (λa=>?_) (λa=>A3.done ?_)
  ·obtain⟨i,e,K,q,o,J⟩:=mJ b (by omega:0<Bt (l.2.1.take m) p);have z:=EB q;have c:(e.2.1=1\/e.2.1=2)/\e.2.2.2.2.2.2.1.1=p:=by simpa[aB]using o
   refine AB Gk λg D=>?_;have F:=D.2 t (by dsimp only;omega) (by dsimp only;omega);have⟨_,_,u,_⟩:=D.1 F;dsimp only at u;rw[C,show(Bt (l.2.1.take m) p-1).toNat=i by omega,q]at u;rw[F,<-Ck u];refine AL (λa=>absurd rfl a) (λ_=>AB B0 λw N=>AO (λa=>absurd (N.2 c.1) (by simp[a])) (λ_=>AL (λa=>absurd c.2 a) (λ_=>?_)));have y:=LY (aB p) ((l.2.1.take k).drop m);rw[G5,Bh]at y;have d:=((I i e q).1 c.1).1;rw[c.2]at d;have E:=fV b (p:=p) (k:=m);rw[show(Bt (l.2.1.take m) p).toNat=i+1 by omega]at E;have L:=fV b (p:=p) (k:=j);have M:=Pt b p (Bt (l.2.1.take j) p).toNat i (by omega);refine AB (Zh (by dsimp only;omega)) λf H=>A3.next ⟨i,by omega,?_,by dsimp only;omega⟩ (by dsimp only;rw[d];have:=fT (b.take i) p;rw[Bh]at this;omega)
   rw[d,H,<-mF b (m:=i+1) (j:=m) (by omega) E,VU (l:=l.2.1.take k) (i:=i) (by rw[Bh];omega),Tj];have G:(l.2.1.take k)[i]'(by rw[Bh];omega)=e:=by rw[List.getElem_take];exact Ck ((Aw z).symm.trans q)
   rw[G,if_pos o]
  have e:Bt (l.2.1.take m) p=Bt (l.2.1.take j) p:=by omega
  rw[e];rcases Nat.le_total m j with h|h;rw[mF b h e];rw[mF b h e.symm]
 subst hr;exact A9 (AC (λa=>absurd a (by dsimp only;omega)) (λ_=>AA rfl))
def ACF{n:Int}{l:Ak}(f:D7 l)(C:l.1=1)(F:LI n l.2.1){p:Int}(t:0<=p/\p<64){j k:Nat}:A3 (Pc (l,(st (l.2.1.take j) p,Bt (l.2.1.take k) p))) λr=>r=(if Bt (l.2.1.take j) p<=Bt (l.2.1.take k) p then st (l.2.1.take k) p else st (l.2.1.take j) p,0):=by
 generalize G:(if Bt (l.2.1.take j) p<=Bt (l.2.1.take k) p then st (l.2.1.take k) p else st (l.2.1.take j) p)=y;have d:=f.num C;have S:=fU d p k;have T:=f.2.2.1;have q:=jZ d t (by omega);suffices Q:A3 (Pd (l,(st (l.2.1.take j) p,Bt (l.2.1.take k) p))) λr=>r.1=y/\r.2.2=0 from AB Q λr hr=>AA (by rw[hr.1,hr.2]);refine AB (P:=λr=> ∃b:List AD,r=(b,0)/\b.length<=4096/\xr (st (l.2.1.take j) p) b/\b.foldl upd (st (l.2.1.take j) p)=y) ?_ λr hr=>?_;refine AB B7 λv w=>AO (λa=>absurd (w.2 f) (by simp[a])) (λ_=>?_);rw[mU (q j)];refine Az (AL (λa=>absurd rfl a) (λ_=>AC (λa=>absurd a (by dsimp only;omega)) (λ_=>AC (λa=>AA ?_) (λa=>?_))));rw[QV]at a;refine⟨[],rfl,by simp,trivial,?_⟩;rw[<-G];split;exact ja d (by dsimp only at a;omega);rfl;rw[QV]at a;have c:j<=k:=by rcases Nat.le_total j k with h|h;exact h;have:=Pt d p k j h;dsimp only at a;omega
 have e:((st (l.2.1.take j) p).1,(Bt (l.2.1.take k) p,(st (l.2.1.take j) p).2.1))=(p,(Bt (l.2.1.take k) p,Bt (l.2.1.take j) p)):=by rw[eN,QV]
 dsimp only at e⊢;rw[e];refine AB (ACx f C F t (by dsimp only at a;omega)) λr hr=>AA ⟨_,hr,?_,ul d F t (by omega) j k c,by rw[<-G,if_pos (by dsimp only at a;omega)];exact(jc c).symm⟩;have o:=LY (aB p) ((l.2.1.take k).drop j);rw[G5,Bh]at o;omega
 ·obtain⟨b,rfl,m,O,u⟩:=hr;refine AL (λa=>absurd rfl a) (λ_=>AB (P:=λr=> ∃z,r= .inr (y,z)) ?_ λr hr=>?_)
  ·refine Gf (λ(s:Int×AZ×AZ)=> ∃A B,b=A++B/\s.1=A.length/\xr s.2.1 B/\B.foldl upd s.2.1=y) (λ(s:Int×AZ×AZ)=>((b.length:Int)-s.1).toNat) ⟨[],b,rfl,rfl,O,u⟩ ?_;rintro⟨i,x,z⟩ ⟨A,B,rfl,D,E,g⟩;dsimp only at D E g;subst D;unfold R5;dsimp only[len];rw[Af]at m;refine AC (λa=>?_) (λa=>A3.done ?_)
   ·obtain _|⟨e,B⟩:=B;simp at a;have R:ix (A++e::B) (A.length:Int)=some e:=by unfold ix;rw[if_pos (by omega),Df,CZ (Ag _),G2];rfl
    obtain⟨⟨H,I,J,K,L,M⟩,N⟩:=E;rw[R,AE,z6 H I J K L M,AE,AY (x:=(A.length:Int)+1)];refine AL (λa=>absurd rfl a) (λ_=>A3.next ⟨A++[e],B,by simp,by simp,N,g⟩ (by dsimp only;omega))
   obtain _|⟨e,B⟩:=B;exact⟨z,by rw[<-g];rfl⟩;simp at a;omega
  obtain⟨z,rfl⟩:=hr;exact A9 (AA ⟨rfl,rfl⟩)
variable {B:Int->Prop}
def KS(B:Int->Prop)(k m:AP):Prop:=letI a:=m.2.2;m.1=k.1/\LX k.2.2.1 a.1/\D7 a.1/\a.2.2.1=k.2.2.2.2.1/\a.2.2.2.1=k.2.2.2.2.2.1/\SK B m
def KS.refl{k:AP}(h:SK B k)(a:D7 k.2.2.1):KS B k k:=⟨rfl,LX.refl _,a,rfl,rfl,h⟩
def KS.trans{a b c:AP}(h:KS B a b)(g:KS B b c):KS B a c:=letI d:=g.2.2;⟨g.1.trans h.1,h.2.1.trans g.2.1,d.1,d.2.1.trans h.2.2.2.1,d.2.2.1.trans h.2.2.2.2.1,d.2.2.2⟩
def LX.of{a b:Ak}(h:b.1=a.1)(g:b.2.1=a.2.1)(d:a.2.2<=b.2.2):LX a b:=⟨h,d,[],by rw[g,D8]⟩
def KI.of{k m:AP}(h:KI B k)(a:m.1=k.1)(b:m.2.2.1.2.1=k.2.2.1.2.1)(c:m.2.2.2.1=k.2.2.2.1)(d:m.2.2.2.2.2.2=k.2.2.2.2.2.2):KI B m:=by unfold KI;rw[a,b,c,d];exact h
def mX{x:Ak×Int}(h:D7 x.1)(c:x.2<=x.1.1+x.1.2.1.length-1):A3 (EG x) λr=>r.2=0:=by refine AB B7 λv d=>AO (λa=>?_) (λ_=>?_);grind;refine AB FM λe b=>?_;rw[h.last]at b;exact AC (λa=>absurd a (by omega)) (λ_=>AA rfl)
def JG{x:AP×Int}(h:SK B x.1)(c:D7 x.1.2.2.1):A3 (Fl x) λr=>KS B x.1 r/\r.2.2.2.1=x.1.2.2.2.1/\(x.2<=x.1.2.2.1.1+x.1.2.2.1.2.1.length-1->x.2<=r.2.2.1.2.2):=by unfold Fl;refine AB GM λv d=>?_;have d:=d c;refine AB (JD.and (mX c (by dsimp only;split<;>omega))) λw a=>?_;have⟨i,e,j,k,f⟩:=a.1 a.2;refine BS (AU (λb=>AA ⟨⟨rfl,LX.of j e k,i,rfl,rfl,SB.sk h.sb (h.ki.of rfl e rfl rfl)⟩,rfl,λg=>?_⟩) (λb=>absurd a.2 b));dsimp only at f⊢;split at f<;>omega
theorem W6{x:AP×Int×Int}(h:SK B x.1)(p: ∃f∈x.1.2.2.2.1.2.1,f.1.1=x.2.1/\f.1.2.1=x.2.2):A3 (JI x) λr=>r.2=0->VK x.1/\KS B x.1 r.1/\DC r.1.2.2.2.1<=DC x.1.2.2.2.1/\ ∀(i:Nat) (f:A2),x.1.2.2.2.1.2.1[i]? =some f->f.1.1=x.2.1->f.2.1=true->f.1.2.1=x.2.2->DC r.1.2.2.2.1<DC x.1.2.2.2.1:=by unfold JI;refine AB (Bp h.sb) λv O=>?_;refine AO (λb=>AA (λc=>absurd c (by decide))) (λb=>?_);have A:=O b;refine AC (λb=>AA (λc=>absurd c (by decide))) (λ_=>?_);refine AC (λb=>AA (λc=>absurd c (by decide))) (λ_=>?_);refine AC (λb=>AA (λc=>absurd c (by decide))) (λ_=>?_);refine AB GM λ_ _=>?_;refine AC (λb=>AA (λc=>absurd c (by decide))) (λ_=>?_);refine AB FO λi L=>?_;refine AB (P:=λs=>(∃u,s= .inl u/\u.1≠0)\/ ∃u,s= .inr u/\(DC u.1<=DC x.1.2.2.2.1/\ ∀(i:Nat) (f:A2),x.1.2.2.2.1.2.1[i]? =some f->f.1.1=x.2.1->f.2.1=true->f.1.2.1=x.2.2->DC u.1<DC x.1.2.2.2.1)/\(∀g∈u.1.2.1,∃f∈x.1.2.2.2.1.2.1,f.1.1=g.1.1/\f.1=g.1)/\ ∀f∈x.1.2.2.2.1.2.1,f.1.1≠x.2.1->f∈u.1.2.1) ?_ λs N=>?_;refine AC (λb=>?_) (λb=>AA (.inr ⟨_,rfl,⟨Ag _,λj f M q _ _=>absurd (L.2.2.2 A.2.2.2.1 ⟨j,f,M,q⟩) b⟩,λg K=>⟨g,K,rfl,rfl⟩,λf n _=>n⟩));grind[AB,Zk,AL,AA];rcases N with⟨u,rfl,t⟩|⟨u,rfl,t,m,y⟩;exact BH (AA λc=>absurd c t);refine A9 ?_;refine AB (Fk h.sb) λa J=>?_;refine AL (λb=>AA (λc=>absurd c b)) (λb=>AA λ_=>?_);have⟨_,⟨a1,a2,a3,a4,a5,a6,a7,a8,e,E,Q,F,o,R,S,G⟩,_⟩:=J b;have⟨f,n,H,I⟩:=p;have⟨q0,w,C,D⟩:=G rfl;have T:=h.ki.2.2 f n;have d:=congrArg (λz=>z.2.1) ((h.ki.2.1 x.2.1 (by omega) (by omega)).1 f n H);rw[QV]at d;refine⟨A,⟨a1,a2,a3,a5,a6.2.1 rfl,a8.1,a8.2.1,a8.2.2,?_⟩,t⟩;unfold KI;dsimp only at F o C D⊢;rw[a1,a7,E,D];have k:=congrArg (λz=>z.1) o;have l:=congrArg (λz=>z.2.1.1) o;dsimp only at k l;refine⟨h.ki.1.app ⟨λh=>by omega,λ_=>?_,λh=>by omega⟩,(h.ki.2.1.written (by omega) (by omega) (by omega) m y C).app ⟨by omega,by omega⟩,h.ki.2.2.sub m⟩;rw[k,l,<-I];exact d
def bS{x:AP}(h:SK B x):A3 (Ls x) λr=>r.2.2.2=0->VK x/\KS B x r.1/\(r.2.2.1=true->DC r.1.2.2.2.1=DC x.2.2.2.1/\ ∃(i:Nat) (f:A2),r.1.2.2.2.1.2.1[i]? =some f/\f.1=r.2.1/\f.2.1=true/\r.2.1.2.1<=r.1.2.2.1.2.2):=by
 unfold Ls;refine AB (Bp h.sb) λv M=>?_;refine AO (λn=>AA (λt=>absurd t (by decide))) (λn=>?_);have c:=M n;refine AC (λn=>AA (λ_=>⟨c,KS.refl h c.2.2.1,λt=>by cases t⟩)) (λm=>?_);refine AB YQ λw D=>?_;have⟨_,F,O,P⟩:=D.1 (D.2 c.2.2.2.1 (by have:=c.2.2.2.1.1;simp[len]at m;omega));have G: ∀g∈w.1.2.1,∃f∈x.2.2.2.1.2.1,iu g=iu f:=λg b=>by grind[List.getElem?_of_mem,mT,List.mem_of_getElem?]
 have H: ∀f∈x.2.2.2.1.2.1,∃g∈w.1.2.1,iu g=iu f:=λf l=>by grind[List.getElem?_of_mem,mT,List.mem_of_getElem?]
 have u: ∀{f g:A2},iu f=iu g->f.1=g.1/\f.2.1=g.2.1:=λe=>⟨congrArg (λz=>z.1) e,congrArg (λz=>z.2.1) e⟩
 have k1: ∀g∈w.1.2.1,∃f∈x.2.2.2.1.2.1,f.1.1=g.1.1/\f.1=g.1:=λg b=>by have⟨f,l,e⟩:=G g b;exact⟨f,l,by rw[(u e).1],by rw[(u e).1]⟩
 have N: ∀f∈x.2.2.2.1.2.1,f.2.1=true-> ∃g∈w.1.2.1,g.1.1=f.1.1/\g.2.1=true:=λf l y=>by have⟨g,b,e⟩:=H f l;exact⟨g,b,by rw[(u e).1],by rw[(u e).2,y]⟩
 refine AB FO λi A=>?_;have E:=A.2.2.2 F P;refine AB (AK E A.2.1) λf l=>?_;have a:KI B (x.1,(x.2.1,(x.2.2.1,(w.1,x.2.2.2.2)))):=⟨h.ki.1,h.ki.2.1.frames k1 N,h.ki.2.2.sub k1⟩
 apply AO<;>intro n;have⟨_,L,o,J⟩:=A.2.2.1 E;have K:L=f:=by have:=l.1;rw[o]at this;exact Ck this
 subst K;refine AB bO λd y=>AA λ_=>⟨c,⟨rfl,LX.refl _,c.2.2.1,rfl,rfl,h.1,h.2.1,h.2.2.1,?_⟩,λt=>by cases t⟩
 have⟨C,I⟩:=y F _ _ o J n;exact⟨h.ki.1,a.2.1.frames (λg b=>⟨g,C g b,rfl,rfl⟩) (λg b s=>⟨g,I g b s,rfl,s⟩),a.2.2.sub λg b=>⟨g,C g b,rfl,rfl⟩⟩;refine AB (JG (SB.sk ⟨h.1,h.2.1,h.2.2.1⟩ a) c.2.2.1) λk j=>AA λ_=>⟨c,j.1,λ_=>⟨?_,i.toNat,f,?_,rfl,n,j.2.2 ?_⟩⟩
 rw[j.2.1,vM,vM,O];rw[j.2.1];exact l.1;have q:=BM l.1;have p:=a.2.2 f q;have:=congrArg (λz=>z.2.1) ((a.2.1 f.1.1 p.1 p.2.1).1 f q rfl);dsimp only at this⊢;rw[this,QV];have:=fS c.2.2.1 f.1.1;omega
def ACE(P:List AD)(p:Int)(s:Bb):Prop:=s=gS 256\/ ∃j:Nat,s=MH (st (P.take j) p)
def dead(s:Bb):Prop:=s≠gS 256/\ ∀q,Hn q->s≠MH q
def DP(B:Int->Prop)(P:List AD)(d:BX):Prop:=DI d/\ ∀(i:Nat) (s:Bb),d.1[i]? =some s->(B i->ACE P i s)/\(B i\/dead s)
def dl(l:Ak):List AD:=l.2.1.take l.2.2.toNat
def DJ(B:Int->Prop)(l:Ak)(d:BX):Prop:=l.1=1/\DP B (dl l) d
def DP.up{P Q:List AD}{d:BX}{m:Nat}(h:DP B P d)(e:P=Q.take m):DP B Q d:=⟨h.1,λi s a=>⟨λb=>by rcases(h.2 i s a).1 b with q|⟨j,q⟩;exact .inl q;rw[e,KG]at q;exact .inr ⟨_,q⟩,(h.2 i s a).2⟩⟩
def DJ.up{a b:Ak}{d:BX}(h:DJ B a d)(g:LX a b):DJ B b d:=by obtain⟨c,f,t,e⟩:=g;refine⟨c.trans h.1,h.2.up (m:=min a.2.2.toNat a.2.1.length) ?_⟩;unfold dl;rw[e,KG,PJ (by omega),aE (by omega),Nat.min_comm,<-KG,Bs (l:=a.2.1.take _) (by rw[Bh];omega)]
def zl{L:List AD}(h:QY L){p d:Int}(f:Bt L p<=d):st (L.take d.toNat) p=st L p:=by
 have e:=HP (l:=L);have a:=fV h (p:=p) (k:=L.length);rw[e]at a;have b:=Pt h p (Bt L p).toNat d.toNat (by omega)
 have c:Bt (L.take d.toNat) p<=Bt L p:=by rcases Nat.le_total d.toNat L.length with q|q;have:=Pt h p _ _ q;rwa [e]at this;rw[Bs q];exact Aj _
 have:=ja h (p:=p) (j:=d.toNat) (k:=L.length) (by rw[e];omega);rwa [e]at this
def R7{x:AS×AP×AZ}(h:SK B x.2.1)(A:D7 x.2.1.2.2.1)(l:DJ B x.2.1.2.2.1 x.1.2)(n: ∃f∈x.2.1.2.2.2.1.2.1,f.1=x.2.2)(y:x.2.2.2.1<=x.2.1.2.2.1.2.2):A3 (K2 x) λr=>r.2=0->KS B x.2.1 r.1.1/\DJ B r.1.1.2.2.1 r.1.2/\DC r.1.1.2.2.2.1<=DC x.2.1.2.2.2.1/\((∃(i:Nat) (f:A2),x.2.1.2.2.2.1.2.1[i]? =some f/\f.1=x.2.2/\f.2.1=true)->DC r.1.1.2.2.2.1<DC x.2.1.2.2.2.1):=by
 have⟨f,m,b⟩:=n;have a:=h.ki.2.2 f m;have c:=(h.ki.2.1 f.1.1 a.1 a.2.1).1 f m rfl;refine Dr Qp λv G _=>AB (Ze l.2.1) λw L=>AL (λd=>AA (λo=>absurd o d)) (λd=>?_);refine AB (W6 h ⟨f,m,by rw[b],by rw[b]⟩) λu K=>AL (λd=>AA (λo=>absurd o d)) (λq=>AA λ_=>?_);have⟨D,E,M,N⟩:=K q;have⟨O,P,F⟩:=L d;refine⟨E,DJ.up ⟨l.1,O,λi s j=>?_⟩ E.2.1,M,λ⟨i,g,H,t,I⟩=>N i g H (by rw[t]) I (by rw[t])⟩;have C:=A.num l.1;have k:=jZ C (p:=f.1.1) ⟨a.1,by have:=D.2.1;have:=D.1;dsimp only at*;omega⟩ (by have:=A.2.2.1;omega) x.2.1.2.2.1.2.1.length;rw[HP,<-c,b]at k;rw[mV k]at G;dsimp only at F j;rw[F]at j;by_cases J:i=x.2.2.1.toNat
 subst J;have e:s=MH x.2.2:=by unfold BU at j;grind
 rw[b]at a c;rw[show((x.2.2.1.toNat:Nat):Int)=x.2.2.1 by omega];refine⟨λ_=>.inr ⟨(dl x.2.1.2.2.1).length,?_⟩,.inl a.2.2.2⟩;rw[HP,e];unfold dl;rw[zl C (by have:=congrArg (λz=>z.2.1) c;rw[QV]at this;omega),<-c];exact l.2.2 i s (by unfold BU at j;rwa [List.getElem?_set_ne (by omega)]at j)
def SvR(B:Int->Prop)(s r:AS):Prop:=KS B s.1 r.1/\DJ B r.1.2.2.1 r.2
def ba{x:AS}(h:SK B x.1)(j:D7 x.1.2.2.1)(g:DJ B x.1.2.2.1 x.2):A3 (Lw x) λr=>r.2=0->SvR B x r.1:=by unfold Lw;refine AB (P:=λr=>r.1=0->SvR B x r.2) ?_ λr hr=>AA hr;refine AQ (λs=>SvR B x s.1) (λs=>DC s.1.1.2.2.2.1) ⟨KS.refl h j,g⟩ (λs c=>?_);unfold R6;refine AB (bS c.1.2.2.2.2.2) λv k=>?_;refine AL (λa=>AA (λe=>absurd e a)) (λa=>?_);have⟨q,b,m⟩:=k a;refine AO (λa=>AA (λ_=>⟨c.1.trans b,c.2.up b.2.1⟩)) (λd=>?_);have⟨q1,i,f,q2,q3,q4,q5⟩:=m d;refine AB (R7 b.2.2.2.2.2 b.2.2.1 (c.2.up b.2.1) ⟨f,BM q2,q3⟩ q5) λw l=>?_;refine AL (λa=>AA (λe=>absurd e a)) (λa=>AA ?_);have⟨n,o,t,p⟩:=l a;exact⟨⟨(c.1.trans b).trans n,o⟩,by have:=p ⟨i,f,q2,q3,q4⟩;dsimp only at*;omega⟩
end Go.Pm
namespace Go.Pm
open Go Go.Ab
set_option maxHeartbeats 400000
variable {B:Int->Prop}
def VL{x:AP×AZ}{s:Int×List Ac}(h:0<=s.1/\s.1<=x.1.2.2.2.2.2.2.2.length/\x.1.2.2.2.2.2.2.2.length<=16777216/\s.2=(x.1.2.2.2.2.2.2.2.take s.1.toNat).filter (λd=>d.1 !=x.2.1)):A3 (Ad (LK x) s) λr=>r=x.1.2.2.2.2.2.2.2.filter λd=>d.1 !=x.2.1:=by refine AQ (λ(s:Int×List Ac)=>0<=s.1/\s.1<=x.1.2.2.2.2.2.2.2.length/\x.1.2.2.2.2.2.2.2.length<=16777216/\s.2=(x.1.2.2.2.2.2.2.2.take s.1.toNat).filter (λd=>d.1 !=x.2.1)) (λ(s:Int×List Ac)=>((x.1.2.2.2.2.2.2.2.length:Int)-s.1).toNat) h (λs j=>?_);have⟨b,q,g,i⟩:=j;unfold LK;refine AC (λf=>?_) (λf=>AA ?_);simp[len]at f;have m:=sU (l:=x.1.2.2.2.2.2.2.2) (p:=λd=>d.1 !=x.2.1) b;rw[<-i]at m;refine AB (AK b f) λv o=>?_;have e:=AY (x:=s.1+1);have n:=pP (p:=λd:Ac=>d.1 !=x.2.1) b o.1;refine AB (P:=λa=>a=(x.1.2.2.2.2.2.2.2.take (s.1+1).toNat).filter (λd=>d.1 !=x.2.1)) ?_ λa c=>AA ⟨⟨by dsimp only;omega,by dsimp only;omega,g,by dsimp only;rw[c,e]⟩,by dsimp only;omega⟩;refine AI (λk=>?_) (λk=>AA ?_);grind[AB,AK,Option.some.inj,Ae,AA];grind;grind[List.take_of_length_le]
def YS{x:AP×AZ}(h:SK B x.1)(L:BT x.1=some true->x.2=st x.1.2.2.1.2.1 x.2.1/\B x.2.1):A3 (Jx x) λr=>r.2=0->KS B x.1 r.1/\iK r.1.2.2.2.1 x.2.1:=by
 unfold Jx;refine Dr (Bp h.sb) λv O hv=>?_;refine AO (λg=>AA (λb=>absurd b (by decide))) (λg=>?_);have K:=hv g;rw[g]at O;refine AC (λg=>AA (λb=>absurd b (by decide))) (λx0=>?_);refine AC (λg=>AA (λb=>absurd b (by decide))) (λx1=>?_);refine AB (Jw h.sb) λy1 al=>?_;refine AC (λg=>AA (λb=>absurd b (by decide))) (λx2=>?_);refine AB (Jw h.sb) λy2 ao=>?_;refine AC (λg=>AA (λb=>absurd b (by decide))) (λx3=>?_);have⟨R,Q⟩:=L O;refine AB EJ λv3 _=>?_;refine AO (λg=>AA (λb=>absurd b (by decide))) (λ_=>?_);refine AB ND λv4 _=>?_;refine AL (λg=>?_) (λ_=>?_);grind[AL,AA];have p2:=K.2.2.2.1.2.1;have p3:=K.2.2.2.1.2.2.1;refine AB (GN (by dsimp only;omega)) λi I=>?_;refine AC (λg=>AA (λb=>absurd b (by decide))) (λA=>?_);have A:=I.2.2.2 (by omega);refine AU (λg=>AA (λb=>absurd b (by decide))) (λ_=>?_);refine AB (Ae (by simp;omega)) λv8 C=>?_;have⟨C,Z,_⟩:=C;rw[Cy]at C;subst C;refine AB (Ae (by simp;omega)) λc n=>?_;have⟨n,o,_⟩:=n;have q:c[c.length-1]? =some (x.2,(false,(0,true))):=by rw[n];simp
 have hn:(c.length:Int)-1=((c.length-1:Nat):Int):=by simp at o;omega
 have e:=AY (x:=(c.length:Int)-1) (by simp at o;omega);have k: ∀f∈x.1.2.2.2.1.2.1,f.1.1≠x.2.1:=λf H e=>by have⟨i,I⟩:=EW H;exact A ⟨i,f,I,e⟩
 refine AB (JH h.sb) λt w=>?_;refine AB (P:=λv:List A2×AP×Int×Int×Int×Int×Int×Int=>(∃(i:Nat) (f:A2),v.1[i]? =some f/\f.1.1=x.2.1)/\(v.2.1.1=x.1.1/\v.2.1.2.2.1=x.1.2.2.1/\v.2.1.2.2.2.2.1=x.1.2.2.2.2.1/\v.2.1.2.2.2.2.2.1=x.1.2.2.2.2.2.1/\SB v.2.1/\v.2.1.2.2.2.2.2.2.1=x.1.2.2.2.2.2.2.1)/\KP x.1.1 x.1.2.2.1.2.1 v.1 v.2.1.2.2.2.2.2.2.2 x.1.2.2.2.2.2.2.1/\FD B x.1.1 v.1 v.2.1.2.2.2.2.2.2.2) ?_ λa0 m=>?_
 ·refine AI (λs=>?_) (λs=>AA ⟨⟨_,_,q,rfl⟩,⟨rfl,rfl,rfl,rfl,h.sb,rfl⟩,?_,?_⟩);rotate_left 1;rw[n];exact h.ki.2.1.supply R k rfl (.inr ⟨rfl,w.2 s,rfl⟩);rw[n];exact h.ki.2.2.supply (p:=x.2.1) (by omega) (by omega) Q rfl (λd y=>y) (w.2 s);rw[hn]at e;simp only[len,hn,e];have z:c.length-1<c.length:=by simp at o;omega
  refine AB (AK) λap W=>?_;refine AB (AK) λj X=>?_;have V:j.1=x.2:=by grind[Int.toNat_natCast,Option.some.inj]
  have ad:(BU c ((c.length-1:Nat):Int) (j.1,(true,j.2.2))).length=c.length:=by simp[BU]
  refine AB (AK) λar Y=>?_;refine AB (AK) λa F=>?_;have l:a.1=x.2:=by grind[Int.toNat_natCast,BU,List.getElem?_set_self,Option.some.inj]
  refine AB (VL ⟨by simp,by simp,h.2.2.1,by simp⟩) λax G=>?_;have u:a.2.1=true:=by have:=F.1;simp[Df,BU]at this;rw[Hg z]at this;rw[<-Ck this]
  have N:BU (BU c ((c.length-1:Nat):Int) (j.1,(true,j.2.2))) ((c.length-1:Nat):Int) (a.1,(a.2.1,(t.1.2.1,a.2.2.2)))=x.1.2.2.2.1.2.1++[(a.1,(a.2.1,(t.1.2.1,a.2.2.2)))]:=by simp[BU,Df,Vh,(by rw[n];simp:c.length-1=x.1.2.2.2.1.2.1.length)];rw[n,RP _ _ (Ag _)];simp
  subst G;refine AA ⟨⟨c.length-1,(a.1,(a.2.1,(t.1.2.1,a.2.2.2))),?_,by rw[l]⟩,⟨rfl,rfl,rfl,rfl,⟨h.1,h.2.1,EC (LY _ _) h.2.2.1⟩,rfl⟩,?_,?_⟩;simp[BU,Df];rw[Hg (by simpa using z)];rw[N];exact h.ki.2.1.supply R k l (.inl ⟨u,rfl⟩);rw[N];exact h.ki.2.2.supply (p:=x.2.1) (by omega) (by omega) Q (by rw[l]) (λd y=>(Bq.1 y).1) (λd y=>by simpa using(Bq.1 y).2)
 have⟨i,f,H,J⟩:=m.1;have⟨M,D,S,T,E,U⟩:=m.2.1;refine AA λ_=>⟨⟨M,by dsimp only;rw[D];exact LX.refl _,by dsimp only;rw[D];exact K.2.2.1,S,T,E.1,E.2.1,E.2.2,?_⟩,i,f,H,J⟩
 unfold KI;dsimp only;rw[M,D,U];exact⟨h.ki.1,m.2.2⟩
def ADP{x:AP×Int}(h:BT x.1=some false):Ea x=some 0:=by unfold Ea;rw[h];rfl
def Rd.st{P:List AD}{p:Int}{s:Bb}{q:AZ}(h:Rd s p q)(d:ACE P p s)(e: ∀j,Hn (st (P.take j) p)): ∃j:Nat,q=Go.Pm.st (P.take j) p:=by obtain⟨_,⟨_,h⟩|⟨a,b,c⟩⟩:=h;exact⟨0,h⟩;rcases d with q|⟨j,q⟩;exact absurd q c;exact⟨j,ye a (e j) (b.symm.trans q)⟩
def HC{x:AS×Int}(h:SK B x.1.1)(g:DJ B x.1.1.2.2.1 x.1.2):A3 (Eo x) λr=>r.2=0->SvR B x.1 r.1/\iK r.1.1.2.2.2.1 x.2:=by
 unfold Eo;refine AB (Bp h.sb) λv X=>?_;refine AO (λa=>AA (λc=>absurd c (by decide))) (λa=>?_);have s:=X a;refine AC (λa=>AA (λc=>absurd c (by decide))) (λp0=>?_);refine AC (λa=>AA (λc=>absurd c (by decide))) (λp1=>?_);refine AB FO λi W=>?_;refine AC (λa=>AA λ_=>⟨⟨KS.refl h s.2.2.1,g⟩,?_⟩) (λ_=>?_);have⟨_,f,V,C⟩:=W.2.2.1 a;exact⟨_,f,V,C⟩;refine AB (ba h s.2.2.1 g) λo Q=>?_;refine AL (λa=>AA (λc=>absurd c a)) (λw=>?_);have⟨t,m⟩:=Q w;have n:=t.2.2.2.2.2;have F:=t.2.2.1;have k1:=s.1;have k2:=s.2.1;have H:0<=x.2/\x.2<64:=by omega
 have M:=F.num m.1;have h4:=F.2.2.1;refine AB (bI m.2.1) λv3 R=>?_;refine AL (λa=>AA (λc=>absurd c a)) (λy=>?_);have⟨Y,Z,O⟩:=R y;have⟨b,u,_⟩:=Bp n.sb;refine AB (P:=λr=> ∃k:Nat,r=Bt (o.1.1.2.2.1.2.1.take k) x.2/\(b=true->k=o.1.1.2.2.1.2.1.length)) ?_ λv4 ⟨k,D,E⟩=>?_;cases b with
 |false=>exact⟨_,ADP u,0,rfl,λU=>by cases U⟩
 |true=>exact(Jw n.sb).mono λr hr=>⟨_,by rw[HP];exact hr u n.ki.2.1 H.1 (by have:=t.1;dsimp only at this⊢;omega),λ_=>rfl⟩
 refine AB (Zm (by dsimp only;omega)) λv5 e=>?_;refine AL (λa=>AA (λc=>absurd c a)) (λz=>?_);have e:=e z;dsimp only at e;have d:=m.2.2 _ _ O;rw[show((x.2.toNat:Nat):Int)=x.2 by omega]at d;have L:B x.2:=d.2.resolve_right λg=>by obtain⟨_,⟨q,_⟩|⟨q1,q2,_⟩⟩:=e;exact g.1 q;exact g.2 _ q1 q2
 have I:=jZ M H (by omega);obtain⟨j,p⟩:=e.st (d.1 L) λj=>by unfold dl;rw[KG];exact I _
 unfold dl at p;rw[KG]at p;generalize min j o.1.1.2.2.1.2.2.toNat=j' at p;rw[p,D];refine AB (ACF F m.1 n.ki.1 H) λv6 S=>?_;subst S;refine AL (λa=>absurd rfl a) (λ_=>?_);refine AB (YS n λK=>?_) λv7 T=>?_;rw[u]at K;have l:=E (Ck K);have G:Bt (o.1.1.2.2.1.2.1.take j') x.2<=Bt (o.1.1.2.2.1.2.1.take k) x.2:=by rcases Nat.le_total j' k with q|q;exact Pt M _ _ _ q;rw[Bs (by omega),l,HP];exact Aj _
 dsimp only;rw[if_pos G,l,HP,eN];exact⟨rfl,L⟩;refine AL (λa=>AA (λc=>absurd c a)) (λA=>AA λ_=>?_);have⟨N,J⟩:=T A;refine⟨⟨t.trans N,m.up N.2.1⟩,?_⟩;dsimp only at J;split at J<;>rwa [eN]at J
end Go.Pm
