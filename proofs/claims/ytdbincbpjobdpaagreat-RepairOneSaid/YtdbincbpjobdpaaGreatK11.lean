/- Texts of wip, joined and shortened by wip/tools/pack.py; nothing is assumed. -/
import Derived.Test.YtdbincbpjobdpaaGreatK10
import Derived.Sort.AssemblyPlain
import Derived.KernelRfl
noncomputable section
set_option linter.all false
namespace Go.Pm
open Go Go.Ab
set_option maxHeartbeats 1000000
def zN{a v i:Int}(f:0≤i)(c:i<8)(e:0≤a)(b:a<2^(8*i.toNat))(g:0≤v)(d:v<256):
  0<=IntKind.wrap .u64 (((BitVec.toNat ((BitVec.ofInt 64 a)|||(BitVec.ofInt 64 (IntKind.wrap .u64 ((IntKind.wrap .u64 v)*(2^(min (Int.toNat (wi (8*i))) 64))))))):Nat):Int)/\
  IntKind.wrap .u64 (((BitVec.toNat ((BitVec.ofInt 64 a)|||(BitVec.ofInt 64 (IntKind.wrap .u64 ((IntKind.wrap .u64 v)*(2^(min (Int.toNat (wi (8*i))) 64))))))):Nat):Int)<2^(8*(wi (i+1)).toNat):=by
 have h:=xI f c e b g d;rw[(by rw[(AY),Wu];omega:IntKind.wrap .u64 (wi (8*i))=wi (8*i))]at h;exact h
def AFE{n:Int}(h:n<=1):(2:Int)^(8*n.toNat)<=256:=by
 have:n.toNat=0\/n.toNat=1:=o!
 rcases this with h|h<;>rw[h]<;>decide
def Em{x:BT×Int×Int}(h:x.1.length<=2199023255552):Aq (By x) λr=>(r.2=0->0<=x.2.1/\x.2.1+x.2.2<=x.1.length/\(x.2.2<=4->0<=r.1/\r.1<4294967296)/\(x.2.2<=1->r.1<256))/\(r.2≠0->r.1=0):=by
 unfold By;refine AC (λ_=>AB ⟨n!,λ_=>rfl⟩) (λo=>AC (λ_=>AB ⟨n!,λ_=>rfl⟩) (λp=>AC (λ_=>AB ⟨n!,λ_=>rfl⟩) (λq=>AC (λ_=>AB ⟨n!,λ_=>rfl⟩) (λf=>?_))));simp[len]at f⊢;rw[(AY (x:=(x.1.length:Int)-x.2.1))];refine AC (λ_=>AB ⟨n!,λ_=>rfl⟩) (λt=>AA (P:=λr=>0<=r/\r<2^(8*x.2.2.toNat)) ?_ λA y=>AB ⟨λ_=>⟨o!,o!,λg=>?_,λc=>?_⟩,λb=>absurd rfl b⟩);refine AW (λ(s:Int×Int)=>0<=s.2/\s.2<=x.2.2/\0<=s.1/\s.1<2^(8*s.2.toNat)) (λ(s:Int×Int)=>(x.2.2-s.2).toNat) ⟨Ae _,d!,Ae _,u!⟩ (λs j=>?_);have⟨m,z,d,e⟩:=j;unfold UR;refine AC (λk=>?_) (λk=>AB ⟨d,?_⟩);rw[(AY (x:=x.2.1+s.2))];refine AA (Q2 o! o!) λn c=>AC (λl=>?_) (λ_=>AB ?_);grind[AY];have⟨u,w⟩:=zN (a:=s.1) (v:=n) (i:=s.2) m o! d e c.1 c.2;grind[AY];have:s.2=x.2.2:=o!
 rw[<-this];exact e;have:=AAd g;grind[AY];have:=AFE c;grind[AY]
def pO(a:BitVec 32):0<=IntKind.wrap .u32 (((BitVec.toNat (a&&&BitVec.ofInt 32 15):Nat)):Int)/\IntKind.wrap .u32 (((BitVec.toNat (a&&&BitVec.ofInt 32 15):Nat)):Int)<16:=by grind[vB,BitVec.toNat_and,BitVec.ofInt,Nat.and_le_right]
def jG{x:Unit}:Aq (Kq x) λr=>True:=by unfold Kq;refine AA (P:=λ_=>True) ?_ λv _=>AB trivial;refine AW (λ(s:Int×(Fin (15+1)->(Ty.int IntKind.u32).D))=>0<=s.1/\s.1<=16) (λ(s:Int×(Fin (15+1)->(Ty.int IntKind.u32).D))=>(16-s.1).toNat) ⟨Ae _,g!⟩ (λs a=>?_);have⟨c,d⟩:=a;unfold U9;refine AC (λb=>?_) (λ_=>AB trivial);refine AA (P:=λ_=>True) ?_ λg _=>?_;refine AW (λ(s:Int×Int)=>0<=s.2/\s.2<=4) (λ(s:Int×Int)=>(4-s.2).toNat) ⟨Ae _,d!⟩ (λs a=>?_);have⟨e,f⟩:=a;unfold LA;rw[(AY (x:=s.2+1))];refine AC (λb=>?_) (λ_=>AB trivial);refine AA (P:=λ_=>True) (AL (λ_=>AB trivial) (λ_=>AB trivial)) λv _=>AB ⟨d!,d!⟩;rw[(AY (x:=s.1+1))];refine AA (Cs c b) λh _=>AA (Cs c b) λi _=>AB ⟨d!,d!⟩
theorem kw{x:BT}(h:x.length<=2199023255552):Aq (OJ x) λr=>True:=by unfold OJ;refine AA jG λe _=>AA (P:=λ_=>True) ?_ λv _=>AB trivial;refine AW (λ(s:Int×Int)=>0<=s.2/\s.2<=x.length) (λ(s:Int×Int)=>((x.length:Int)-s.2).toNat) ⟨Ae _,d!⟩ (λs b=>?_);have⟨c,d⟩:=b;unfold US;rw[(AY (x:=s.2+1))];refine AC (λa=>?_) (λ_=>AB trivial);simp[len]at a;refine AA (Q2 c a) λf _=>AA (Cs (pO _).1 (pO _).2) λg _=>AA (Cs (pO _).1 (pO _).2) λi _=>AA (Cs (pO _).1 (pO _).2) λj _=>AA (Cs (pO _).1 (pO _).2) λk _=>AB ⟨d!,d!⟩
theorem ZM{x:BT×Int}(h:x.1.length<=2199023255552):Aq (DM x) λr=>r.2.2=0->r.1.length<=8392/\x.2+8+r.1.length=r.2.1/\0<=x.2/\r.2.1<=x.1.length:=by unfold DM;refine AC (λ_=>AB n!) (λg=>AC (λ_=>AB n!) (λe=>?_));simp[len]at e;refine AA (Em h) λd f=>AJ (λb=>AB λa=>absurd a b) (λc=>?_);have⟨a1,a2,a3,_⟩:=f.1 c;have a5:=a3 d!;dsimp only at a2;refine AC (λ_=>AB n!) (λi=>?_);rw[(AY (x:=x.2+4)),(AY (x:=x.2+4+d.1)),(AY (x:=x.2+4+d.1+4))];refine AA (Em h) λk j=>?_;grind[AJ,AB,AA,Bt,kw]
def VP{x:BT×BT}:Aq (E8 x) λr=>True:=by unfold E8 Eb;refine AA (P:=λ_=>True) ?_ λv _=>AB trivial;refine AC (λa=>?_) (λ_=>AB trivial);simp[len]at a;exact AA (Bt (Ae _) i! (by simp[len];omega)) λv _=>AB trivial
def RB(b:Fm):Prop:=b.1.length<=2199023255552/\0<=b.2.1/\b.2.1<=b.1.length
def DW{b:Fm}{x:Int}(h:RB b)(j:1<=x/\x<=8):Aq (B6 b x) λr=>RB r.2/\(x<=4->0<=r.1/\r.1<4294967296):=by have⟨a1,a2,a3⟩:=id h;unfold B6;refine AJ (λ_=>AB ⟨h,λ_=>d!⟩) (λ_=>AA (Em (by exact a1)) λf a=>?_);dsimp only at a;refine AA (P:=λr=>RB r) ?_ λk d=>AB ⟨d,λe=>?_⟩;refine AP (λc=>AB ?_) (λ_=>AB ⟨a1,a2,a3⟩);have⟨g,i,_⟩:=a.1 c;rw[AY];exact⟨a1,d!⟩;by_cases c:f.2=0<;>grind
theorem VD{b:Fm}{x:Int}(h:RB b)(n:0<=x/\x<4294967296):Aq (E5 b x) λr=>RB r.2:=by have⟨a1,a2,a3⟩:=id h;unfold E5;refine AP (λd=>?_) (λl=>?_);rw[(AY (x:=len b.1-b.2.1) (by simp[len];omega))];refine AA (P:=λr=>RB r/\(r.2.2=0->r.2.1+x<=r.1.length)) ?_ λe j=>?_;refine AC (λ_=>AB ⟨⟨a1,a2,a3⟩,λd=>absurd d u!⟩) (λk=>AB ⟨h,λ_=>?_⟩);simp[len]at k;omega;have⟨⟨c,f,g⟩,i⟩:=j;refine AJ (λ_=>AB ⟨c,f,g⟩) (λa=>?_);have m:=i a;rw[(AY (x:=e.2.1+x)),(AY (x:=e.2.1+x-x))];exact AA (Bt) λo _=>AB ⟨c,d!⟩;grind[AJ,AB]
def VC{b:Fm}{x:Unit}(h:RB b):Aq (E4 b x) λr=>RB r.2:=by unfold E4;refine AA (DW h g!) λc a=>AJ (λ_=>AB a.1) (λ_=>AP (λ_=>AB a.1) (λ_=>?_));have q:=a.2 g!;refine AC (λ_=>AB a.1) (λ_=>?_);grind[AA,VD,AB]
theorem om{x:BT}(h:x.length<=2199023255552):Aq (JM x) λr=>True:=by unfold JM;refine AA (DW (b:=(x,(0,0))) ⟨h,Ae _,d!⟩ g!) λs c=>AA (DW c.1 g!) λt d=>AA (DW d.1 g!) λu f=>AA (DW f.1 g!) λv g=>AA (DW g.1 g!) λw i=>AA (DW i.1 g!) λy j=>AA (DW j.1 g!) λz k=>AA (DW k.1 g!) λA l=>AA (VC l.1) λB m=>AA (VC m) λC n=>AA (DW n g!) λo a=>AA (VD a.1 (a.2 g!)) λp e=>AJ (λ_=>AB trivial) (λ_=>AJ (λ_=>AB trivial) (λ_=>AA Jw λq _=>AO (λ_=>AB trivial) (λ_=>AB trivial)))
theorem Rm{x:Int×Int}:Aq (EJ x) λr=>True:=by unfold EJ Fp;refine BC (BC ?_);refine AL (λ_=>AL (λ_=>AB trivial) (λ_=>AB trivial)) (λ_=>AL (λ_=>AB trivial) (λ_=>AC (λ_=>AB trivial) (λ_=>AC (λ_=>AB trivial) (λ_=>AB trivial))))
theorem sC{x:List Int}(h:x.length<=16777216):Aq (KB x) λr=>True:=by unfold KB;refine AA (P:=λ_=>True) ?_ λv _=>A9 (λ_ _=>AB trivial) (λ_ _=>AB trivial);refine AW (λ(s:Int)=>0<=s/\s<=x.length) (λ(s:Int)=>((x.length:Int)-s).toNat) ⟨Ae _,o!⟩ (λs a=>?_);have⟨c,d⟩:=a;unfold Jv;rw[(AY (x:=s+1))];refine AC (λb=>?_) (λ_=>AB trivial);grind[AA,AI,AJ,AB]
def nO{x:AQ}:Aq (MF x) λr=>r=true->1<=x.1/\x.1<=x.2.1/\x.2.1<=1099511627776/\0<=x.2.2.1/\x.2.2.1<=x.2.2.2.1/\x.2.2.2.1<64/\0<=x.2.2.2.2.1/\x.2.2.2.2.1<=8:=by
 unfold MF;exact x!
def nK{x:AE}:Aq (BJ x) λr=>True:=by grind[BJ,AP,AB]
def qS{x:AQ×AE}:Aq (Pa x) λr=>True:=by unfold Pa;refine AA nK λv _=>AL (λ_=>?_) (λ_=>AB trivial);refine AC (λ_=>?_) (λ_=>AB trivial);refine AC (λ_=>?_) (λ_=>AB trivial);exact AC (λ_=>AB trivial) (λ_=>AB trivial)
def oo{x:AE×AE}:Aq (OD x) λr=>True:=by unfold OD;grind[AA,Rm,sC,AB]
def sE{x:AQ}:Aq (Ui x) λr=>r=true->aw x:=by
 unfold Ui;refine AA nO λj d=>AO (λ_=>AB λb=>by cases b) (λa=>?_);have hn:=d a;refine AC (λ_=>AB λb=>by cases b) (λf=>?_);simp[len]at f;have q:aw x:=⟨hn.1,hn.2.1,hn.2.2.1,hn.2.2.2.1,hn.2.2.2.2.1,hn.2.2.2.2.2.1,hn.2.2.2.2.2.2.1,hn.2.2.2.2.2.2.2,o!⟩
 refine AA (P:=λ_=>True) ?_ λv _=>A9 (λ_ _=>AB λ_=>q) (λ_ _=>AB λ_=>q);refine AW (λ(s:Int)=>0<=s/\s<=x.2.2.2.2.2.length) (λ(s:Int)=>((x.2.2.2.2.2.length:Int)-s).toNat) ⟨Ae _,o!⟩ (λs e=>?_);have⟨h,i⟩:=e;unfold Sj;rw[(AY (x:=s+1)),(AY (x:=s-1))];refine AC (λa=>?_) (λ_=>AB trivial);simp[len]at a;have c:((0<=s+1/\s+1<=x.2.2.2.2.2.length)/\((x.2.2.2.2.2.length:Int)-(s+1)).toNat<((x.2.2.2.2.2.length:Int)-s).toNat):=⟨o!,o!⟩
 refine AA (AI h a) λk _=>AA Jw λl _=>AO (λ_=>AB trivial) (λ_=>AA qS λm _=>AO (λ_=>AB trivial) (λ_=>AP (λ_=>AC (λ_=>AB trivial) (λ_=>AB c)) (λg=>AA (AI) λn _=>AC (λ_=>AC (λ_=>AB trivial) (λ_=>AB c)) (λ_=>AA (AI) λo _=>AA oo λp _=>AC (λ_=>AB trivial) (λ_=>AJ (λ_=>AB trivial) (λ_=>AB c))))))
def qR{x:BT}(h:x.length<=2199023255552):Aq (KV x) λr=>r.2=0->aw r.1:=by
 unfold KV;refine AA (ZM (by exact h)) λp k=>AJ (λf=>AB λa=>absurd a f) (λg=>?_);have⟨a1,a2,a3,a4⟩:=k g;dsimp only at a1 a2 a3 a4;refine AJ (λ_=>AB n!) (λl=>AA VP λy _=>AO (λ_=>AB n!) (λ_=>?_));have b:p.1.length<=2199023255552:=o!
 refine AA (Em b) λz _=>AA (Em b) λA _=>AA (Em b) λB _=>AA (Em b) λC _=>AA (Em b) λD _=>AA (Em b) λi _=>AO (λ_=>AB n!) (λm=>?_);have n:i.1<=4096:=by simpa using m
 refine AA (P:=λr=> ∀u,r= .inl u->u.1≠0) ?_ λr hr=>A9 (λu c=>AB λa=>absurd a (hr u c)) (λu c=>?_);refine AW (λ(s:Int×(Int×((List AE)×(Int×(Int×(Int×(Int×(Int×AQ))))))))=>0<=s.2.1/\(s.2.1<=i.1\/s.2.1=0)/\s.2.2.1.length<=s.2.1) (λ(s:Int×(Int×((List AE)×(Int×(Int×(Int×(Int×(Int×AQ))))))))=>(i.1-s.2.1).toNat) ⟨Ae _,.inr rfl,k!⟩ (λs o=>?_);have⟨t,v,w⟩:=o;unfold Ka;refine AC (λj=>?_) (λ_=>AB λu c=>by cases c);have e:=AY (x:=s.2.1+1);grind[AA,ZM,AJ,AB,om,AZ,List.length_cons,List.length_nil];refine AC (λ_=>AB n!) (λ_=>AA sE λq d=>AO (λ_=>AB n!) (λj=>AB λ_=>d j))
abbrev EN:=AE
def ym(x y:Int):EJ (x,y)=some (if x<y then-1 else if x>y then 1 else 0):=by unfold EJ Fp;simp only[bne_self_eq_false,AD,cond_false];by_cases a:x<y;simp[a];by_cases b:x>y;simp[a,b];simp[a,b]
theorem mO{x:Int}(h:0<=x/\x<=1099511627776:=by omega):wi x=x:=AY
theorem wip{i:Nat}(h:i<=16777216:=by omega):wi ((i:Int)+1)=((i+1:Nat):Int):=by grind[mO]
def wim{i:Nat}(h:i<=16777216:=by omega):wi ((i:Int)-1)=(i:Int)-1:=by grind[AY]
def bl8(n:Nat):Nat:=if n=0 then 0 else if n<2 then 1 else if n<4 then 2 else if n<8 then 3 else if n<16 then 4 else if n<32 then 5 else if n<64 then 6 else if n<128 then 7 else 8
def oJ{n:Nat}(h:n<256):bl8 n<=8/\(1<=n->2^bl8 n<=2*n):=by grind[bl8]
def T8:BT:=(List.range 256).map λn=>UInt8.ofNat (bl8 n)
def AIr{n:Nat}(h:n<256):six T8 (n:Int)=some ((bl8 n:Nat):Int):=by have a:=(oJ h).1;unfold six T8;simp[h];omega
noncomputable def Lz(x:Int):Option Int:=
 Option.bind ((
   bif (decide (x>=4294967296))then
    some ((Int.fdiv x (2^(min (Int.toNat 32) 64))),32)
   else
   some (x,0)):(Option (Int×Int))) λv0=>
 Option.bind ((
   bif (decide (v0.1>=65536))then
    some ((Int.fdiv v0.1 (2^(min (Int.toNat 16) 64))),(wi (v0.2+16)))
   else
   some v0):(Option (Int×Int))) λv1=>
 Option.bind ((
   bif (decide (v1.1>=256))then
    some ((Int.fdiv v1.1 (2^(min (Int.toNat 8) 64))),(wi (v1.2+8)))
   else
   some v1):(Option (Int×Int))) λv2=>
 Option.bind (six T8 (IntKind.wrap .u8 v2.1)) λv3=>
 some (wi (v2.2+(wi v3)))
def AHa:Px=Lz:=by kernel_rfl
def AIe(n:Nat):Int.fdiv (n:Int) (2^(min (Int.toNat 16) 64))=((n/65536:Nat):Int):=by grind[Int.toNat,Int.fdiv_eq_ediv_of_nonneg]
def fd8(n:Nat):Int.fdiv (n:Int) (2^(min (Int.toNat 8) 64))=((n/256:Nat):Int):=by grind[Int.toNat,Int.fdiv_eq_ediv_of_nonneg]
def vF{y s:Nat}(h:y<256)(c:s<=64):(Option.bind (six T8 (IntKind.wrap .u8 (y:Int))) λa=>some (wi ((s:Int)+(wi a))))=some ((s+bl8 y:Nat):Int):=by have b:=(oJ h).1;rw[AFk,show(y:Int)%256=(y:Int) by omega,AIr h,AD,mO (x:=((bl8 y:Nat):Int)),mO];exact congrArg some (by omega)
def AEG{x:Nat}(h:x<=16777216): ∃r:Nat,Px (x:Int)=some (r:Int)/\r<=32/\(1<=x->2^r<=2*x):=by
 rw[AHa];unfold Lz;have c:decide ((x:Int)>=4294967296)=false:=w!
 rw[c,cond_false,AD];by_cases f:x>=65536;have:decide (((x:Int),(0:Int)).1>=65536)=true:=w!
 have e:wi (((x:Int),(0:Int)).2+16)=((16:Nat):Int):=by show wi (0+16)=_;decide
 rw[this,cond_true,AD,e,AIe];by_cases g:x/65536>=256;have:decide (((((x/65536:Nat):Int),((16:Nat):Int)):Int×Int).1>=256)=true:=w!
 have e:wi (((((x/65536:Nat):Int),((16:Nat):Int)):Int×Int).2+8)=((24:Nat):Int):=by show wi (((16:Nat):Int)+8)=_;decide
 rw[this,cond_true,AD,e,fd8];have a:x/65536/256<256:=o!
 have b:=oJ a;refine⟨_,vF a o!,o!,λ_=>?_⟩;grind[Nat.pow_add];have:decide (((((x/65536:Nat):Int),((16:Nat):Int)):Int×Int).1>=256)=false:=w!
 rw[this,cond_false,AD];have a:x/65536<256:=o!
 have b:=oJ a;refine⟨_,vF a o!,o!,λ_=>?_⟩;grind[Nat.pow_add];have:decide (((x:Int),(0:Int)).1>=65536)=false:=w!
 rw[this,cond_false,AD];by_cases g:x>=256;have:decide (((x:Int),(0:Int)).1>=256)=true:=w!
 have e:wi (((x:Int),(0:Int)).2+8)=((8:Nat):Int):=by show wi (0+8)=_;decide
 rw[this,cond_true,AD,e,fd8];have a:x/256<256:=o!
 have b:=oJ a;refine⟨_,vF a o!,o!,λ_=>?_⟩;grind[Nat.pow_add];have:decide (((x:Int),(0:Int)).1>=256)=false:=w!
 rw[this,cond_false,AD];have a:x<256:=o!
 have b:=oJ a;refine⟨_,vF (s:=0) a o!,o!,λd=>?_⟩;have:=b.2 d;rw[D9];omega
def CP(B:Nat):Prop:=True
def CPa(B:Nat):CP B:=trivial
def PT{α:Type}(T:Prop)(o:Option α)(Q:α->Prop):Prop:=(T-> ∃r,o=some r)/\ ∀r,o=some r->Q r
section
variable {α β γ:Type} {T:Prop}
def PT.some{r:α}{Q:α->Prop}(h:Q r):PT T (.some r) Q:=⟨λ_=>⟨r,rfl⟩,λs e=>q!⟩
def jC{o:Option α}{Q:α->Prop}(h:Aq o Q):PT T o Q:=by obtain⟨r,rfl,h⟩:=h;exact PT.some h
def PT.bind{o:Option α}{k:α->Option β}{P:α->Prop}{Q:β->Prop}(h:PT T o P)(a: ∀r,P r->PT T (k r) Q):PT T (Option.bind o k) Q:=by
 cases o with
 |none=>exact⟨λt=>(by have⟨r,h⟩:=h.1 t;cases h),λr e=>(by cases e)⟩
 |some r=>exact a r (h.2 r rfl)
def PT.cond{c:Bool}{a b:Option α}{Q:α->Prop}(d:c=true->PT T a Q)(e:c=false->PT T b Q):PT T (bif c then a else b) Q:=q!
def PT.dec{p:Prop}{_:Decidable p}{a b:Option α}{Q:α->Prop}(c:p->PT T a Q)(d: ¬p->PT T b Q):PT T (bif decide p then a else b) Q:=q!
def aA{n m:Nat}{a b:Option α}{Q:α->Prop}(e:n=m)(h:PT T a Q):PT T (bif Nat.beq n m then a else b) Q:=t!
end
def nJ{x:AK×Int}(h:x.1.1.length<=16)(a:0<=x.2/\x.2<x.1.1.length):Aq (Ju x) λr=>True:=by unfold Ju;have e:=AY (x:=x.2+1);rw[e];refine AC (λb=>?_) (λ_=>?_);simp only[len]at b;refine AA (AI a.1 a.2) λc _=>AA (AI o! b) λd _=>AB trivial;exact AA (AI a.1 a.2) λf _=>AB trivial
def ka{x:AK×AQ}(h:x.1.1.length<=16):Aq (MJ x) λr=>True:=by
 unfold MJ;refine AA (P:=λ_=>True) ?_ λv _=>A9 (λ_ _=>AB trivial) (λ_ _=>AB trivial);refine AW (λ(s:Int)=>0<=s/\s<=x.1.1.length) (λ(s:Int)=>((x.1.1.length:Int)-s).toNat) ⟨Ae _,o!⟩ (λs c=>?_);unfold QP;have e:=AY (x:=s+1);rw[e];refine AC (λa=>?_) (λ_=>AB trivial);simp only[len]at a;have b:((0<=s+1/\s+1<=x.1.1.length)/\((x.1.1.length:Int)-(s+1)).toNat<((x.1.1.length:Int)-s).toNat):=⟨o!,o!⟩
 refine AA (nJ h ⟨c.1,a⟩) λd _=>AP (λ_=>?_) (λ_=>AB b);exact AP (λ_=>AB trivial) (λ_=>AB b)
def kZ{x:AK×Au}(h:x.1.1.length<=16)(c:x.2.2.2.length<=2199023255552):Aq (Gq x) λr=>r.2=true->aw r.1:=by unfold Gq;refine AJ (λ_=>AB n!) (λ_=>AA (qR c) λd b=>AP (λa=>?_) (λ_=>AB λa=>by cases a));exact AA (ka h) λe _=>AB λ_=>b a
def zD{a b:Int}(f:0<=a:=by omega)(g:0<=b:=by omega)(h:a+b<=1099511627776:=by omega):wi (Int.fdiv (IntKind.wrap .u64 (wi (a+b))) (2^(min (Int.toNat 1) 64)))=(a+b)/2:=by
 have c:wi (a+b)=a+b:=AY;have d:IntKind.wrap .u64 (a+b)=a+b:=by rw[Wu];omega
 have e:(2:Int)^(min (Int.toNat 1) 64)=2:=by decide
 rw[c,d,e,je _ (by decide)];exact AY
def cP{x:Int×Int}:Aq (QQ x) λr=>r=true↔x.1<x.2:=by unfold QQ Fp;apply BC;refine AL (λa=>?_) (λ_=>AB k!);simp at a
def MT{α:Type}(b:Bool)(o:Option α)(Q:α->Prop):Prop:=(b=true-> ∃r,o=some r)/\ ∀r,o=some r->Q r
section
variable {α β:Type} {b:Bool}
def MT.some{r:α}{Q:α->Prop}(h:Q r):MT b (.some r) Q:=⟨λ_=>⟨r,rfl⟩,λs e=>by injection e with e;rw[<-e];exact h⟩
def jE{o:Option α}{Q:α->Prop}(h:Aq o Q):MT b o Q:=⟨λ_=>by have⟨r,e,_⟩:=h;exact⟨r,e⟩,λr e=>h.get e⟩
def MT.bind{o:Option α}{k:α->Option β}{P:α->Prop}{Q:β->Prop}(h:MT b o P)(d: ∀r,P r->MT b (k r) Q):MT b (Option.bind o k) Q:=by refine⟨λc=>?_,λr e=>?_⟩;have⟨r,e⟩:=h.1 c;have⟨s,a⟩:=(d r (h.2 r e)).1 c;exact⟨s,by rw[e];exact a⟩;have⟨s,f,a⟩:=Dp.1 e;exact(d s (h.2 s f)).2 r a
def MT.cond{c:Bool}{x y:Option α}{Q:α->Prop}(a:c=true->MT b x Q)(d:c=false->MT b y Q):MT b (bif c then x else y) Q:=by cases c<;>grind
def MT.dec{p:Prop}{_:Decidable p}{x y:Option α}{Q:α->Prop}(a:p->MT b x Q)(c: ¬p->MT b y Q):MT b (bif decide p then x else y) Q:=by simp_all[MT.cond]
end
def sV{a:Type}{l:List a}{i:Int}{x:a}:(FT l i x).length=l.length:=by simp[FT]
abbrev NL:=List A2
def DS(a:AK):Prop:= ∀f∈a.2.2.1,f.2.2.length<=2199023255552
def SpL(l:List FA):Prop:=l.length<=16777216/\ ∀s∈l,1<=s.1
theorem dI{n:Int}{v:EN}: ∀{m:List (Int×EN)},(m.map (·.1)).Nodup-> ∀q,q∈Po n v m↔q=(n,v)\/(q∈m/\q.1≠n)
 |[],_,q=>by simp[Po]
 |p::r,h,q=>by
  rw[Bl,Gk]at h;unfold Po;by_cases b:p.1=n;grind[List.mem_cons_of_mem,List.mem_map_of_mem];have:(p.1==n)=false:=by simp[b]
  rw[this,cond_false];constructor;intro a;rcases Aw.1 a with a|a;grind;rcases(dI h.2 q).1 a with a|⟨a,hn⟩;exact .inl a;grind[List.mem_cons_of_mem];rintro(a|⟨a,hn⟩);exact CW _ ((dI h.2 q).2 (.inl a));rcases Aw.1 a with a|a;grind;exact CW _ ((dI h.2 q).2 (.inr ⟨a,hn⟩))
def uj{n:Int}{v:EN}: ∀{m:List (Int×EN)},(m.map (·.1)).Nodup->((Po n v m).map (·.1)).Nodup
 |[],_=>by simp[Po]
 |p::r,h=>by
  have b:=h;rw[Bl,Gk]at h;unfold Po;by_cases a:p.1=n;grind[List.nodup_cons];have:(p.1==n)=false:=by simp[a]
  rw[this,cond_false,Bl,Gk];refine⟨λc=>?_,uj h.2⟩;grind[dI,List.mem_map_of_mem]
def uh{n:Int}{e:EN}: ∀{m:List (Int×EN)},K1 n m=some e->(n,e)∈m
 |[],h=>by cases h
 |p::r,h=>by
  unfold K1 at h;by_cases a:p.1=n;grind;have:(p.1==n)=false:=by simp[a]
  rw[this,cond_false]at h;exact CW _ (uh h)
def uf{n:Int}: ∀{m:List (Int×EN)},K1 n m=none-> ∀q∈m,q.1≠n
 |[],_,q,a=>by cases a
 |p::r,h,q,a=>by
  unfold K1 at h;by_cases b:p.1=n;have:(p.1==n)=true:=by simp[b]
  rw[this,cond_true]at h;cases h;have:(p.1==n)=false:=by simp[b]
  rw[this,cond_false]at h;rcases Aw.1 a with a|a;rw[a];exact b;exact uf h q a
def QC(m:List (Int×EN))(P:EN->Prop):Prop:=(m.map (·.1)).Nodup/\(∀q∈m,q.1=q.2.1)/\ ∀e,(e.1,e)∈m↔P e
def QC.nil:QC [] λ_=>False:=⟨QG,k!,k!⟩
def QC.put{m:List (Int×EN)}{P:EN->Prop}{v:EN}(h:QC m P):QC (Po v.1 v m) λe=>e=v\/(P e/\e.1≠v.1):=by refine⟨uj h.1,λq a=>?_,λe=>?_⟩;rcases(dI h.1 q).1 a with a|⟨a,_⟩;rw[a];exact h.2.1 q a;rw[dI h.1];constructor;rintro(a|⟨a,hn⟩);injection a with _ a;exact .inl a;exact .inr ⟨(h.2.2 e).1 a,hn⟩;rintro(rfl|⟨a,hn⟩);exact .inl rfl;exact .inr ⟨(h.2.2 e).2 a,hn⟩
def QC.congr{m:List (Int×EN)}{P Q:EN->Prop}(h:QC m P)(a: ∀e,P e↔Q e):QC m Q:=⟨h.1,h.2.1,λe=>(h.2.2 e).trans (a e)⟩
def QC.get{m:List (Int×EN)}{P:EN->Prop}(h:QC m P){e:EN}(g:P e):K1 e.1 m=some e:=by
 have d:=(h.2.2 e).2 g;cases c:K1 e.1 m with
 |none=>exact absurd rfl (uf c _ d)
 |some f=>
  have i: ∀{l:List (Int×EN)},(l.map (·.1)).Nodup-> ∀{n:Int} {a b:EN},(n,a)∈l->(n,b)∈l->a=b:=by intro l;induction l<;>grind
  rw[i h.1 d (uh c)]
def gr(e:EN):Bool:=(e.2.1==1)||(e.2.1==2)
def lZ(e:EN):BJ e=some (gr e):=by grind[BJ,gr]
def K6(p i j:Int)(e:EN):Bool:=gr e&&((e.2.2.2.2.2.2.1.1==p)&&(decide (e.1>i)&&decide (e.1<=j)))
def Pn(s:Int×Int)(n:Int):Bool:=decide (n>=s.1)&&decide (n<=s.2)
def has_eq(s:Int×Int)(n:Int):I0 (s,n)=some (Pn s n):=by grind[I0,Pn]
def AH0{e:EN}{l:List (Int×Int)}(j:l.length<=16777216):Aq (Ah (WS e l) 0) λr=>(∀u,r= .inl u->0<=u/\(l.any λs=>Pn s e.1)=true)/\(∀u,r= .inr u->(l.any λs=>Pn s e.1)=false):=by refine AW (λ(s:Int)=>0<=s/\s<=l.length/\ ∀x∈l.take s.toNat,Pn x e.1=false) (λ(s:Int)=>((l.length:Int)-s).toNat) ⟨Ae _,o!,k!⟩ (λs d=>?_);have⟨g,m,h⟩:=d;unfold WS;refine AC (λa=>?_) (λa=>AB ⟨λu b=>(by cases b),λu _=>?_⟩);simp[len]at a;rw[(AY (x:=s+1))];refine AA (AI g a) λn c=>?_;rw[has_eq,AD];refine AL (λk=>AB ⟨λu b=>?_,λu b=>(by cases b)⟩) (λi=>AB ⟨⟨o!,o!,λx f=>?_⟩,o!⟩);grind[List.any_eq_true];rw[show(s+1).toNat=s.toNat+1 by omega,C3,c.1]at f;grind[Option.toList_some,List.mem_singleton];simp[len]at a;rw[BO o!]at h;rw[Bool.eq_false_iff];grind[List.any_eq_true]
def AHz{a:AK}{l:Ad}{p i j:Int}{d:List (Int×Int)}(R:Do l)(hv:1≤d.length)(S:d.length≤16777216):
  Aq (Ah (WQ (a,(l,(p,(i,j)))) d) (0,(0,[]))) λr=>r.1=((l.2.1.filter λe=>K6 p i j e&&(d.tail.any λs=>Pn s e.1)).length:Int)/\QC r.2 λe=>e∈l.2.1/\K6 p i j e=true:=by
 obtain⟨l1,l2,l3,l4,l5,K⟩:=R;refine AW (λ(s:Int×(Int×List (Int×EN)))=>0<=s.1/\s.1<=l.2.1.length/\s.2.1=(((l.2.1.take s.1.toNat).filter λe=>K6 p i j e&&(d.tail.any λs=>Pn s e.1)).length:Int)/\QC s.2.2 λe=>e∈l.2.1.take s.1.toNat/\K6 p i j e=true) (λs=>((l.2.1.length:Int)-s.1).toNat)
  ⟨Ae _,d!,k!,QC.nil.congr λe=>k!⟩ (λs O=>?_)
 obtain⟨T,i2,A,B⟩:=O;unfold WQ;dsimp only;refine AC (λy=>?_) (λy=>AB ?_);simp only[len]at y;have L:=AY (x:=s.1+1);rw[L];refine AA (AI T y) λq I=>?_;rw[lZ,AD];have g:l.2.1.take (s.1+1).toNat=l.2.1.take s.1.toNat++[q]:=by rw[show(s.1+1).toNat=s.1.toNat+1 by omega,C3,I.1];rfl
 have f:K6 p i j q=false->(0<=s.1+1/\s.1+1<=l.2.1.length/\s.2.1=(((l.2.1.take (s.1+1).toNat).filter λe=>K6 p i j e&&(d.tail.any λs=>Pn s e.1)).length:Int)/\QC s.2.2 λe=>e∈l.2.1.take (s.1+1).toNat/\K6 p i j e=true)/\((l.2.1.length:Int)-(s.1+1)).toNat<((l.2.1.length:Int)-s.1).toNat:=λw=>by
  refine⟨⟨o!,o!,?_,?_⟩,o!⟩;rw[g,Ix,A];simp[w];rw[g];refine B.congr λe=>⟨λh=>⟨An.2 (.inl h.1),h.2⟩,λh=>⟨?_,h.2⟩⟩
  rcases An.1 h.1 with m|m;exact m;rw[A6.1 m,w]at h;cases h.2
 refine AL (λC=>?_) (λC=>AB (f (by simp[K6,C])));refine AL (λD=>?_) (λD=>AB (f (by simp[K6,D])));refine AL (λE=>?_) (λE=>AB (f (by unfold K6;rw[E];simp)));refine AL (λF=>?_) (λF=>AB (f (by unfold K6;rw[F];simp)));have w:K6 p i j q=true:=by unfold K6;rw[C,D,E,F];rfl
 refine AA (Bb (lo:=1) (hi:=(d.length:Int))) λV N=>?_;have H:V=d.tail:=by
  rw[N.1,BO (by rw[EH];omega)];cases d with
  |nil=>rfl
  |cons a r=>rfl
 subst H;refine AA (AH0 (by rw[List.length_tail];omega)) λU o=>?_;have M:=K s.1.toNat q I.1;have n:QC (Po q.1 q s.2.2) λe=>e∈l.2.1.take (s.1+1).toNat/\K6 p i j e=true:=by
  rw[g];refine B.put.congr λe=>⟨?_,λh=>?_⟩
  rintro(rfl|⟨h,_⟩);exact⟨An.2 (.inr (A6.2 rfl)),w⟩;exact⟨An.2 (.inl h.1),h.2⟩;rcases An.1 h.1 with m|m;refine .inr ⟨⟨m,h.2⟩,λZ=>?_⟩;obtain⟨k,Q,v⟩:=VS.1 m;rw[BQ]at Q;rw[List.getElem_take]at v;have:=(K k e (by rw[<-v];exact Av o!)).1;omega;exact .inl (A6.1 m)
 have t: ∀b:Bool,(d.tail.any λs=>Pn s q.1)=b->((((l.2.1.take (s.1+1).toNat).filter λe=>K6 p i j e&&(d.tail.any λs=>Pn s e.1)).length:Nat):Int)=s.2.1+(if b=true then 1 else 0):=λb P=>by rw[g,Ix,Ac,A];cases b<;>simp[w,P]
 have J:(((l.2.1.take s.1.toNat).filter λe=>K6 p i j e&&(d.tail.any λs=>Pn s e.1)).length:Int)<=4096:=by have W:=Fy (λe=>K6 p i j e&&(d.tail.any λs=>Pn s e.1)) (l.2.1.take s.1.toNat);have X:=dW s.1.toNat l.2.1;have Y:=List.length_take_le' s.1.toNat l.2.1;omega
 have G:=AY (x:=s.2.1+1);rw[G];refine A9 (λu z=>?_) (λu z=>AB ⟨⟨d!,d!,?_,n⟩,d!⟩);refine AC (λ_=>AB ⟨⟨d!,d!,?_,n⟩,d!⟩) (λc=>absurd (o.1 u z).1 c);rw[t true (o.1 u z).2];rfl;rw[t false (o.2 u z)];simp;simp only[len]at y;rw[BO o!]at A B;exact⟨A,B⟩
def zB(f e:EN):Prop:=f.2.2.2.2.2.2.1.1<e.2.2.2.2.2.2.1.1\/(f.2.2.2.2.2.2.1.1=e.2.2.2.2.2.2.1.1/\f.1<e.1)
theorem zC(e:EN): ¬zB e e:=by unfold zB;omega
def ABT{a b c:EN}(h:zB a b)(g:zB b c):zB a c:=by unfold zB at*;omega
def AFq(f e:EN): ∃c:Int,Dx (f,e)=some c/\(c<0↔zB f e)/\(c=0↔f.2.2.2.2.2.2.1.1=e.2.2.2.2.2.2.1.1/\f.1=e.1):=by
 have:Aq (Dx (f,e)) λc=>(c<0↔zB f e)/\(c=0↔f.2.2.2.2.2.2.1.1=e.2.2.2.2.2.2.1.1/\f.1=e.1):=by
  unfold Dx;unfold zB;dsimp only;repeat' with_reducible first|intro a|apply AC|apply AP|apply AL|apply AB
  all_goals omega
 exact this
def wU(x:AQ)(i:Nat):Prop:= ∀e,x.2.2.2.2.2[i]? =some e->
 (Ln e/\gr e=true/\x.1<=e.1/\e.1<=x.2.1/\x.2.2.1<=e.2.2.2.2.2.2.1.1/\e.2.2.2.2.2.2.1.1<=x.2.2.2.1)/\(i=0->e.2.2.2.2.1<x.1)/\
 ∀f,0<i->x.2.2.2.2.2[i-1]? =some f->zB f e/\(f.2.2.2.2.2.2.1.1=e.2.2.2.2.2.2.1.1->e.2.2.2.2.1=f.1)/\(f.2.2.2.2.2.2.1.1≠e.2.2.2.2.2.2.1.1->e.2.2.2.2.1<x.1)
def VR(x:AQ):Prop:=aw x/\ ∀i,wU x i
def VR.ent{x:AQ}(h:VR x){e:EN}(a:e∈x.2.2.2.2.2):Ln e/\gr e=true/\x.1<=e.1/\e.1<=x.2.1/\x.2.2.1<=e.2.2.2.2.2.2.1.1/\e.2.2.2.2.2.2.1.1<=x.2.2.2.1:=by obtain⟨i,b,rfl⟩:=VS.1 a;exact(h.2 i _ (Av b)).1
def yW{x:AQ}(Q:x.2.2.2.2.2.length<=4096):Aq (Ah (G6 x) 0) λr=>(r= .inl false/\ ¬ ∀i,wU x i)\/(r= .inr ()/\ ∀i,wU x i):=by
 refine Cn (λ(s:Int)=>0<=s/\s<=x.2.2.2.2.2.length/\ ∀i:Nat,(i:Int)<s->wU x i) (λ(s:Int)=>((x.2.2.2.2.2.length:Int)-s).toNat) ⟨Ae _,o!,λi z=>o!⟩ (λs J=>?_);obtain⟨G,R,H⟩:=J;unfold G6;simp only[len];refine AC (λE=>?_) (λE=>Aq.done (.inr ⟨rfl,λi=>?_⟩))
 case refine_2=>by_cases z:(i:Int)<s;exact H i z;intro e m;rw[Cm o!]at m;cases m
 obtain⟨k,rfl⟩:=EY G;refine AA (AI G E) λv d=>?_;have d:=d.1;rw[DG]at d;have a:(wU x k->False)->Aq (some (Step.done (.inl false)):Option (Step Int (Bool ⊕ Unit))) (Li (λ(s:Int)=>0<=s/\s<=x.2.2.2.2.2.length/\ ∀i:Nat,(i:Int)<s->wU x i) (λ(s:Int)=>((x.2.2.2.2.2.length:Int)-s).toNat) ((x.2.2.2.2.2.length:Int)-(k:Int)).toNat λr=>(r= .inl false/\ ¬ ∀i,wU x i)\/(r= .inr ()/\ ∀i,wU x i)):=λh=>Aq.done (.inl ⟨rfl,λu=>h (u k)⟩);have j:wU x k->Aq (some (Step.next (wi ((k:Int)+1))):Option (Step Int (Bool ⊕ Unit))) (Li (λ(s:Int)=>0<=s/\s<=x.2.2.2.2.2.length/\ ∀i:Nat,(i:Int)<s->wU x i) (λ(s:Int)=>((x.2.2.2.2.2.length:Int)-s).toNat) ((x.2.2.2.2.2.length:Int)-(k:Int)).toNat λr=>(r= .inl false/\ ¬ ∀i,wU x i)\/(r= .inr ()/\ ∀i,wU x i)):=λh=>by
  rw[AY];refine Aq.next ⟨o!,o!,λi z=>?_⟩ o!
  by_cases A:i=k;rw[A];exact h;exact H i o!
 refine AA CV λN C=>AO (λl=>a λok=>?_) (λl=>?_);have:=C.2 (ok v d).1.1;rw[l]at this;cases this;have q1:=C.1 l;refine AA CM λO D=>?_;have q:gr v=true↔v.2.1=1\/v.2.1=2:=by unfold gr;simp
 refine AO (λl=>a λok=>?_) (λl=>?_);have:=D.2 (q.1 (ok v d).1.2.1);rw[l]at this;cases this;have q2:=q.2 (D.1 l);refine AC (λt=>a λok=>?_) (λq3=>?_);have:=(ok v d).1.2.2;omega;refine AC (λt=>a λok=>?_) (λq4=>?_);have:=(ok v d).1.2.2;omega;refine AC (λt=>a λok=>?_) (λq5=>?_);have:=(ok v d).1.2.2;omega;refine AC (λt=>a λok=>?_) (λq6=>?_);have:=(ok v d).1.2.2;omega;have q0:Ln v/\gr v=true/\x.1<=v.1/\v.1<=x.2.1/\x.2.2.1<=v.2.2.2.2.2.2.1.1/\v.2.2.2.2.2.2.1.1<=x.2.2.2.1:=⟨q1,q2,o!⟩
 apply AC<;>intro L;have M:wi ((k:Int)-1)=((k-1:Nat):Int):=by rw[AY];omega
 have F:k-1<x.2.2.2.2.2.length:=o!
 have w:ix x.2.2.2.2.2 (wi ((k:Int)-1))=some (x.2.2.2.2.2[k-1]):=by rw[M];unfold ix;rw[if_pos o!,DG,Av F]
 have n:x.2.2.2.2.2[k-1]? =some (x.2.2.2.2.2[k-1]):=Av F;generalize x.2.2.2.2.2[k-1]=f at w n;obtain⟨c,y,p,K⟩:=AFq f v;rw[w,AD,y,AD];refine AC (λt=>a λok=>?_) (λt=>?_);have:=p.2 ((ok v d).2.2 f o! n).1;omega;have q7:=p.1 o!;rw[decide_eq_true o!,cond_true,AD];refine AA (P:=λr:Bool ⊕ Unit=>(r= .inl false/\ ¬wU x k)\/(r= .inr ()/\wU x k)) ?_ λr hr=>?_;apply AP<;>intro m;rw[AD];refine AJ (λhn=>AB (.inl ⟨rfl,λok=>hn (((ok v d).2.2 f o! n).2.1 m)⟩)) (λhn=>AB (.inr ⟨rfl,λe g=>?_⟩));rw[d]at g;injection g with g;subst g;refine⟨q0,λo=>absurd o o!,λI _ b=>?_⟩;rw[n]at b;injection b with b;subst b;exact⟨q7,λ_=>hn,λu=>absurd m u⟩;refine AC (λhn=>AB (.inl ⟨rfl,λok=>?_⟩)) (λhn=>AB (.inr ⟨rfl,λe g=>?_⟩));have:=((ok v d).2.2 f o! n).2.2 m;omega;rw[d]at g;injection g with g;subst g;refine⟨q0,λo=>absurd o o!,λI _ b=>?_⟩;rw[n]at b;injection b with b;subst b;exact⟨q7,λu=>absurd u m,λ_=>o!⟩;rcases hr with⟨rfl,hr⟩|⟨rfl,hr⟩;exact BL (a hr);exact BA (j hr);rw[decide_eq_false L,cond_false];have B:k=0:=o!
 apply Bg;apply AC<;>intro hn;rw[AD];refine BL (a λok=>?_);have:=(ok v d).2.1 B;omega;rw[AD];refine BA (j λe g=>?_);rw[d]at g;injection g with g;subst g;exact⟨q0,λ_=>o!,λf o=>absurd o o!⟩
def XS{x:AQ}:Aq (EM x) λr=>r=true↔VR x:=by unfold EM;refine AA IW λf c=>AO (λb=>AB ⟨λa=>(by cases a),λa=>?_⟩) (λb=>?_);obtain⟨⟨a1,a2,a3,a4,a5,a6,a7,a8,a9⟩,_⟩:=a;have:=c.2 ⟨a1,a2,a3,a4,a5,a6,a7,a8⟩;rw[b]at this;cases this;have hn:=c.1 b;dsimp only at hn;refine AC (λd=>AB ⟨λa=>(by cases a),λa=>?_⟩) (λe=>?_);have:=a.1.2.2.2.2.2.2.2.2;simp only[len]at d;omega;simp only[len]at e;refine AA (yW o!) λr hr=>?_;rcases hr with⟨rfl,hr⟩|⟨rfl,hr⟩;exact BL (AB ⟨λa=>(by cases a),λa=>absurd a.2 hr⟩);exact BA (AB ⟨λ_=>⟨⟨hn.1,hn.2.1,hn.2.2.1,hn.2.2.2.1,hn.2.2.2.2.1,hn.2.2.2.2.2.1,hn.2.2.2.2.2.2.1,hn.2.2.2.2.2.2.2,o!⟩,hr⟩,λ_=>rfl⟩)
abbrev NE:=A2
def lN(x y:NE):Bool:=decide (x.1.2.2.1<y.1.2.2.1\/(x.1.2.2.1=y.1.2.2.1/\(x.1.1<y.1.1\/(x.1.1=y.1.1/\x.2<y.2))))
def tJ:Sort.SWO lN where
 irrefl x:=by simp[lN]
 trans x y z h1 h2:=by simp[lN,decide_eq_true_eq]at*;omega
 ntrans x y z h1 h2:=by simp[lN,decide_eq_false_iff_not]at*;omega
def nZ{l:List Int}{k:Nat}{v:Int}(h:l[k]? =some v)(b:k<1000)(c:l.length<1000):Ah (Jv l) (k:Int)=if v=0 then Ah (Jv l) ((k+1:Nat):Int)else some (.inl v):=by
 rw[IB];have a:=(HJ.1 h).1;have d:decide ((k:Int)<len l)=true:=w!
 have e:ix l (k:Int)=some v:=by unfold ix;rw[if_pos o!];simpa using h
 grind[wip,Jv]
def AH5(a b c:Int):KB [a,b,c]=some (if a≠0 then a else if b≠0 then b else c):=by unfold KB;rw[show(0:Int)=((0:Nat):Int)from rfl,nZ (k:=0) (v:=a) rfl o! k!];by_cases d:a=0;rw[if_pos d,nZ (k:=1) (v:=b) rfl o! k!];by_cases e:b=0;rw[if_pos e,nZ (k:=2) (v:=c) rfl o! k!];grind[IB,Jv];rw[if_neg e];simp[d,e];rw[if_neg d];simp[d]
def AFU(x y:NE): ∃v,Hr (x,y)=some v/\decide (v<0)=lN x y:=by
 unfold Hr;dsimp only;simp only[ym,AD,AH5];refine⟨_,rfl,?_⟩;unfold lN;apply decide_eq_decide.2;repeat' split
 all_goals omega
section
variable {α:Type} [Inhabited α]
theorem yy{d:Array α}{i:Int}{k:Nat}(a:i=k)(b:k<d.size:=by omega):ix d.toList i=some d[k]! :=by subst a;unfold ix;rw[if_pos (by omega)];simp[b]
omit [Inhabited α] in
theorem AHB{d:Array α}{i:Int}{k:Nat}(a:i=k)(x:α):FT d.toList i x=(d.setIfInBounds k x).toList:=by subst a;unfold FT;simp
def AFf{d:Array α}{i j:Int}{a b:Nat}(c:i=a)(e:j=b):FT (FT d.toList i d[b]!) j d[a]! =(Sort.swp d a b).toList:=by rw[AHB c,AHB e];rfl
def AEz{d:Array α}{i j:Int}{a b:Nat}{x:α}(e:i=a)(f:j=b)(c:b<d.size:=by omega):ix (FT d.toList i x) j=some (d.setIfInBounds a x)[b]! :=by grind[AHB,yy]
theorem jR(lt:α->α->Bool)(k:Nat): ∀(j:Nat) (d:Array α),(Sort.insInner lt k j d).size=d.size
 |0,_=>rfl
 |j+1,d=>by unfold Sort.insInner;split;rw[jR lt k j,Sort.size_swp];rfl
end
theorem AAW{a b:Int}{k:Nat}(g:a=k): ∀(j:Nat) (d:Array NE),j<d.size->d.size<=16777216->Ah (Dg (a,b)) ((j:Int),d.toList)=some (Sort.insInner lN k j d).toList
 |0,d,hj,hd=>by
  rw[IB];have:decide (((0:Nat):Int)>a)=false:=by simp;omega
  simp only[Dg,this,cond_false];rfl
 |j+1,d,hj,hd=>by
  rw[IB];have⟨v,e,f⟩:=AFU d[j+1]! d[j]!;simp only[Dg,(by grind[mO]:wi (((j+1:Nat):Int)-1)=(j:Int)),(yy rfl hj),(yy rfl:ix d.toList (j:Int)=some d[j]!),(AEz rfl rfl:ix (FT d.toList ((j+1:Nat):Int) d[j]!) (j:Int)=some (d.setIfInBounds (j+1) d[j]!)[j]!),AD,e,f,AFf (d:=d) (a:=j+1) (b:=j) rfl rfl];unfold Sort.insInner;by_cases c:j+1>k;have:decide (((j+1:Nat):Int)>a)=true:=by simp;omega
  rw[this];cases h:lN d[j+1]! d[j]! with
  |true=>simp[cond_true,c,decide_true,XT,if_true];exact AAW g j _ (by rw[Sort.size_swp];omega) (by rw[Sort.size_swp];omega)
  |false=>simp[c]
  have:decide (((j+1:Nat):Int)>a)=false:=by simp;omega
  rw[this];simp[c]
def AC2{a b:Int}{k m:Nat}(g:a=k)(h:b=m): ∀(n i:Nat) (d:Array NE),m-i<=n->m<=d.size->d.size<=16777216->Ah (Df (a,b)) ((i:Int),d.toList)=some (Sort.insOuter lN k m i d).toList:=by
 intro n;induction n with
 |zero=>grind[IB,Sort.insOuter,Df]
 |succ n j=>intro i d c e f;rw[IB,Sort.insOuter];grind[mO,jR,Df,AAW]
def AAV{d:Array NE}{a b:Int}{k m:Nat}(c:a=k)(e:b=m)(g:m<=d.size)(h:k<=m)(f:d.size<=16777216):C2 d.toList (a,b)=some (Sort.insertionSort lN d k m).toList:=by unfold C2;dsimp only;rw[(by grind[mO]:wi (a+1)=((k+1:Nat):Int)),AC2 c e (m-(k+1)) (k+1) d o! g f];rfl
def swR(a b n:Nat)(d:Array NE)(k:Nat):NE:=if a<=k/\k<a+n then d[b+(k-a)]! else if b<=k/\k<b+n then d[a+(k-b)]! else d[k]!
def wP{d:Array NE}{a b n:Nat}(f:a+n≤b)(l:b+n≤d.size)(m:d.size≤16777216):
  Aq (Cp d.toList ((a:Int),((b:Int),(n:Int)))) λr=> ∃e:Array NE,r=e.toList/\e.size=d.size/\ ∀k,k<d.size->e[k]! =swR a b n d k:=by
 unfold Cp;refine AA (P:=λr=> ∃e:Array NE,r=e.toList/\e.size=d.size/\ ∀k,k<d.size->e[k]! =swR a b n d k) ?_ λr h=>AB h;refine AW (λ(s:Int×List NE)=> ∃(t:Nat) (e:Array NE),s.1=t/\s.2=e.toList/\t<=n/\e.size=d.size/\ ∀k,k<d.size->e[k]! =swR a b t d k) (λs=>n-s.1.toNat) ⟨0,d,rfl,rfl,Be _,rfl,λk _=>by unfold swR;rw[if_neg (by omega),if_neg (by omega)]⟩ ?_;rintro⟨q,u⟩ ⟨t,e,q1,q2,q3,q4,q5⟩;dsimp only at q1 q2;subst q1 q2;unfold Hg;dsimp only;refine AC (λg=>?_) (λg=>AB ⟨e,rfl,q4,?_⟩);have o:t<n:=by omega
 simp only[(by grind[mO]:wi ((b:Int)+(t:Int))=((b+t:Nat):Int)),(by grind[mO]:wi ((a:Int)+(t:Int))=((a+t:Nat):Int)),(yy rfl:ix e.toList ((b+t:Nat):Int)=some e[b+t]!),(yy rfl:ix e.toList ((a+t:Nat):Int)=some e[a+t]!),(AEz rfl rfl:ix (FT e.toList ((a+t:Nat):Int) e[b+t]!) ((b+t:Nat):Int)=some (e.setIfInBounds (a+t) e[b+t]!)[b+t]!),AD,wip (i:=t),AFf (d:=e) (a:=a+t) (b:=b+t) rfl rfl];refine AB ⟨⟨t+1,_,rfl,rfl,by omega,by rw[Sort.size_swp,q4],λk j=>?_⟩,?_⟩;rw[Sort.swp_get e (by omega) (by omega)];rw[(q5 (a+t) (by omega)),(q5 (b+t) (by omega)),(q5 k j)];unfold swR;by_cases k1:k=a+t;subst k1;rw[if_neg (by omega),if_pos rfl,if_neg (by omega),if_neg (by omega),if_pos (by omega)];exact congrArg (λz=>d[z]!) (by omega);by_cases c:k=b+t;subst c;rw[if_pos rfl,if_neg (by omega),if_neg (by omega),if_neg (by omega),if_pos (by omega)];exact congrArg (λz=>d[z]!) (by omega);rw[if_neg c,if_neg k1];by_cases p:a<=k/\k<a+t<;>grind;show n-((t+1:Nat):Int).toNat<n-((t:Nat):Int).toNat
 omega;have:t=n:=by omega
 rw[<-this];exact q5
def dS(x:AQ):BT:=[80,77,82,78]++(Cy x.1 8++(Cy x.2.1 8++(Cy x.2.2.1 4++(Cy x.2.2.2.1 4++(Cy x.2.2.2.2.1 1++Cy (x.2.2.2.2.2.length:Int) 4)))))
def Mr(x:AQ):BT:=Gp (dS x)++KA x.2.2.2.2.2
theorem ZS(x:AQ):(dS x).length=33:=rfl
def aw.inr{x:AQ}(h:aw x):au 8 x.1/\au 8 x.2.1/\au 4 x.2.2.1/\au 4 x.2.2.2.1/\au 1 x.2.2.2.2.1/\au 4 (x.2.2.2.2.2.length:Int):=by have⟨a1,a2,a3,a4,a5,a6,a7,a8,a9⟩:=h;grind[au]
def VR.len{x:AQ}(h:VR x):(Mr x).length<=34406441:=by have b:=qY (l:=x.2.2.2.2.2) λe a=>(h.ent a).1;have c:=h.1.2.2.2.2.2.2.2.2;grind[Mr,List.length_append,C8,ZS]
def AEE{x:AQ}(h:aw x):HW x=some (dS x):=by unfold HW;rw[Hf k! g! g!,AD];rw[Hf (by simp only[Ac,Ax];simp) g! g!,AD];rw[Hf (by simp only[Ac,Ax];simp) g! g!,AD];rw[Hf (by simp only[Ac,Ax];simp) g! g!,AD];rw[Hf (by simp only[Ac,Ax];simp) g! g!,AD];rw[Hf (by simp only[Ac,Ax];simp) g! g!,AD];rfl
def pL{x:AQ}(h:VR x):Gd x=some (Mr x,0):=by
 have q:=h.1.2.2.2.2.2.2.2.2;have⟨b,g,d⟩:=XS (x:=x);have c:=d.2 h;subst c;unfold Gd;rw[g,AD,Cw,cond_false,AEE h.1,AD,aq (by rw[ZS];decide),AD];have key:Aq (Ah (L9 x) (Gp (dS x),0)) λr=>r=Mr x:=by
  refine Cn (λ(s:BT×Int)=> ∃k:Nat,s.2=k/\k<=x.2.2.2.2.2.length/\s.1=Gp (dS x)++KA (x.2.2.2.2.2.take k)) (λs=>x.2.2.2.2.2.length-s.2.toNat) ⟨0,rfl,Be _,by simp[KA]⟩ ?_;rintro⟨y,z⟩ ⟨k,o,u,p⟩;subst o p;unfold L9;simp only[len];refine AC (λf=>?_) (λf=>Aq.done (by rw[BO o!];rfl));refine AA (AI o! f) λv d=>?_;have a:=(h.ent d.2).1;have m:=R2 a;have j:=qY (l:=x.2.2.2.2.2.take k) λe i=>(h.ent (Fa i)).1;have n:(x.2.2.2.2.2.take k).length<=4096:=q!
  rw[pK a,AD,aq m,AD];refine AA (CE (by rw[Ac,C8,C8,ZS];omega)) λw t=>?_;rw[AY];refine Aq.next ⟨k+1,q!,o!,?_⟩ q!
  grind[Int.toNat_natCast,List.take_add_one,Option.toList_some,R4,List.append_assoc]
 obtain⟨r,hr,rfl⟩:=key;rw[hr];rfl
def WR(x:AQ):Prop:=aw x/\ ∀e∈x.2.2.2.2.2,Fo e.2.2.2.2.2.2.1.2.2.1/\Fo e.2.2.2.2.2.2.1.2.2.2/\e.2.2.2.2.2.2.2=[]
def ACZ{e:EN}(h:Ln e)(b:gr e=true):e.2.2.2.2.2.2.2=[]:=by
 have a:e.2.1=1\/e.2.1=2:=by grind[gr]
 have⟨_,_,_,_,_,_,_,_,c⟩:=h;grind[Uy]
def VR.wr{x:AQ}(h:VR x):WR x:=⟨h.1,λe b=>by have a:=h.ent b;exact⟨a.1.cells.1,a.1.cells.2.1,ACZ a.1 a.2.1⟩⟩
def ABa{e:EN}(h:GQ e=some true)(g:gr e=true):e.2.2.2.2.2.2.2=[]:=by
 have f:e.2.1=1\/e.2.1=2:=by unfold gr at g;simpa using g
 have key: ∀r,GQ e=some r->r=true->e.2.2.2.2.2.2.2=[]:=by
  have c:MT false (GQ e) λr=>r=true->e.2.2.2.2.2.2.2=[]:=by
   have p: ∀{Q:Bool->Prop},(∀r,r=false->Q r)->MT false (some false) Q:=λn=>MT.some (n _ rfl);have a:MT false (some false) λr=>r=true->e.2.2.2.2.2.2.2=[]:=MT.some λb=>by cases b
   unfold GQ;refine MT.dec (λ_=>a) λ_=>MT.dec (λ_=>a) λ_=>MT.dec (λ_=>a) λ_=>MT.dec (λ_=>a) λ_=>MT.bind (jE KY) λq _=>MT.cond (λ_=>a) λ_=>MT.bind (jE KY) λs _=>MT.cond (λ_=>a) λ_=>MT.bind (jE KY) λt _=>MT.cond (λ_=>a) λ_=>MT.dec (λi=>absurd i o!) λ_=>MT.dec (λj=>?_) λj=>?_;refine MT.dec (λ_=>a) λ_=>MT.bind (P:=λ_=>True) (MT.dec (λ_=>MT.some trivial) λ_=>MT.some trivial) λo _=>MT.cond (λ_=>a) λ_=>MT.bind (P:=λr=>r=false->e.2.2.2.2.2.2.2=[]) ?_ λu l=>?_;refine MT.cond (λm=>MT.some λb=>?_) λ_=>MT.some λb=>?_;rw[m]at b;cases b;simpa using b;refine MT.cond (λ_=>a) λb=>?_;exact⟨λd=>(by cases d),λr _ _=>l b⟩;refine MT.dec (λk=>?_) λk=>absurd f o!;refine MT.dec (λ_=>a) λ_=>MT.bind (P:=λ_=>True) (MT.dec (λ_=>MT.some trivial) λ_=>MT.some trivial) λo _=>MT.cond (λ_=>a) λ_=>MT.cond (λ_=>a) λb=>?_;exact⟨λd=>(by cases d),λr _ _=>by simpa using b⟩
  exact c.2
 exact key true h rfl
def zL{e:EN}:BJ e=some (gr e):=by unfold BJ gr;grind
def xj{x:AQ}:Aq (MF x) λr=>r=true↔1<=x.1/\x.1<=x.2.1/\x.2.1<=1099511627776/\0<=x.2.2.1/\x.2.2.1<=x.2.2.2.1/\x.2.2.2.1<64/\0<=x.2.2.2.2.1/\x.2.2.2.2.1<=8:=by
 unfold MF;exact x!
def ABc{x:AQ}{e:EN}:Aq (Pa (x,e)) λr=>r=true↔gr e=true/\x.2.2.1<=e.2.2.2.2.2.2.1.1/\e.2.2.2.2.2.2.1.1<=x.2.2.2.1/\x.1<=e.1/\e.1<=x.2.1:=by
 unfold Pa;rw[zL,AD];refine AL (λa=>?_) (λa=>AB ⟨λb=>(by cases b),λb=>q!⟩);exact x!
def AG0(a b:Int):KB [a,b]=some (if a≠0 then a else b):=by unfold KB;rw[show(0:Int)=((0:Nat):Int)from rfl,nZ (k:=0) (v:=a) rfl o! k!];by_cases c:a=0;rw[if_pos c,nZ (k:=1) (v:=b) rfl o! k!];grind[IB,Jv];grind
def zM(f e:EN): ∃c:Int,OD (f,e)=some c/\(c<0↔zB f e):=by unfold OD;rw[ym,ym,AD,AD,AG0,AD];unfold zB;grind
def ABb{x:AQ}(I:x.2.2.2.2.2.length<=4096):Aq (Ah (Sj x) 0) λr=>(r= .inl false/\ ¬ ∀i,wU x i)\/(r= .inr ()/\ ∀e∈x.2.2.2.2.2,gr e=true/\e.2.2.2.2.2.2.2=[]):=by
 refine Cn (λ(s:Int)=>0<=s/\s<=x.2.2.2.2.2.length/\ ∀e∈x.2.2.2.2.2.take s.toNat,gr e=true/\e.2.2.2.2.2.2.2=[]) (λ(s:Int)=>((x.2.2.2.2.2.length:Int)-s).toNat) ⟨Ae _,o!,λe p=>by simp at p⟩ (λs C=>?_);have⟨w,J,y⟩:=C;unfold Sj;simp only[len];refine AC (λu=>?_) (λu=>Aq.done (.inr ⟨rfl,by rw[BO o!]at y;exact y⟩));obtain⟨k,rfl⟩:=EY w;refine AA (AI w u) λv d=>?_;have d:=d.1;rw[DG]at d;have a:(wU x k->False)->Aq (some (Step.done (.inl false)):Option (Step Int (Bool ⊕ Unit))) (Li (λ(s:Int)=>0<=s/\s<=x.2.2.2.2.2.length/\ ∀e∈x.2.2.2.2.2.take s.toNat,gr e=true/\e.2.2.2.2.2.2.2=[]) (λ(s:Int)=>((x.2.2.2.2.2.length:Int)-s).toNat) ((x.2.2.2.2.2.length:Int)-(k:Int)).toNat λr=>(r= .inl false/\ ¬ ∀i,wU x i)\/(r= .inr ()/\ ∀e∈x.2.2.2.2.2,gr e=true/\e.2.2.2.2.2.2.2=[])):=λh=>Aq.done (.inl ⟨rfl,λD=>h (D k)⟩);refine D5 Jw λG z B=>AO (λj=>a λok=>?_) (λj=>?_);have:=B (ok v d).1.1;rw[j]at this;cases this;refine AA ABc λH t=>AO (λj=>a λok=>?_) (λm=>?_);have q:=(ok v d).1;have:=t.2 ⟨q.2.1,q.2.2.2.2.1,q.2.2.2.2.2,q.2.2.1,q.2.2.2.1⟩;rw[j]at this;cases this;have q3:=ABa (by rw[z,j]) ((t.1 m).1);have b:Aq (some (Step.next (wi ((k:Int)+1))):Option (Step Int (Bool ⊕ Unit))) (Li (λ(s:Int)=>0<=s/\s<=x.2.2.2.2.2.length/\ ∀e∈x.2.2.2.2.2.take s.toNat,gr e=true/\e.2.2.2.2.2.2.2=[]) (λ(s:Int)=>((x.2.2.2.2.2.length:Int)-s).toNat) ((x.2.2.2.2.2.length:Int)-(k:Int)).toNat λr=>(r= .inl false/\ ¬ ∀i,wU x i)\/(r= .inr ()/\ ∀e∈x.2.2.2.2.2,gr e=true/\e.2.2.2.2.2.2.2=[])):=by
  rw[AY];refine Aq.next ⟨o!,o!,λe p=>?_⟩ o!
  rw[show((k:Int)+1).toNat=k+1 by omega,C3,d]at p;grind[Option.toList_some,List.mem_singleton]
 have F: ∀f,0<k->x.2.2.2.2.2[k-1]? =some f->ix x.2.2.2.2.2 (wi ((k:Int)-1))=some f:=λf A g=>by rw[show wi ((k:Int)-1)=((k-1:Nat):Int) by rw[AY];omega];unfold ix;grind[Int.toNat_natCast]
 apply AP<;>intro A;refine AC (λo=>a λok=>?_) (λ_=>b);have:=(ok v d).2.1 o!;omega;have g:x.2.2.2.2.2[k-1]? =some (x.2.2.2.2.2[k-1]):=Av o!;generalize x.2.2.2.2.2[k-1]=f at g;rw[F f o! g,AD];apply AC<;>intro E;refine AC (λo=>a λok=>?_) (λ_=>b);have:=((ok v d).2.2 f o! g).2.2 o!;omega;have⟨c,n,l⟩:=zM f v;rw[AD,n,AD];refine AC (λo=>a λok=>?_) (λo=>?_);have:=l.2 ((ok v d).2.2 f o! g).1;omega;refine AJ (λhn=>a λok=>hn ?_) (λ_=>b);have:=l.1 o!;unfold zB at this;exact((ok v d).2.2 f o! g).2.1 o!
def xl{x:AQ}:Aq (Ui x) λr=>(VR x->r=true)/\(r=true->aw x/\ ∀e∈x.2.2.2.2.2,gr e=true/\e.2.2.2.2.2.2.2=[]):=by refine AA xj λg c=>AO (λb=>AB ⟨λa=>?_,λa=>(by cases a)⟩) (λb=>?_);have⟨⟨a1,a2,a3,a4,a5,a6,a7,a8,a9⟩,_⟩:=a;grind;have hn:=c.1 b;refine AC (λf=>AB ⟨λa=>?_,λa=>(by cases a)⟩) (λd=>?_);have:=a.1.2.2.2.2.2.2.2.2;grind;simp[len]at d;refine AA (ABb o!) λr hr=>?_;rcases hr with⟨rfl,hr⟩|⟨rfl,hr⟩;exact BL (AB ⟨λa=>absurd a.2 hr,λa=>(by cases a)⟩);exact BA (AB ⟨λ_=>rfl,λ_=>⟨⟨hn.1,hn.2.1,hn.2.2.1,hn.2.2.2.1,hn.2.2.2.2.1,hn.2.2.2.2.2.1,hn.2.2.2.2.2.2.1,hn.2.2.2.2.2.2.2,o!⟩,hr⟩⟩)
def xq{p:BT}(h:p.length=33):E8 (p,([80,77,82,78]:List UInt8))=some (p.take 4==[80,77,82,78]):=by grind[E8,Eb,RD,Option.bind]
abbrev ZR:=Int×(Int×(Int×(Int×(Int×AQ))))
def uW{p:BT}(x:p.length=33)(t:p.take 4=[80,77,82,78]): ∃b c d e f a:Int,(Az (p,(4,8))=some (b,0)∧Az (p,(12,8))=some (c,0)∧Az (p,(20,4))=some (d,0)∧Az (p,(24,4))=some (e,0)∧Az (p,(28,1))=some (f,0)∧Az (p,(29,4))=some (a,0))∧
  (By (p,(4,8))=some (b,0)/\By (p,(12,8))=some (c,0)/\By (p,(20,4))=some (d,0)/\By (p,(24,4))=some (e,0)/\By (p,(28,1))=some (f,0)/\By (p,(29,4))=some (a,0))/\
  p=[80,77,82,78]++(Cy b 8++(Cy c 8++(Cy d 4++(Cy e 4++(Cy f 1++Cy a 4)))))/\0<=a:=by
 have D:(p.drop 4).length=29:=by rw[EH];omega
 have⟨b,J,a2,g,n,y,l2⟩:=ABK (k:=8) (at_:=4) (by rw[<-t,DN]:p=[80,77,82,78]++p.drop 4) g! o! g! g! o!;have⟨c,K,a3,h,o,z,E⟩:=ABK (k:=8) (at_:=12) n (by simp only[Ac,Ax];decide) o! g! g! o!;have⟨d,L,a4,i,q,A,F⟩:=ABK (k:=4) (at_:=20) o (by simp only[Ac,Ax];decide) o! g! g! o!;have⟨e,M,a5,j,r,B,G⟩:=ABK (k:=4) (at_:=24) q (by simp only[Ac,Ax];decide) o! g! g! o!;have⟨f,N,a6,l,s,C,H⟩:=ABK (k:=1) (at_:=28) r (by simp only[Ac,Ax];decide) o! g! g! o!;have⟨a,v,a7,m,w,u,I⟩:=ABK (k:=4) (at_:=29) s (by simp only[Ac,Ax];decide) o! g! g! o!;have:v=[]:=EZ o!;subst this;refine⟨b,c,d,e,f,a,⟨a2,a3,a4,a5,a6,a7⟩,⟨g,h,i,j,l,m⟩,?_,(u.1 g!).1⟩;grind[List.append_assoc]
def xL{x:AQ}(h:aw x):(Az (dS x,(4,8))=some (x.1,0)∧Az (dS x,(12,8))=some (x.2.1,0)∧Az (dS x,(20,4))=some (x.2.2.1,0)∧Az (dS x,(24,4))=some (x.2.2.2.1,0)∧Az (dS x,(28,1))=some (x.2.2.2.2.1,0)∧Az (dS x,(29,4))=some ((x.2.2.2.2.2.length:Int),0))∧
  (By (dS x,(4,8))=some (x.1,0)/\By (dS x,(12,8))=some (x.2.1,0)/\By (dS x,(20,4))=some (x.2.2.1,0)/\By (dS x,(24,4))=some (x.2.2.2.1,0)/\By (dS x,(28,1))=some (x.2.2.2.2.1,0)/\By (dS x,(29,4))=some ((x.2.2.2.2.2.length:Int),0)):=by
 have⟨i,j,l,m,n,o⟩:=h.inr;have q:=ZS x;have a:dS x=[80,77,82,78]++(Cy x.1 8++(Cy x.2.1 8++(Cy x.2.2.1 4++(Cy x.2.2.2.1 4++(Cy x.2.2.2.2.1 1++(Cy (x.2.2.2.2.2.length:Int) 4++[])))))):=by rw[C5];rfl
 generalize dS x=p at*;have b:=jN (k:=8) (at_:=4) a g! o! g! g! i;rw[<-A0]at a;have c:=jN (k:=8) (at_:=12) a (by simp only[Ac,Ax];decide) o! g! g! j;rw[<-A0]at a;have d:=jN (k:=4) (at_:=20) a (by simp only[Ac,Ax];decide) o! g! g! l;rw[<-A0]at a;have e:=jN (k:=4) (at_:=24) a (by simp only[Ac,Ax];decide) o! g! g! m;rw[<-A0]at a;have f:=jN (k:=1) (at_:=28) a (by simp only[Ac,Ax];decide) o! g! g! n;rw[<-A0]at a;have g:=jN (k:=4) (at_:=29) a (by simp only[Ac,Ax];decide) o! g! g! o;exact⟨⟨b.1,c.1,d.1,e.1,f.1,g.1⟩,⟨b.2,c.2,d.2,e.2,f.2,g.2⟩⟩
def AIA{x p:BT}{n:Int}{z:ZR}{j:BT}(D:x.length≤1099511627776)(l:x=Gp p++j)(hn:0≤n)(o:n≤4096):Aq (Ah (Gi x n) (((Gp p).length:Int),(0,([],z)))) λr=>(∃u,r= .inl u∧u.1≠0)∨
  ∃a b,r= .inr (((Gp p++KA a).length:Int),(a,z))/\(a.length:Int)=n/\x=(Gp p++KA a)++b/\ ∀e∈a,Fo e.2.2.2.2.2.2.1.2.2.1/\Fo e.2.2.2.2.2.2.1.2.2.2:=by
 refine Cn (λ(s:Int×(Int×(List EN×ZR)))=> ∃a b,s=(((Gp p++KA a).length:Int),((a.length:Int),(a,z)))/\(a.length:Int)<=n/\x=(Gp p++KA a)++b/\ ∀e∈a,Fo e.2.2.2.2.2.2.1.2.2.1/\Fo e.2.2.2.2.2.2.1.2.2.2) (λs=>(n-s.2.1).toNat)
  ⟨[],j,by simp[KA],by simpa using hn,by simpa[KA]using l,λe c=>by cases c⟩ ?_
 rintro s ⟨a,b,rfl,E,h,i⟩;unfold Gi;dsimp only;refine AC (λm=>?_) (λm=>Aq.done (.inr ⟨a,b,rfl,o!,h,i⟩));have g:=congrArg List.length h;rw[Ac]at g;rw[(by grind[OU]:BZ (x,((Gp p++KA a).length:Int))=some (UF (Gp p++KA a).length b)),AD];refine AJ (λc=>Aq.done (.inl ⟨_,rfl,c⟩)) (λc=>?_);have⟨H,⟨d,t⟩,I⟩:=mT c;refine AA (AHF o!) λv q=>AJ (λc=>Aq.done (.inl ⟨_,rfl,c⟩)) (λf=>?_);have⟨y,A,B,J,K⟩:=q f;refine AA (AZ w!) λw C=>?_;have k:Gp p++KA (a++[v.1])=(Gp p++KA a)++Gp (B4 v.1):=by rw[R4,A0]
 rw[AY];refine Aq.next ⟨a++[v.1],d,?_,by rw[Ac,Bn,BV];omega,?_,λe c=>?_⟩ d!
 have F:((Gp p++KA (a++[v.1])).length:Int)=((Gp p++KA a).length:Int)+8+((UF (Gp p++KA a).length b).1.length:Int):=by grind[List.length_append,Gp,KA,C8]
 have G:((a++[v.1]).length:Int)=(a.length:Int)+1:=by grind[List.length_append,List.length_cons,List.length_nil]
 grind[Prod.ext];rw[k,<-y,A0,<-t];exact h;rcases An.1 c with c|c;exact i e c;rw[A6.1 c];exact⟨A,B⟩
def AHG{x:BT}(w:x.length<=1099511627776):Aq (Fj x) λr=>r.2=0->x=Mr r.1/\VR r.1:=by unfold Fj;have q:BZ (x,0)=some (UF 0 x):=OU (a:=[]) (t:=x) w!;rw[q,AD];refine AJ (λh=>AB λb=>absurd b h) (λh=>?_);have⟨Q,⟨P,z⟩,A⟩:=mT h;generalize UF 0 x=v0 at*;refine AJ (λ_=>AB λb=>absurd (show(4:Int)=0 from b) g!) (λg=>?_);simp[len]at g;rw[(by grind[RD]:RD v0.1 0 4=some (v0.1.take 4)),AD];refine AJ (λ_=>AB λb=>absurd (show(4:Int)=0 from b) g!) (λm=>?_);have⟨K,L,M,N,O,y,⟨a2,a3,a4,a5,a6,a7⟩,⟨C,D,E,F,G,H⟩,J,j⟩:=uW (by omega:v0.1.length=33) (by simpa using m);unfold BR;rw[a2,a3,a4,a5,a6,a7];simp only[AD];refine AC (λ_=>AB λb=>absurd (show(4:Int)=0 from b) g!) (λo=>?_);rw[(by rw[A,C8];omega:v0.2.1=((Gp v0.1).length:Int))];refine AA (AIA (n:=y) w z j (by first|omega|(dsimp only;omega))) λr hr=>?_;rcases hr with⟨u,rfl,s⟩|⟨I,e,rfl,i,k,p⟩;grind[BL,AB];apply BA;dsimp only at i⊢;have l:=congrArg List.length k;rw[Ac]at l;refine AJ (λ_=>AB λb=>absurd (show(4:Int)=0 from b) g!) (λd=>?_);have c:e=[]:=EZ (by simp only[len]at d;omega);subst c;refine AA (XS) λB f=>AO (λ_=>AB λb=>absurd (show(40:Int)=0 from b) g!) (λv=>AB λ_=>⟨?_,f.1 v⟩);grind[Mr,dS]
def wH{x:AQ}(h:VR x):Fj (Mr x)=some (x,0):=by
 have D:=h.1.2.2.2.2.2.2.2.2;have j:=h.len;have o:=ZS x;have⟨⟨a2,a3,a4,a5,a6,a7⟩,⟨v,y,z,A,B,C⟩⟩:=xL h.1;unfold Fj;have p:BZ (Mr x,0)=some (dS x,(((Gp (dS x)).length:Int),0)):=by refine(OU (a:=[]) (t:=Mr x) w!).trans (congrArg some ?_);grind[Mr,iM,C8,Prod.ext,List.length_nil]
 have l:(dS x).take 4=[80,77,82,78]:=rfl;rw[p,AD];dsimp only[len];rw[show((0:Int) !=0)=false by decide,cond_false,o,show(((33:Nat):Int) !=33)=false by decide,cond_false];rw[(by grind[RD]:RD (dS x) 0 4=some ((dS x).take 4)),AD,l,bne_self_eq_false,cond_false];unfold BR;rw[a2,a3,a4,a5,a6,a7];simp only[AD];rw[decide_eq_false o!,cond_false];have key:Aq (Ah (Gi (Mr x) (x.2.2.2.2.2.length:Int)) (((Gp (dS x)).length:Int),(0,([],(x.1,(x.2.1,(x.2.2.1,(x.2.2.2.1,(x.2.2.2.2.1,(0,(0,(0,(0,(0,[])))))))))))))) λr=>r= .inr (((Mr x).length:Int),(x.2.2.2.2.2,(x.1,(x.2.1,(x.2.2.1,(x.2.2.2.1,(x.2.2.2.2.1,(0,(0,(0,(0,(0,[])))))))))))):=by
  refine Cn (λ(s:Int×(Int×(List EN×ZR)))=> ∃k:Nat,k<=x.2.2.2.2.2.length/\s=(((Gp (dS x)++KA (x.2.2.2.2.2.take k)).length:Int),((k:Int),(x.2.2.2.2.2.take k,(x.1,(x.2.1,(x.2.2.1,(x.2.2.2.1,(x.2.2.2.2.1,(0,(0,(0,(0,(0,[])))))))))))))) (λs=>x.2.2.2.2.2.length-s.2.1.toNat)
   ⟨0,Be _,by simp[KA]⟩ ?_
  rintro s ⟨k,F,rfl⟩;unfold Gi;dsimp only;refine AC (λn=>?_) (λn=>Aq.done ?_)
  ·have i:k<x.2.2.2.2.2.length:=o!
   have c:=(h.ent (Ng i)).1;have e:KA x.2.2.2.2.2=KA (x.2.2.2.2.2.take k)++(Gp (B4 x.2.2.2.2.2[k])++KA (x.2.2.2.2.2.drop (k+1))):=by grind[nF,List.drop_eq_getElem_cons,KA,List.flatten_append,List.take_append_drop]
   have d:Mr x=(Gp (dS x)++KA (x.2.2.2.2.2.take k))++(Gp (B4 x.2.2.2.2.2[k])++KA (x.2.2.2.2.2.drop (k+1))):=by grind[Mr,List.append_assoc]
   have g:=congrArg List.length d;rw[Ac]at g;have f:BZ (Mr x,((Gp (dS x)++KA (x.2.2.2.2.2.take k)).length:Int))=some (B4 x.2.2.2.2.2[k],(((Gp (dS x)++KA (x.2.2.2.2.2.take k)).length:Int)+8+((B4 x.2.2.2.2.2[k]).length:Int),0)):=by
    conv=>lhs;arg 1;rw[d]
    rw[OU o!,iM (R2 c)]
   rw[f,AD];dsimp only;rw[show((0:Int) !=0)=false by decide,cond_false,ADf c,AD];dsimp only;rw[show((0:Int) !=0)=false by decide,cond_false];refine AA (AZ (by rw[BQ];simp;omega)) λw u=>?_;rw[AY];refine Aq.next ⟨k+1,o!,?_⟩ d!
   rw[u.1,C3,Av i,lR,R4,<-A0,Ac (bs:=Gp (B4 x.2.2.2.2.2[k])),C8];grind[Prod.ext]
  rw[BO o!];rfl
 obtain⟨r,hr,rfl⟩:=key;rw[hr,AD,lS];dsimp only;rw[show(((Mr x).length:Int) !=len (Mr x))=false from bne_self_eq_false _,cond_false];obtain⟨b,E,q⟩:=(XS)
 have m:b=true:=q.2 h;grind[Bool.not_true]
def AH6{x p:BT}{n:(Int×Int)}{z:ZR}{j:BT}(D:x.length≤1099511627776)(l:x=Gp p++j)(hn:0≤n.1)(o:n.1≤4096):Aq (Ah (Ka x n) (((Gp p).length:Int),(0,([],z)))) λr=>(∃u,r= .inl u∧u.1≠0)∨
  ∃a b,r= .inr (((Gp p++KA a).length:Int),(a,z))/\(a.length:Int)=n.1/\x=(Gp p++KA a)++b/\ ∀e∈a,Fo e.2.2.2.2.2.2.1.2.2.1/\Fo e.2.2.2.2.2.2.1.2.2.2:=by
 refine Cn (λ(s:Int×(Int×(List EN×ZR)))=> ∃a b,s=(((Gp p++KA a).length:Int),((a.length:Int),(a,z)))/\(a.length:Int)<=n.1/\x=(Gp p++KA a)++b/\ ∀e∈a,Fo e.2.2.2.2.2.2.1.2.2.1/\Fo e.2.2.2.2.2.2.1.2.2.2) (λs=>(n.1-s.2.1).toNat)
  ⟨[],j,by simp[KA],by simpa using hn,by simpa[KA]using l,λe c=>by cases c⟩ ?_
 rintro s ⟨a,b,rfl,E,h,i⟩;unfold Ka;dsimp only;refine AC (λm=>?_) (λm=>Aq.done (.inr ⟨a,b,rfl,o!,h,i⟩));have g:=congrArg List.length h;rw[Ac]at g;rw[(by grind[Qp]:DM (x,((Gp p++KA a).length:Int))=some (UF (Gp p++KA a).length b)),AD];refine AJ (λc=>Aq.done (.inl ⟨_,rfl,c⟩)) (λc=>?_);have⟨H,⟨d,t⟩,I⟩:=mT c;refine AA (AG4 o!) λv q=>AJ (λc=>Aq.done (.inl ⟨_,rfl,c⟩)) (λf=>?_);have⟨y,A,B,J,K⟩:=q f;refine AA (AZ w!) λw C=>?_;have k:Gp p++KA (a++[v.1])=(Gp p++KA a)++Gp (B4 v.1):=by rw[R4,A0]
 rw[AY];refine Aq.next ⟨a++[v.1],d,?_,by rw[Ac,Bn,BV];omega,?_,λe c=>?_⟩ d!
 have F:((Gp p++KA (a++[v.1])).length:Int)=((Gp p++KA a).length:Int)+8+((UF (Gp p++KA a).length b).1.length:Int):=by grind[List.length_append,Gp,KA,C8]
 have G:((a++[v.1]).length:Int)=(a.length:Int)+1:=by grind[List.length_append,List.length_cons,List.length_nil]
 grind[Prod.ext];rw[k,<-y,A0,<-t];exact h;rcases An.1 c with c|c;exact i e c;rw[A6.1 c];exact⟨A,B⟩
def AG6{x:BT}(H:x.length<=1099511627776):Aq (KV x) λr=>r.2=0->x=Mr r.1/\WR r.1:=by
 unfold KV;have E:DM (x,0)=some (UF 0 x):=Qp (a:=[]) (t:=x) w!;rw[E,AD];refine AJ (λc=>AB λb=>absurd b c) (λc=>?_);have⟨U,⟨T,J⟩,K⟩:=mT c;generalize UF 0 x=v0 at*;refine AJ (λ_=>AB λb=>absurd (show(4:Int)=0 from b) g!) (λk=>?_);simp[len]at k;have q:v0.1.length=33:=o!
 rw[xq q,AD];refine AO (λ_=>AB λb=>absurd (show(4:Int)=0 from b) g!) (λD=>?_);have⟨O,P,Q,R,S,I,⟨a2,a3,a4,a5,a6,a7⟩,⟨s,v,w,y,z,A⟩,N,m⟩:=uW q (by simpa using D);rw[show wi (4+8)=12 from rfl,show wi (12+8)=20 from rfl,show wi (20+4)=24 from rfl,show wi (24+4)=28 from rfl,show wi (28+1)=29 from rfl];rw[s,v,w,y,z,A];simp only[AD];refine AO (λ_=>AB λb=>absurd (show(4:Int)=0 from b) g!) (λf=>?_);have f:=of_decide_eq_true f;rw[(by rw[K,C8];omega:v0.2.1=((Gp v0.1).length:Int))];refine AA (AH6 (n:=(I,0)) H J m (by first|omega|(dsimp only;omega))) λr hr=>?_;rcases hr with⟨u,rfl,F⟩|⟨M,i,rfl,l,o,g⟩;grind[BL,AB];apply BA;dsimp only at l⊢;have p:=congrArg List.length o;rw[Ac]at p;refine AC (λ_=>AB λb=>absurd (show(4:Int)=0 from b) g!) (λh=>?_);have d:i=[]:=EZ (by simp only[len]at h;omega);subst d;refine AA (xl) λL j=>AO (λ_=>AB λb=>absurd (show(40:Int)=0 from b) g!) (λG=>AB λ_=>⟨?_,?_⟩);grind[Mr,dS];have⟨B,C⟩:=j.2 G;exact⟨B,λe c=>⟨(g e c).1,(g e c).2,(C e c).2⟩⟩
def AG5{x:AQ}(h:VR x):KV (Mr x)=some (x,0):=by
 have E:=h.1.2.2.2.2.2.2.2.2;have j:=h.len;have l:=ZS x;have⟨⟨a2,a3,a4,a5,a6,a7⟩,⟨m,n,o,p,q,u⟩⟩:=xL h.1;unfold KV;have B:DM (Mr x,0)=some (dS x,(((Gp (dS x)).length:Int),0)):=by refine(Qp (a:=[]) (t:=Mr x) w!).trans (congrArg some ?_);grind[Mr,iM,C8,Prod.ext,List.length_nil]
 have v:(dS x).take 4=[80,77,82,78]:=rfl;rw[B,AD];dsimp only[len];rw[show((0:Int) !=0)=false by decide,cond_false,l,show(((33:Nat):Int) !=33)=false by decide,cond_false];rw[xq l,AD,v,beq_self_eq_true,Cw,cond_false];rw[show wi (4+8)=12 from rfl,show wi (12+8)=20 from rfl,show wi (20+4)=24 from rfl,show wi (24+4)=28 from rfl,show wi (28+1)=29 from rfl];rw[m,n,o,p,q,u];simp only[AD];rw[decide_eq_true o!,Cw,cond_false];have key:Aq (Ah (Ka (Mr x) ((x.2.2.2.2.2.length:Int),0)) (((Gp (dS x)).length:Int),(0,([],(x.1,(x.2.1,(x.2.2.1,(x.2.2.2.1,(x.2.2.2.2.1,(0,(0,(0,(0,(0,[])))))))))))))) λr=>r= .inr (((Mr x).length:Int),(x.2.2.2.2.2,(x.1,(x.2.1,(x.2.2.1,(x.2.2.2.1,(x.2.2.2.2.1,(0,(0,(0,(0,(0,[])))))))))))):=by
  refine Cn (λ(s:Int×(Int×(List EN×ZR)))=> ∃k:Nat,k<=x.2.2.2.2.2.length/\s=(((Gp (dS x)++KA (x.2.2.2.2.2.take k)).length:Int),((k:Int),(x.2.2.2.2.2.take k,(x.1,(x.2.1,(x.2.2.1,(x.2.2.2.1,(x.2.2.2.2.1,(0,(0,(0,(0,(0,[])))))))))))))) (λs=>x.2.2.2.2.2.length-s.2.1.toNat)
   ⟨0,Be _,by simp[KA]⟩ ?_
  rintro s ⟨k,F,rfl⟩;unfold Ka;dsimp only;refine AC (λz=>?_) (λz=>Aq.done ?_)
  ·have i:k<x.2.2.2.2.2.length:=o!
   have c:=(h.ent (Ng i)).1;have A:=R2 c;have d:KA x.2.2.2.2.2=KA (x.2.2.2.2.2.take k)++(Gp (B4 x.2.2.2.2.2[k])++KA (x.2.2.2.2.2.drop (k+1))):=by grind[nF,List.drop_eq_getElem_cons,KA,List.flatten_append,List.take_append_drop]
   have g:Mr x=(Gp (dS x)++KA (x.2.2.2.2.2.take k))++(Gp (B4 x.2.2.2.2.2[k])++KA (x.2.2.2.2.2.drop (k+1))):=by grind[Mr,List.append_assoc]
   have f:=congrArg List.length g;rw[Ac]at f;rw[(by grind[Qp,iM]:DM (Mr x,((Gp (dS x)++KA (x.2.2.2.2.2.take k)).length:Int))=some (B4 x.2.2.2.2.2[k],(((Gp (dS x)++KA (x.2.2.2.2.2.take k)).length:Int)+8+((B4 x.2.2.2.2.2[k]).length:Int),0))),AD];dsimp only;rw[show((0:Int) !=0)=false by decide,cond_false,AG3 c,AD];dsimp only;rw[show((0:Int) !=0)=false by decide,cond_false];refine AA (AZ (by rw[BQ];simp;omega)) λw D=>?_;rw[AY];refine Aq.next ⟨k+1,o!,?_⟩ d!
   rw[D.1,C3,Av i,lR,R4,<-A0,Ac (bs:=Gp (B4 x.2.2.2.2.2[k])),C8];grind[Prod.ext]
  rw[BO o!];rfl
 obtain⟨r,hr,rfl⟩:=key;rw[hr,AD,lS];dsimp only;rw[decide_eq_false (by first|omega|(simp[len];omega)),cond_false];obtain⟨b,y,C⟩:=(xl)
 have e:b=true:=C.1 h;subst e;rw[y,AD,Cw,cond_false]
def frames(P:List BT):BT:=(P.map Gp).flatten
def Sml(P:List BT):Prop:= ∀p∈P,33<=p.length/\p.length<=255
def JL(p:BT)(P:List BT):frames (p::P)=Gp p++frames P:=rfl
def R3{p:BT}(h:p.length<=255):Gp p=UInt8.ofNat p.length::0::0::0::(p++Cy (PK (Cy (p.length:Int) 4++p)) 4):=by
 have e:Cy (p.length:Int) 4=[UInt8.ofNat p.length,0,0,0]:=by simp only[Cy];rw[show((p.length:Int)%256).toNat=p.length by omega,show((p.length:Int)/256%256).toNat=0 by omega,show((p.length:Int)/256/256%256).toNat=0 by omega,show((p.length:Int)/256/256/256%256).toNat=0 by omega];rfl
 unfold Gp;grind
theorem o9{m n:Nat}(a:m<=255)(hn:n<=255)(h:UInt8.ofNat m=UInt8.ofNat n):m=n:=by grind[UInt8.toNat,UInt8.toNat_ofNat']
def xf{n:Nat}(h:33<=n)(hn:n<=255)(e:UInt8.ofNat n=0):False:=by have:=congrArg UInt8.toNat e;rw[dh]at this;grind
def vn: ∀(P Q:List BT),Sml P->Sml Q-> ∀(u v:BT) (b:UInt8),frames P=u++v->frames Q=u++b::v->False
 |P,[],hP,hQ,u,v,b,h1,d=>by have:=congrArg List.length d;simp[frames]at this
 |[],q::Q,hP,hQ,u,v,b,h1,d=>by have B:=congrArg List.length h1;have y:=congrArg List.length d;rw[JL,Ac,C8]at y;simp only[frames,HH,List.flatten_nil,BV,Ac,Bn]at B y;have:=hQ q (Aw.2 (.inl rfl));omega
 |p::P,q::Q,hP,hQ,u,v,b,h1,d=>by
  obtain⟨I,n⟩:=hP p (Aw.2 (.inl rfl));obtain⟨q1,q2⟩:=hQ q (Aw.2 (.inl rfl));have f:Sml P:=λx w=>hP x (Aw.2 (.inr w));have g:Sml Q:=λx w=>hQ x (Aw.2 (.inr w));rw[JL]at h1 d;cases u with
  |nil=>rw[Bw]at h1 d;rw[<-h1,R3 n,R3 q2,Di,Di]at d;injection d with _ d;injection d with d _;exact xf I n d.symm
  |cons a u=>
   have i:=h1;have j:=d;rw[R3 n,Di,Di]at i;rw[R3 q2,Di,Di]at j;injection i with C _;injection j with D _;have o:p.length=q.length:=o9 n q2 (C.trans D.symm);have h:(Gp p).length=(Gp q).length:=by rw[C8,C8,o]
   rcases jh.1 h1 with⟨t,l,m⟩|⟨t,l,m⟩;rw[l,A0]at d;obtain⟨G,e⟩:=D7 d h.symm;exact vn P Q f g t v b m e
   
   cases z:t.reverse with
   |nil=>
    have s:t=[]:=by simpa using z
    subst s;rw[C5]at l;rw[Bw]at m;rw[<-l,m]at d;obtain⟨G,e⟩:=D7 d h.symm;exact vn P Q f g [] (frames P) b (by rw[Bw]) (by rw[Bw];exact e)
   |cons c r=>
    have k:t=r.reverse++[c]:=by have:=congrArg List.reverse z;rwa [List.reverse_reverse,List.reverse_cons]at this
    have E:Gp q++frames Q=((a::u)++b::r.reverse)++(c::frames P):=by rw[d,m,k];simp only[A0,Di,Bw]
    have F:(Gp q).length=((a::u)++b::r.reverse).length:=by have:=congrArg List.length l;rw[k]at this;simp only[Ac,Bn,BV]at this⊢;omega
    obtain⟨_,e⟩:=D7 E F;cases Q with
    |nil=>exact absurd (congrArg List.length e) (by simp[frames])
    |cons J Q=>
     obtain⟨M,K⟩:=g J (Aw.2 (.inl rfl));rw[JL,R3 K,Di,Di]at e;injection e with _ e;cases P with
     |nil=>exact absurd (congrArg List.length e) (by simp[frames])
     |cons H P=>obtain⟨L,A⟩:=f H (Aw.2 (.inl rfl));rw[JL,R3 A,Di]at e;injection e with e _;exact xf L A e.symm
def AAP{p q u w:BT}{a b:UInt8}(m:p.length=q.length)(g:Gp p=u++a::w)(d:Gp q=u++b::w):a=b:=by
 have r:Gp p=(Cy (p.length:Int) 4++p)++Cy (PK (Cy (p.length:Int) 4++p)) 4:=by unfold Gp;rw[List.append_assoc]
 have v:Gp q=(Cy (p.length:Int) 4++q)++Cy (PK (Cy (p.length:Int) 4++q)) 4:=by unfold Gp;rw[List.append_assoc,m]
 rw[r]at g;rw[v]at d;have h:(Cy (p.length:Int) 4++p).length=(Cy (p.length:Int) 4++q).length:=by rw[Ac,Ac,m]
 generalize Cy (p.length:Int) 4++p=A at*;generalize Cy (p.length:Int) 4++q=B at*;have l: ∀s,au 4 (PK s):=λs=>by have:=ZI s;exact⟨λ_=>by rw[show(256:Int)^4=4294967296 by decide];omega,o!⟩
 have C:=Ax 4 (PK A);have D:=Ax 4 (PK B);rcases jh.1 g with⟨t,f,j⟩|⟨t,f,j⟩
 
 have:B=A:=by rw[f,A0]at d;exact(D7 d h.symm).1
 subst this;have:=g.symm.trans d;have:=(D7 this rfl).2;injection this;cases t with
 |nil=>
  rw[C5]at f;rw[f]at h;have i:=(D7 d o!)
  have:B=A:=by rw[i.1,f]
  rw[this]at d;rw[d]at g;have:=(D7 g rfl).2;injection this with e _;exact e.symm
 |cons c t=>
  rw[Di]at j;injection j with n o;subst n o;have z:B++Cy (PK B) 4=(u++b::t)++Cy (PK A) 4:=by rw[d,A0,Di]
  obtain⟨x,y⟩:=D7 z (by rw[<-h,f,Ac,Ac,Bn,Bn]);have k:=XN g! (l B) (l A) y;rw[x,f]at k;exact(AEg k).symm
def zI: ∀(P Q:List BT),Sml P→Sml Q→(∀(i:Nat) (p q s t:BT),P[i]? =some p→Q[i]? =some q→p++s=q++t→p.length=q.length)→
  ∀(u v:BT) (a b:UInt8),frames P=u++a::v->frames Q=u++b::v->a=b
 |[],Q,hP,hQ,hf,u,v,a,b,f,e=>by have:=congrArg List.length f;simp[frames]at this
 |P,[],hP,hQ,hf,u,v,a,b,f,e=>by have:=congrArg List.length e;simp[frames]at this
 |p::P,q::Q,hP,hQ,hf,u,v,a,b,f,e=>by
  obtain⟨G,E⟩:=hP p (Aw.2 (.inl rfl));obtain⟨q1,q2⟩:=hQ q (Aw.2 (.inl rfl));have k:Sml P:=λx C=>hP x (Aw.2 (.inr C));have l:Sml Q:=λx C=>hQ x (Aw.2 (.inr C));have m: ∀(i:Nat) (p q s t:BT),P[i]? =some p->Q[i]? =some q->p++s=q++t->p.length=q.length:=λi p q s t A B=>hf (i+1) p q s t (by simpa using A) (by simpa using B);rw[JL]at f e;cases u with
  |nil=>rw[Bw]at f e;rw[R3 E,Di]at f;rw[R3 q2,Di]at e;injection f with y f;injection e with z e;rw[<-f]at e;simp only[Di,A0]at e;injection e with _ e;injection e with _ e;injection e with _ e;have:=hf 0 p q _ _ rfl rfl e.symm;rw[<-y,<-z,this]
  |cons c u=>
   have n:=f;have o:=e;rw[R3 E,Di,Di]at n;rw[R3 q2,Di,Di]at o;injection n with A _;injection o with B _;have r:p.length=q.length:=o9 E q2 (A.trans B.symm);have g:(Gp p).length=(Gp q).length:=by rw[C8,C8,r]
   rcases jh.1 f with⟨t,h,j⟩|⟨t,h,j⟩;rw[h,A0]at e;obtain⟨D,w⟩:=D7 e g.symm;exact zI P Q k l m t v a b j w;cases t with
   |nil=>rw[C5]at h;rw[Bw]at j;rw[<-h]at e;obtain⟨D,w⟩:=D7 e g.symm;exact zI P Q k l m [] v a b (by rw[Bw];exact j.symm) (by rw[Bw];exact w)
   |cons d t=>
    rw[Di]at j;injection j with y z;subst y z;have F:Gp q++frames Q=((c::u)++b::t)++frames P:=by rw[e];simp only[A0,Di]
    obtain⟨D,w⟩:=D7 F (by rw[<-g,h];simp only[Ac,Bn]);exact AAP r h D
def uM{c d:Ch}(e:Fo c)(f:Fo d){s t:BT}(h:UM c++s=UM d++t):(UM c).length=(UM d).length:=by
 have g: ∀{c:Ch},Fo c-> ∃(n:Nat) (r:BT),UM c=UInt8.ofNat n::r/\n<=255/\(UM c).length=if n=255 then 1 else n+1:=λ{c} e=>by
  have⟨b,w⟩:=c;have a:=e.1;dsimp only at a;unfold UM;cases b with
  |false=>exact⟨255,[],rfl,Ap _,rfl⟩
  |true=>refine⟨w.length,w,?_,o!,?_⟩;grind[Cy];grind[List.length_append,Ax]
 grind[o9]
def ABG{e f:EN}(d:Fo e.2.2.2.2.2.2.1.2.2.1/\Fo e.2.2.2.2.2.2.1.2.2.2/\e.2.2.2.2.2.2.2=[])(g:Fo f.2.2.2.2.2.2.1.2.2.1/\Fo f.2.2.2.2.2.2.1.2.2.2/\f.2.2.2.2.2.2.2=[]){s t:BT}(h:B4 e++s=B4 f++t):(B4 e).length=(B4 f).length:=by have⟨a1,a2,a3⟩:=d;have⟨a,b,c⟩:=g;unfold B4 at*;rw[a3,c]at*;simp at h;have st: ∀{n m:Int} {k:Nat} {x y:BT},Cy n k++x=Cy m k++y->x=y:=λi=>(D7 i (by rw[Ax,Ax])).2;have h:=st (st (st (st (st (st (st (st h)))))));have l1:=uM a1 a h;simp[Ac,Ax,l1,(uM a2 b ((D7 h l1).2))]
def ADV(x:AQ):List BT:=dS x::x.2.2.2.2.2.map B4
def pe(x:AQ):Mr x=frames (ADV x):=by unfold Mr ADV;rw[JL];unfold KA frames;rw[Ml];rfl
def WR.sml{x:AQ}(h:WR x):Sml (ADV x):=λp a=>by rcases Aw.1 a with rfl|a;rw[ZS];decide;obtain⟨e,f,rfl⟩:=Br.1 a;have⟨b,c,d⟩:=h.2 e f;have l1:=iv b;have l2:=iv c;unfold B4;rw[d];simp[Ac,Ax,BV];omega
inductive pM(s t:BT):Prop where
 |more (u v:BT) (b:UInt8) (h1:s=u++v) (h2:t=u++b::v)
 |less (u v:BT) (b:UInt8) (h1:s=u++b::v) (h2:t=u++v)
 |other (u v:BT) (a b:UInt8) (h:a≠b) (h1:s=u++a::v) (h2:t=u++b::v)
def ADK{x y:AQ}(g:WR x)(j:WR y)(h:pM (Mr x) (Mr y)):False:=by
 rw[pe,pe]at h;rcases h with⟨u,v,b,c,d⟩|⟨u,v,b,c,d⟩|⟨u,v,a,b,h,c,d⟩;exact vn _ _ g.sml j.sml u v b c d;exact vn _ _ j.sml g.sml u v b d c;refine h (zI _ _ g.sml j.sml (λi p q s t k l o=>?_) u v a b c d);cases i with
 |zero=>grind[ADV,List.getElem?_cons_zero,Option.some.injEq,ZS]
 |succ i=>simp only[ADV,oH,CN,Sw]at k l;obtain⟨e,m,rfl⟩:=k;obtain⟨f,n,rfl⟩:=l;exact ABG (g.2 e (BN m)) (j.2 f (BN n)) o
def ADz{a b n k:Nat}{d:Array NE}(h:a<=k:=by omega)(c:k<a+n:=by omega):swR a b n d k=d[b+(k-a)]! :=if_pos ⟨h,c⟩
def AD0{a b n k:Nat}{d:Array NE}(e:a+n<=b)(h:b<=k:=by omega)(c:k<b+n:=by omega):swR a b n d k=d[a+(k-b)]! :=by unfold swR;rw[if_neg (by omega),if_pos ⟨h,c⟩]
def qJ{a b n k:Nat}{d:Array NE}(h:k<a\/a+n<=k:=by omega)(c:k<b\/b+n<=k:=by omega):swR a b n d k=d[k]! :=by unfold swR;rw[if_neg (by omega),if_neg (by omega)]
def wJ(s m e:Nat)(d:Array NE)(k:Nat):NE:=if s<=k/\k<s+(e-m)then d[m+(k-s)]! else if s+(e-m)<=k/\k<e then d[s+(k-(s+(e-m)))]! else d[k]!
def jV{s m e k:Nat}{d:Array NE}(h:s<=k:=by omega)(a:k<s+(e-m):=by omega):wJ s m e d k=d[m+(k-s)]! :=if_pos ⟨h,a⟩
def nh{s m e k:Nat}{d:Array NE}(h:s+(e-m)<=k:=by omega)(a:k<e:=by omega):wJ s m e d k=d[s+(k-(s+(e-m)))]! :=by unfold wJ;rw[if_neg (by omega),if_pos ⟨h,a⟩]
theorem Un{s m e k:Nat}{d:Array NE}(a:s<=m:=by omega)(b:m<=e:=by omega)(h:k<s\/e<=k:=by omega):wJ s m e d k=d[k]! :=by unfold wJ;rw[if_neg (by omega),if_neg (by omega)]
def pQ{d:Array NE}{x y:Nat}(h:x=y):d[x]! =d[y]! :=by rw[h]
def ADl{m i j k:Nat}{d e:Array NE}(o:i<=m)(p:1<=j)(l:j<i)(n:m+j<=d.size)(a: ∀k,k<d.size->e[k]! =swR (m-i) m j d k)(b:k<d.size):wJ (m-(i-j)) m (m+j) e k=wJ (m-i) m (m+j) d k:=by rcases Ay k (m-i)with c|c;rw[Un,Un,a k b,qJ];rcases Ay k (m-i+j)with f|f;rw[Un,jV,a k b,ADz];rcases Ay k (m-(i-j)+j)with g|g;rw[jV,nh,a _ (by omega),AD0 (by omega)];exact pQ (by omega);rcases Ay k (m+j)with h|h;rw[nh,nh,a _ (by omega),qJ];exact pQ (by omega);rw[Un,Un,a k b,qJ]
def ADm{m i j k:Nat}{d e:Array NE}(p:i<=m)(n:1<=i)(l:i<j)(o:m+j<=d.size)(a: ∀k,k<d.size->e[k]! =swR (m-i) (m+j-i) i d k)(b:k<d.size):wJ (m-i) m (m+(j-i)) e k=wJ (m-i) m (m+j) d k:=by rcases Ay k (m-i)with c|c;rw[Un,Un,a k b,qJ];rcases Ay k (m-i+(j-i))with f|f;rw[jV,jV,a _ (by omega),qJ];rcases Ay k (m+(j-i))with g|g;rw[nh,jV,a _ (by omega),ADz];exact pQ (by omega);rcases Ay k (m+j)with h|h;rw[Un,nh,a _ (by omega),AD0 (by omega)];exact pQ (by omega);rw[Un,Un,a k b,qJ]
def ABn{d:Array NE}{a m b:Nat}(C:a<m)(D:m<b)(E:b≤d.size)(G:d.size≤16777216):
  Aq (Eu d.toList ((a:Int),((m:Int),(b:Int)))) λr=> ∃e:Array NE,r=e.toList/\e.size=d.size/\ ∀k,k<d.size->e[k]! =wJ a m b d k:=by
 unfold Eu;have q:wi ((m:Int)-(a:Int))=((m-a:Nat):Int):=by rw[mO];omega
 have t:wi ((b:Int)-(m:Int))=((b-m:Nat):Int):=by rw[mO];omega
 dsimp only;rw[q,t];refine AA (P:=λ(r:Int×List NE)=> ∃(i:Nat) (e:Array NE),r.1=i/\r.2=e.toList/\1<=i/\i<=m-a/\m+i<=b/\e.size=d.size/\ ∀k,k<d.size->wJ (m-i) m (m+i) e k=wJ a m b d k) ?_ ?_;refine AW (λ(s:Int×(Int×List NE))=> ∃(i j:Nat) (e:Array NE),s.1=i/\s.2.1=j/\s.2.2=e.toList/\1<=i/\1<=j/\i<=m-a/\m+j<=b/\e.size=d.size/\ ∀k,k<d.size->wJ (m-i) m (m+j) e k=wJ a m b d k) (λs=>(s.1+s.2.1).toNat)
  ⟨m-a,b-m,d,rfl,rfl,rfl,by omega,by omega,Ap _,by omega,rfl,λk _=>by rw[show m-(m-a)=a by omega,show m+(b-m)=b by omega]⟩ ?_
 rintro⟨H,I,J⟩ ⟨i,j,e,q1,q2,q3,q4,q5,q6,q7,q8,q9⟩;dsimp only at q1 q2 q3;subst q1 q2 q3;unfold Im;dsimp only;have o:wi ((m:Int)-(i:Int))=((m-i:Nat):Int):=by rw[mO];omega
 rw[o];refine AJ (λB=>?_) (λA=>AB ⟨i,e,rfl,rfl,q4,q6,by omega,q8,λk g=>?_⟩);apply AC<;>intro F;apply AA (wP (d:=e) (a:=m-i) (b:=m) (n:=j) (by omega) (by omega) (by omega));rintro v ⟨f,rfl,h,l⟩;have c:Nat.beq (List.length f.toList) (List.length e.toList)=true:=by rw[Du,Du,h];exact Hn _
 have p:wi ((i:Int)-(j:Int))=((i-j:Nat):Int):=by rw[mO];omega
 rw[c,cond_true,p];refine AB ⟨⟨i-j,j,f,rfl,rfl,rfl,by omega,q5,by omega,q7,by omega,λk g=>?_⟩,?_⟩;rw[ADl (by omega) q5 (by omega) (by omega) l (by omega),q9 k g];show(((i-j:Nat):Int)+(j:Int)).toNat<((i:Int)+(j:Int)).toNat
 omega;have u:wi (wi ((m:Int)+(j:Int))-(i:Int))=((m+j-i:Nat):Int):=by rw[mO (x:=(m:Int)+(j:Int)),mO];omega
 rw[u];apply AA (wP (d:=e) (a:=m-i) (b:=m+j-i) (n:=i) (by omega) (by omega) (by omega));rintro v ⟨f,rfl,h,l⟩;have c:Nat.beq (List.length f.toList) (List.length e.toList)=true:=by rw[Du,Du,h];exact Hn _
 have p:wi ((j:Int)-(i:Int))=((j-i:Nat):Int):=by rw[mO];omega
 rw[c,cond_true,p];refine AB ⟨⟨i,j-i,f,rfl,rfl,rfl,q4,by omega,q6,by omega,by omega,λk g=>?_⟩,?_⟩;rw[ADm (by omega) q4 (by omega) (by omega) l (by omega),q9 k g];show((i:Int)+((j-i:Nat):Int)).toNat<((i:Int)+(j:Int)).toNat
 omega;have:j=i:=by omega
 subst this;exact q9 k g;rintro⟨K,L⟩ ⟨i,e,q1,q2,q3,q4,q5,q6,q7⟩;dsimp only at q1 q2;subst q1 q2;dsimp only;have o:wi ((m:Int)-(i:Int))=((m-i:Nat):Int):=by rw[mO];omega
 rw[o];apply AA (wP (d:=e) (a:=m-i) (b:=m) (n:=i) (by omega) (by omega) (by omega));rintro v ⟨f,rfl,h,l⟩;have c:Nat.beq (List.length f.toList) (List.length e.toList)=true:=by rw[Du,Du,h];exact Hn _
 rw[c,cond_true];refine AB ⟨f,rfl,by omega,λk g=>?_⟩;rw[<-q7 k g,l k (by omega)];rcases Ay k (m-i)with w|w;rw[qJ,Un];rcases Ay k m with y|y;rw[ADz,jV];rcases Ay k (m+i)with z|z;rw[AD0 (by omega),nh];exact pQ (by omega);rw[qJ,Un]
theorem xc{i j:Nat}(h:i+j<=1099511627776):wi (Int.fdiv (IntKind.wrap .u64 (wi ((i:Int)+(j:Int)))) (2^(min (Int.toNat 1) 64)))=(((i+j)/2:Nat):Int):=by rw[zD (by omega) (by omega) (by omega)];omega
def bs{body:Int×Int→Option (Step (Int×Int) Int)}{P:Nat→Bool}{b a:Nat}(m: ∀i:Nat,body ((i:Int),(i:Int))=some (.done (i:Int)))
  (s: ∀i j:Nat,b<=i->i<j->j<=a->body ((i:Int),(j:Int))=some (.next (if P ((i+j)/2)=true then((((i+j)/2+1:Nat):Int),(j:Int))else((i:Int),(((i+j)/2:Nat):Int))))) (l:b<=a):
  ∃r:Nat,Ah body ((b:Int),(a:Int))=some (r:Int)/\b<=r/\r<=a/\(b<r->P (r-1)=true)/\(r<a->P r=false):=by
 suffices h: ∀n i j:Nat,j-i<=n->b<=i->i<=j->j<=a->(b<i->P (i-1)=true)->(j<a->P j=false)-> ∃r:Nat,Ah body ((i:Int),(j:Int))=some (r:Int)/\b<=r/\r<=a/\(b<r->P (r-1)=true)/\(r<a->P r=false)from
  h _ b a (Ap _) (Ap _) l (Ap _) (λh=>absurd h o!) (λh=>absurd h o!)
 intro n;induction n with
 |zero=>
  intro i j p c q d e f;have:i=j:=o!
  subst this;rw[IB,m];exact⟨i,rfl,c,d,e,f⟩
 |succ n o=>intro i j p c q d e f;rw[IB];by_cases k:i=j;subst k;rw[m];exact⟨i,rfl,c,d,e,f⟩;rw[s i j c o! d];by_cases g:P ((i+j)/2)=true;rw[if_pos g];exact o _ j o! o! o! d (λ_=>by rw[lL];exact g) f;rw[if_neg g];exact o i _ o! c o! o! e (λ_=>by simpa using g)
def AID{d:Array NE}{a m b:Nat}(o:a<d.size)(g:m≤b)(p:b≤d.size)(q:d.size≤16777216)(c:Int×Int):
  ∃r:Nat,Ah (DF d.toList ((a:Int),c)) ((m:Int),(b:Int))=some (r:Int)/\m<=r/\r<=b/\(m<r->lN d[r-1]! d[a]! =true)/\(r<b->lN d[r]! d[a]! =false):=by
 refine bs (P:=λk=>lN d[k]! d[a]!) (λi=>?_) (λi j h l n=>?_) g;unfold DF;have:decide ((i:Int)<(i:Int))=false:=by simp
 dsimp only;rw[this,cond_false];unfold DF;have:decide ((i:Int)<(j:Int))=true:=by simp;omega
 dsimp only;rw[this,cond_true,xc (by omega)];obtain⟨v,e,f⟩:=AFU d[(i+j)/2]! d[a]!;rw[yy (k:=(i+j)/2) rfl,yy (k:=a) rfl];simp only[AD,e,f,wip (i:=(i+j)/2)];cases lN d[(i+j)/2]! d[a]! <;>rfl
def AIE{d:Array NE}{a r b:Nat}(h:a<r)(hr:r≤b)(w:b≤d.size)(x:d.size≤16777216):
  Aq (Ah (EC (r:Int)) ((a:Int),d.toList)) λq=> ∃e:Array NE,q=e.toList/\Sort.PermIn a b d e/\(∀t,a<=t->t<r-1->e[t]! =d[t+1]!)/\e[r-1]! =d[a]! /\ ∀t,r<=t->e[t]! =d[t]! :=by
 refine AW (λ(s:Int×List NE)=> ∃(k:Nat) (e:Array NE),s.1=k/\s.2=e.toList/\a<=k/\k<r/\Sort.PermIn a b d e/\(∀t,a<=t->t<k->e[t]! =d[t+1]!)/\e[k]! =d[a]! /\ ∀t,k<t->e[t]! =d[t]!) (λs=>r-s.1.toNat) ⟨a,d,rfl,rfl,Ap _,h,Sort.permIn_refl _ _ _,λt _ _=>by omega,rfl,λt _=>rfl⟩ ?_;rintro⟨z,A⟩ ⟨k,e,q1,q2,q3,q4,q5,q6,q7,q8⟩;dsimp only at q1 q2;subst q1 q2;have y:=q5.1;unfold EC;dsimp only;have l:wi ((r:Int)-1)=((r-1:Nat):Int):=by rw[wim];omega
 rw[l];refine AC (λn=>?_) (λn=>AB ⟨e,rfl,q5,λt g m=>q6 t g (by omega),?_,λt o=>q8 t (by omega)⟩);have p:ix e.toList ((k+1:Nat):Int)=some e[k+1]! :=yy rfl;have u:ix e.toList (k:Int)=some e[k]! :=yy rfl;have v:ix (FT e.toList (k:Int) e[k+1]!) ((k+1:Nat):Int)=some (e.setIfInBounds k e[k+1]!)[k+1]! :=AEz rfl rfl;simp only[wip (i:=k),p,u,v,AD,AFf (d:=e) (a:=k) (b:=k+1) rfl rfl];have c:=Sort.swp_get e (i:=k) (j:=k+1) (by omega) (by omega);refine AB ⟨⟨k+1,_,rfl,rfl,by omega,by omega,Sort.permIn_trans _ _ _ _ _ q5 (Sort.swp_permIn e a b k (k+1) q3 (by omega) (by omega) (by omega) (by omega)),λt g m=>?_,?_,λt o=>?_⟩,?_⟩;rw[c,if_neg (by omega)];by_cases f:t=k;subst f;rw[if_pos rfl];exact q8 _ (by omega);rw[if_neg f];exact q6 t g (by omega);rw[c,if_pos rfl];exact q7;rw[c,if_neg (by omega),if_neg (by omega)];exact q8 t (by omega);show r-((k+1:Nat):Int).toNat<r-((k:Nat):Int).toNat
 omega;have:k=r-1:=by omega
 rw[<-this];exact q7
def ADu{d:Array NE}{a b:Nat}(o:a+1≤b)(z:b≤d.size)(A:d.size≤16777216)(k:Sort.SortedIn lN (a+1) b d)(c:Int×Int):
  Aq (Option.bind (Ah (DF d.toList ((a:Int),c)) (((a+1:Nat):Int),(b:Int))) λv=>Option.bind (Ah (EC v) ((a:Int),d.toList)) λw=>some w) λq=> ∃e:Array NE,q=e.toList/\Sort.PermIn a b d e/\Sort.SortedIn lN a b e:=by
 obtain⟨r,g,H,I,J,K⟩:=AID (d:=d) (a:=a) (m:=a+1) (b:=b) o! o z A c;rw[g,AD];apply AA (AIE (d:=d) (a:=a) (r:=r) (b:=b) o! I z A);rintro q ⟨e,rfl,G,n,B,C⟩;refine AB ⟨e,rfl,G,λx y p s u=>?_⟩;have W:=tJ;have F: ∀t,a+1<=t->t<r->lN d[a]! d[t]! =false:=λt h l=>by
  have f:=J o!;cases D:lN d[a]! d[t]! with
  |false=>rfl
  |true=>have i:=W.trans _ _ _ f D;rcases Ay t (r-1)with j|j;exact absurd i (by rw[k t (r-1) h j o!];decide);rw[show t=r-1 by omega,W.irrefl]at i;cases i
 have E: ∀t,r<=t->t<b->lN d[t]! d[a]! =false:=λt h l=>by have f:=K o!;rcases Ay r t with j|j;exact W.ntrans _ _ _ (k r t H j l) f;rw[show t=r by omega];exact f
 rcases Ay y (r-1)with h|h;rw[n x p o!,n y o! h];exact k (x+1) (y+1) o! o! o!;rcases Ay (r-1) y with l|l;rw[C y o!];rcases Ay x (r-1)with f|f;rw[n x p f];exact k (x+1) y o! o! u;rcases Ay (r-1) x with i|i;rw[C x o!];exact k x y o! s u;rw[show x=r-1 by omega,B];exact E y o! u;rw[show y=r-1 by omega,B,n x p o!];exact F (x+1) o! o!
def AIF{d:Array NE}{a m:Nat}(l:a≤m)(w:m<d.size)(u:d.size≤16777216)(b:Int):
  ∃r:Nat,Ah (CU d.toList ((a:Int),((m:Int),b))) ((a:Int),(m:Int))=some (r:Int)/\a<=r/\r<=m/\(a<r->lN d[m]! d[r-1]! =false)/\(r<m->lN d[m]! d[r]! =true):=by
 have c: ∀i:Nat,CU d.toList ((a:Int),((m:Int),b)) ((i:Int),(i:Int))=some (.done (i:Int)):=λi=>by
  unfold CU;have:decide ((i:Int)<(i:Int))=false:=by simp
  dsimp only;rw[this,cond_false]
 have e: ∀i j:Nat,a<=i->i<j->j<=m->CU d.toList ((a:Int),((m:Int),b)) ((i:Int),(j:Int))=some (.next (if(!lN d[m]! d[(i+j)/2]!)=true then((((i+j)/2+1:Nat):Int),(j:Int))else((i:Int),(((i+j)/2:Nat):Int)))):=λi j q s t=>by
  unfold CU;have:decide ((i:Int)<(j:Int))=true:=by simp;omega
  dsimp only;rw[this,cond_true,xc (by omega)];obtain⟨v,f,g⟩:=AFU d[m]! d[(i+j)/2]!;rw[yy (k:=(i+j)/2) rfl,yy (k:=m) rfl];simp only[AD,f,g,wip (i:=(i+j)/2)];cases lN d[m]! d[(i+j)/2]! <;>rfl
 obtain⟨r,f,g,n,o,p⟩:=bs (P:=λk=>!lN d[m]! d[k]!) c e l;exact⟨r,f,g,n,λh=>by simpa using o h,λh=>by simpa using p h⟩
def AIG{d:Array NE}{a r m:Nat}(n:a≤r)(hr:r≤m)(y:m<d.size)(x:d.size≤16777216):
  Aq (Ah (ED (r:Int)) ((m:Int),d.toList)) λq=> ∃e:Array NE,q=e.toList/\Sort.PermIn a (m+1) d e/\(∀t,r<t->t<=m->e[t]! =d[t-1]!)/\e[r]! =d[m]! /\ ∀t,t<r->e[t]! =d[t]! :=by
 refine AW (λ(s:Int×List NE)=> ∃(k:Nat) (e:Array NE),s.1=k/\s.2=e.toList/\r<=k/\k<=m/\Sort.PermIn a (m+1) d e/\(∀t,k<t->t<=m->e[t]! =d[t-1]!)/\e[k]! =d[m]! /\ ∀t,t<k->e[t]! =d[t]!) (λs=>s.1.toNat) ⟨m,d,rfl,rfl,hr,Ap _,Sort.permIn_refl _ _ _,λt _ _=>o!,rfl,λt _=>rfl⟩ ?_;rintro⟨A,B⟩ ⟨k,e,q1,q2,q3,q4,q5,q6,q7,q8⟩;dsimp only at q1 q2;subst q1 q2;have z:=q5.1;unfold ED;dsimp only;refine AC (λo=>?_) (λo=>AB ⟨e,rfl,q5,λt l g=>q6 t o! g,?_,λt p=>q8 t o!⟩);have h:wi ((k:Int)-1)=((k-1:Nat):Int):=by rw[wim];omega
 have u:ix e.toList ((k-1:Nat):Int)=some e[k-1]! :=yy rfl;have v:ix e.toList (k:Int)=some e[k]! :=yy rfl;have w:ix (FT e.toList (k:Int) e[k-1]!) ((k-1:Nat):Int)=some (e.setIfInBounds k e[k-1]!)[k-1]! :=AEz rfl rfl;simp only[h,u,v,w,AD,AFf (d:=e) (a:=k) (b:=k-1) rfl rfl];have c:=Sort.swp_get e (i:=k) (j:=k-1) o! o!;refine AB ⟨⟨k-1,_,rfl,rfl,o!,o!,Sort.permIn_trans _ _ _ _ _ q5 (Sort.swp_permIn e a (m+1) k (k-1) o! o! o! o! o!),λt l g=>?_,?_,λt p=>?_⟩,?_⟩;rw[c,if_neg o!];by_cases f:t=k;subst f;rw[if_pos rfl];exact q8 _ o!;rw[if_neg f];exact q6 t o! g;rw[c,if_pos rfl];exact q7;rw[c,if_neg o!,if_neg o!];exact q8 t o!;show((k-1:Nat):Int).toNat<((k:Nat):Int).toNat
 omega;have:k=r:=o!
 rw[<-this];exact q7
def AFa{d:Array NE}{a m:Nat}(n:a≤m)(u:m<d.size)(s:d.size≤16777216)(k:Sort.SortedIn lN a m d)(b:Int):
  Aq (Option.bind (Ah (CU d.toList ((a:Int),((m:Int),b))) ((a:Int),(m:Int))) λv=>Option.bind (Ah (ED v) ((m:Int),d.toList)) λw=>some w) λq=> ∃e:Array NE,q=e.toList/\Sort.PermIn a (m+1) d e/\Sort.SortedIn lN a (m+1) e:=by
 obtain⟨r,g,B,G,H,I⟩:=AIF (d:=d) (a:=a) (m:=m) n u s b;rw[g,AD];apply AA (AIG (d:=d) (a:=a) (r:=r) (m:=m) B G u s);rintro q ⟨e,rfl,F,z,A,l⟩;refine AB ⟨e,rfl,F,λx y o p J=>?_⟩;have W:=tJ;have E: ∀t,a<=t->t<r->lN d[m]! d[t]! =false:=λt h i=>by have c:=H o!;rcases Ay t (r-1)with j|j;exact W.ntrans _ _ _ c (k t (r-1) h j o!);rw[show t=r-1 by omega];exact c
 have D: ∀t,r<=t->t<m->lN d[t]! d[m]! =false:=λt h i=>by
  have c:=I o!;cases C:lN d[t]! d[m]! with
  |false=>rfl
  |true=>have f:=W.trans _ _ _ C c;rcases Ay r t with j|j;exact absurd f (by rw[k r t B j i];decide);rw[show t=r by omega,W.irrefl]at f;cases f
 rcases Ay y r with h|h;rw[l x o!,l y h];exact k x y o p o!;rcases Ay r y with i|i;rw[z y i o!];rcases Ay x r with c|c;rw[l x c];exact k x (y-1) o o! o!;rcases Ay r x with f|f;rw[z x f o!];exact k (x-1) (y-1) o! o! o!;rw[show x=r by omega,A];exact D (y-1) o! o!;rw[show y=r by omega,A,l x o!];exact E x o o!
def AIH{d:Array NE}{a m b lo hi:Nat}(l:lo≤hi)(s:a≤lo)(t:hi≤m)(u:(a+b)/2+m-lo≤b)(y:hi≤(a+b)/2+m)(w:m≤b)(z:b≤d.size)(A:d.size≤16777216):
  ∃r:Nat,Ah (Ck d.toList ((a:Int),((m:Int),(b:Int)))) ((lo:Int),(hi:Int))=some (r:Int)/\lo<=r/\r<=hi/\(lo<r->lN d[(a+b)/2+m-1-(r-1)]! d[r-1]! =false)/\(r<hi->lN d[(a+b)/2+m-1-r]! d[r]! =true):=by
 have c: ∀i:Nat,Ck d.toList ((a:Int),((m:Int),(b:Int))) ((i:Int),(i:Int))=some (.done (i:Int)):=λi=>by
  unfold Ck;have:decide ((i:Int)<(i:Int))=false:=by simp
  dsimp only;rw[this,cond_false]
 have e: ∀i j:Nat,lo<=i->i<j->j<=hi->Ck d.toList ((a:Int),((m:Int),(b:Int))) ((i:Int),(j:Int))=some (.next (if(!lN d[(a+b)/2+m-1-(i+j)/2]! d[(i+j)/2]!)=true then((((i+j)/2+1:Nat):Int),(j:Int))else((i:Int),(((i+j)/2:Nat):Int)))):=λi j s t u=>by
  unfold Ck;have:decide ((i:Int)<(j:Int))=true:=by simp;omega
  dsimp only;rw[this,cond_true,xc (i:=i) (j:=j) (by omega),xc (i:=a) (j:=b) (by omega)];have n:wi (wi (wi ((((a+b)/2:Nat):Int)+(m:Int))-1)-(((i+j)/2:Nat):Int))=(((a+b)/2+m-1-(i+j)/2:Nat):Int):=by rw[mO (x:=(((a+b)/2:Nat):Int)+(m:Int)),mO (x:=(((a+b)/2:Nat):Int)+(m:Int)-1),mO];omega
  obtain⟨v,f,g⟩:=AFU d[(a+b)/2+m-1-(i+j)/2]! d[(i+j)/2]!;rw[n,yy (k:=(i+j)/2) rfl,yy (k:=(a+b)/2+m-1-(i+j)/2) rfl];simp only[AD,f,g,wip (i:=(i+j)/2)];cases lN d[(a+b)/2+m-1-(i+j)/2]! d[(i+j)/2]! <;>rfl
 obtain⟨r,f,g,o,p,q⟩:=bs (P:=λk=>!lN d[(a+b)/2+m-1-k]! d[k]!) c e l;exact⟨r,f,g,o,λh=>by simpa using p h,λh=>by simpa using q h⟩
def AFT{s m e:Nat}{d f:Array NE}(o:s<=m)(p:m<=e)(b:e<=d.size)(c:f.size=d.size)(h: ∀k,k<d.size->f[k]! =wJ s m e d k):Sort.PermIn s e d f:=by
 refine⟨c,λi a=>?_,?_⟩;grind[Nat.lt_or_ge,Un];have key: ∀(g:Nat->NE) (s n:Nat),(List.range' s n).map g=(List.range n).map λi=>g (s+i):=λg s n=>by rw[List.range'_eq_map_range,Ml];rfl
 rw[Sort.extract_toList f s e o!,Sort.extract_toList d s e b];have j:List.range' s (e-s)=List.range' s (e-m)++List.range' (s+(e-m)) (m-s):=q!
 have l:List.range' s (e-s)=List.range' s (m-s)++List.range' (s+(m-s)) (e-m):=q!
 have l1:(List.range' s (e-m)).map (λi=>f[i]!)=(List.range' (s+(m-s)) (e-m)).map λi=>d[i]! :=by rw[key,key];refine Mk λi a=>?_;have:=Hk.1 a;rw[h _ o!,jV];simp_all
 have l2:(List.range' (s+(e-m)) (m-s)).map (λi=>f[i]!)=(List.range' s (m-s)).map λi=>d[i]! :=by rw[key,key];refine Mk λi a=>?_;have:=Hk.1 a;rw[h _ o!,nh];simp_all
 grind
def wY(a b:Nat)(d e:Array NE):Prop:=Sort.PermIn a b d e/\Sort.SortedIn lN a b e
def ni{a m b:Nat}{d:Array NE}(h:m<=a\/b<=m)(c:Sort.SortedIn lN a m d)(e:Sort.SortedIn lN m b d)(f:a<=m)(g:m<=b):Sort.SortedIn lN a b d:=by
 rcases h with h|h;have:m=a:=o!
 rw[<-this];exact e;have:m=b:=o!
 rw[<-this];exact c
def AIs{C:List NE×(Int×(Int×Int))→Option (List NE)}{N a m b:Nat}{d:Array NE}(a4:a<m)(a5:m<b)(hb:b≤d.size)(hd:d.size≤16777216)(s:Sort.SortedIn lN a m d)(A:Sort.SortedIn lN m b d)
  (O: ∀(S:Array NE) (V m' R:Nat),V<m'->m'<R->R<=S.size->S.size<=16777216->Sort.SortedIn lN V m' S->Sort.SortedIn lN m' R S->PT (R-V<=N) (C (S.toList,((V:Int),((m':Int),(R:Int))))) λr=> ∃e:Array NE,r=e.toList/\wY V R S e):
  PT (b-a<=N+1) (CG C d.toList ((a:Int),((m:Int),(b:Int)))) λr=> ∃e:Array NE,r=e.toList/\wY a b d e:=by
 have W:=tJ;unfold CG;have e0:wi ((m:Int)-(a:Int))=((m-a:Nat):Int):=by grind[mO]
 have e1:wi ((b:Int)-(m:Int))=((b-m:Nat):Int):=by grind[mO]
 dsimp only;rw[e0,e1,xc (i:=a) (j:=b) (by omega)];apply PT.cond<;>intro Q;have Q:m=a+1:=by have:=eq_of_beq Q;omega
 subst Q;exact jC (ADu (by omega) hb hd A _);apply PT.cond<;>intro n;have n:b=m+1:=by have:=eq_of_beq n;omega
 subst n;exact jC (AFa (by omega) hb hd s _);have n1:m-a≠1:=λh=>by rw[h]at Q;exact absurd Q (by decide)
 have n2:b-m≠1:=λh=>by rw[h]at n;exact absurd n (by decide)
 have Y:a<(a+b)/2/\(a+b)/2<b:=by omega
 generalize hM:(a+b)/2=M at Y⊢;have e2:wi ((M:Int)+(m:Int))=((M+m:Nat):Int):=by rw[mO];omega
 rw[e2];refine PT.bind (P:=λv=> ∃L J:Nat,v=((L:Int),(J:Int))/\L<=J/\a<=L/\J<=m/\J<=M/\M+m-L<=b/\(L=a\/M+m-L=b)/\(J=m\/J=M)) ?_ ?_;refine PT.dec (λhc=>PT.some ⟨M+m-b,M,?_,by omega⟩) (λhc=>PT.some ⟨a,m,rfl,by omega⟩);rw[mO];exact congrArg (λz=>(z,(M:Int))) (by omega);rintro v ⟨L,J,rfl,f1,f2,f3,f4,f5,f6,f7⟩;have⟨r,g,r1,r2,r3,r4⟩:=AIH (d:=d) (a:=a) (m:=m) (b:=b) (lo:=L) (hi:=J) f1 f2 f3 (by omega) (by omega) (by omega) hb hd;rw[hM]at r3 r4;rw[g,AD];have e3:wi (((M+m:Nat):Int)-(r:Int))=((M+m-r:Nat):Int):=by rw[mO];omega
 simp only[e3];obtain⟨E,hE⟩: ∃E,E=M+m-r:=⟨_,rfl⟩
 rw[<-hE];have c1:a<r->E<b->lN d[E]! d[r-1]! =false:=λQ n=>by have:=r3 (by omega);rw[show M+m-1-(r-1)=E by omega]at this;exact this
 have c2:r<m->m<E->lN d[E-1]! d[r]! =true:=λQ n=>by have:=r4 (by omega);rw[show M+m-1-r=E-1 by omega]at this;exact this
 have s3: ∀c l:Array NE,Sort.PermIn a b d c->(∀k,k<d.size->c[k]! =wJ r m E d k)->wY a M c l->PT (b-a<=N+1) (bif decide ((M:Int)<(E:Int))then Option.bind (bif decide ((E:Int)<(b:Int))then Option.bind (C (l.toList,((M:Int),((E:Int),(b:Int))))) λv=>bif Nat.beq (List.length v) (List.length l.toList)then some v else none else some l.toList) λv=>some v else some l.toList) λq=> ∃e:Array NE,q=e.toList/\wY a b d e:=by
  intro c l U f n;have z1:c.size=d.size:=U.1;have z2:l.size=c.size:=n.1.1;have ar: ∀k,k<r->c[k]! =d[k]! :=λk hk=>by rw[f k (by omega),Un]
  have ax: ∀k,r<=k->k<M->c[k]! =d[m+(k-r)]! :=λk h h'=>by rw[f k (by omega),jV]
  have H: ∀k,M<=k->k<E->c[k]! =d[r+(k-M)]! :=λk h h'=>by rw[f k (by omega),nh];exact pQ (by omega)
  have I: ∀k,E<=k->k<b->c[k]! =d[k]! :=λk h h'=>by rw[f k (by omega),Un]
  have a0: ∀x y,a<=x->x<M->M<=y->y<b->lN c[y]! c[x]! =false:=by
   intro x y F a3 G K;rcases Ay x r with q1|q1;rw[ar x q1];rcases Ay y E with q2|q2;rw[H y G q2];exact s x _ F (by omega) (by omega);rw[I y q2 K];have k1:lN d[y]! d[E]! =false:=by rcases Ay E y with q3|q3;exact A E y (by omega) q3 K;rw[show y=E by omega];exact W.irrefl _
   have k2:lN d[r-1]! d[x]! =false:=by rcases Ay x (r-1)with q3|q3;exact s x (r-1) F q3 (by omega);rw[show r-1=x by omega];exact W.irrefl _
   exact W.ntrans _ _ _ (W.ntrans _ _ _ k1 (c1 (by omega) (by omega))) k2;rw[ax x q1 a3];rcases Ay y E with q2|q2;rw[H y G q2];have hc:=c2 (by omega) (by omega);have k1:lN d[E-1]! d[m+(x-r)]! =false:=by rcases Ay (m+(x-r)) (E-1)with q3|q3;exact A _ (E-1) (by omega) q3 (by omega);rw[show m+(x-r)=E-1 by omega];exact W.irrefl _
   refine W.ntrans _ d[E-1]! _ ?_ k1;cases hk:lN d[r+(y-M)]! d[E-1]! with
   |false=>rfl
   |true=>have k2:=W.trans _ _ _ hk hc;rcases Ay r (r+(y-M))with q3|q3;exact absurd k2 (by rw[s r _ (by omega) q3 (by omega)];decide);rw[show r+(y-M)=r by omega,W.irrefl]at k2;cases k2
   rw[I y q2 K];exact A _ y (by omega) (by omega) K
  have X: ∀d3:Array NE,wY M b l d3->wY a b d d3:=λd3 T=>by refine⟨Sort.permIn_trans _ _ _ _ _ U (Sort.permIn_trans _ _ _ _ _ (Sort.permIn_mono _ _ a M a b (by omega) (by omega) (by omega) n.1) (Sort.permIn_mono _ _ M b a b (by omega) (by omega) (by omega) T.1)),λx y F B G=>?_⟩;rcases Ay y M with q1|q1;rw[T.1.2.1 x (by omega),T.1.2.1 y (by omega)];exact n.2 x y F B q1;rcases Ay x M with q2|q2;rw[T.1.2.1 x (by omega)];refine Sort.permIn_all l d3 M b (λz=>lN z l[x]! =false) (by omega) T.1 (λw hw a2=>?_) y q1 G;rw[n.1.2.1 w (by omega)];exact Sort.permIn_all c l a M (λz=>lN c[w]! z=false) (by omega) n.1 (λu hu a1=>a0 u w hu a1 hw a2) x F q2;exact T.2 x y q2 B G
  have ao:Sort.SortedIn lN M E l:=λx y F B G=>by rw[n.1.2.1 x (by omega),n.1.2.1 y (by omega),H x F (by omega),H y (by omega) G];exact s _ _ (by omega) (by omega) (by omega)
  have ap:Sort.SortedIn lN E b l:=λx y F B G=>by rw[n.1.2.1 x (by omega),n.1.2.1 y (by omega),I x F (by omega),I y (by omega) G];exact A _ _ (by omega) (by omega) (by omega)
  have o:E<=M\/b<=E->wY a b d l:=λh=>X l ⟨Sort.permIn_refl _ _ _,ni h ao ap (by omega) (by omega)⟩;refine PT.dec (λq1=>PT.bind (P:=λq=> ∃e:Array NE,q=e.toList/\wY a b d e) (PT.dec (λq2=>?_) (λq2=>PT.some ⟨l,rfl,o (by omega)⟩)) λr h=>PT.some h) (λq1=>PT.some ⟨l,rfl,o (by omega)⟩);have hr:=O l M E b (by omega) (by omega) (by omega) (by omega) ao ap;refine PT.bind (P:=λq=> ∃e:Array NE,q=e.toList/\wY M b l e) ⟨λt=>hr.1 (by omega),hr.2⟩ ?_;rintro q ⟨e,rfl,D⟩;exact aA (by rw[Du,Du,D.1.1]) (PT.some ⟨e,rfl,X e D⟩)
 have s2: ∀c:Array NE,Sort.PermIn a b d c->(∀k,k<d.size->c[k]! =wJ r m E d k)->PT (b-a<=N+1) (bif decide ((a:Int)<(r:Int))then Option.bind (bif decide ((r:Int)<(M:Int))then Option.bind (C (c.toList,((a:Int),((r:Int),(M:Int))))) λv=>bif Nat.beq (List.length v) (List.length c.toList)then some v else none else some c.toList) λv=>(bif decide ((M:Int)<(E:Int))then Option.bind (bif decide ((E:Int)<(b:Int))then Option.bind (C (v,((M:Int),((E:Int),(b:Int))))) λw=>bif Nat.beq (List.length w) (List.length v)then some w else none else some v) λw=>some w else some v)else(bif decide ((M:Int)<(E:Int))then Option.bind (bif decide ((E:Int)<(b:Int))then Option.bind (C (c.toList,((M:Int),((E:Int),(b:Int))))) λw=>bif Nat.beq (List.length w) (List.length c.toList)then some w else none else some c.toList) λw=>some w else some c.toList)) λq=> ∃e:Array NE,q=e.toList/\wY a b d e:=by
  intro c U f;have z1:c.size=d.size:=U.1;have ad:Sort.SortedIn lN a r c:=λx y F B G=>by rw[f x (by omega),f y (by omega),Un,Un];exact s _ _ (by omega) (by omega) (by omega)
  have al:Sort.SortedIn lN r M c:=λx y F B G=>by rw[f x (by omega),f y (by omega),jV,jV];exact A _ _ (by omega) (by omega) (by omega)
  have o:r<=a\/M<=r->wY a M c c:=λh=>⟨Sort.permIn_refl _ _ _,ni h ad al (by omega) (by omega)⟩
  refine PT.dec (λq1=>PT.bind (P:=λq=> ∃e:Array NE,q=e.toList/\wY a M c e) ?_ ?_) (λq1=>s3 c c U f (o (by omega)));refine PT.dec (λq2=>?_) (λq2=>PT.some ⟨c,rfl,o (by omega)⟩);have hr:=O c a r M (by omega) (by omega) (by omega) (by omega) ad al;refine PT.bind (P:=λq=> ∃e:Array NE,q=e.toList/\wY a M c e) ⟨λt=>hr.1 (by omega),hr.2⟩ ?_;rintro q ⟨e,rfl,D⟩;exact aA (by rw[Du,Du,D.1.1]) (PT.some ⟨e,rfl,D⟩);rintro q ⟨e,rfl,D⟩;exact s3 c e U f D
 have Z:r=m\/E=m-> ∀k,k<d.size->d[k]! =wJ r m E d k:=λh k hk=>by rcases Ay k r with q1|q1;rw[Un];rcases Ay k (r+(E-m))with q2|q2;rw[jV q1 q2];exact pQ (by omega);rcases Ay k E with q3|q3;rw[nh q2 q3];exact pQ (by omega);rw[Un]
 refine PT.dec (λq1=>PT.bind (P:=λq=> ∃e:Array NE,q=e.toList/\Sort.PermIn a b d e/\ ∀k,k<d.size->e[k]! =wJ r m E d k) ?_ ?_) (λq1=>s2 d (Sort.permIn_refl _ _ _) (Z (by omega)));refine PT.dec (λq2=>PT.bind (jC (ABn (d:=d) (a:=r) (m:=m) (b:=E) (by omega) (by omega) (by omega) hd)) ?_) (λq2=>PT.some ⟨d,rfl,Sort.permIn_refl _ _ _,Z (by omega)⟩);rintro q ⟨e,rfl,z,D⟩;exact aA (by rw[Du,Du,z]) (PT.some ⟨e,rfl,Sort.permIn_mono _ _ r E a b (by omega) (by omega) hb (AFT (by omega) (by omega) (by omega) z D),D⟩);rintro q ⟨e,rfl,p,D⟩;exact s2 e p D
def AHJ(n:Nat)(p:List NE×(Int×(Int×Int))):nB (λg (p:List NE×(Int×(Int×Int)))=>CG g p.1 p.2) (n+1) p=CG (nB (λg (p:List NE×(Int×(Int×Int)))=>CG g p.1 p.2) n) p.1 p.2:=rfl
def zi: ∀(N:Nat) (d:Array NE) (a m b:Nat),a<m→m<b→b≤d.size→d.size≤16777216→Sort.SortedIn lN a m d→Sort.SortedIn lN m b d→
  PT (b-a<=N) (nB (λg (p:List NE×(Int×(Int×Int)))=>CG g p.1 p.2) N (d.toList,((a:Int),((m:Int),(b:Int))))) λr=> ∃e:Array NE,r=e.toList/\wY a b d e
 |0,d,a,m,b,h1,h2,h3,h4,h5,h6=>⟨λt=>absurd t o!,λr e=>by cases e⟩
 |N+1,d,a,m,b,h1,h2,h3,h4,h5,h6=>by rw[AHJ];exact AIs h1 h2 h3 h4 h5 h6 (zi N)
def AF4{d:Array NE}{a m b:Nat}(c:a<m)(f:m<b)(g:b≤d.size)(h:d.size≤16777216)(i:Sort.SortedIn lN a m d)(j:Sort.SortedIn lN m b d):
  Aq (EU d.toList ((a:Int),((m:Int),(b:Int)))) λr=> ∃e:Array NE,r=e.toList/\wY a b d e:=by
 have⟨r,hr⟩:=(zi (b-a) d a m b c f g h i j).1 (Ap _);have⟨s,k⟩:=lq hr;have⟨N,l⟩:=j9 k;exact⟨s,k,(zi N d a m b c f g h i j).2 s l⟩
def Mul(s a:Nat):Prop:= ∃k,a=k*s
def Mul.zero{s:Nat}:Mul s 0:=⟨0,k!⟩
def Mul.add{s a:Nat}(h:Mul s a):Mul s (a+s):=by obtain⟨k,rfl⟩:=h;exact⟨k+1,q!⟩
def Mul.half{s a:Nat}(h:Mul (2*s) a):Mul s a:=by obtain⟨k,rfl⟩:=h;exact⟨k*2,q!⟩
def Mul.lt{s a b:Nat}(c:Mul s a)(d:Mul s b)(h:a<b):a+s<=b:=by obtain⟨k,rfl⟩:=c;obtain⟨j,rfl⟩:=d;have:k<j:=Nat.lt_of_mul_lt_mul_right h;have:=Mn s (Nat.succ_le_of_lt this);grind
theorem ZW{a b c:Nat}{d:Array NE}(h:Sort.SortedIn lN a b d)(i:c<=b):Sort.SortedIn lN a c d:=λx y e f g=>h x y e f o!
def WF{a b x y:Nat}{d e:Array NE}(h:Sort.SortedIn lN a b d)(c:Sort.PermIn x y d e)(l:b<=x\/y<=a):Sort.SortedIn lN a b e:=λi j f g k=>by rw[c.2.1 i o!,c.2.1 j o!];exact h i j f g k
def Blk(s n:Nat)(d:Array NE):Prop:= ∀a b,Mul s a->b<=a+s->b<=n->Sort.SortedIn lN a b d
def ABt{d0:Array NE}{n:Nat}(hn:n=d0.size)(hd:n<=1048576):Aq (Ev d0.toList (n:Int)) λr=> ∃e:Array NE,r=e.toList/\wY 0 n d0 e:=by
 unfold Ev;refine AA (P:=λ(r:Int×List NE)=> ∃(a:Nat) (d:Array NE),r.1=a/\r.2=d.toList/\a<=n/\n<a+20/\Mul 20 a/\Sort.PermIn 0 n d0 d/\ ∀c,Mul 20 c->c<a->Sort.SortedIn lN c (c+20) d) ?_ ?_;refine AW (λ(s:Int×(Int×List NE))=> ∃(a:Nat) (d:Array NE),s.1=a/\s.2.1=((a+20:Nat):Int)/\s.2.2=d.toList/\a<=n/\Mul 20 a/\Sort.PermIn 0 n d0 d/\ ∀c,Mul 20 c->c<a->Sort.SortedIn lN c (c+20) d) (λs=>n-s.1.toNat) ⟨0,d0,rfl,rfl,rfl,Be _,Mul.zero,Sort.permIn_refl _ _ _,λc _ h=>absurd h o!⟩ ?_;rintro⟨Y,Z,s3⟩ ⟨a,d,q1,q2,q3,q4,q5,q6,q7⟩;dsimp only at q1 q2 q3;subst q1 q2 q3;have hz:d.size=n:=by rw[q6.1,hn]
 unfold Io;dsimp only;refine AC (λO=>?_) (λO=>AB ⟨a,d,rfl,rfl,q4,o!,q5,q6,q7⟩);have A:=Sort.insertionSort_holds tJ d a (a+20) o! o!;rw[AAV (d:=d) (k:=a) (m:=a+20) rfl rfl o! o! o!,AD];have j:Nat.beq (List.length (Sort.insertionSort lN d a (a+20)).toList) (List.length d.toList)=true:=by rw[Du,Du,A.1.1];exact Hn _
 have e1:wi (((a+20:Nat):Int)+20)=((a+20+20:Nat):Int):=by grind[mO]
 rw[j,cond_true,e1];refine AB ⟨⟨a+20,_,rfl,rfl,rfl,o!,q5.add,Sort.permIn_trans _ _ _ _ _ q6 (Sort.permIn_mono _ _ a (a+20) 0 n o! o! o! A.1),λc g w=>?_⟩,?_⟩;rcases Ay c a with l|l;exact WF (q7 c g l) A.1 (.inl (g.lt q5 l));have:c=a:=by rcases Ay a c with i|i;have:=q5.lt g i;omega;omega
 rw[this];exact A.2;show n-((a+20:Nat):Int).toNat<n-((a:Nat):Int).toNat
 omega;rintro⟨r1,r2⟩ ⟨a,d,q1,q2,q3,q4,q5,q6,q7⟩;dsimp only at q1 q2;subst q1 q2;have hz:d.size=n:=by rw[q6.1,hn]
 dsimp only;have A:=Sort.insertionSort_holds tJ d a n q3 o!;rw[AAV (d:=d) (k:=a) (m:=n) rfl rfl o! o! o!,AD];have j:Nat.beq (List.length (Sort.insertionSort lN d a n).toList) (List.length d.toList)=true:=by rw[Du,Du,A.1.1];exact Hn _
 rw[j,cond_true];have C:Sort.PermIn 0 n d0 (Sort.insertionSort lN d a n):=Sort.permIn_trans _ _ _ _ _ q6 (Sort.permIn_mono _ _ a n 0 n o! o! o! A.1);have u:Blk 20 n (Sort.insertionSort lN d a n):=λc o g w l=>by rcases Ay c a with i|i;exact ZW (WF (q7 c g i) A.1 (.inl (g.lt q5 i))) w;rcases Ay a c with E|E;have:=q5.lt g E;exact λx y H I J=>absurd J o!;grind[ZW]
 revert C u;generalize Sort.insertionSort lN d a n=d1;intro C u;refine AA (P:=λr=> ∃e:Array NE,r=e.toList/\wY 0 n d0 e) (AW (λ(s:Int×List NE)=> ∃(t:Nat) (e:Array NE),s.1=t/\s.2=e.toList/\1<=t/\t<=2097172/\Sort.PermIn 0 n d0 e/\Blk t n e) (λs=>n-s.1.toNat) ⟨20,d1,rfl,rfl,o!,o!,C,u⟩ ?_) λr h=>AB h;rintro⟨Y,Z⟩ ⟨t,e,H,I,J,g4,V,W⟩;dsimp only at H I;subst H I;unfold Ip;dsimp only;refine AC (λO=>?_) (λO=>AB ⟨e,rfl,V,W 0 n Mul.zero o! (Ap _)⟩);have U:wi (2*(t:Int))=((2*t:Nat):Int):=by rw[mO];omega
 have e3:wi ((t:Int)*2)=((2*t:Nat):Int):=by rw[mO];omega
 rw[U,e3];refine AA (P:=λ(r:Int×List NE)=> ∃(a:Nat) (f:Array NE),r.1=a/\r.2=f.toList/\a<=n/\n<a+2*t/\Mul (2*t) a/\Sort.PermIn 0 n d0 f/\(∀c,Mul (2*t) c->c<a->Sort.SortedIn lN c (c+2*t) f)/\ ∀c o,Mul t c->a<=c->o<=c+t->o<=n->Sort.SortedIn lN c o f) ?_ ?_;refine AW (λ(s:Int×(Int×List NE))=> ∃(a:Nat) (f:Array NE),s.1=a/\s.2.1=((a+2*t:Nat):Int)/\s.2.2=f.toList/\a<=n/\Mul (2*t) a/\Sort.PermIn 0 n d0 f/\(∀c,Mul (2*t) c->c<a->Sort.SortedIn lN c (c+2*t) f)/\ ∀c o,Mul t c->a<=c->o<=c+t->o<=n->Sort.SortedIn lN c o f) (λs=>n-s.1.toNat)
  ⟨0,e,rfl,k!,rfl,Be _,Mul.zero,V,λc _ h=>absurd h o!,λc o g _ w l=>W c o g w l⟩ ?_
 rintro⟨Y,Z,s3⟩ ⟨a,f,k1,G,T,X,p,D,K,B⟩;dsimp only at k1 G T;subst k1 G T;have S:f.size=n:=by rw[D.1,hn]
 unfold Iq;dsimp only;refine AC (λQ=>?_) (λQ=>AB ⟨a,f,rfl,rfl,X,o!,p,D,K,B⟩);have N:wi ((a:Int)+(t:Int))=((a+t:Nat):Int):=by rw[mO];omega
 have e5:wi (((a+2*t:Nat):Int)+((2*t:Nat):Int))=((a+2*t+2*t:Nat):Int):=by rw[mO];omega
 rw[N,U,e5];apply AA (AF4 (d:=f) (a:=a) (m:=a+t) (b:=a+2*t) o! o! o! o! (B a (a+t) p.half (Ap _) (Ap _) o!) (B (a+t) (a+2*t) p.half.add o! o! o!));rintro r ⟨q,rfl,v,F⟩;have j:Nat.beq (List.length q.toList) (List.length f.toList)=true:=by rw[Du,Du,v.1];exact Hn _
 rw[j,cond_true];refine AB ⟨⟨a+2*t,q,rfl,rfl,rfl,o!,p.add,Sort.permIn_trans _ _ _ _ _ D (Sort.permIn_mono _ _ a (a+2*t) 0 n o! o! o! v),λc g w=>?_,λc o g w l i=>WF (B c o g o! l i) v (.inr w)⟩,?_⟩;rcases Ay c a with l|l;exact WF (K c g l) v (.inl (g.lt p l));have:c=a:=by rcases Ay a c with i|i;have:=p.lt g i;omega;omega
 rw[this];exact F;show n-((a+2*t:Nat):Int).toNat<n-((a:Nat):Int).toNat
 omega;rintro⟨v1,v2⟩ ⟨a,f,k1,G,T,X,p,D,K,B⟩;dsimp only at k1 G;subst k1 G;have S:f.size=n:=by rw[D.1,hn]
 dsimp only;have N:wi ((a:Int)+(t:Int))=((a+t:Nat):Int):=by rw[mO];omega
 rw[N];have z: ∀q:Array NE,Sort.PermIn a n f q->Sort.SortedIn lN a n q->(∃(L:Nat) (M:Array NE),((2*t:Nat):Int)=L/\q.toList=M.toList/\1<=L/\L<=2097172/\Sort.PermIn 0 n d0 M/\Blk L n M)/\n-((2*t:Nat):Int).toNat<n-((t:Nat):Int).toNat:=λq v F=>by refine⟨⟨2*t,q,rfl,rfl,o!,o!,Sort.permIn_trans _ _ _ _ _ D (Sort.permIn_mono _ _ a n 0 n o! o! o! v),λc o g w l=>?_⟩,o!⟩;rcases Ay c a with i|i;exact ZW (WF (K c g i) v (.inl (g.lt p i))) w;rcases Ay a c with E|E;have:=p.lt g E;exact λx y H I J=>absurd J o!;rw[show c=a by omega];exact ZW F l
 refine AC (λR=>AA (AF4 (d:=f) (a:=a) (m:=a+t) (b:=n) o! o! o! o! (B a (a+t) p.half (Ap _) (Ap _) o!) (B (a+t) n p.half.add o! o! (Ap _))) ?_) (λR=>AB (z f (Sort.permIn_refl _ _ _) (B a n p.half (Ap _) o! (Ap _))));rintro r ⟨q,rfl,v,F⟩;have j:Nat.beq (List.length q.toList) (List.length f.toList)=true:=by rw[Du,Du,v.1];exact Hn _
 rw[j,cond_true];exact AB (z q v F)
def AFd{l:List NE}(h:l.length<=1048576):Aq (Cz l ()) λr=>r.Perm l/\r.Pairwise λx y=>lN y x=false:=by
 unfold Cz;apply AA (ABt (d0:=l.toArray) (n:=l.length) k! h);rintro r ⟨R,rfl,d,f⟩;have e:R.size=l.length:=by rw[d.1];simp
 have g:Nat.beq (List.length R.toList) (List.length l)=true:=by simp[e]
 rw[g,cond_true];refine AB ⟨?_,?_⟩;have:=d.2.2;rw[show R.extract 0 l.length=R by rw[<-e];exact mU,show l.toArray.extract 0 l.length=l.toArray by rw[show l.length=l.toArray.size by simp];exact mU]at this;exact this;rw[Hl];intro i j k m b;have a:i<R.size:=by simpa using k
 have c:j<R.size:=by simpa using m
 have:=f i j (Be _) b o!;rw[getElem!_pos R j c,getElem!_pos R i a]at this;simpa using this
def AED(l:List NE):Prop:= ∀x∈l,∀y∈l,x≠y->x.1.2.2.1=y.1.2.2.1->x.1.2.1<y.1.1\/y.1.2.1<x.1.1
def AFW{N a:List NE}(W:N.length=a.length)(G:a.length≤256)(I: ∀e∈a,1≤e.1.1∧e.1.1≤e.1.2.1∧e.1.2.1≤1099511627776∧0≤e.1.2.2.1)(P:a.Pairwise λx y=>lN y x=false)(hn:a.Nodup)(O:AED a):
  Aq (Ah (S6 N a) (0,((-1),(0,([],[]))))) λr=>r=(a.map (·.1),a.map (·.2)):=by
 refine AW (λ(s:Int×(Int×(Int×(List AQ×List Int))))=> ∃k:Nat,s.1=k/\k<=a.length/\s.2.2.2=((a.take k).map (·.1),(a.take k).map (·.2))/\((k=0/\s.2.1= -1)\/ ∃e,0<k/\a[k-1]? =some e/\s.2.1=e.1.2.2.1/\s.2.2.1=e.1.2.1)) (λs=>a.length-s.1.toNat) ⟨0,rfl,Be _,rfl,.inl ⟨rfl,rfl⟩⟩ ?_;rintro⟨Y,R,Z,s4⟩ ⟨k,q1,q2,q3,q4⟩;dsimp only at q1 q3 q4;subst q1 q3;unfold S6;dsimp only;refine AC (λw=>?_) (λw=>AB ?_)
 ·simp only[len]at w;refine AA (AI) λv8 _=>?_;refine AA (AI) λv h=>?_;have z:a[k]? =some v:=by simpa using h.1
  obtain⟨S,T,U,V⟩:=I v h.2;have C:a.take (k+1)=a.take k++[v]:=by rw[C3,z];rfl
  have X:(a.take k).length<=256:=by rw[BQ];omega
  have j: ∀D:Int,D=v.1.2.2.1→Aq (Option.bind (app ((a.take k).map (·.1)) [v.1]) λf=>Option.bind (app ((a.take k).map (·.2)) [v.2]) λg=>some (Step.next (wi ((k:Int)+1),(D,(v.1.2.1,(f,g)))))) λ(st:Step (Int×(Int×(Int×(List AQ×List Int)))) (List AQ×List Int))=>match st with
    | .next i=>(∃d:Nat,i.1=d/\d<=a.length/\i.2.2.2=((a.take d).map (·.1),(a.take d).map (·.2))/\((d=0/\i.2.1= -1)\/ ∃e,0<d/\a[d-1]? =some e/\i.2.1=e.1.2.2.1/\i.2.2.1=e.1.2.1))/\a.length-i.1.toNat<a.length-((k:Nat):Int).toNat
    | .done r=>r=(a.map (·.1),a.map (·.2)):=λD A=>by
   refine AA (AZ w!) λf t=>?_;refine AA (AZ w!) λg u=>AB ⟨⟨k+1,?_,o!,?_,.inr ⟨v,o!,by rw[lL];exact z,A,rfl⟩⟩,?_⟩;show wi ((k:Int)+1)=_;rw[wip];show(f,g)=_;rw[t.1,u.1,C,Ki,Ki];rfl;show a.length-(wi ((k:Int)+1)).toNat<a.length-((k:Nat):Int).toNat
   rw[wip];omega
  have b: ∀n:Int,n<v.1.1->Nk (v.1,n)=some v.1:=λn hn=>by unfold Nk;have:decide (v.1.1>n)=true:=decide_eq_true hn;dsimp only;rw[this,cond_true]
  refine AJ (λm=>?_) (λc=>?_);refine AC (λq=>absurd q o!) (λ_=>?_);rw[b 0 o!,AD];obtain⟨st,E,F⟩:=j v.1.2.2.1 rfl;exact⟨st,E,by cases st<;>exact F⟩;rcases q4 with⟨_,q4⟩|⟨e,q5,q6,q7,q8⟩;exact absurd (c.trans q4) o!;have B:e.1.2.1<v.1.1:=by
   have H:=BN q6;obtain⟨J,K⟩:=HJ.1 q6;obtain⟨L,M⟩:=HJ.1 z;have m:e≠v:=λp=>by have:=(Hl.1 (Kk.1 hn)) (k-1) k J L o!;rw[K,M]at this;exact this p
   have o:=(Hl.1 P) (k-1) k J L o!;rw[K,M]at o;have Q:=I e H;have l:e.1.2.2.1=v.1.2.2.1:=by rw[<-q7];exact c.symm
   rcases O e H v h.2 m l with p|p;exact p;simp only[lN,decide_eq_false_iff_not]at o;omega
  rw[q8];refine AC (λq=>absurd q o!) (λ_=>?_);rw[b _ B,AD];obtain⟨st,E,F⟩:=j R c.symm;exact⟨st,E,by cases st<;>exact F⟩
 simp only[len]at w;rw[BO o!]
noncomputable def intR(a:AK)(f:Au):Option NE:=
 match Gq (a,f)with
 |some (r,true)=>some (r,f.2.1)
 |_=>none
noncomputable def D4(a:AK):List NE:=a.2.2.1.filterMap (intR a)
def AFV{x:AK}(h:VB x)(t:DS x):Aq (Ah (S5 x) (0,[])) λr=>r=D4 x/\r.length<=256/\ ∀e∈r,aw e.1:=by
 obtain⟨⟨v,w,y,n,z,A,B⟩,a1,a2,a3,a4,a5,a6⟩:=id h;refine AW (λ(s:Int×NL)=>0<=s.1/\s.1<=x.2.2.1.length/\s.2.length<=s.1/\(∀e∈s.2,aw e.1)/\s.2=(x.2.2.1.take s.1.toNat).filterMap (intR x)) (λ(s:Int×NL)=>((x.2.2.1.length:Int)-s.1).toNat) ⟨Ae _,d!,k!,λe a=>by simp at a,k!⟩ (λs q=>?_);obtain⟨u,C,D,j,k⟩:=q;unfold S5;refine AC (λf=>?_) (λf=>AB ⟨?_,o!,j⟩);simp only[len]at f;have e:=AY (x:=s.1+1);rw[e];refine AA (AI u f) λg m=>?_;have c:x.2.2.1.take (s.1+1).toNat=x.2.2.1.take s.1.toNat++[g]:=by rw[show(s.1+1).toNat=s.1.toNat+1 by omega,C3,m.1];rfl
 refine D5 (kZ n (t _ m.2)) λl d p=>AL (λb=>?_) (λb=>AB ⟨⟨d!,d!,d!,j,?_⟩,d!⟩);have hr:intR x g=some (l.1,g.2.1):=by unfold intR;rw[d];obtain⟨r,o⟩:=l;dsimp only at b;subst b;rfl
 refine AA (AZ w!) λE i=>AB ⟨⟨d!,d!,?_,λe a=>?_,?_⟩,d!⟩;have:=i.2.1;simp only[Bn,BV]at this;dsimp only;omega;dsimp only at a;rw[i.1]at a;rcases An.1 a with a|a;exact j e a;rw[A6.1 a];exact p b;dsimp only;rw[c,uB,i.1,k];simp[hr];have hr:intR x g=none:=by unfold intR;rw[d];obtain⟨r,o⟩:=l;dsimp only at b;subst b;rfl
 dsimp only;rw[c,uB,k];simp[hr];simp only[len]at f;rw[k,BO o!];rfl
def ACI{x:AK}(h:VB x)(m:DS x)(hn:(D4 x).Nodup)(b:AED (D4 x)):Aq (II x) λr=> ∃v:List NE,v.Perm (D4 x)/\(v.Pairwise λp q=>lN q p=false)/\r=(v.map (·.1),v.map (·.2))/\v.length<=256/\ ∀e∈v,aw e.1:=by
 unfold II;refine AA (Iz h) λt j=>?_;rw[j,Cw,cond_false];refine AA (AFV h m) λu k=>?_;obtain⟨rfl,g,s⟩:=k;refine AA (AFd o!) λf a=>?_;have i:=a.1.length_eq;have l:Nat.beq (List.length f) (List.length (D4 x))=true:=by rw[i];exact Hn _
 rw[l,cond_true];have c: ∀e∈f,aw e.1:=λe d=>s e (a.1.mem_iff.1 d);refine AA (AFW i.symm o! (λe d=>?_) a.2 (a.1.nodup_iff.2 hn) (λp n q o=>b p (a.1.mem_iff.1 n) q (a.1.mem_iff.1 o))) λr hr=>AB ⟨f,a.1,a.2,hr,o!,c⟩;have:=c e d;exact⟨this.1,this.2.1,this.2.2.1,this.2.2.2.1⟩
def ww(l:List (Int×Int))(n:Int):Prop:= ∃s∈l,s.1<=n/\n<=s.2
def ACu{l:List (Int×Int)}{u b:Int}(p:l.length<=16777216):Aq (Ah (S7 (l,u)) (0,b)) λr=>(∀q,r= .inl q->0<=q.1/\q.1<l.length/\q.2=b/\ ∀e,l[q.1.toNat]? =some e->e.1<=b/\b<=e.2)/\(∀q,r= .inr q->q=b/\ ¬ww l b):=by refine AW (λ(s:Int×Int)=>0<=s.1/\s.1<=l.length/\s.2=b/\ ∀e∈l.take s.1.toNat,¬(e.1<=b/\b<=e.2)) (λ(s:Int×Int)=>((l.length:Int)-s.1).toNat) ⟨Ae _,d!,rfl,k!⟩ (λt n=>?_);obtain⟨k,v,m,g⟩:=n;unfold S7;refine AC (λd=>?_) (λd=>AB ⟨λu c=>(by cases c),λu c=>?_⟩);simp only[len]at d;have e:=AY (x:=t.1+1);rw[e];refine AA (AI k d) λw h=>?_;unfold UT;rw[has_eq,AD,AD,m];refine AL (λf=>AB ⟨λu c=>?_,λu c=>(by cases c)⟩) (λi=>AB ⟨⟨d!,d!,rfl,λe a=>?_⟩,d!⟩);cases c;refine⟨k,d,rfl,λe a=>?_⟩;dsimp only at a;rw[h.1]at a;injection a with a;subst a;unfold Pn at f;simp only[BY,decide_eq_true_eq]at f;exact f;dsimp only at a;rw[show(t.1+1).toNat=t.1.toNat+1 by omega,C3,h.1]at a;rcases An.1 a with a|a;exact g e a;rw[lR,A6]at a;subst a;intro j;unfold Pn at i;simp only[Bool.and_eq_false_iff,decide_eq_false_iff_not]at i;omega;cases c;simp only[len]at d;rw[BO o!]at g;exact⟨m,by rw[show ww l b↔ ∃s∈l,s.1<=b/\b<=s.2 from Iff.rfl];rintro⟨s,o,j⟩;exact g s o j⟩
def yr{l:List (Int×Int)}{u:Int}(h:SpL l)(w:0<=u)(A:u<=1099511627776):Aq (ME (l,u)) λr=>0<=r/\r<=u/\(∀n,r<n->n<=u->ww l n)/\(r=0\/ ¬ww l r):=by obtain⟨a1,a2⟩:=h;unfold ME;refine AA (P:=λr=>0<=r/\r<=u/\(∀n,r<n->n<=u->ww l n)/\(r=0\/ ¬ww l r)) ?_ λr hr=>AB hr;refine AW (λ(s:Int)=>0<=s/\s<=u/\ ∀n,s<n->n<=u->ww l n) (λ(s:Int)=>s.toNat) ⟨w,Ae _,λn k m=>by dsimp only at k;omega⟩ (λs v=>?_);obtain⟨p,t,g⟩:=v;unfold X1;refine AA (ACu (b:=s) a1) λr hr=>A9 (λq f=>?_) (λq f=>?_);obtain⟨i,j,y,z⟩:=hr.1 q f;refine AC (λd=>absurd d o!) (λ_=>AC (λd=>AB ?_) (λB=>?_));rw[y]at d⊢;exact⟨p,t,g,.inl o!⟩;refine AA (AI i j) λa c=>?_;have q1:=z a c.1;have q2:=a2 a c.2;have e:=AY (x:=a.1-1);rw[e];refine AB ⟨⟨o!,o!,λn k m=>?_⟩,o!⟩;rcases jg s n with o|o;exact g n o m;exact⟨a,c.2,o!⟩;obtain⟨i,j⟩:=hr.2 q f;rw[i];exact AB ⟨p,t,g,.inr j⟩
def uQ{x:AK}(h:VB x):x.2.2.1.Pairwise λf g=>f.2.1<g.2.1:=by
 have c:=h.2.2.2.2.2.2.2;rw[Hl];have step: ∀n i:Nat,∀(a:i<x.2.2.1.length) (b:i+1+n<x.2.2.1.length),(x.2.2.1[i]).2.1<(x.2.2.1[i+1+n]).2.1:=by
  intro n;induction n with
  |zero=>intro i a b;exact c i _ _ o! (Av a) (Av b)
  |succ n m=>intro i a b;have d:=m i a o!;have k:=c (i+1+n) _ _ o! (Av o!) (Av b);exact Int.lt_trans d k
 intro i j a b l;have:=step (j-(i+1)) i a o!;have e:i+1+(j-(i+1))=j:=o!
 simp only[e]at this;exact this
theorem uy{x:AK}(h:VB x):((D4 x).map (·.2)).Pairwise (· < ·):=by
 unfold D4;rw[Sq,List.pairwise_filterMap];refine(uQ h).imp λ{f g} b y a z c=>?_;have one: ∀(f:Au) (y:NE),intR x f=some y->y.2=f.2.1:=λf y a=>by unfold intR at a;split at a;injection a with a;rw[<-a];cases a
 rw[one f y a,one g z c];exact b
def Tw{x:AK}(h:VB x):(D4 x).Nodup:=by have:=uy h;rw[Sq]at this;exact Kk.2 (this.imp λh e=>by rw[e]at h;omega)
def AH3{a:AK}{l:Ad}{p i j:Int}{Q:List (Int×Int)}{d:Int×Int}{r:AQ}{W:List (Int×EN)}{u:Int}{P:EN→Prop}(hr:r.2.2.2.2.2.length≤4096)(Y:Q[0]? =some d)(hm:QC W P)(hn:0≤u∧u≤1099511627776)
  (S: ∀v∈r.2.2.2.2.2,K6 p i j v=true->(Pn d v.1=true->P v)/\ ∀e,(P e\/(e∈r.2.2.2.2.2/\K6 p i j e=true))->e.1=v.1->e=v):
  Aq (Ah (WU (a,(l,(p,(i,j)))) Q r) (0,(W,(u,([],0))))) λq=> ∃m n,q= .inl (m,(n,([],0)))/\QC m (λe=>P e\/(e∈r.2.2.2.2.2/\K6 p i j e=true))/\n=u+((r.2.2.2.2.2.filter λe=>K6 p i j e&&Pn d e.1).length:Int):=by
 generalize hL:r.2.2.2.2.2=L at hr S⊢;refine AW (λ(s:Int×(List (Int×EN)×(Int×(List EN×Int))))=>0<=s.1/\s.1<=L.length/\s.2.2.2=([],0)/\s.2.2.1=u+(((L.take s.1.toNat).filter λe=>K6 p i j e&&Pn d e.1).length:Int)/\QC s.2.1 λe=>P e\/(e∈L.take s.1.toNat/\K6 p i j e=true)) (λs=>((L.length:Int)-s.1).toNat)
  ⟨Ae _,d!,rfl,k!,hm.congr λe=>k!⟩ (λs Z=>?_)
 obtain⟨c,E,F,s4⟩:=s;obtain⟨U,i2,V,C,z⟩:=Z;dsimp only at U i2 V C z;subst V;unfold WU;dsimp only;rw[hL];refine AC (λf=>?_) (λf=>AB ?_);simp only[len]at f;have X:=AY (x:=c+1);rw[X];refine AA (AI U f) λv R=>?_;rw[lZ,AD];have o:L.take (c+1).toNat=L.take c.toNat++[v]:=by rw[show(c+1).toNat=c.toNat+1 by omega,C3,R.1];rfl
 have k:K6 p i j v=false->(0<=c+1/\c+1<=L.length/\(([],0):List EN×Int)=([],0)/\F=u+(((L.take (c+1).toNat).filter λe=>K6 p i j e&&Pn d e.1).length:Int)/\QC E λe=>P e\/(e∈L.take (c+1).toNat/\K6 p i j e=true))/\((L.length:Int)-(c+1)).toNat<((L.length:Int)-c).toNat:=λy=>by
  refine⟨⟨o!,o!,rfl,?_,?_⟩,o!⟩;rw[o,Ix,C];simp[y];rw[o];refine z.congr λe=>⟨?_,?_⟩
  rintro(h|h);exact .inl h;exact .inr ⟨An.2 (.inl h.1),h.2⟩;rintro(h|⟨h,w⟩);exact .inl h;rcases An.1 h with h|h;exact .inr ⟨h,w⟩;rw[A6.1 h,y]at w;cases w
 refine AL (λG=>?_) (λG=>AB (k (by simp[K6,G])));refine AL (λH=>?_) (λH=>AB (k (by simp[K6,H])));refine AL (λI=>?_) (λI=>AB (k (by unfold K6;rw[I];simp)));refine AO (λJ=>AB (k (by unfold K6;rw[J];simp))) (λJ=>?_);have y:K6 p i j v=true:=by unfold K6;rw[G,H,I,J];rfl
 have O:ix Q 0=some d:=by unfold ix;rw[if_pos (Ae _)];exact Y
 rw[O,AD,has_eq,AD];obtain⟨M,A⟩:=S v R.2 y;have t:QC (Po v.1 v E) λe=>P e\/(e∈L.take (c+1).toNat/\K6 p i j e=true):=by
  rw[o];refine z.put.congr λe=>⟨?_,λh=>?_⟩
  rintro(rfl|⟨h|h,_⟩);exact .inr ⟨An.2 (.inr (A6.2 rfl)),y⟩;exact .inl h;exact .inr ⟨An.2 (.inl h.1),h.2⟩;by_cases g:e=v;exact .inl g;rcases h with h|⟨h,w⟩;exact .inr ⟨.inl h,λN=>g (A e (.inl h) N)⟩;rcases An.1 h with h|h;exact .inr ⟨.inr ⟨h,w⟩,λN=>g (A e (.inr ⟨Fa h,w⟩) N)⟩;exact absurd (A6.1 h) g
 have T:(((L.take c.toNat).filter λe=>K6 p i j e&&Pn d e.1).length:Int)<=4096:=by have h1:=Fy (λe=>K6 p i j e&&Pn d e.1) (L.take c.toNat);have h3:=List.length_take_le' c.toNat L;omega
 have K:=AY (x:=F+1);rw[K];have B: ∀b:Bool,Pn d v.1=b->u+((((L.take (c+1).toNat).filter λe=>K6 p i j e&&Pn d e.1).length:Nat):Int)=F+(if b=true then 1 else 0):=λb hb=>by rw[o,Ix,Ac,C];cases b<;>simp[y,hb]<;>omega
 refine AL (λD=>?_) (λD=>AB ⟨⟨d!,d!,rfl,?_,t⟩,d!⟩);have hg:K1 v.1 E=some v:=z.get (.inl (M D));rw[hg];simp only[Option.isSome_some,Cw,cond_false,lP,beq_self_eq_true,XT];refine AB ⟨⟨d!,d!,rfl,?_,t⟩,d!⟩;rw[B true D];rfl;rw[B false D];simp;simp only[len]at f;rw[BO o!]at C z;exact⟨E,F,rfl,z,C⟩
def J0(low:Int)(rs:List AQ):List EN:=(rs.filter λr=>r.2.2.1==low).flatMap λr=>r.2.2.2.2.2
def AH2{a:AK}{l:Ad}{p i j:Int}{X:List (Int×Int)}{sp:Int×Int}{b:Int×(Int×Bool)}{c:List AQ}{E:List Int}{W:List (Int×EN)}{P:EN→Prop}(Z:X[0]? =some sp)(hm:QC W P)
  (U:c.length=E.length) (T:c.length<=256) (hr: ∀r∈c,r.2.2.2.2.2.length<=4096)
  (hc: ∀v∈J0 b.1 c,K6 p i j v=true->(Pn sp v.1=true->P v)/\ ∀e,(P e\/(e∈J0 b.1 c/\K6 p i j e=true))->e.1=v.1->e=v):
  Aq (Ah (WT (a,(l,(p,(i,j)))) X b (c,E)) (0,(W,(0,([],0))))) λq=> ∃m n,q= .inl (m,(n,([],0)))/\QC m (λe=>P e\/(e∈J0 b.1 c/\K6 p i j e=true))/\n=(((J0 b.1 c).filter λe=>K6 p i j e&&Pn sp e.1).length:Int):=by
 have B: ∀k:Nat,(J0 b.1 (c.take k)).length<=k*4096:=by
  intro k;induction k with
  |zero=>simp[J0]
  |succ k ih=>rw[C3];grind[J0,List.length_append,Nat.succ_mul,Nat.add_le_add]
 refine AW (λ(s:Int×(List (Int×EN)×(Int×(List EN×Int))))=>0<=s.1/\s.1<=c.length/\s.2.2.2=([],0)/\s.2.2.1=(((J0 b.1 (c.take s.1.toNat)).filter λe=>K6 p i j e&&Pn sp e.1).length:Int)/\QC s.2.1 λe=>P e\/(e∈J0 b.1 (c.take s.1.toNat)/\K6 p i j e=true)) (λs=>((c.length:Int)-s.1).toNat)
  ⟨Ae _,d!,rfl,by simp[J0],hm.congr λe=>by simp[J0]⟩ (λs hI=>?_)
 have⟨d,s2,S,s4⟩:=s;have⟨R,i2,V,C,D⟩:=hI;dsimp only at R i2 V C D;subst V;unfold WT;dsimp only;refine AC (λo=>?_) (λo=>AB ?_);simp[len]at o;have Y:=AY (x:=d+1);rw[Y];refine AA (AI R o) λv G=>?_;have t:c.take (d+1).toNat=c.take d.toNat++[v]:=by rw[show(d+1).toNat=d.toNat+1 by omega,C3,G.1];rfl
 refine AL (λF=>?_) (λF=>AB ⟨⟨d!,d!,rfl,?_,?_⟩,d!⟩);refine AA (AI R) λad _=>?_;have u: ∀e∈v.2.2.2.2.2,e∈J0 b.1 c:=λe g=>Hj.2 ⟨v,BW.2 ⟨G.2,F⟩,g⟩;have z: ∀e∈J0 b.1 (c.take d.toNat),e∈J0 b.1 c:=λe g=>by have⟨r,L,M⟩:=Hj.1 g;have⟨N,O⟩:=BW.1 L;exact Hj.2 ⟨r,BW.2 ⟨Fa N,O⟩,M⟩
 have K:0<=S/\S<=1099511627776:=by
  have h1:=Fy (λe=>K6 p i j e&&Pn sp e.1) (J0 b.1 (c.take d.toNat));have h2:=B d.toNat
  omega
 have f:J0 b.1 (c.take d.toNat++[v])=J0 b.1 (c.take d.toNat)++v.2.2.2.2.2:=by grind[J0]
 refine AA (AH3 (hr v G.2) Z D K λw hw Q=>?_) ?_;have⟨q1,q2⟩:=hc w (u w hw) Q;refine⟨λh=>.inl (q1 h),λe g H=>q2 e ?_ H⟩;rcases g with(g|⟨g,y⟩)|⟨g,y⟩;exact .inl g;exact .inr ⟨z e g,y⟩;exact .inr ⟨u e g,y⟩;rintro q ⟨m,n,rfl,I,J⟩;refine BL (AB ⟨⟨d!,d!,rfl,?_,?_⟩,d!⟩);dsimp only;rw[t,f,J,C,Ix,Ac];omega;dsimp only;rw[t,f];refine I.congr λe=>?_;rw[An];constructor;rintro((h|⟨h,A⟩)|⟨h,A⟩);exact .inl h;exact .inr ⟨.inl h,A⟩;exact .inr ⟨.inr h,A⟩;rintro(h|⟨h|h,A⟩);exact .inl (.inl h);exact .inl (.inr ⟨h,A⟩);exact .inr ⟨h,A⟩;have f:J0 b.1 (c.take d.toNat++[v])=J0 b.1 (c.take d.toNat):=by unfold J0;rw[Ix,XX];simp[F]
 dsimp only;rw[t,f];exact C;have f:J0 b.1 (c.take d.toNat++[v])=J0 b.1 (c.take d.toNat):=by unfold J0;rw[Ix,XX];simp[F]
 dsimp only;rw[t,f];exact D;simp[len]at o;rw[BO o!]at C D;exact⟨s2,S,rfl,D,C⟩
def XM{l:List EN}:(l.map (·.1)).Nodup-> ∀{a b:EN},a∈l->b∈l->a.1=b.1->a=b:=by
 induction l with
 |nil=>intro _ a b d;cases d
 |cons p r f=>intro e a b d c h;rw[Bl,Gk]at e;rcases Aw.1 d with d|d;rcases Aw.1 c with c|c;rw[d,c];exact absurd (by rw[<-d,h];exact Sp c) e.1;rcases Aw.1 c with c|c;exact absurd (by rw[<-c,<-h];exact Sp d) e.1;exact f e.2 d c h
def AFB{B:Nat}(j:CP B){l:List EN}(h:l.length<=B)(k:l.length<=16777216)(hn:(l.map (·.1)).Nodup):Aq (su C6 l) λr=>r.Perm l/\r.Pairwise λa b=>a.1<b.1:=by
 have n:=List.pairwise_mergeSort (le:=λa b:EN=>decide (a.1<=b.1)) (λa b c o p=>by simp only[decide_eq_true_eq]at*;omega) (λa b=>by simp only[XV,decide_eq_true_eq];omega) l;have i:(l.mergeSort λa b:EN=>decide (a.1<=b.1)).Perm l:=List.mergeSort_perm _ _;have g:(l.mergeSort λa b:EN=>decide (a.1<=b.1)).Pairwise λa b=>a.1<=b.1:=n.imp λh=>of_decide_eq_true h;have key: ∀m,l.Perm m->C6 m ()=some (l.mergeSort λa b:EN=>decide (a.1<=b.1)):=λm f=>by have d:(m.map (·.1)).Nodup:=(f.map (·.1)).nodup_iff.1 hn;unfold C6 yC;rw[if_pos ⟨d,by rw[<-f.length_eq];exact k⟩,<-tG (key:=λe:EN=>e.1) d (i.trans f) g]
 refine⟨_,?_,i,?_⟩;unfold su;rw[if_pos];exact key l (oA l);intro m f;rw[key m f,key l (oA l)];have d:=(i.map (·.1)).nodup_iff.2 hn;rw[Kk,Sq]at d;exact(g.and d).imp λh=>o!
def ul: ∀(n:Nat) (i:Int) (l:List Int),l.Nodup->(∀x∈l,i<x/\x<=i+n)->l.length<=n
 |0,i,l,_,h=>by
  cases l with
  |nil=>exact Ap _
  |cons a r=>have:=h a (Aw.2 (.inl rfl));omega
 |n+1,i,l,hl,h=>by
  have d:=ul n i (l.erase (i+(n+1:Nat))) (hl.erase _) λx c=>by have b:=(hl.mem_erase_iff).1 c;have:=h x b.2;have:=b.1;omega
  have e:l.length<=(l.erase (i+(n+1:Nat))).length+1:=by rw[List.length_erase];split<;>omega
  omega
def Xg(i:Int)(s:List EN):Prop:= ∀(k:Nat) (e:EN),s[k]? =some e->(k=0->e.2.2.2.2.1<=i)/\ ∀f,0<k->s[k-1]? =some f->e.2.2.2.2.1=f.1
def AH1{a:AK}{l:Ad}{p i j:Int}{s:List EN}(O:s.length≤16777216):
  Aq (Ah (PL (a,(l,(p,(i,j)))) s) (0,([],0))) λr=>(r= .inl ([],0)/\Xg i s)\/(r= .inr ([],13)/\ ¬Xg i s):=by
 refine AW (λ(t:Int×(List EN×Int))=>0<=t.1/\t.1<=s.length/\t.2=([],0)/\ ∀(k:Nat) (e:EN),k<t.1->s[k]? =some e->(k=0->e.2.2.2.2.1<=i)/\ ∀f,0<k->s[k-1]? =some f->e.2.2.2.2.1=f.1) (λt=>((s.length:Int)-t.1).toNat)
  ⟨Ae _,d!,rfl,λk e F=>(by dsimp only at F;omega)⟩ (λt K=>?_)
 obtain⟨b,P⟩:=t;obtain⟨C,L,G,D⟩:=K;dsimp only at C L G D;subst G;unfold PL;dsimp only;refine AC (λn=>?_) (λn=>AB (.inl ⟨rfl,λk e d=>D k e ?_ d⟩));simp only[len]at n;have I:=AY (x:=b+1);rw[I];refine AA (AI C n) λM _=>AA (AI C n) λv h=>?_;have o:((b=0->v.2.2.2.2.1<=i)/\ ∀f,0<b->s[b.toNat-1]? =some f->v.2.2.2.2.1=f.1)->(0<=b+1/\b+1<=s.length/\(([],0):List EN×Int)=([],0)/\ ∀(k:Nat) (e:EN),k<b+1->s[k]? =some e->(k=0->e.2.2.2.2.1<=i)/\ ∀f,0<k->s[k-1]? =some f->e.2.2.2.2.1=f.1)/\((s.length:Int)-(b+1)).toNat<((s.length:Int)-b).toNat:=λE=>by
  refine⟨⟨o!,o!,rfl,λk e F d=>?_⟩,o!⟩;by_cases B:(k:Int)<b;exact D k e B d;have H:k=b.toNat:=o!
  subst H;rw[h.1]at d;injection d with d;subst d;exact⟨λy=>E.1 o!,λf y g=>E.2 f o! g⟩
 apply AP<;>intro y;refine AC (λu=>AB (.inr ⟨rfl,λA=>?_⟩)) (λu=>?_);have:=(A b.toNat v h.1).1 o!;omega;refine AC (λm=>absurd m o!) (λ_=>AB (o ⟨λ_=>o!,λf g=>absurd g o!⟩));refine AC (λu=>?_) (λu=>absurd u o!);have w:=AY (x:=b-1);rw[w];refine AA (AI) λN _=>AA (AI) λq z=>?_;have c:s[b.toNat-1]? =some q:=by rw[show b.toNat-1=(b-1).toNat by omega];exact z.1
 refine AJ (λm=>AB (.inr ⟨rfl,λA=>m ((A b.toNat v h.1).2 q o! c)⟩)) (λm=>AB (o ⟨λJ=>absurd J y,λf _ g=>?_⟩));rw[c]at g;injection g with g;rw[<-g];exact m;simp only[len]at n;have:=(HJ.1 d).1;omega
def AH4{a:AK}{l:Ad}{p i j:Int}{s:List EN}(b:s.length≤16777216):
  Aq (Ah (PL (a,(l,(p,(i,j)))) s) (0,([],0))) λr=>(r= .inl ([],0)/\Xg i s)\/(r= .inr ([],13)/\ ¬Xg i s):=AH1 b
def Uo(l:Ad)(low:Int)(rs:List AQ):List (Int×Int):=(l.1,l.1+l.2.1.length-1)::(rs.filter λr=>r.2.2.1==low).map λr=>(r.1,r.2.1)
def yE{a:AK}{l:Ad}{p:Int}{e:Int×(Int×Bool)}{b:List AQ}{d:List Int}(B:Do l)(m:GP (a,p)=some e)(C:e.2.2=true)(n:II a=some (b,d))(u:b.length=d.length)(q:b.length≤256):
  PN (a,(l,p))=some (Uo l e.1 b):=by
 obtain⟨G,y,z⟩:=Vg B;unfold PN;dsimp only;rw[y,AD,m,AD,C,Cw,cond_false,n,AD,z];have g:Aq (Ah (S8 e (b,d)) (0,([(l.1,l.1+l.2.1.length-1)]:List (Int×Int)))) λr=>r=Uo l e.1 b:=by
  refine AW (λ(t:Int×List (Int×Int))=>0<=t.1/\t.1<=b.length/\t.2.length<=t.1.toNat+1/\t.2=Uo l e.1 (b.take t.1.toNat)) (λt=>((b.length:Int)-t.1).toNat) ⟨Ae _,d!,k!,rfl⟩ (λt A=>?_);obtain⟨i,F⟩:=t;obtain⟨o,D,E,k⟩:=A;dsimp only at o D E k;unfold S8;dsimp only;refine AC (λj=>?_) (λj=>AB ?_);simp only[len]at j;have w:=AY (x:=i+1);rw[w];refine AA (AI o j) λv h=>?_;have f:b.take (i+1).toNat=b.take i.toNat++[v]:=by rw[show(i+1).toNat=i.toNat+1 by omega,C3,h.1];rfl
  refine AL (λc=>?_) (λc=>AB ⟨⟨d!,d!,d!,?_⟩,d!⟩);refine AA (AI o) λH _=>AA (AZ (by simp only[Bn,BV];omega)) λI s=>AB ⟨⟨d!,d!,?_,?_⟩,d!⟩;have:=s.2.1;simp only[Bn,BV]at this;dsimp only;omega;dsimp only;rw[s.1,k,f];unfold Uo;rw[Ix,Ki,uD (by exact c)];rfl;dsimp only;rw[k,f];unfold Uo;rw[Ix,uC (by rw[c];decide)];simp;simp only[len]at j;rw[k,BO o!]
 obtain⟨r,q1,q2⟩:=g;rw[q1,AD,q2]
def nX{l:List EN}:(l.map (·.1)).Nodup->l.Nodup:=by
 induction l with
 |nil=>intro _;exact QG
 |cons p r b=>intro a;rw[Bl,Gk]at a;exact Gk.2 ⟨λh=>a.1 (Sp h),b a.2⟩
def Do.nodup{l:Ad}(h:Do l):(l.2.1.map (·.1)).Nodup:=by obtain⟨l1,l2,i,j,k,a⟩:=h;rw[Kk,Sq,Hl];intro x y b d c g;have e:=(a x _ (Av b)).1;have f:=(a y _ (Av d)).1;omega
def Do.has{l:Ad}(h:Do l){e:EN}(a:e∈l.2.1):Pn (l.1,l.1+l.2.1.length-1) e.1=true:=by obtain⟨k,b,a⟩:=VS.1 a;have c:=(h.2.2.2.2.2 k e (by rw[<-a];exact Av b)).1;unfold Pn;simp only[BY,decide_eq_true_eq];omega
structure AFm(l:Ad)(low p i j:Int)(rs:List AQ):Prop where
 fromLog: ∀f∈J0 low rs,K6 p i j f=true->Pn (l.1,l.1+l.2.1.length-1) f.1=true->f∈l.2.1
 inRuns: ∀e∈l.2.1,K6 p i j e=true->((rs.filter λr=>r.2.2.1==low).any λr=>Pn (r.1,r.2.1) e.1)=true->e∈J0 low rs
 own: ∀r∈rs,∀f∈r.2.2.2.2.2,Pn (r.1,r.2.1) f.1=true
 once:((J0 low rs).map (·.1)).Nodup
def AIX{B:Nat}{a:AK}{l:Ad}{p i j R:Int}{c:Int×(Int×Bool)}{b:List AQ}{P:List Int}(V:CP B)(hB:B≤16777216)(ao:j-i≤B)(hi:0≤i)(hj:i≤j)
  (h:VB a) (D:Do l) (hp:0<=p/\p<a.2.1) (L:GP (a,p)=some c) (ht:c.2.2=true) (N:II a=some (b,P)) (w:b.length=P.length) (t:b.length<=256)
  (hr: ∀r∈b,r.2.2.2.2.2.length<=4096) (W:ME (Uo l c.1 b,j)=some R) (z:AFm l c.1 p i j b):
  Aq (Hs (a,(l,(p,(i,j))))) λr=>(R>i/\r=([],42))\/(R<=i/\ ∃s:List EN,(s.Pairwise λx y=>x.1<y.1)/\(∀e,e∈s↔(e∈l.2.1\/e∈J0 c.1 b)/\K6 p i j e=true)/\((Xg i s/\r=(s,0))\/(¬Xg i s/\r=([],13)))):=by
 have K:=D.nodup;unfold Hs;dsimp only;refine AA (ZO (x:=(a,(l,(p,i)))) h D ⟨hp.1,hp.2,hi⟩) λv0 h0=>AJ (λk=>absurd h0 k) (λ_=>AC (λk=>absurd k o!) (λ_=>?_));rw[yE D L ht N w t,AD,W,AD];refine AC (λhf=>AB (.inl ⟨hf,rfl⟩)) (λhf=>AA (AHz D (by simp[Uo]) (by have:=Fy (λr:AQ=>r.2.2.1==c.1) b;simp only[Uo,Bn,CA];omega)) λal H=>?_);rw[L,AD,ht,Cw,cond_false,N,AD];have hP: ∀v∈J0 c.1 b,K6 p i j v=true->(Pn (l.1,l.1+l.2.1.length-1) v.1=true->(v∈l.2.1/\K6 p i j v=true))/\ ∀e,((e∈l.2.1/\K6 p i j e=true)\/(e∈J0 c.1 b/\K6 p i j e=true))->e.1=v.1->e=v:=λv hv E=>by refine⟨λk=>⟨z.fromLog v hv E k,E⟩,λe u A=>?_⟩;rcases u with⟨u,_⟩|⟨u,_⟩;have ad:=z.fromLog v hv E (by rw[<-A];exact D.has u);exact XM K u ad A;exact XM z.once u hv A
 apply AA (AH2 (sp:=(l.1,l.1+l.2.1.length-1)) rfl H.2 w t hr hP);rintro q ⟨m,n,rfl,o,hn⟩;apply BL;dsimp only;have f:al.1=n:=by
  rw[H.1,hn];refine congrArg Int.ofNat (List.Perm.length_eq ?_)
  refine(lJ ((nX K).filter _) ((nX z.once).filter _)).2 λe=>?_;rw[BW,BW];simp only[BY];have I:((Uo l c.1 b).tail.any λs=>Pn s e.1)=((b.filter λr=>r.2.2.1==c.1).any λr=>Pn (r.1,r.2.1) e.1):=by unfold Uo;rw[List.tail_cons,List.any_map];rfl
  rw[I];constructor;rintro⟨F,G,S⟩;exact⟨z.inRuns e F G S,G,D.has F⟩;rintro⟨F,G,S⟩;obtain⟨r,M,Y⟩:=Hj.1 F;exact⟨z.fromLog e F G S,G,oD.2 ⟨r,M,z.own r (BW.1 M).1 e Y⟩⟩
 refine AJ (λk=>absurd f k) (λ_=>?_);have J: ∀q∈m,K6 p i j q.2=true:=λq d=>by
  have:(q.2.1,q.2)∈m:=by rw[<-o.2.1 q d];exact d
  rcases(o.2.2 q.2).1 this with g|g;exact g.2;exact g.2
 have X:m.length<=B:=by
  have:=ul (j-i).toNat i (m.map (·.1)) o.1 λx hx=>by obtain⟨q,d,rfl⟩:=Br.1 hx;have E:=J q d;have hk:=o.2.1 q d;unfold K6 at E;simp only[BY,decide_eq_true_eq]at E;omega
  rw[CA]at this;omega
 refine AC (λ_=>?_) (λk=>absurd k (by show¬ ¬((m.length:Int)<=16777216);omega));have C:((m.map (·.2)).map (·.1))=m.map (·.1):=by rw[Ml];exact Mk λq d=>(o.2.1 q d).symm
 refine AA (AFB V (l:=m.map (·.2)) (by rw[CA];exact X) (by rw[CA];omega) (by rw[C];exact o.1)) λs Q=>?_;have Z:s.length=m.length:=by rw[Q.1.length_eq,CA]
 have U:Nat.beq (List.length s) (List.length m)=true:=by rw[Z];exact Hn _
 rw[U,cond_true];have O: ∀e,e∈s↔(e∈l.2.1\/e∈J0 c.1 b)/\K6 p i j e=true:=λe=>by
  rw[Q.1.mem_iff];constructor;intro u;obtain⟨q,d,rfl⟩:=Br.1 u;have:(q.2.1,q.2)∈m:=by rw[<-o.2.1 q d];exact d
  rcases(o.2.2 q.2).1 this with g|g;exact⟨.inl g.1,g.2⟩;exact⟨.inr g.1,g.2⟩;rintro⟨g,g'⟩;exact Br.2 ⟨(e.1,e),(o.2.2 e).2 (g.imp (λg=>⟨g,g'⟩) (λg=>⟨g,g'⟩)),rfl⟩
 refine AA (AH4 o!) λr hr=>?_;rcases hr with⟨rfl,T⟩|⟨rfl,T⟩;exact BL (AB (.inr ⟨o!,s,Q.2,O,.inl ⟨T,rfl⟩⟩));exact BA (AB (.inr ⟨o!,s,Q.2,O,.inr ⟨T,rfl⟩⟩))
def qI{s t:List EN}(c:s.Pairwise λx y=>x.1<y.1)(d:t.Pairwise λx y=>x.1<y.1)(h: ∀e,e∈s↔e∈t):s=t:=by have nd: ∀{u:List EN},(u.Pairwise λx y=>x.1<y.1)->u.Nodup:=λg=>Kk.2 (g.imp λh e=>by rw[e]at h;omega);have f:=(lJ (nd c) (nd d)).2 h;exact tz (le:=λa b=>a.1<b.1) (λa b _ _ i j=>o!) c d f
structure av(L:List EN)(r:AQ):Prop where
 mem: ∀e,e∈r.2.2.2.2.2↔e∈L/\gr e=true/\r.2.2.1<=e.2.2.2.2.2.2.1.1/\e.2.2.2.2.2.2.1.1<=r.2.2.2.1/\r.1<=e.1/\e.1<=r.2.1
 nd:(r.2.2.2.2.2.map (·.1)).Nodup
def ACO{L:List EN}{l:Ad}{k:List AQ}{b p i j:Int}(a: ∀e,e∈l.2.1↔e∈L∧l.1≤e.1∧e.1≤l.1+l.2.1.length-1)(hr: ∀r∈k,av L r)
  (t: ∀r∈k,r.2.2.1=b->b<=p/\p<=r.2.2.2.1) (h:(k.filter λr=>r.2.2.1==b).Pairwise λr s=>r.2.1<s.1\/s.2.1<r.1):AFm l b p i j k where
 fromLog f hf hw hh:=by obtain⟨r,c,g⟩:=Hj.1 hf;have d:=((hr r (BW.1 c).1).mem f).1 g;unfold Pn at hh;simp only[BY,decide_eq_true_eq]at hh;exact(a f).2 ⟨d.1,o!⟩
 inRuns e o hw ha:=by obtain⟨r,c,g⟩:=oD.1 ha;have d:=BW.1 c;have q:r.2.2.1=b:=eq_of_beq d.2;have A:=t r d.1 q;unfold K6 at hw;unfold Pn at g;simp only[BY,decide_eq_true_eq,beq_iff_eq]at hw g;exact Hj.2 ⟨r,c,((hr r d.1).mem e).2 ⟨((a e).1 o).1,hw.1,o!⟩⟩
 own r hrr f hf:=by have d:=((hr r hrr).mem f).1 hf;unfold Pn;simp only[BY,decide_eq_true_eq];omega
 once:=by unfold J0;rw[List.map_flatMap,Kk,List.pairwise_flatMap];refine⟨λr c=>Kk.1 (hr r (BW.1 c).1).nd,?_⟩;refine nz ?_ h;intro r s c g d x u y v o;obtain⟨e,m,rfl⟩:=Br.1 u;obtain⟨f,n,rfl⟩:=Br.1 v;have w:=((hr r (BW.1 c).1).mem e).1 m;have z:=((hr s (BW.1 g).1).mem f).1 n;omega
def xA{L:List EN}{d:List AQ}{a p i j:Int}(hr: ∀r∈d,av L r)(n: ∀r∈d,r.2.2.1=a→a≤p∧p≤r.2.2.2.1){e:EN}(l:K6 p i j e=true):
  e∈J0 a d↔e∈L/\ ∃r∈d,r.2.2.1=a/\r.1<=e.1/\e.1<=r.2.1:=by
 unfold K6 at l;simp only[BY,decide_eq_true_eq,beq_iff_eq]at l;constructor;intro h;obtain⟨r,f,b⟩:=Hj.1 h;obtain⟨c,k⟩:=BW.1 f;have g:=((hr r c).mem e).1 b;exact⟨g.1,r,c,eq_of_beq k,g.2.2.2.2.1,g.2.2.2.2.2⟩;rintro⟨f,r,b,c,k,m⟩;have g:=n r b c;exact Hj.2 ⟨r,BW.2 ⟨b,by simp[c]⟩,((hr r b).mem e).2 ⟨f,l.1,o!,o!,k,m⟩⟩
def tU(a:AK)(l:Ad)(low n:Int):Prop:=(l.1<=n/\n<=l.1+l.2.1.length-1)\/ ∃e∈D4 a,e.1.2.2.1=low/\e.1.1<=n/\n<=e.1.2.1
def AGF{B:Nat}{a:AK}{l:Ad}{L:List EN}{p i j:Int}{c:Int×(Int×Bool)}(O:CP B)(hB:B≤16777216)(P:j-i≤B)(Y:0≤i)(Z:i≤j)(hJ:j≤1099511627776)
  (h:VB a) (hd:DS a) (J:Do l) (S:0<=p/\p<a.2.1) (G:GP (a,p)=some c) (ht:c.2.2=true) (K:L.Pairwise λx y=>x.1<y.1) (b: ∀e,e∈l.2.1↔e∈L/\l.1<=e.1/\e.1<=l.1+l.2.1.length-1)
  (hR: ∀e∈D4 a,av L e.1) (z:AED (D4 a)) (T: ∀e∈D4 a,e.1.2.2.1=c.1->c.1<=p/\p<=e.1.2.2.2.1):
  ∃k,(0<=k/\k<=j/\(∀n,k<n->n<=j->tU a l c.1 n)/\(k=0\/ ¬tU a l c.1 k))/\Pw (a,(l,(p,(i,j))))=some (decide (k<=i))/\Aq (Hs (a,(l,(p,(i,j))))) λr=>(k>i/\r=([],42))\/(k<=i/\((Xg i (L.filter (K6 p i j))/\r=(L.filter (K6 p i j),0))\/(¬Xg i (L.filter (K6 p i j))/\r=([],13)))):=by
 obtain⟨q,H,v,E,w2,rfl,w4,w5⟩:=ACI h hd (Tw h) z;have o: ∀r∈v.map (·.1),∃e∈D4 a,e.1=r:=λr hr=>by obtain⟨e,d,rfl⟩:=Br.1 hr;exact⟨e,E.mem_iff.1 d,rfl⟩
 have D: ∀r∈v.map (·.1),av L r:=λr hr=>by obtain⟨e,d,rfl⟩:=o r hr;exact hR e d
 have C: ∀r∈v.map (·.1),r.2.2.1=c.1->c.1<=p/\p<=r.2.2.2.1:=λr hr=>by obtain⟨e,d,rfl⟩:=o r hr;exact T e d
 have U:((v.map (·.1)).filter λr=>r.2.2.1==c.1).Pairwise λr s=>r.2.1<s.1\/s.2.1<r.1:=by rw[List.filter_map,Sq];have R:v.Pairwise λx y=>x≠y:=Kk.1 (E.nodup_iff.2 (Tw h));refine nz ?_ (R.filter _);intro x y hx hy Q;obtain⟨x1,x2⟩:=BW.1 hx;obtain⟨V,W⟩:=BW.1 hy;exact z x (E.mem_iff.1 x1) y (E.mem_iff.1 V) Q ((eq_of_beq x2).trans (eq_of_beq W).symm)
 have ad:(Uo l c.1 (v.map (·.1))).length<=257:=by have:=Fy (λr:AQ=>r.2.2.1==c.1) (v.map (·.1));rw[CA]at this;simp only[Uo,Bn,CA];omega
 have M:SpL (Uo l c.1 (v.map (·.1))):=by refine⟨o!,λs f=>?_⟩;rcases Aw.1 f with f|f;rw[f];exact J.1;obtain⟨r,hr,rfl⟩:=Br.1 f;obtain⟨e,d,rfl⟩:=Br.1 (BW.1 hr).1;exact(w5 e d).1
 have m: ∀n,ww (Uo l c.1 (v.map (·.1))) n↔tU a l c.1 n:=λn=>by constructor;rintro⟨s,f,t,w⟩;rcases Aw.1 f with f|f;rw[f]at t w;exact .inl ⟨t,w⟩;obtain⟨r,hr,rfl⟩:=Br.1 f;obtain⟨g1,I⟩:=BW.1 hr;obtain⟨e,d,rfl⟩:=o r g1;exact .inr ⟨e,d,eq_of_beq I,t,w⟩;rintro(⟨t,w⟩|⟨e,d,h0,t,w⟩);exact⟨_,Aw.2 (.inl rfl),t,w⟩;exact⟨(e.1.1,e.1.2.1),Aw.2 (.inr (Br.2 ⟨e.1,BW.2 ⟨Sp (E.mem_iff.2 d),by simp[h0]⟩,rfl⟩)),t,w⟩
 obtain⟨k,F,f1,f2,X,f4⟩:=yr M (u:=j) o! hJ;refine⟨k,⟨f1,f2,λn t w=>(m n).1 (X n t w),f4.imp id λhh N=>hh ((m k).2 N)⟩,?_,?_⟩;obtain⟨v0,ev,hv⟩:=ZO (x:=(a,(l,(p,i)))) h J ⟨S.1,S.2,Y⟩;unfold Pw;dsimp only;rw[ev,AD,beq_iff_eq.2 hv,cond_true,decide_eq_true Z,cond_true,yE J G ht H (by rw[CA,CA]) (by rw[CA];exact w4),AD,F,AD];refine(AIX O hB P Y Z h J S G ht H (by rw[CA,CA]) (by rw[CA];exact w4) (λr hr=>?_) F (ACO b D C U)).mono λr hr=>?_;obtain⟨e,d,rfl⟩:=Br.1 hr;exact(w5 e d).2.2.2.2.2.2.2.2;rcases hr with hr|⟨hr,s,s1,s2,s3⟩;exact .inl hr;refine .inr ⟨hr,?_⟩;have f:s=L.filter (K6 p i j):=qI s1 (K.filter _) λe=>by rw[s2,BW];constructor;rintro⟨g|g,A⟩;exact⟨((b e).1 g).1,A⟩;exact⟨((xA D C A).1 g).1,A⟩;rintro⟨g,A⟩;refine⟨?_,A⟩;have I:=A;unfold K6 at I;simp only[BY,decide_eq_true_eq]at I;rcases(m e.1).1 (X e.1 o! o!)with N|⟨y,V,W,y3,y4⟩;exact .inl ((b e).2 ⟨g,N⟩);exact .inr ((xA D C A).2 ⟨g,y.1,Sp (E.mem_iff.2 V),W,y3,y4⟩)
 rw[<-f];exact s3
def BD.lt{n:Int}{l:List Int}(h:BD n l): ∀(d i:Nat) (x y:Int),l[i]? =some x->l[i+1+d]? =some y->x<y
 |0,i,x,y,hx,hy=>by have:=Cv hy;exact h.2.2.2.2.2.1 i x y o! hx hy
 |d+1,i,x,y,hx,hy=>by have e:=Cv hy;have a:l[i+1+d]? =some (l[i+1+d]' o!):=Av o!;have b:=BD.lt h d i x _ hx a;have c:=h.2.2.2.2.2.1 (i+1+d) _ y o! a q!;omega
def BD.le{n:Int}{l:List Int}(h:BD n l){i j:Nat}{x y:Int}(a:i<=j)(b:l[i]? =some x)(c:l[j]? =some y):x<=y:=by
 by_cases e:i=j;grind;obtain⟨d,rfl⟩: ∃d,j=i+1+d:=⟨j-(i+1),o!⟩
 have:=h.lt d i x y b c;omega
def BD.mem{n:Int}{l:List Int}(h:BD n l){i:Nat}{x:Int}(a:l[i]? =some x):0<=x/\x<n:=by have f:=Cv a;have b:l[l.length-1]? =some (l[l.length-1]' o!):=Av o!;have c:=h.le (Be i) h.2.2.2.2.1 a;have d:=h.le (by omega:i<=l.length-1) a b;have e:=h.2.2.2.2.2.2 _ b;omega
def BD.inj{n:Int}{l:List Int}(h:BD n l){i j:Nat}{x:Int}(b:l[i]? =some x)(c:l[j]? =some x):i=j:=by
 rcases QH i j with a|a|a;obtain⟨d,rfl⟩: ∃d,j=i+1+d:=⟨j-(i+1),o!⟩
 have:=h.lt d i x x b c;omega;exact a;obtain⟨d,rfl⟩: ∃d,i=j+1+d:=⟨i-(j+1),o!⟩
 have:=h.lt d j x x c b;omega
def ot(a:AK)(i:Nat):Int:=match a.1[i+1]? with
 |some h=>h-1
 |none=>a.2.1-1
def Kf(a:AK)(lo hi:Int):Prop:= ∃i:Nat,a.1[i]? =some lo/\hi=ot a i
def ACz{a:AK}(h:BD a.2.1 a.1){i:Nat}(c:i<a.1.length):(∀w,a.1[i+1]? =some w->wi (w-1)=ot a i)/\(a.1.length<=i+1->wi (a.2.1-1)=ot a i):=by refine⟨λw b=>?_,λd=>?_⟩;have:=h.mem b;have:=h.2.1;grind[ot,AY];have:=h.1;have:=h.2.1;grind[ot,List.getElem?_eq_none,AY]
def mR{a:AK}(h:BD a.2.1 a.1){i:Nat}{b:Int}(c:a.1[i]? =some b):E0 (a,(i:Int))=some (b,ot a i):=by
 have f:=Cv c;have d:=h.2.2.2.1;have⟨j,k⟩:=ACz h f;unfold E0;rw[AY (x:=(i:Int)+1),(by unfold ix;rw[if_pos o!,Int.toNat_natCast,c]:ix a.1 (i:Int)=some b)];by_cases e:i+1<a.1.length;have g:ix a.1 ((i:Int)+1)=some a.1[i+1]:=by unfold ix;rw[if_pos o!,show((i:Int)+1).toNat=i+1 by omega,(List.getElem?_eq_getElem e)]
 grind;grind
def wc{a:AK}(h:BD a.2.1 a.1){i:Nat}{b:Int}(c:a.1[i]? =some b):Ju (a,(i:Int))=some (b,ot a i):=by
 have f:=Cv c;have d:=h.2.2.2.1;have⟨j,k⟩:=ACz h f;unfold Ju;rw[AY (x:=(i:Int)+1),(by unfold ix;rw[if_pos o!,Int.toNat_natCast,c]:ix a.1 (i:Int)=some b)];by_cases e:i+1<a.1.length;have g:ix a.1 ((i:Int)+1)=some a.1[i+1]:=by unfold ix;rw[if_pos o!,show((i:Int)+1).toNat=i+1 by omega,(List.getElem?_eq_getElem e)]
 grind;grind
def qE{a:AK}{r:AQ}(h:BD a.2.1 a.1):Aq (FX (a,r)) λk=>0<=k↔Kf a r.2.2.1 r.2.2.2.1:=by
 have g:=h.2.2.2.1;refine AA (P:=λq=>(∃k:Int,q= .inl k/\0<=k/\Kf a r.2.2.1 r.2.2.2.1)\/(q= .inr ()/\ ¬Kf a r.2.2.1 r.2.2.2.1)) ?_ λq p=>?_
 ·refine Cn (λ(s:Int)=>0<=s/\s<=a.1.length/\ ∀i:Nat,(i:Int)<s-> ¬(a.1[i]? =some r.2.2.1/\r.2.2.2.1=ot a i)) (λs=>((a.1.length:Int)-s).toNat) ⟨Ae _,o!,λi m=>o!⟩ (λs j=>?_);have⟨e,t,u⟩:=j;unfold HD;dsimp[len];refine AC (λl=>?_) (λl=>Aq.done (.inr ⟨rfl,?_⟩))
  ·obtain⟨k,rfl⟩:=EY e;rw[mR h (Av o!),AD,AY];have f: ¬(a.1[k]? =some r.2.2.1/\r.2.2.2.1=ot a k)->Aq (some (Step.next ((k:Int)+1)):Option (Step Int (Int ⊕ Unit))) (Li (λ(s:Int)=>0<=s/\s<=a.1.length/\ ∀i:Nat,(i:Int)<s-> ¬(a.1[i]? =some r.2.2.1/\r.2.2.2.1=ot a i)) (λs=>((a.1.length:Int)-s).toNat) ((a.1.length:Int)-(k:Int)).toNat λq=>(∃k:Int,q= .inl k/\0<=k/\Kf a r.2.2.1 r.2.2.2.1)\/(q= .inr ()/\ ¬Kf a r.2.2.1 r.2.2.2.1)):=λhn=>by
    refine Aq.next ⟨o!,o!,λi m=>?_⟩ o!
    grind
   refine AP (λb=>?_) (λb=>f λd=>b ?_)
   ·refine AP (λc=>Aq.done (.inl ⟨_,rfl,e,k,?_,?_⟩)) (λc=>f λd=>c d.2.symm);grind;grind
   grind
  rintro⟨i,n,o⟩;grind
 grind[BL,AB,BA]
def ADL{a:AK}{r:AQ}(h:BD a.2.1 a.1):Aq (MJ (a,r)) λk=>0<=k↔Kf a r.2.2.1 r.2.2.2.1:=by
 have g:=h.2.2.2.1;refine AA (P:=λq=>(∃k:Int,q= .inl k/\0<=k/\Kf a r.2.2.1 r.2.2.2.1)\/(q= .inr ()/\ ¬Kf a r.2.2.1 r.2.2.2.1)) ?_ λq p=>?_
 ·refine Cn (λ(s:Int)=>0<=s/\s<=a.1.length/\ ∀i:Nat,(i:Int)<s-> ¬(a.1[i]? =some r.2.2.1/\r.2.2.2.1=ot a i)) (λs=>((a.1.length:Int)-s).toNat) ⟨Ae _,o!,λi m=>o!⟩ (λs j=>?_);have⟨e,t,u⟩:=j;unfold QP;dsimp[len];refine AC (λl=>?_) (λl=>Aq.done (.inr ⟨rfl,?_⟩))
  ·obtain⟨k,rfl⟩:=EY e;rw[wc h (Av o!),AD,AY];have f: ¬(a.1[k]? =some r.2.2.1/\r.2.2.2.1=ot a k)->Aq (some (Step.next ((k:Int)+1)):Option (Step Int (Int ⊕ Unit))) (Li (λ(s:Int)=>0<=s/\s<=a.1.length/\ ∀i:Nat,(i:Int)<s-> ¬(a.1[i]? =some r.2.2.1/\r.2.2.2.1=ot a i)) (λs=>((a.1.length:Int)-s).toNat) ((a.1.length:Int)-(k:Int)).toNat λq=>(∃k:Int,q= .inl k/\0<=k/\Kf a r.2.2.1 r.2.2.2.1)\/(q= .inr ()/\ ¬Kf a r.2.2.1 r.2.2.2.1)):=λhn=>by
    refine Aq.next ⟨o!,o!,λi m=>?_⟩ o!
    grind
   refine AP (λb=>?_) (λb=>f λd=>b ?_)
   ·refine AP (λc=>Aq.done (.inl ⟨_,rfl,e,k,?_,?_⟩)) (λc=>f λd=>c d.2.symm);grind;grind
   grind
  rintro⟨i,n,o⟩;grind
 grind[BL,AB,BA]
def Good(a:AK)(f:Au)(r:AQ):Prop:=f.1=1/\f.2.2=Mr r/\VR r/\Kf a r.2.2.1 r.2.2.2.1
def Bad(f:Au):Prop:=f.2.2.length<=1099511627776/\ ∀r,WR r->f.2.2≠Mr r
def Good.intact{a:AK}{f:Au}{r:AQ}(h:Good a f r)(e:BD a.2.1 a.1):Gq (a,f)=some (r,true):=by have⟨b,c,d,g⟩:=h;have⟨k,k1,i⟩:=ADL (r:=r) e;unfold Gq;rw[b,c,bne_self_eq_false,cond_false,AG5 d,AD,show(((r,(0:Int)):AQ×Int).2==0)=true from rfl,cond_true];grind
def Good.intR{a:AK}{f:Au}{r:AQ}(h:Good a f r)(b:BD a.2.1 a.1):intR a f=some (r,f.2.1):=by unfold Go.Pm.intR;rw[h.intact b]
def Good.ref{a:AK}{f:Au}{r:AQ}(h:Good a f r)(g:BD a.2.1 a.1): ∃k,DD (a,f)=some (r,k)/\0<=k:=by have⟨b,c,d,e⟩:=h;have⟨k,k1,i⟩:=qE (r:=r) g;refine⟨k,?_,i.2 e⟩;unfold DD;rw[b,c,bne_self_eq_false,cond_false,wH d,AD,show(((r,(0:Int)):AQ×Int).2 !=0)=false from rfl,cond_false];grind
def Bad.intR{a:AK}{f:Au}(h:Bad f)(d:BD a.2.1 a.1):intR a f=none:=by
 have key:Aq (Gq (a,f)) λr=>r.2=false:=by exact AJ (λ_=>AB rfl) (λ_=>AA (AG6 h.1) λv b=>AP (λc=>absurd (b c).1 (h.2 _ (b c).2)) (λ_=>AB rfl))
 have⟨⟨r,o⟩,k1,e⟩:=key;grind[Go.Pm.intR]
def Bad.ref{a:AK}{f:Au}(h:Bad f): ∃r,DD (a,f)=some (r,-1):=by
 have key:Aq (DD (a,f)) λr=>r.2= -1:=by exact AJ (λ_=>AB rfl) (λ_=>AA (AHG h.1) λv b=>AJ (λ_=>AB rfl) (λc=>absurd (b c).1 (h.2 _ (b c).2.wr)))
 have⟨⟨r,o⟩,k1,d⟩:=key;grind
def rU{x y:AQ}(b:VR x)(c:VR y)(h:Mr x=Mr y):x=y:=by have a:=wH b;rw[h,wH c]at a;injection a with a;exact(Prod.ext_iff.1 a).1.symm
structure AR(L:List EN)(a:AK):Prop where
 vb:VB a
 files: ∀f∈a.2.2.1,Bad f\/ ∃r,Good a f r/\av L r/\r.2.1<a.2.2.2.1
 dis:AED (D4 a)
def AG(a:AK):Prop:= ∀f∈a.2.2.1,∃r,Good a f r
def RC(a:AK)(c:Nat):Prop:= ∀lo,((D4 a).filter λe=>e.1.2.2.1==lo).length<=c
def gK{b:Type}: ∀(l m:List b),l.Nodup->(∀x∈l,x∈m)->l.length<=m.length
 |[],m,_,_=>Be _
 |a::l,m,hn,hs=>by
  obtain⟨s,t,rfl⟩:=List.append_of_mem (hs a (Aw.2 (.inl rfl)));rw[Gk]at hn;have:=gK l (s++t) hn.2 λx c=>q!
  grind
def AR.mem{L:List EN}{a:AK}(h:AR L a){e:NE}(g:e∈D4 a): ∃f∈a.2.2.1,Good a f e.1/\e.2=f.2.1/\av L e.1/\e.1.2.1<a.2.2.2.1:=by have⟨f,i,b⟩:=OX.1 g;rcases h.files f i with d|⟨r,c,j,k⟩;rw[d.intR h.vb.1]at b;cases b;rw[c.intR h.vb.1]at b;grind
def Pb{a:AK}(b:BD a.2.1 a.1){f:Au}{r:AQ}(c:f∈a.2.2.1)(h:Good a f r):(r,f.2.1)∈D4 a:=by exact OX.2 ⟨f,c,h.intR b⟩
def Good.size{a:AK}{f:Au}{r:AQ}(h:Good a f r):f.2.2.length<=34406441:=by rw[h.2.1];exact h.2.2.1.len
def AR.sa{L:List EN}{a:AK}(h:AR L a):SA a:=by have⟨⟨g,i,j,b,k,l,m⟩,a1,a2,a3,a4,a5,a6⟩:=h.vb;refine⟨b,o!,λf e=>?_⟩;rcases h.files f e with d|⟨r,c,_⟩;exact d.1;have:=c.size;omega
def AR.ds{L:List EN}{a:AK}(h:AR L a):DS a:=λf b=>by have:=h.sa.2.2 f b;omega
def Kf.uniq{a:AK}(e:BD a.2.1 a.1){d b c:Int}(p:Kf a d b)(q:Kf a d c):b=c:=by obtain⟨i,f,g⟩:=p;obtain⟨j,h,k⟩:=q;have:=e.inj f h;subst this;rw[g,k]
def yT{l:List EN}{e:EN}(h:l.length<=16777000):Aq (DB (l,e)) λr=>r.1.length<=l.length+1/\((∀y,y∈r.1↔y∈l\/y=e)\/(r.1=l/\ ∃z∈l,z.1=e.1)):=by
 unfold DB;refine AA (P0 (x:=(l,e)) ⟨Ae _,o!,d!⟩) λp g=>?_;dsimp only at g⊢;have i:Aq (Option.bind (YV l 0 p) λj=>
  Option.bind (YV l p (len l)) λk=>
  Option.bind (app [] j) λm=>
  Option.bind (app m ([e]:List (Int×(Int×(Int×(Int×(Int×(Int×((Int×(Int×((Bool×BT)×(Bool×BT))))×BT))))))))) λw=>
  Option.bind (app w k) λA=>
  some (A,true)) λr=>r.1.length<=l.length+1/\((∀y,y∈r.1↔y∈l\/y=e)\/(r.1=l/\ ∃z∈l,z.1=e.1)):=by
  refine AA (Bb (Ae _) g.1 g.2) λu a=>AA (Bb g.1 (by simp[len];omega) i!) λv o=>?_;have C:=a.2;have q:=o.2;simp[len]at q;refine AA (AZ w!) λj b=>?_;have s:=b.2.1;simp[BV]at s;refine AA (AZ w!) λk d=>?_;have t:=d.2.1;simp[BV,Bn]at t;refine AA (AZ o!) λm f=>AB ?_;have D:=f.2.1;refine⟨d!,.inl λy=>?_⟩;have n:u=l.take p.toNat:=by rw[a.1];simp
  dsimp only;rw[f.1,d.1,b.1,n,(by grind[List.take_of_length_le,List.length_drop]:v=l.drop p.toNat),Bw];conv=>rhs;rw[<-DN p.toNat l]
  grind[List.mem_singleton]
 refine AC (λB=>?_) (λ_=>i);simp[len]at B;refine AA (AI g.1 B) λE I=>?_;have⟨c,F,G,H⟩:=AFq E e;grind[AP,AA,AI,AB]
def Uq(L:List EN):Prop:= ∀x∈L,∀y∈L,x.1=y.1->x=y
theorem mP{L l:List EN}{e:EN}(c:Uq L)(f: ∀x∈l,x∈L)(d:e∈L)(h:l.length<=16777000):Aq (DB (l,e)) λr=>r.1.length<=l.length+1/\ ∀y,y∈r.1↔y∈l\/y=e:=by
 refine(yT h).mono λr hr=>⟨hr.1,?_⟩
 rcases hr.2 with hr|⟨b,z,a,i⟩;exact hr;have:=c z (f z a) e d i;subst this;intro y;rw[b];exact⟨.inl,λg=>g.elim id λh=>h▸a⟩
def VR.sorted{r:AQ}(h:VR r):r.2.2.2.2.2.Pairwise zB:=by
 rw[Hl];have step: ∀d i:Nat,∀(a:i<r.2.2.2.2.2.length) (b:i+1+d<r.2.2.2.2.2.length),zB r.2.2.2.2.2[i] r.2.2.2.2.2[i+1+d]:=by
  intro d;induction d with
  |zero=>intro i a b;exact((h.2 (i+1) _ (Av b)).2.2 _ o! (Av a)).1
  |succ d e=>intro i a b;exact ABT (e i a o!) (((h.2 (i+1+(d+1)) _ (Av b)).2.2 _ o! (Av (by omega:i+1+d<_))).1)
 intro i j a b c;have:=step (j-(i+1)) i a o!;simp[(by omega:i+1+(j-(i+1))=j)]at this;exact this
def VR.nd{L:List EN}{r:AQ}(b:Uq L)(h:VR r)(a: ∀e∈r.2.2.2.2.2,e∈L):(r.2.2.2.2.2.map (·.1)).Nodup:=by rw[Kk,Sq];refine h.sorted.imp_of_mem λ{x y} f g d c=>?_;have:=b x (a x f) y (a y g) c;grind[zC]
def VR.runOf{L:List EN}{r:AQ}(b:Uq L)(h:VR r)(a: ∀e,e∈r.2.2.2.2.2↔e∈L/\gr e=true/\r.2.2.1<=e.2.2.2.2.2.2.1.1/\e.2.2.2.2.2.2.1.1<=r.2.2.2.1/\r.1<=e.1/\e.1<=r.2.1):av L r:=⟨a,h.nd b λe c=>((a e).1 c).1⟩
def AAD{v:EN}:gr v=true↔v.2.1=1\/v.2.1=2:=by grind[gr]
def AEH{L d:List EN}{F T g f i:Int}(C:Uq L)(B: ∀e∈d,e∈L)(H:d.length≤16777000):
  Aq (Ah (Jn (d,(F,(T,(g,(f,i)))))) (false,(0,(F,(T,(g,(f,(i,[])))))))) λr=> ∃a:List EN,r.2=(F,(T,(g,(f,(i,a)))))/\a.length<=d.length/\ ∀y,y∈a↔y∈d/\gr y=true/\g<=y.2.2.2.2.2.2.1.1/\y.2.2.2.2.2.2.1.1<=f/\F<=y.1/\y.1<=T:=by
 refine Cn (λ(s:Bool×(Int×AQ))=> ∃(k:Nat) (a:List EN),s.2=((k:Int),(F,(T,(g,(f,(i,a))))))/\k<=d.length/\a.length<=k/\ ∀y,y∈a↔y∈d.take k/\gr y=true/\g<=y.2.2.2.2.2.2.1.1/\y.2.2.2.2.2.2.1.1<=f/\F<=y.1/\y.1<=T) (λs=>d.length-s.2.1.toNat)
  ⟨0,[],rfl,Be _,Ap _,λy=>k!⟩ ?_
 rintro⟨M,K⟩ ⟨k,a,rfl,I,J,n⟩;unfold Jn;dsimp only;simp only[len];refine AC (λw=>?_) (λw=>Aq.done ⟨a,rfl,o!,by rw[BO o!]at n;exact n⟩);refine AA (AI o! w) λv l=>?_;have A:=l.1;rw[DG]at A;have q:d.take (k+1)=d.take k++[v]:=by rw[C3,A];rfl
 rw[AY]
 have c: ∀m:Bool,¬(gr v=true∧g≤v.2.2.2.2.2.2.1.1∧v.2.2.2.2.2.2.1.1≤f∧F≤v.1∧v.1≤T)→
   Aq (some (Step.next (m,((k:Int)+1,(F,(T,(g,(f,(i,a)))))))):Option (Step (Bool×(Int×AQ)) (Bool×AQ))) (Li (λ(s:Bool×(Int×AQ))=> ∃(k:Nat) (a:List EN),s.2=((k:Int),(F,(T,(g,(f,(i,a))))))/\k<=d.length/\a.length<=k/\ ∀y,y∈a↔y∈d.take k/\gr y=true/\g<=y.2.2.2.2.2.2.1.1/\y.2.2.2.2.2.2.1.1<=f/\F<=y.1/\y.1<=T) (λs=>d.length-s.2.1.toNat) (d.length-((k:Nat):Int).toNat)
    λr=> ∃a:List EN,r.2=(F,(T,(g,(f,(i,a)))))/\a.length<=d.length/\ ∀y,y∈a↔y∈d/\gr y=true/\g<=y.2.2.2.2.2.2.1.1/\y.2.2.2.2.2.2.1.1<=f/\F<=y.1/\y.1<=T):=λm hn=>by
  refine Aq.next ⟨k+1,a,rfl,o!,o!,λy=>?_⟩ d!
  grind[List.mem_singleton]
 refine AA CM λb u=>AO (λz=>c _ λj=>?_) (λD=>?_);rw[u.2 (AAD.1 j.1)]at z;cases z;refine AC (λ_=>c _ λj=>o!) (λq2=>AC (λ_=>c _ λj=>o!) (λq3=>AC (λ_=>c _ λj=>o!) (λq4=>AC (λ_=>c _ λj=>o!) (λq5=>AA (RX ⟨Ae _,d!⟩) λG _=>AA (mP C (λx E=>B x (Fa ((n x).1 E).1)) (B v l.2) o!) λt o=>Aq.next ⟨k+1,t.1,rfl,o!,o!,λy=>?_⟩ d!))))
 rw[o.2,n,q,An,A6];constructor;rintro(⟨h,p⟩|h);exact⟨.inl h,p⟩;subst h;exact⟨.inr rfl,(AAD.2 (u.1 D)),o!⟩;rintro⟨h|h,p⟩;exact .inl ⟨h,p⟩;exact .inr h
def AGH{L c:List EN}{F T h g j:Int}(n:Uq L)(q: ∀e∈c,e∈L)(p:c.length<=16777000):Aq (JR (c,(F,(T,(h,(g,j)))))) λr=>r.2=0->VR r.1/\ ∃b:List EN,r.1=(F,(T,(h,(g,(j,b)))))/\ ∀y,y∈b↔y∈c/\gr y=true/\h<=y.2.2.2.2.2.2.1.1/\y.2.2.2.2.2.2.1.1<=g/\F<=y.1/\y.1<=T:=by unfold JR;refine AA IW λw _=>AO (λ_=>AB λa=>absurd (show(1:Int)=0 from a) g!) (λ_=>?_);refine AA (RW ⟨Ae _,d!⟩) λx m=>A9 (λu i=>AB λa=>absurd a (m u i)) (λu i=>AA (AEH n q p) λs d=>?_);have⟨b,k,v,l⟩:=d;refine AL (λ_=>AB λa=>absurd (show(41:Int)=0 from a) g!) (λ_=>?_);refine AC (λ_=>AB λa=>absurd (show(21:Int)=0 from a) g!) (λ_=>?_);refine AA XS λt f=>AO (λ_=>AB λa=>absurd (show(13:Int)=0 from a) g!) (λo=>AB λ_=>⟨f.1 o,b,k,l⟩)
end Go.Pm
