import Derived.Test.YtdbincbpjobdpaaGreatK7
import Derived.Sort.AssemblyPlain
import Derived.KernelRfl
noncomputable section
set_option linter.all false
set_option maxHeartbeats 1000000
open Option renaming some->Y
open List renaming length->W
open Go renaming Ψ->S
open Bool renaming false->X
open Bool renaming true->E
open Option renaming none->D
open Go renaming Ω->Z
open Option renaming some->δ,none->ε,bind->σ
open Bool renaming true->ζ,false->η
open List renaming length->θ
open Go.IntKind renaming wrap->ι
open BitVec renaming ofInt->κ,toNat->π
open Nat renaming beq->ξ
open Int renaming toNat->ο
open Decidable renaming decide->τ
open _root_ renaming Int->V,Nat->U,List->R,Array->Q,Bool->N,True->M,cond->z
open Go.Ab renaming len->O
namespace Go.Pm
open Go Go.Ab
def cZ{x p}{c}{k:U}(h:CS x p c)(o:W x<=1099511627776)(q:1<=k)(m:k<=8):Ao (CC c (k:V)) λr=>CS x (p++C6 r.1 k) r.2/\(r.2.2.2=0->cr k r.1)/\(c.2.2≠0->r=(0,c)):=by obtain⟨s,i,e⟩:=c;obtain⟨j,l⟩:=h;subst j;refine AL (λd=>AB ⟨⟨rfl,λb=>O! b d⟩,λb=>O! b d,λ_=>rfl⟩) (λd=>?_);subst d;obtain⟨a,hr,n⟩:=l rfl;subst hr n;rw[AZ]at o;rw[YV o! o! o!];by_cases g:(k:V)<=W a;rw[C! g,AD,CO];obtain⟨q1,q2⟩:=tf (t:=a) (k:=k) o! m;refine AB ⟨⟨rfl,λ_=>⟨a.drop k,?_,?_⟩⟩,λ_=>q1,λf=>O! rfl f⟩;simp_all;dsimp only;rw[AY,AZ,Ay];omega;rw[D! g,AD];exact AB ⟨⟨rfl,λb=>O! (show(5:V)=0 from b) g!⟩,λb=>O! (show(5:V)=0 from b) g!,λf=>O! rfl f⟩
def AFY{x p}{c}{n:V}(h:CS x p c)(l:W x<=1099511627776)(hn:c.2.2=0->0<=n/\n<4294967296):Ao (FE c n) λr=>CS x (p++r.1) r.2/\(r.2.2.2=0->(W r.1:V)=n/\c.2.2=0):=by
 obtain⟨s,f,e⟩:=c;obtain⟨g,i⟩:=h;subst g;unfold FE;by_cases d:e=0;subst d;obtain⟨a,hr,j⟩:=i rfl;obtain⟨o,t⟩:=hn rfl;subst hr j;obtain⟨m,rfl⟩:=Ef o;rw[AZ]at l;rw[show wi (((p++a).length:V)-(W p:V))=W a by rw[AZ,AY];omega];by_cases q:(m:V)<=W a;rw[F! o!,A!,AD,show((0:V) !=0)=X by decide,A!];have k:R3 (p++a) (wi (wi ((W p:V)+(m:V))-(m:V))) (wi ((W p:V)+(m:V)))=Y (a.take m):=by rw[AY (x:=(W p:V)+(m:V)),AY];unfold R3;rw[C! k!,show((W p:V)+(m:V)-(m:V)).toNat=W p by omega,Rk,show((W p:V)+(m:V)).toNat-W p=m by omega]
 rw[k,AD];refine AB ⟨⟨rfl,λ_=>⟨a.drop m,?_,?_⟩⟩,λ_=>⟨?_,k!⟩⟩;simp_all;dsimp only;rw[AY,AZ,BQ];omega;grind;rw[G! o!,B!,AD,show((5:V) !=0)=E by decide,B!];exact AB ⟨⟨rfl,λb=>O! (show(5:V)=0 from b) g!⟩,λb=>O! (show(5:V)=0 from b) g!⟩;rw[beq_false_of_ne d,A!,bne_iff_ne.2 d,B!];exact AB ⟨⟨rfl,λb=>O! b d⟩,λb=>O! b d⟩
def AFW{x p}{c}(h:CS x p c)(j:W x<=1099511627776):Ao (FC c ()) λr=>CS x (p++VI r.1) r.2/\(r.2.2.2=0->G6 r.1):=by
 refine AA (cZ (k:=1) h j g! g!) λv o=>?_;obtain⟨⟨g,l⟩,s,z⟩:=o;refine AL (λd=>AB ⟨⟨g,λa=>O! a d⟩,λa=>O! a d⟩) (λd=>?_);obtain⟨f,hr,i⟩:=l d;have y:=(s d).1 g!;refine AP (λb=>AB ⟨⟨g,λ_=>⟨f,?_,?_⟩⟩,λ_=>⟨BU _,.inr rfl⟩⟩) (λb=>?_);dsimp only;rw[b]at hr;exact hr;dsimp only;rw[b]at i;exact i;refine AC (y? ⟨⟨g,λa=>O! (show(4:V)=0 from a) g!⟩,λa=>O! (show(4:V)=0 from a) g!⟩) (λn=>AA (AFY (x:=x) (p:=p++C6 v.1 1) ⟨g,l⟩ j (λ_=>o!)) λw q=>AB ?_);obtain⟨⟨t,A⟩,u⟩:=q;refine⟨⟨t,λa=>?_⟩,λa=>?_⟩;dsimp only at a⊢;obtain⟨m,_⟩:=u a;have e:VI (E,w.1)=C6 v.1 1++w.1:=by unfold VI;rw[B!,m]
 grind;dsimp only at a⊢;exact⟨k!,.inl rfl⟩
def Zd{x p a:Bd}{n}{k}(c:x=p++(C6 n k++a))(f:W x<=1099511627776)(e:1<=k)(d:k<=8)(hn:cr k n):CC (x,(W p:V),0) (k:V)=Y (n,x,((p++C6 n k).length:V),0):=by
 have b:=E! W c;simp only[AZ,Ay]at b;unfold CC;dsimp only;rw[show((0:V) !=0)=X by decide,A!];conv=>lhs;arg 1;rw[c]
 rw[YV k! o! o!,C! k!,AD,CO,Fe (Ay _ _),rP d hn];rw[AZ,Ay];rw[AY];rfl
def AFX{x p w a:Bd}(c:x=p++(w++a))(e:W x<=1099511627776):FE (x,(W p:V),0) (W w:V)=Y (w,x,((p++w).length:V),0):=by
 have b:=E! W c;simp at b;unfold FE;rw[show τ (wi ((W x:V)-(W p:V))<(W w:V))=X from F! (by rw[AY];omega),A!];rw[AD,show((0:V) !=0)=X by decide,A!];dsimp only;have d:R3 x (wi (wi ((W p:V)+(W w:V))-(W w:V))) (wi ((W p:V)+(W w:V)))=Y w:=by rw[AY (x:=(W p:V)+(W w:V)),AY];unfold R3;rw[C! o!,c,show((W p:V)+(W w:V)-(W w:V)).toNat=W p by omega,Rk,show((W p:V)+(W w:V)).toNat-W p=W w by omega,Ys]
 rw[d,AD,AY,AZ];rfl
def AFV{x p a:Bd}{c}(e:x=p++(VI c++a))(f:W x<=1099511627776)(j:G6 c):FC (x,(W p:V),0) ()=Y (c,x,((p++VI c).length:V),0):=by
 obtain⟨b,d⟩:=c;obtain⟨h,i⟩:=j;dsimp only at h i;unfold FC;cases b with
 |false=>
  have k:d=[]:=k!
  subst k;rw[show(1:V)=((1:U):V)from rfl,Zd e f g! g! ⟨λ_=>g!,g!,g!⟩];rfl
 |true=>have g:VI (E,d)=C6 (W d:V) 1++d:=rfl;rw[g,A2]at e;rw[g];rw[show(1:V)=((1:U):V)from rfl,Zd e f g! g! ⟨λ_=>k!,o!⟩,AD];rw[show((0:V) !=0)=X by decide,A!,show((W d:V)==255)=X by grind,A!,F! o!,A!];rw[AFX (by rw[e,A2]) f,AD,A2]
def AJR{x:Bd}(a:W x<=1099511627776):Ao (Jy x) λr=>r.2=0->x=B3 r.1/\G6 r.1.2.2.2.2.2.2.1.2.2.1/\G6 r.1.2.2.2.2.2.2.1.2.2.2/\cr 4 (W r.1.2.2.2.2.2.2.2:Int)/\GZ r.1=Y ζ:=by
 unfold Jy;have I:CS x [] (x,0,0):=⟨rfl,λ_=>⟨x,rfl,rfl⟩⟩
 refine AA (cZ (k:=8) I a g! g!) λO y=>AA (cZ (k:=1) y.1 a g! g!) λP z=>AA (cZ (k:=4) z.1 a g! g!) λQ A=>AA (cZ (k:=8) A.1 a g! g!) λR B=>AA (cZ (k:=8) B.1 a g! g!) λS C=>AA (cZ (k:=8) C.1 a g! g!) λT D=>AA (cZ (k:=4) D.1 a g! g!) λU E=>AA (cZ (k:=1) E.1 a g! g!) λV F=>D6 (AFW F.1 a) λq M o=>D6 (AFW o.1 a) λs w p=>AA (cZ (k:=4) p.1 a g! g!) λj b=>AA (AFY (n:=j.1) b.1 a (λc=>?_)) λJ f=>?_;have:=(b.2.1 c).1 g!;rw[show(256:Int)^4=4294967296 by decide]at this;exact this;refine AL (λh=>AB λc=>O! c h) (λh=>AL (y? n!) (λG=>D6 (Kk) λK i _=>AO (y? n!) (λH=>AB λ_=>?_)));subst H;obtain⟨q11,d⟩:=f.2 h;have l:s.2.2.2=0:=UD λe=>by have:=b.2.2 e;rw[this]at d;exact e d
 have u:=p.2 l;have L:q.2.2.2=0:=UD λe=>by
  have:s=((X,[]),q.2):=by have:=w;unfold FC CC at this;rw[bne_iff_ne.2 e,B!,AD,bne_iff_ne.2 e,B!]at this;injection this with this;exact this.symm
  rw[this]at l;exact e l
 have t:=o.2 L;obtain⟨g,m,N⟩:=f.1.2 h;have hr:g=[]:=by simp only[len]at G;have v:=E! W m;rw[AZ]at v;exact Eh o!
 subst hr;refine⟨?_,t,u,?_,i⟩;rw[m];unfold B3;dsimp only;rw[q11];simp only[A2,B7,DT];dsimp only;rw[q11];exact b.2.1 d
def AJQ{e}(h:Mc e):Jy (B3 e)=Y (e,0):=by
 obtain⟨s,t,H,w,y,z,A,B,C,D,E⟩:=h.cells;have I:=S7 h;have g:cr 4 (W e.2.2.2.2.2.2.2:V):=⟨λ_=>by rw[show(256:V)^4=4294967296 by decide];omega,o!⟩
 have a:B3 e=[]++(C6 e.1 8++(C6 e.2.1 1++(C6 e.2.2.1 4++(C6 e.2.2.2.1 8++(C6 e.2.2.2.2.1 8++(C6 e.2.2.2.2.2.1 8++(C6 e.2.2.2.2.2.2.1.1 4++(C6 e.2.2.2.2.2.2.1.2.1 1++
 (VI e.2.2.2.2.2.2.1.2.2.1++(VI e.2.2.2.2.2.2.1.2.2.2++(C6 (W e.2.2.2.2.2.2.2:V) 4++(e.2.2.2.2.2.2.2++[])))))))))))):=by rw[DT];rfl
 generalize B3 e=x at*;have i:CC (x,((0:V)),0) 8=_:=Zd (p:=[]) (k:=8) a o! g! g! w;rw[B7]at i;rw[B7]at a;have j:=Zd (k:=1) a o! g! g! y;rw[<-A2]at a;have l:=Zd (k:=4) a o! g! g! z;rw[<-A2]at a;have m:=Zd (k:=8) a o! g! g! A;rw[<-A2]at a;have n:=Zd (k:=8) a o! g! g! B;rw[<-A2]at a;have o:=Zd (k:=8) a o! g! g! C;rw[<-A2]at a;have q:=Zd (k:=4) a o! g! g! D;rw[<-A2]at a;have r:=Zd (k:=1) a o! g! g! E;rw[<-A2]at a;have F:=AFV a o! s;rw[<-A2]at a;have G:=AFV a o! t;rw[<-A2]at a;have c:=Zd (k:=4) a o! g! g! g;rw[<-A2]at a;have d:=AFX a o!;rw[DT]at a;rw[<-a]at d;unfold Jy;rw[i,AD];rw[show((1:U):V)=1 from rfl]at j r;rw[show((4:U):V)=4 from rfl]at l q c;rw[show((8:U):V)=8 from rfl]at m n o;rw[j,AD,l,AD,m,AD,n,AD,o,AD,q,AD,r,AD,F,AD,G,AD,c,AD,d,AD];obtain⟨b,u,v⟩:=Kk (x:=e);have f:b=ζ:=v h;subst f;dsimp only[O];rw[show((0:V) !=0)=X by decide,A!,H!,A!];rw[show(e.1,e.2.1,e.2.2.1,e.2.2.2.1,e.2.2.2.2.1,e.2.2.2.2.2.1,(e.2.2.2.2.2.2.1.1,e.2.2.2.2.2.2.1.2.1,e.2.2.2.2.2.2.1.2.2.1,e.2.2.2.2.2.2.1.2.2.2),e.2.2.2.2.2.2.2)=e from rfl,u,AD,By,A!]
def ABc{a v i:V}(f:0≤i)(c:i<8)(e:0≤a)(b:a<2^(8*ο i))(g:0≤v)(d:v<256):
  0<=ι .u64 (((π ((κ 64 a)|||(κ 64 (ι .u64 ((ι .u64 v)*(2^(min (ο (wi (8*i))) 64))))))):U):V)/\
  ι .u64 (((π ((κ 64 a)|||(κ 64 (ι .u64 ((ι .u64 v)*(2^(min (ο (wi (8*i))) 64))))))):U):V)<2^(8*(wi (i+1)).toNat):=by
 have h:=zk f c e b g d;rw[(by rw[(AY),Xa];omega:ι .u64 (wi (8*i))=wi (8*i))]at h;exact h
def AHY{n:V}(h:n<=1):(2:V)^(8*ο n)<=256:=by
 have:ο n=0\/ο n=1:=o!
 rcases this with h|h<;>rw[h]<;>decide
def Jk{x:Bd×V×V}(h:W x.1<=2199023255552):Ao (B0 x) λr=>(r.2=0->0<=x.2.1/\x.2.1+x.2.2<=W x.1/\(x.2.2<=4->0<=r.1/\r.1<4294967296)/\(x.2.2<=1->r.1<256))/\(r.2≠0->r.1=0):=by
 unfold B0;refine AC (y? ⟨n!,λ_=>rfl⟩) (λo=>AC (y? ⟨n!,λ_=>rfl⟩) (λp=>AC (y? ⟨n!,λ_=>rfl⟩) (λq=>AC (y? ⟨n!,λ_=>rfl⟩) (λf=>?_))));simp[O]at f⊢;rw[(AY (x:=(W x.1:V)-x.2.1))];refine AC (y? ⟨n!,λ_=>rfl⟩) (λt=>AA (P:=λr=>0<=r/\r<2^(8*x.2.2.toNat)) ?_ λA y=>AB ⟨λ_=>⟨o!,o!,λg=>?_,λc=>?_⟩,λb=>O! rfl b⟩);refine AW (λs=>0<=s.2/\s.2<=x.2.2/\0<=s.1/\s.1<2^(8*s.2.toNat)) (λs=>(x.2.2-s.2).toNat) ⟨Ae _,d!,Ae _,u!⟩ (λs j=>?_);have⟨m,z,d,e⟩:=j;unfold VP;refine AC (λk=>?_) (λk=>AB ⟨d,?_⟩);rw[(AY (x:=x.2.1+s.2))];refine AA (Rs o! o!) λn c=>AC (λl=>?_) (y? ?_);grind[AY];have⟨u,w⟩:=ABc (a:=s.1) (v:=n) (i:=s.2) m o! d e c.1 c.2;grind[AY];have:s.2=x.2.2:=o!
 rw[<-this];exact e;have:=ACh g;grind[AY];have:=AHY c;grind[AY]
def rZ(a:BitVec 32):0<=ι .u32 (((π (a&&&κ 32 15):U)):V)/\ι .u32 (((π (a&&&κ 32 15):U)):V)<16:=by grind[xX,BitVec.toNat_and,κ,Nat.and_le_right]
def lH{x}:Ao (LZ x) λr=>M:=by unfold LZ;refine AA (P:=λ_=>M) ?_ λv _=>AB trivial;refine AW (λs=>0<=s.1/\s.1<=16) (λs=>(16-s.1).toNat) ⟨Ae _,g!⟩ (λs a=>?_);have⟨c,d⟩:=a;unfold V7;refine AC (λb=>?_) (y? trivial);refine AA (P:=λ_=>M) ?_ λg _=>?_;refine AW (λs=>0<=s.2/\s.2<=4) (λs=>(4-s.2).toNat) ⟨Ae _,d!⟩ (λs a=>?_);have⟨e,f⟩:=a;unfold Ly;rw[(AY (x:=s.2+1))];refine AC (λb=>?_) (y? trivial);refine AA (P:=λ_=>M) (AK (y? trivial) (y? trivial)) λv _=>AB ⟨d!,d!⟩;rw[(AY (x:=s.1+1))];refine AA (Dd c b) λh _=>AA (Dd c b) λi _=>AB ⟨d!,d!⟩
theorem wB{x:Bd}(h:x.length<=2199023255552):Ao (O5 x) λr=>M:=by unfold O5;refine AA lH λe _=>AA (P:=λ_=>M) ?_ λv _=>AB trivial;refine AW (λ(s:V×V)=>0<=s.2/\s.2<=x.length) (λ(s:V×V)=>((x.length:V)-s.2).toNat) ⟨Ae _,d!⟩ (λs b=>?_);have⟨c,d⟩:=b;unfold VQ;rw[(AY (x:=s.2+1))];refine AC (λa=>?_) (λ_=>AB trivial);simp[O]at a;refine AA (Rs c a) λf _=>AA (Dd (rZ _).1 (rZ _).2) λg _=>AA (Dd (rZ _).1 (rZ _).2) λi _=>AA (Dd (rZ _).1 (rZ _).2) λj _=>AA (Dd (rZ _).1 (rZ _).2) λk _=>AB ⟨d!,d!⟩
theorem aX{x:Bd×V}(h:W x.1<=2199023255552):Ao (Dr x) λr=>r.2.2=0->W r.1<=8392/\x.2+8+W r.1=r.2.1/\0<=x.2/\r.2.1<=W x.1:=by unfold Dr;refine AC (y? n!) (λg=>AC (y? n!) (λe=>?_));simp[O]at e;refine AA (Jk h) λd f=>AL (λb=>AB λa=>O! a b) (λc=>?_);have⟨a1,a2,a3,_⟩:=f.1 c;have a5:=a3 d!;dsimp only at a2;refine AC (y? n!) (λi=>?_);rw[(AY (x:=x.2+4)),AY (x:=x.2+4+d.1),(AY (x:=x.2+4+d.1+4))];refine AA (Jk h) λk j=>?_;grind[AL,AB,AA,CW,wB]
def kC{x}:Ao (FH x) λr=>M:=by unfold FH Ek;refine AA (P:=λ_=>M) ?_ λv _=>AB trivial;refine AC (λa=>?_) (y? trivial);simp[O]at a;exact AA (CW (Ae _) i! b!) λv _=>AB trivial
def RB(b:Fu):Prop:=W b.1<=2199023255552/\0<=b.2.1/\b.2.1<=W b.1
def De{b}{x:V}(h:RB b)(j:1<=x/\x<=8):Ao (CC b x) λr=>RB r.2/\(x<=4->0<=r.1/\r.1<4294967296):=by have⟨a1,a2,a3⟩:=id h;unfold CC;refine AL (y? ⟨h,λ_=>d!⟩) (λ_=>AA (Jk (by exact a1)) λf a=>?_);dsimp only at a;refine AA (P:=λr=>RB r) ?_ λk d=>AB ⟨d,λe=>?_⟩;refine AP (λc=>AB ?_) (y? ⟨a1,a2,a3⟩);have⟨g,i,_⟩:=a.1 c;rw[AY];exact⟨a1,d!⟩;by_cases c:f.2=0<;>grind
theorem V9{b}{x:V}(h:RB b)(n:0<=x/\x<4294967296):Ao (FE b x) λr=>RB r.2:=by have⟨a1,a2,a3⟩:=id h;unfold FE;refine AP (λd=>?_) (λl=>?_);rw[(AY (x:=O b.1-b.2.1) b!)];refine AA (P:=λr=>RB r/\(r.2.2=0->r.2.1+x<=W r.1)) ?_ λe j=>?_;refine AC (y? ⟨⟨a1,a2,a3⟩,λd=>O! d u!⟩) (λk=>AB ⟨h,λ_=>?_⟩);simp[O]at k;omega;have⟨⟨c,f,g⟩,i⟩:=j;refine AL (y? ⟨c,f,g⟩) (λa=>?_);have m:=i a;rw[(AY (x:=e.2.1+x)),(AY (x:=e.2.1+x-x))];exact AA (CW) λo _=>AB ⟨c,d!⟩;grind[AL,AB]
def V8{b}{x}(h:RB b):Ao (FC b x) λr=>RB r.2:=by unfold FC;refine AA (De h g!) λc a=>AL (y? a.1) (λ_=>AP (y? a.1) (λ_=>?_));have q:=a.2 g!;refine AC (y? a.1) (λ_=>?_);grind[AA,V9,AB]
theorem qq{x:Bd}(h:W x<=2199023255552):Ao (Jy x) λr=>M:=by unfold Jy;refine AA (De (b:=(x,0,0)) ⟨h,Ae _,d!⟩ g!) λs c=>AA (De c.1 g!) λt d=>AA (De d.1 g!) λu f=>AA (De f.1 g!) λv g=>AA (De g.1 g!) λw i=>AA (De i.1 g!) λy j=>AA (De j.1 g!) λz k=>AA (De k.1 g!) λA l=>AA (V8 l.1) λB m=>AA (V8 m) λC n=>AA (De n g!) λo a=>AA (V9 a.1 (a.2 g!)) λp e=>AL (y? trivial) (λ_=>AL (y? trivial) (λ_=>AA Kk λq _=>AO (y? trivial) (y? trivial)))
theorem Sl{x}:Ao (EF x) λr=>M:=by unfold EF Fw;refine BJ (BJ ?_);refine AK (λ_=>AK (y? trivial) (y? trivial)) (λ_=>AK (y? trivial) (λ_=>AC (y? trivial) (λ_=>AC (y? trivial) (y? trivial))))
theorem uk{x:R V}(h:x.length<=16777216):Ao (Ky x) λr=>M:=by unfold Ky;refine AA (P:=λ_=>M) ?_ λv _=>BG (λ_ _=>AB trivial) (λ_ _=>AB trivial);refine AW (λ(s:V)=>0<=s/\s<=x.length) (λ(s:V)=>((x.length:V)-s).toNat) ⟨Ae _,o!⟩ (λs a=>?_);have⟨c,d⟩:=a;unfold Kj;rw[(AY (x:=s+1))];refine AC (λb=>?_) (λ_=>AB trivial);grind[AA,AI,AL,AB]
def pV{x}:Ao (Mw x) λr=>r=E->1<=x.1/\x.1<=x.2.1/\x.2.1<=1099511627776/\0<=x.2.2.1/\x.2.2.1<=x.2.2.2.1/\x.2.2.2.1<64/\0<=x.2.2.2.2.1/\x.2.2.2.2.1<=8:=by
 unfold Mw;exact x!
def pR{x}:Ao (BE x) λr=>M:=by grind[BE,AP,AB]
def tD{x}:Ao (QM x) λr=>M:=by unfold QM;refine AA pR λv _=>AK (λ_=>?_) (y? trivial);refine AC (λ_=>?_) (y? trivial);refine AC (λ_=>?_) (y? trivial);exact AC (y? trivial) (y? trivial)
def qt{x}:Ao (O0 x) λr=>M:=by unfold O0;grind[AA,Sl,uk,AB]
def um{x:AS}:Ao (Vi x) λr=>r=true->aq x:=by
 unfold Vi;refine AA pV λj d=>AO (λ_=>AB λb=>by cases b) (λa=>?_);have hn:=d a;refine AC (λ_=>AB λb=>by cases b) (λf=>?_);simp[O]at f;have q:aq x:=⟨hn.1,hn.2.1,hn.2.2.1,hn.2.2.2.1,hn.2.2.2.2.1,hn.2.2.2.2.2.1,hn.2.2.2.2.2.2.1,hn.2.2.2.2.2.2.2,o!⟩
 refine AA (P:=λ_=>M) ?_ λv _=>BG (λ_ _=>AB λ_=>q) (λ_ _=>AB λ_=>q);refine AW (λ(s:V)=>0<=s/\s<=x.2.2.2.2.2.length) (λ(s:V)=>((x.2.2.2.2.2.length:V)-s).toNat) ⟨Ae _,o!⟩ (λs e=>?_);have⟨h,i⟩:=e;unfold Th;rw[(AY (x:=s+1)),(AY (x:=s-1))];refine AC (λa=>?_) (λ_=>AB trivial);simp[O]at a;have c:((0<=s+1/\s+1<=x.2.2.2.2.2.length)/\((x.2.2.2.2.2.length:V)-(s+1)).toNat<((x.2.2.2.2.2.length:V)-s).toNat):=⟨o!,o!⟩
 refine AA (AI h a) λk _=>AA Kk λl _=>AO (λ_=>AB trivial) (λ_=>AA tD λm _=>AO (λ_=>AB trivial) (λ_=>AP (λ_=>AC (λ_=>AB trivial) (λ_=>AB c)) (λg=>AA (AI) λn _=>AC (λ_=>AC (λ_=>AB trivial) (λ_=>AB c)) (λ_=>AA (AI) λo _=>AA qt λp _=>AC (λ_=>AB trivial) (λ_=>AL (λ_=>AB trivial) (λ_=>AB c))))))
def tC{x:Bd}(h:x.length<=2199023255552):Ao (LH x) λr=>r.2=0->aq r.1:=by
 unfold LH;refine AA (aX (by exact h)) λp k=>AL (λf=>AB λa=>absurd a f) (λg=>?_);have⟨a1,a2,a3,a4⟩:=k g;dsimp only at a1 a2 a3 a4;refine AL (λ_=>AB n!) (λl=>AA kC λy _=>AO (λ_=>AB n!) (λ_=>?_));have b:p.1.length<=2199023255552:=o!
 refine AA (Jk b) λz _=>AA (Jk b) λA _=>AA (Jk b) λB _=>AA (Jk b) λC _=>AA (Jk b) λD_ _=>AA (Jk b) λi _=>AO (λ_=>AB n!) (λm=>?_);have n:i.1<=4096:=by simpa using m
 refine AA (P:=λr=> ∀u,r= .inl u->u.1≠0) ?_ λr hr=>BG (λu c=>AB λa=>absurd a (hr u c)) (λu c=>?_);refine AW (λ(s:V×(V×((R AE)×(V×(V×(V×(V×(V×AS))))))))=>0<=s.2.1/\(s.2.1<=i.1\/s.2.1=0)/\s.2.2.1.length<=s.2.1) (λ(s:V×(V×((R AE)×(V×(V×(V×(V×(V×AS))))))))=>(i.1-s.2.1).toNat) ⟨Ae _,.inr rfl,q!⟩ (λs o=>?_);have⟨t,v,w⟩:=o;unfold LN;refine AC (λj=>?_) (λ_=>AB λu c=>by cases c);have e:=AY (x:=s.2.1+1);grind[AA,aX,AL,AB,qq,Ac,List.length_cons,List.length_nil];refine AC (λ_=>AB n!) (λ_=>AA um λq d=>AO (λ_=>AB n!) (λj=>AB λ_=>d j))
abbrev EN:=AE
def ABA(x y:V):EF (x,y)=Y (if x<y then-1 else if x>y then 1 else 0):=by unfold EF Fw;simp only[H!,AD,A!];by_cases a:x<y;simp[a];by_cases b:x>y;simp[a,b];simp[a,b]
theorem oX{x:V}(h:0<=x/\x<=1099511627776:=by omega):wi x=x:=AY
theorem wip{i:U}(h:i<=16777216:=by omega):wi ((i:V)+1)=((i+1:U):V):=by grind[oX]
def wim{i:U}(h:i<=16777216:=by omega):wi ((i:V)-1)=(i:V)-1:=by grind[AY]
def bl8(n:U):U:=if n=0 then 0 else if n<2 then 1 else if n<4 then 2 else if n<8 then 3 else if n<16 then 4 else if n<32 then 5 else if n<64 then 6 else if n<128 then 7 else 8
def qR{n:U}(h:n<256):bl8 n<=8/\(1<=n->2^bl8 n<=2*n):=by grind[bl8]
def T8:Bd:=(List.range 256).map λn=>UInt8.ofNat (bl8 n)
def ALM{n:U}(h:n<256):six T8 (n:V)=Y ((bl8 n:U):V):=by have a:=(qR h).1;unfold six T8;simp[h];omega
noncomputable def Lz(x:V):Z V:=
 σ ((
   z (τ (x>=4294967296)) (Y ((Int.fdiv x (2^(min (ο 32) 64))),32))<|Y (x,0)):(Z (V×V))) λv0=>
 σ ((
   z (τ (v0.1>=65536)) (Y ((Int.fdiv v0.1 (2^(min (ο 16) 64))),wi (v0.2+16)))<|Y v0):(Z (V×V))) λv1=>
 σ ((
   z (τ (v1.1>=256)) (Y ((Int.fdiv v1.1 (2^(min (ο 8) 64))),wi (v1.2+8)))<|Y v1):(Z (V×V))) λv2=>
 σ (six T8 (ι .u8 v2.1)) λv3=>
 Y (wi (v2.2+(wi v3)))
def AJ2:Qm=Lz:=h!
def ALB(n:U):Int.fdiv (n:V) (2^(min (ο 16) 64))=((n/65536:U):V):=by grind[ο,Int.fdiv_eq_ediv_of_nonneg]
def fd8(n:U):Int.fdiv (n:V) (2^(min (ο 8) 64))=((n/256:U):V):=by grind[ο,Int.fdiv_eq_ediv_of_nonneg]
def xd{y s:U}(h:y<256)(c:s<=64):(σ (six T8 (ι .u8 (y:V))) λa=>δ (wi ((s:V)+(wi a))))=δ ((s+bl8 y:U):V):=by have b:=(qR h).1;rw[AH4,show(y:V)%256=(y:V) by omega,ALM h,AD,oX (x:=((bl8 y:U):V)),oX];exact E! δ o!
def AB6{x:U}(h:x<=16777216):∃r:U,Qm (x:V)=Y (r:V)/\r<=32/\(1<=x->2^r<=2*x):=by
 rw[AJ2];unfold Lz;have c:τ ((x:V)>=4294967296)=X:=w!
 rw[c,A!,AD];by_cases f:x>=65536;have:τ (((x:V),(0:V)).1>=65536)=E:=w!
 have e:wi (((x:V),(0:V)).2+16)=((16:U):V):=by show wi (0+16)=_;decide
 rw[this,B!,AD,e,ALB];by_cases g:x/65536>=256;have:τ (((((x/65536:U):V),((16:U):V)):V×V).1>=256)=E:=w!
 have e:wi (((((x/65536:U):V),((16:U):V)):V×V).2+8)=((24:U):V):=by show wi (((16:U):V)+8)=_;decide
 rw[this,B!,AD,e,fd8];have a:x/65536/256<256:=o!
 have b:=qR a;refine⟨_,xd a o!,o!,λ_=>?_⟩;grind[Nat.pow_add];have:τ (((((x/65536:U):V),((16:U):V)):V×V).1>=256)=X:=w!
 rw[this,A!,AD];have a:x/65536<256:=o!
 have b:=qR a;refine⟨_,xd a o!,o!,λ_=>?_⟩;grind[Nat.pow_add];have:τ (((x:V),(0:V)).1>=65536)=X:=w!
 rw[this,A!,AD];by_cases g:x>=256;have:τ (((x:V),(0:V)).1>=256)=E:=w!
 have e:wi (((x:V),(0:V)).2+8)=((8:U):V):=by show wi (0+8)=_;decide
 rw[this,B!,AD,e,fd8];have a:x/256<256:=o!
 have b:=qR a;refine⟨_,xd a o!,o!,λ_=>?_⟩;grind[Nat.pow_add];have:τ (((x:V),(0:V)).1>=256)=X:=w!
 rw[this,A!,AD];have a:x<256:=o!
 have b:=qR a;refine⟨_,xd (s:=0) a o!,o!,λd=>?_⟩;have:=b.2 d;rw[DY];omega
def CP(B:U):Prop:=M
theorem CPa(B:U):CP B:=trivial
def PT{α:Type}(T:Prop)(o:Z α)(Q:α->Prop):Prop:=(T->∃r,o=Y r)/\∀r,o=Y r->Q r
section
variable {α β γ:Type}{T:Prop}
def PT.some{r:α}{Q:α->Prop}(h:Q r):PT T (.some r) Q:=⟨λ_=>⟨r,rfl⟩,λs e=>k!⟩
def lD{o}{Q:α->Prop}(h:Ao o Q):PT T o Q:=by obtain⟨r,rfl,h⟩:=h;exact PT.some h
def PT.bind{o}{k:α->Z β}{P:α->Prop}{Q:β->Prop}(h:PT T o P)(a:∀r,P r->PT T (k r) Q):PT T (σ o k) Q:=by
 cases o with
 |none=>exact⟨λt=>(by have⟨r,h⟩:=h.1 t;cases h),λr e=>(by cases e)⟩
 |some r=>exact a r (h.2 r rfl)
def PT.cond{c:N}{a b}{Q:α->Prop}(d:c=E->PT T a Q)(e:c=X->PT T b Q):PT T (z c a<|b) Q:=k!
def PT.dec{p:Prop}{_:Decidable p}{a b}{Q:α->Prop}(c:p->PT T a Q)(d:¬p->PT T b Q):PT T (z (decide p) a<|b) Q:=k!
def bg{n m:U}{a b:Z α}{Q:α->Prop}(e:n=m)(h:PT T a Q):PT T (z (ξ n m) a<|b) Q:=t!
end
def pQ{x:AJ×V}(h:W x.1.1<=16)(a:0<=x.2/\x.2<W x.1.1):Ao (Ki x) λr=>M:=by unfold Ki;have e:=AY (x:=x.2+1);rw[e];refine AC (λb=>?_) (λ_=>?_);simp only[O]at b;refine AA (AI a.1 a.2) λc _=>AA (AI o! b) λd _=>AB trivial;exact AA (AI a.1 a.2) λf _=>AB trivial
def nF{x:AJ×AS}(h:x.1.1.length<=16):Ao (M2 x) λr=>M:=by
 unfold M2;refine AA (P:=λ_=>M) ?_ λv _=>BG (λ_ _=>AB trivial) (λ_ _=>AB trivial);refine AW (λ(s:V)=>0<=s/\s<=x.1.1.length) (λ(s:V)=>((x.1.1.length:V)-s).toNat) ⟨Ae _,o!⟩ (λs c=>?_);unfold RK;have e:=AY (x:=s+1);rw[e];refine AC (λa=>?_) (λ_=>AB trivial);simp only[O]at a;have b:((0<=s+1/\s+1<=x.1.1.length)/\((x.1.1.length:V)-(s+1)).toNat<((x.1.1.length:V)-s).toNat):=⟨o!,o!⟩
 refine AA (pQ h ⟨c.1,a⟩) λd _=>AP (λ_=>?_) (λ_=>AB b);exact AP (λ_=>AB trivial) (λ_=>AB b)
def nE{x:AJ×Am}(h:W x.1.1<=16)(c:W x.2.2.2<=2199023255552):Ao (G7 x) λr=>r.2=E->aq r.1:=by unfold G7;refine AL (y? n!) (λ_=>AA (tC c) λd b=>AP (λa=>?_) (y? λa=>by cases a));exact AA (nF h) λe _=>AB λ_=>b a
def ABS{a b:V}(f:0<=a:=by omega)(g:0<=b:=by omega)(h:a+b<=1099511627776:=by omega):wi (Int.fdiv (IntKind.wrap .u64 (wi (a+b))) (2^(min (Int.toNat 1) 64)))=(a+b)/2:=by
 have c:wi (a+b)=a+b:=AY;have d:IntKind.wrap .u64 (a+b)=a+b:=by rw[Xa];omega
 have e:(2:V)^(min (Int.toNat 1) 64)=2:=by decide
 rw[c,d,e,mA _ (by decide)];exact AY
def Wn{x}:Ao (OU x) λr=>r=E↔x.1<x.2:=by unfold OU Fw;apply BJ;refine AK (λa=>?_) (y? q!);simp at a
def MT{α:Type}(b:N)(o:Z α)(Q:α->Prop):Prop:=(b=E->∃r,o=Y r)/\∀r,o=Y r->Q r
section
variable {α β:Type}{b:Bool}
def MT.some{r:α}{Q:α->Prop}(h:Q r):MT b (.some r) Q:=⟨λ_=>⟨r,rfl⟩,λs e=>by injection e with e;rw[<-e];exact h⟩
def lF{o}{Q:α->Prop}(h:Ao o Q):MT b o Q:=⟨λ_=>by have⟨r,e,_⟩:=h;exact⟨r,e⟩,λr e=>h.get e⟩
def MT.bind{o}{k:α->Z β}{P:α->Prop}{Q:β->Prop}(h:MT b o P)(d:∀r,P r->MT b (k r) Q):MT b (σ o k) Q:=by refine⟨λc=>?_,λr e=>?_⟩;have⟨r,e⟩:=h.1 c;have⟨s,a⟩:=(d r (h.2 r e)).1 c;exact⟨s,by rw[e];exact a⟩;have⟨s,f,a⟩:=Do.1 e;exact(d s (h.2 s f)).2 r a
def MT.cond{c:N}{x y}{Q:α->Prop}(a:c=E->MT b x Q)(d:c=X->MT b y Q):MT b (z c x<|y) Q:=by cases c<;>grind
def MT.dec{p:Prop}{_:Decidable p}{x y}{Q:α->Prop}(a:p->MT b x Q)(c:¬p->MT b y Q):MT b (z (decide p) x<|y) Q:=by simp_all[MT.cond]
end
def pj{a:Type}{l}{i}{x:a}:(ER l i x).length=W l:=by simp[ER]
abbrev NL:=S A6
def DS(a:AJ):Prop:=∀f∈a.2.2.1,W f.2.2<=2199023255552
def SpL(l:S FK):Prop:=W l<=16777216/\∀s∈l,1<=s.1
theorem fT{n:V}{v:EN}:∀{m:S (V×EN)},(m.map (·.1)).Nodup->∀q,q∈Qa n v m↔q=(n,v)\/(q∈m/\q.1≠n)
 |[],_,q=>by simp[Qa]
 |p::r,h,q=>by
  rw[B4,G1]at h;unfold Qa;by_cases b:p.1=n;grind[List.mem_cons_of_mem,List.mem_map_of_mem];have:(p.1==n)=X:=by simp[b]
  rw[this,A!];constructor;intro a;rcases Av.1 a with a|a;grind;rcases(fT h.2 q).1 a with a|⟨a,hn⟩;exact .inl a;grind[List.mem_cons_of_mem];rintro(a|⟨a,hn⟩);exact Ca _ ((fT h.2 q).2 (.inl a));rcases Av.1 a with a|a;grind;exact Ca _ ((fT h.2 q).2 (.inr ⟨a,hn⟩))
def xD{n}{v}:∀{m:S (V×EN)},(m.map (·.1)).Nodup->((Qa n v m).map (·.1)).Nodup
 |[],_=>by simp[Qa]
 |p::r,h=>by
  have b:=h;rw[B4,G1]at h;unfold Qa;by_cases a:p.1=n;grind[List.nodup_cons];have:(p.1==n)=X:=by simp[a]
  rw[this,A!,B4,G1];refine⟨λc=>?_,xD h.2⟩;grind[fT,List.mem_map_of_mem]
def xB{n}{e:EN}:∀{m},Lo n m=Y e->(n,e)∈m
 |[],h=>by cases h
 |p::r,h=>by
  unfold Lo at h;by_cases a:p.1=n;grind;have:(p.1==n)=X:=by simp[a]
  rw[this,A!]at h;exact Ca _ (xB h)
def xA{n:V}:∀{m:R (V×EN)},Lo n m=ε->∀q∈m,q.1≠n
 |[],_,q,a=>by cases a
 |p::r,h,q,a=>by
  unfold Lo at h;by_cases b:p.1=n;have:(p.1==n)=ζ:=by simp[b]
  rw[this,B!]at h;cases h;have:(p.1==n)=η:=by simp[b]
  rw[this,A!]at h;rcases Av.1 a with a|a;rw[a];exact b;exact xA h q a
def Qz(m:S (V×EN))(P:EN->Prop):Prop:=(m.map (·.1)).Nodup/\(∀q∈m,q.1=q.2.1)/\∀e,(e.1,e)∈m↔P e
def Qz.nil:Qz [] λ_=>False:=⟨Q7,q!,q!⟩
def Qz.put{m}{P:EN->Prop}{v:EN}(h:Qz m P):Qz (Qa v.1 v m) λe=>e=v\/(P e/\e.1≠v.1):=by refine⟨xD h.1,λq a=>?_,λe=>?_⟩;rcases(fT h.1 q).1 a with a|⟨a,_⟩;rw[a];exact h.2.1 q a;rw[fT h.1];constructor;rintro(a|⟨a,hn⟩);injection a with _ a;exact .inl a;exact .inr ⟨(h.2.2 e).1 a,hn⟩;rintro(rfl|⟨a,hn⟩);exact .inl rfl;exact .inr ⟨(h.2.2 e).2 a,hn⟩
def Qz.congr{m}{P Q:EN->Prop}(h:Qz m P)(a:∀e,P e↔Q e):Qz m Q:=⟨h.1,h.2.1,λe=>(h.2.2 e).trans (a e)⟩
def Qz.get{m}{P:EN->Prop}(h:Qz m P){e:EN}(g:P e):Lo e.1 m=Y e:=by
 have d:=(h.2.2 e).2 g;cases c:Lo e.1 m with
 |none=>exact O! rfl (xA c _ d)
 |some f=>
  have i:∀{l:S (V×EN)},(l.map (·.1)).Nodup->∀{n:V}{a b:EN},(n,a)∈l->(n,b)∈l->a=b:=by intro l;induction l<;>grind
  rw[i h.1 d (xB c)]
def hZ(e:EN):N:=(e.2.1==1)||(e.2.1==2)
def nz(e:EN):BE e=Y (hZ e):=by grind[BE,hZ]
def HW(p i j:V)(e:EN):N:=hZ e&&((e.2.2.2.2.2.2.1.1==p)&&(τ (e.1>i)&&τ (e.1<=j)))
def QZ(s:V×V)(n:V):N:=τ (n>=s.1)&&τ (n<=s.2)
def has_eq(s:V×V)(n:V):JY (s,n)=Y (QZ s n):=by grind[JY,QZ]
def AKS{e:EN}{l:R (V×V)}(j:l.length<=16777216):Ao (Ag (Xl e l) 0) λr=>(∀u,r= .inl u->0<=u/\(l.any λs=>QZ s e.1)=true)/\(∀u,r= .inr u->(l.any λs=>QZ s e.1)=false):=by refine AW (λ(s:V)=>0<=s/\s<=l.length/\ ∀x∈l.take s.toNat,QZ x e.1=false) (λ(s:V)=>((l.length:V)-s).toNat) ⟨Ae _,o!,q!⟩ (λs d=>?_);have⟨g,m,h⟩:=d;unfold Xl;refine AC (λa=>?_) (λa=>AB ⟨λu b=>(by cases b),λu _=>?_⟩);simp[O]at a;rw[(AY (x:=s+1))];refine AA (AI g a) λn c=>?_;rw[has_eq,AD];refine AK (λk=>AB ⟨λu b=>?_,λu b=>(by cases b)⟩) (λi=>AB ⟨⟨o!,o!,λx f=>?_⟩,o!⟩);grind[List.any_eq_true];rw[show(s+1).toNat=s.toNat+1 by omega,Cl,c.1]at f;grind[Option.toList_some,List.mem_singleton];simp[O]at a;rw[BN o!]at h;rw[Bool.eq_false_iff];grind[List.any_eq_true]
def AKR{a:AJ}{l:Aa}{p i j:Int}{d:List (Int×Int)}(R:Dg l)(hv:1≤d.length)(S:d.length≤16777216):
  Ao (Ag (Xk (a,(l,(p,(i,j)))) d) (0,(0,[]))) λr=>r.1=((l.2.1.filter λe=>HW p i j e&&(d.tail.any λs=>QZ s e.1)).length:Int)/\Qz r.2 λe=>e∈l.2.1/\HW p i j e=true:=by
 obtain⟨l1,l2,l3,l4,l5,K⟩:=R;refine AW (λ(s:Int×(Int×List (Int×EN)))=>0<=s.1/\s.1<=l.2.1.length/\s.2.1=(((l.2.1.take s.1.toNat).filter λe=>HW p i j e&&(d.tail.any λs=>QZ s e.1)).length:Int)/\Qz s.2.2 λe=>e∈l.2.1.take s.1.toNat/\HW p i j e=true) (λs=>((l.2.1.length:Int)-s.1).toNat)
  ⟨Ae _,d!,q!,Qz.nil.congr λe=>q!⟩ (λs O=>?_)
 obtain⟨T,i2,A,B⟩:=O;unfold Xk;dsimp only;refine AC (λy=>?_) (λy=>AB ?_);simp only[len]at y;have L:=AY (x:=s.1+1);rw[L];refine AA (AI T y) λq I=>?_;rw[nz,AD];have g:l.2.1.take (s.1+1).toNat=l.2.1.take s.1.toNat++[q]:=by rw[show(s.1+1).toNat=s.1.toNat+1 by omega,Cl,I.1];rfl
 have f:HW p i j q=false->(0<=s.1+1/\s.1+1<=l.2.1.length/\s.2.1=(((l.2.1.take (s.1+1).toNat).filter λe=>HW p i j e&&(d.tail.any λs=>QZ s e.1)).length:Int)/\Qz s.2.2 λe=>e∈l.2.1.take (s.1+1).toNat/\HW p i j e=true)/\((l.2.1.length:Int)-(s.1+1)).toNat<((l.2.1.length:Int)-s.1).toNat:=λw=>by
  refine⟨⟨o!,o!,?_,?_⟩,o!⟩;rw[g,GL,A];simp[w];rw[g];refine B.congr λe=>⟨λh=>⟨Ak.2 (.inl h.1),h.2⟩,λh=>⟨?_,h.2⟩⟩
  rcases Ak.1 h.1 with m|m;exact m;rw[A9.1 m,w]at h;cases h.2
 refine AK (λC=>?_) (λC=>AB (f (by simp[HW,C])));refine AK (λD_=>?_) (λD_=>AB (f (by simp[HW,D_])));refine AK (λE_=>?_) (λE_=>AB (f (by unfold HW;rw[E_];simp)));refine AK (λF=>?_) (λF=>AB (f (by unfold HW;rw[F];simp)));have w:HW p i j q=true:=by unfold HW;rw[C,D_,E_,F];rfl
 refine AA (BX (lo:=1) (hi:=(d.length:Int))) λV N=>?_;have H:V=d.tail:=by
  rw[N.1,BN (by rw[C2];omega)];cases d with
  |nil=>rfl
  |cons a r=>rfl
 subst H;refine AA (AKS (by rw[List.length_tail];omega)) λU o=>?_;have M:=K s.1.toNat q I.1;have n:Qz (Qa q.1 q s.2.2) λe=>e∈l.2.1.take (s.1+1).toNat/\HW p i j e=true:=by
  rw[g];refine B.put.congr λe=>⟨?_,λh=>?_⟩
  rintro(rfl|⟨h,_⟩);exact⟨Ak.2 (.inr (A9.2 rfl)),w⟩;exact⟨Ak.2 (.inl h.1),h.2⟩;rcases Ak.1 h.1 with m|m;refine .inr ⟨⟨m,h.2⟩,λZ=>?_⟩;obtain⟨k,Q,v⟩:=WU.1 m;rw[BQ]at Q;rw[nY]at v;have:=(K k e (by rw[<-v];exact Au o!)).1;omega;exact .inl (A9.1 m)
 have t: ∀b:Bool,(d.tail.any λs=>QZ s q.1)=b->((((l.2.1.take (s.1+1).toNat).filter λe=>HW p i j e&&(d.tail.any λs=>QZ s e.1)).length:Nat):Int)=s.2.1+(if b=true then 1 else 0):=λb P=>by rw[g,GL,AZ,A];cases b<;>simp[w,P]
 have J:(((l.2.1.take s.1.toNat).filter λe=>HW p i j e&&(d.tail.any λs=>QZ s e.1)).length:Int)<=4096:=by have W:=EH (λe=>HW p i j e&&(d.tail.any λs=>QZ s e.1)) (l.2.1.take s.1.toNat);have X_:=fi s.1.toNat l.2.1;have Y_:=List.length_take_le' s.1.toNat l.2.1;omega
 have G:=AY (x:=s.2.1+1);rw[G];refine BG (λu z=>?_) (λu z=>AB ⟨⟨d!,d!,?_,n⟩,d!⟩);refine AC (λ_=>AB ⟨⟨d!,d!,?_,n⟩,d!⟩) (λc=>absurd (o.1 u z).1 c);rw[t true (o.1 u z).2];rfl;rw[t false (o.2 u z)];simp;simp only[len]at y;rw[BN o!]at A B;exact⟨A,B⟩
def ltC(f e:EN):Prop:=f.2.2.2.2.2.2.1.1<e.2.2.2.2.2.2.1.1\/(f.2.2.2.2.2.2.1.1=e.2.2.2.2.2.2.1.1/\f.1<e.1)
theorem ABR(e:EN):¬ltC e e:=by unfold ltC;omega
def ADZ{a b c}(h:ltC a b)(g:ltC b c):ltC a c:=by unfold ltC at*;omega
def AIC(f e:EN):∃c:V,DA (f,e)=Y c/\(c<0↔ltC f e)/\(c=0↔f.2.2.2.2.2.2.1.1=e.2.2.2.2.2.2.1.1/\f.1=e.1):=by
 have:Ao (DA (f,e)) λc=>(c<0↔ltC f e)/\(c=0↔f.2.2.2.2.2.2.1.1=e.2.2.2.2.2.2.1.1/\f.1=e.1):=by
  unfold DA;unfold ltC;dsimp only;repeat' with_reducible first|intro a|apply AC|apply AP|apply AK|apply AB
  all_goals omega
 exact this
def yx(x:AS)(i:U):Prop:=∀e,x.2.2.2.2.2[i]?=Y e->
 (Mc e/\hZ e=E/\x.1<=e.1/\e.1<=x.2.1/\x.2.2.1<=e.2.2.2.2.2.2.1.1/\e.2.2.2.2.2.2.1.1<=x.2.2.2.1)/\(i=0->e.2.2.2.2.1<x.1)/\
 ∀f,0<i->x.2.2.2.2.2[i-1]?=Y f->ltC f e/\(f.2.2.2.2.2.2.1.1=e.2.2.2.2.2.2.1.1->e.2.2.2.2.1=f.1)/\(f.2.2.2.2.2.2.1.1≠e.2.2.2.2.2.2.1.1->e.2.2.2.2.1<x.1)
def VR(x:AS):Prop:=aq x/\∀i,yx x i
def VR.ent{x}(h:VR x){e:EN}(a:e∈x.2.2.2.2.2):Mc e/\hZ e=E/\x.1<=e.1/\e.1<=x.2.1/\x.2.2.1<=e.2.2.2.2.2.2.1.1/\e.2.2.2.2.2.2.1.1<=x.2.2.2.1:=by obtain⟨i,b,rfl⟩:=WU.1 a;exact(h.2 i _ (Au b)).1
def AAx{x:AS}(Q:x.2.2.2.2.2.length<=4096):Ao (Ag (HQ x) 0) λr=>(r= .inl false/\ ¬ ∀i,yx x i)\/(r= .inr ()/\ ∀i,yx x i):=by
 refine CQ (λ(s:V)=>0<=s/\s<=x.2.2.2.2.2.length/\ ∀i:U,(i:V)<s->yx x i) (λ(s:V)=>((x.2.2.2.2.2.length:V)-s).toNat) ⟨Ae _,o!,λi z=>o!⟩ (λs J=>?_);obtain⟨G,R,H⟩:=J;unfold HQ;simp only[len];refine AC (λE_=>?_) (λE_=>Ao.done (.inr ⟨rfl,λi=>?_⟩))
 case refine_2=>by_cases z:(i:V)<s;exact H i z;intro e m;rw[Ct o!]at m;cases m
 obtain⟨k,rfl⟩:=Ef G;refine AA (AI G E_) λv d=>?_;have d:=d.1;rw[CO]at d;have a:(yx x k->False)->Ao (some (Step.done (.inl false)):Option (Step V (Bool ⊕ Unit))) (MX (λ(s:V)=>0<=s/\s<=x.2.2.2.2.2.length/\ ∀i:U,(i:V)<s->yx x i) (λ(s:V)=>((x.2.2.2.2.2.length:V)-s).toNat) ((x.2.2.2.2.2.length:V)-(k:V)).toNat λr=>(r= .inl false/\ ¬ ∀i,yx x i)\/(r= .inr ()/\ ∀i,yx x i)):=λh=>Ao.done (.inl ⟨rfl,λu=>h (u k)⟩);have j:yx x k->Ao (some (Step.next (wi ((k:V)+1))):Option (Step V (Bool ⊕ Unit))) (MX (λ(s:V)=>0<=s/\s<=x.2.2.2.2.2.length/\ ∀i:U,(i:V)<s->yx x i) (λ(s:V)=>((x.2.2.2.2.2.length:V)-s).toNat) ((x.2.2.2.2.2.length:V)-(k:V)).toNat λr=>(r= .inl false/\ ¬ ∀i,yx x i)\/(r= .inr ()/\ ∀i,yx x i)):=λh=>by
  rw[AY];refine Ao.next ⟨o!,o!,λi z=>?_⟩ o!
  by_cases A:i=k;rw[A];exact h;exact H i o!
 refine AA Cc λN C=>AO (λl=>a λok=>?_) (λl=>?_);have:=C.2 (ok v d).1.1;rw[l]at this;cases this;have q1:=C.1 l;refine AA CR λO D_=>?_;have q:hZ v=true↔v.2.1=1\/v.2.1=2:=by unfold hZ;simp
 refine AO (λl=>a λok=>?_) (λl=>?_);have:=D_.2 (q.1 (ok v d).1.2.1);rw[l]at this;cases this;have q2:=q.2 (D_.1 l);refine AC (λt=>a λok=>?_) (λq3=>?_);have:=(ok v d).1.2.2;omega;refine AC (λt=>a λok=>?_) (λq4=>?_);have:=(ok v d).1.2.2;omega;refine AC (λt=>a λok=>?_) (λq5=>?_);have:=(ok v d).1.2.2;omega;refine AC (λt=>a λok=>?_) (λq6=>?_);have:=(ok v d).1.2.2;omega;have q0:Mc v/\hZ v=true/\x.1<=v.1/\v.1<=x.2.1/\x.2.2.1<=v.2.2.2.2.2.2.1.1/\v.2.2.2.2.2.2.1.1<=x.2.2.2.1:=⟨q1,q2,o!⟩
 apply AC<;>intro L;have M:wi ((k:V)-1)=((k-1:U):V):=by rw[AY];omega
 have F:k-1<x.2.2.2.2.2.length:=o!
 have w:ix x.2.2.2.2.2 (wi ((k:V)-1))=some (x.2.2.2.2.2[k-1]):=by rw[M];unfold ix;rw[if_pos o!,CO,Au F]
 have n:x.2.2.2.2.2[k-1]? =some (x.2.2.2.2.2[k-1]):=Au F;generalize x.2.2.2.2.2[k-1]=f at w n;obtain⟨c,y,p,K⟩:=AIC f v;rw[w,AD,y,AD];refine AC (λt=>a λok=>?_) (λt=>?_);have:=p.2 ((ok v d).2.2 f o! n).1;omega;have q7:=p.1 o!;rw[decide_eq_true o!,cond_true,AD];refine AA (P:=λr:Bool ⊕ Unit=>(r= .inl false/\ ¬yx x k)\/(r= .inr ()/\yx x k)) ?_ λr hr=>?_;apply AP<;>intro m;rw[AD];refine AL (λhn=>AB (.inl ⟨rfl,λok=>hn (((ok v d).2.2 f o! n).2.1 m)⟩)) (λhn=>AB (.inr ⟨rfl,λe g=>?_⟩));rw[d]at g;injection g with g;subst g;refine⟨q0,λo=>absurd o o!,λI _ b=>?_⟩;rw[n]at b;injection b with b;subst b;exact⟨q7,λ_=>hn,λu=>absurd m u⟩;refine AC (λhn=>AB (.inl ⟨rfl,λok=>?_⟩)) (λhn=>AB (.inr ⟨rfl,λe g=>?_⟩));have:=((ok v d).2.2 f o! n).2.2 m;omega;rw[d]at g;injection g with g;subst g;refine⟨q0,λo=>absurd o o!,λI _ b=>?_⟩;rw[n]at b;injection b with b;subst b;exact⟨q7,λu=>absurd u m,λ_=>o!⟩;rcases hr with⟨rfl,hr⟩|⟨rfl,hr⟩;exact BF (a hr);exact A0 (j hr);rw[decide_eq_false L,cond_false];have B:k=0:=o!
 apply Bn;apply AC<;>intro hn;rw[AD];refine BF (a λok=>?_);have:=(ok v d).2.1 B;omega;rw[AD];refine A0 (j λe g=>?_);rw[d]at g;injection g with g;subst g;exact⟨q0,λ_=>o!,λf o=>absurd o o!⟩
def YY{x}:Ao (EP x) λr=>r=E↔VR x:=by unfold EP;refine AA I3 λf c=>AO (λb=>AB ⟨λa=>(by cases a),λa=>?_⟩) (λb=>?_);obtain⟨⟨a1,a2,a3,a4,a5,a6,a7,a8,a9⟩,_⟩:=a;have:=c.2 ⟨a1,a2,a3,a4,a5,a6,a7,a8⟩;rw[b]at this;cases this;have hn:=c.1 b;dsimp only at hn;refine AC (λd=>AB ⟨λa=>(by cases a),λa=>?_⟩) (λe=>?_);have:=a.1.2.2.2.2.2.2.2.2;simp only[O]at d;omega;simp only[O]at e;refine AA (AAx o!) λr hr=>?_;rcases hr with⟨rfl,hr⟩|⟨rfl,hr⟩;exact BF (AB ⟨λa=>(by cases a),λa=>O! a.2 hr⟩);exact A0 (AB ⟨λ_=>⟨⟨hn.1,hn.2.1,hn.2.2.1,hn.2.2.2.1,hn.2.2.2.2.1,hn.2.2.2.2.2.1,hn.2.2.2.2.2.2.1,hn.2.2.2.2.2.2.2,o!⟩,hr⟩,λ_=>rfl⟩)
abbrev NE:=A6
def lN(x y:NE):N:=τ (x.1.2.2.1<y.1.2.2.1\/(x.1.2.2.1=y.1.2.2.1/\(x.1.1<y.1.1\/(x.1.1=y.1.1/\x.2<y.2))))
def vY:Sort.SWO lN where
 irrefl x:=by simp[lN]
 trans x y z h1 h2:=by simp[lN,K!]at*;omega
 ntrans x y z h1 h2:=by simp[lN,decide_eq_false_iff_not]at*;omega
def pn{l:S V}{k:U}{v:V}(h:l[k]?=Y v)(b:k<1000)(c:W l<1000):Ag (Kj l) (k:V)=if v=0 then Ag (Kj l) ((k+1:U):V)else Y (.inl v):=by
 rw[HV];have a:=(Ei.1 h).1;have d:τ ((k:V)<O l)=E:=w!
 have e:ix l (k:V)=Y v:=by unfold ix;rw[C! o!];simpa using h
 grind[wip,Kj]
def AKX(a b c:V):Ky [a,b,c]=Y (if a≠0 then a else if b≠0 then b else c):=by unfold Ky;rw[show(0:V)=((0:U):V)from rfl,pn (k:=0) (v:=a) rfl o! q!];by_cases d:a=0;rw[C! d,pn (k:=1) (v:=b) rfl o! q!];by_cases e:b=0;rw[C! e,pn (k:=2) (v:=c) rfl o! q!];grind[HV,Kj];rw[D! e];simp[d,e];rw[D! d];simp[d]
def AHm(x y:NE):∃v,IN (x,y)=Y v/\τ (v<0)=lN x y:=by
 unfold IN;dsimp only;simp only[ABA,AD,AKX];refine⟨_,rfl,?_⟩;unfold lN;apply decide_eq_decide.2;repeat' split
 all_goals omega
section
variable {α:Type} [Inhabited α]
theorem ixG{d:Q α}{i:V}{k:U}(a:i=k)(b:k<d.size:=by omega):ix d.toList i=some d[k]! :=by subst a;unfold ix;rw[if_pos (by omega)];simp[b]
omit [Inhabited α] in
theorem AJZ{d:Q α}{i:V}{k:U}(a:i=k)(x:α):ER d.toList i x=(d.setIfInBounds k x).toList:=by subst a;unfold ER;simp
def AHy{d:Q α}{i j:V}{a b:U}(c:i=a)(e:j=b):ER (ER d.toList i d[b]!) j d[a]! =(Sort.swp d a b).toList:=by rw[AJZ c,AJZ e];rfl
def AHH{d:Q α}{i j:V}{a b:U}{x:α}(e:i=a)(f:j=b)(c:b<d.size:=by omega):ix (ER d.toList i x) j=some (d.setIfInBounds a x)[b]! :=by grind[AJZ,ixG]
theorem lV(lt:α->α->N)(k:U):∀j d,(Sort.insInner lt k j d).size=d.size
 |0,_=>rfl
 |j+1,d=>by unfold Sort.insInner;split;rw[lV lt k j,Sort.size_swp];rfl
end
theorem ACZ{a b:V}{k:U}(g:a=k): ∀(j:U) (d:Q NE),j<d.size->d.size<=16777216->Ag (Dn (a,b)) ((j:V),d.toList)=some (Sort.insInner lN k j d).toList
 |0,d,hj,hd=>by
  rw[HV];have:decide (((0:U):V)>a)=false:=by simp;omega
  simp only[Dn,this,cond_false];rfl
 |j+1,d,hj,hd=>by
  rw[HV];have⟨v,e,f⟩:=AHm d[j+1]! d[j]!;simp only[Dn,(by grind[oX]:wi (((j+1:U):V)-1)=(j:V)),(ixG rfl hj),(ixG rfl:ix d.toList (j:V)=some d[j]!),(AHH rfl rfl:ix (ER d.toList ((j+1:U):V) d[j]!) (j:V)=some (d.setIfInBounds (j+1) d[j]!)[j]!),AD,e,f,AHy (d:=d) (a:=j+1) (b:=j) rfl rfl];unfold Sort.insInner;by_cases c:j+1>k;have:decide (((j+1:U):V)>a)=true:=by simp;omega
  rw[this];cases h:lN d[j+1]! d[j]! with
  |true=>simp[cond_true,c,decide_true,YZ,if_true];exact ACZ g j _ (by rw[Sort.size_swp];omega) (by rw[Sort.size_swp];omega)
  |false=>simp[c]
  have:decide (((j+1:U):V)>a)=false:=by simp;omega
  rw[this];simp[c]
def AE6{a b:V}{k m:U}(g:a=k)(h:b=m):∀(n i:U)(d:Q NE),m-i<=n->m<=d.size->d.size<=16777216->Ag (Dm (a,b)) ((i:V),d.toList)=Y (Sort.insOuter lN k m i d).toList:=by
 intro n;induction n with
 |zero=>grind[HV,Sort.insOuter,Dm]
 |succ n j=>intro i d c e f;rw[HV,Sort.insOuter];grind[oX,lV,Dm,ACZ]
def ACY{d:Q NE}{a b:V}{k m:U}(c:a=k)(e:b=m)(g:m<=d.size)(h:k<=m)(f:d.size<=16777216):DB d.toList (a,b)=Y (Sort.insertionSort lN d k m).toList:=by unfold DB;dsimp only;rw[(by grind[oX]:wi (a+1)=((k+1:U):V)),AE6 c e (m-(k+1)) (k+1) d o! g f];rfl
def swR(a b n:U)(d:Q NE)(k:U):NE:=if a<=k/\k<a+n then d[b+(k-a)]! else if b<=k/\k<b+n then d[a+(k-b)]! else d[k]!
def yq{d:Q NE}{a b n:U}(f:a+n≤b)(l:b+n≤d.size)(m:d.size≤16777216):
  Ao (Cz d.toList ((a:V),((b:V),(n:V)))) λr=> ∃e:Q NE,r=e.toList/\e.size=d.size/\ ∀k,k<d.size->e[k]! =swR a b n d k:=by
 unfold Cz;refine AA (P:=λr=> ∃e:Q NE,r=e.toList/\e.size=d.size/\ ∀k,k<d.size->e[k]! =swR a b n d k) ?_ λr h=>AB h;refine AW (λ(s:V×R NE)=> ∃(t:U) (e:Q NE),s.1=t/\s.2=e.toList/\t<=n/\e.size=d.size/\ ∀k,k<d.size->e[k]! =swR a b t d k) (λs=>n-s.1.toNat) ⟨0,d,rfl,rfl,BU _,rfl,λk _=>by unfold swR;rw[if_neg (by omega),if_neg (by omega)]⟩ ?_;rintro⟨q,u⟩ ⟨t,e,q1,q2,q3,q4,q5⟩;dsimp only at q1 q2;subst q1 q2;unfold IG;dsimp only;refine AC (λg=>?_) (λg=>AB ⟨e,rfl,q4,?_⟩);have o:t<n:=by omega
 simp only[(by grind[oX]:wi ((b:V)+(t:V))=((b+t:U):V)),(by grind[oX]:wi ((a:V)+(t:V))=((a+t:U):V)),(ixG rfl:ix e.toList ((b+t:U):V)=some e[b+t]!),(ixG rfl:ix e.toList ((a+t:U):V)=some e[a+t]!),(AHH rfl rfl:ix (ER e.toList ((a+t:U):V) e[b+t]!) ((b+t:U):V)=some (e.setIfInBounds (a+t) e[b+t]!)[b+t]!),AD,wip (i:=t),AHy (d:=e) (a:=a+t) (b:=b+t) rfl rfl];refine AB ⟨⟨t+1,_,rfl,rfl,by omega,by rw[Sort.size_swp,q4],λk j=>?_⟩,?_⟩;rw[Sort.swp_get e (by omega) (by omega)];rw[(q5 (a+t) (by omega)),(q5 (b+t) (by omega)),(q5 k j)];unfold swR;by_cases k1:k=a+t;subst k1;rw[if_neg (by omega),if_pos rfl,if_neg (by omega),if_neg (by omega),if_pos (by omega)];exact congrArg (λz=>d[z]!) (by omega);by_cases c:k=b+t;subst c;rw[if_pos rfl,if_neg (by omega),if_neg (by omega),if_neg (by omega),if_pos (by omega)];exact congrArg (λz=>d[z]!) (by omega);rw[if_neg c,if_neg k1];by_cases p:a<=k/\k<a+t<;>grind;show n-((t+1:U):V).toNat<n-((t:U):V).toNat
 omega;have:t=n:=by omega
 rw[<-this];exact q5
def fg(x:AS):Bd:=[80,77,82,78]++(C6 x.1 8++(C6 x.2.1 8++(C6 x.2.2.1 4++(C6 x.2.2.2.1 4++(C6 x.2.2.2.2.1 1++C6 (W x.2.2.2.2.2:V) 4)))))
def NZ(x:AS):Bd:=HX (fg x)++Kx x.2.2.2.2.2
theorem ab(x:AS):(fg x).length=33:=rfl
def aq.inr{x}(h:aq x):cr 8 x.1/\cr 8 x.2.1/\cr 4 x.2.2.1/\cr 4 x.2.2.2.1/\cr 1 x.2.2.2.2.1/\cr 4 (W x.2.2.2.2.2:V):=by have⟨a1,a2,a3,a4,a5,a6,a7,a8,a9⟩:=h;grind[cr]
def VR.len{x}(h:VR x):(NZ x).length<=34406441:=by have b:=tJ (l:=x.2.2.2.2.2) λe a=>(h.ent a).1;have c:=h.1.2.2.2.2.2.2.2.2;grind[NZ,n?,EM,ab]
def AGP{x}(h:aq x):H6 x=Y (fg x):=by unfold H6;rw[IF q! g! g!,AD];rw[IF (by simp only[AZ,Ay];simp) g! g!,AD];rw[IF (by simp only[AZ,Ay];simp) g! g!,AD];rw[IF (by simp only[AZ,Ay];simp) g! g!,AD];rw[IF (by simp only[AZ,Ay];simp) g! g!,AD];rw[IF (by simp only[AZ,Ay];simp) g! g!,AD];rfl
def rX{x:AS}(h:VR x):Gp x=some (NZ x,0):=by
 have q:=h.1.2.2.2.2.2.2.2.2;have⟨b,g,d⟩:=YY (x:=x);have c:=d.2 h;subst c;unfold Gp;rw[g,AD,By,cond_false,AGP h.1,AD,cq (by rw[ab];decide),AD];have key:Ao (Ag (Mr x) (HX (fg x),0)) λr=>r=NZ x:=by
  refine CQ (λ(s:Bd×V)=> ∃k:U,s.2=k/\k<=x.2.2.2.2.2.length/\s.1=HX (fg x)++Kx (x.2.2.2.2.2.take k)) (λs=>x.2.2.2.2.2.length-s.2.toNat) ⟨0,rfl,BU _,by simp[Kx]⟩ ?_;rintro⟨y,z⟩ ⟨k,o,u,p⟩;subst o p;unfold Mr;simp only[O];refine AC (λf=>?_) (λf=>Ao.done (by rw[BN o!];rfl));refine AA (AI o! f) λv d=>?_;have a:=(h.ent d.2).1;have m:=S7 a;have j:=tJ (l:=x.2.2.2.2.2.take k) λe i=>(h.ent (F9 i)).1;have n:(x.2.2.2.2.2.take k).length<=4096:=k!
  rw[rW a,AD,cq m,AD];refine AA (CM (by rw[AZ,EM,EM,ab];omega)) λw t=>?_;rw[AY];refine Ao.next ⟨k+1,k!,o!,?_⟩ k!
  grind[Int.toNat_natCast,List.take_add_one,Option.toList_some,S9,List.append_assoc]
 obtain⟨r,hr,rfl⟩:=key;rw[hr];rfl
def WR(x:AS):Prop:=aq x/\∀e∈x.2.2.2.2.2,G6 e.2.2.2.2.2.2.1.2.2.1/\G6 e.2.2.2.2.2.2.1.2.2.2/\e.2.2.2.2.2.2.2=[]
def AEc{e}(h:Mc e)(b:hZ e=E):e.2.2.2.2.2.2.2=[]:=by
 have a:e.2.1=1\/e.2.1=2:=by grind[hZ]
 have⟨_,_,_,_,_,_,_,_,c⟩:=h;grind[Vw]
def VR.wr{x}(h:VR x):WR x:=⟨h.1,λe b=>by have a:=h.ent b;exact⟨a.1.cells.1,a.1.cells.2.1,AEc a.1 a.2.1⟩⟩
def ADc{e}(h:GZ e=Y E)(f:hZ e=E):e.2.2.2.2.2.2.2=[]:=by
 have d:e.2.1=1\/e.2.1=2:=by unfold hZ at f;simpa using f
 have key:∀r,GZ e=Y r->r=E->e.2.2.2.2.2.2.2=[]:=by
  have main:MT X (GZ e) λr=>r=E->e.2.2.2.2.2.2.2=[]:=by
   have o:∀{Q:N->Prop},(∀r,r=X->Q r)->MT X (Y X) Q:=λm=>MT.some (m _ rfl);have a:MT X (Y X) λr=>r=E->e.2.2.2.2.2.2.2=[]:=MT.some λb=>by cases b
   unfold GZ;refine MT.dec (λ_=>a) λ_=>MT.dec (λ_=>a) λ_=>MT.dec (λ_=>a) λ_=>MT.dec (λ_=>a) λ_=>MT.bind (lF LM) λp _=>MT.cond (λ_=>a) λ_=>MT.bind (lF LM) λq _=>MT.cond (λ_=>a) λ_=>MT.bind (lF LM) λs _=>MT.cond (λ_=>a) λ_=>MT.dec (O! · o!) λ_=>MT.dec (λi=>?_) λi=>?_;refine MT.dec (λ_=>a) λ_=>MT.bind (P:=λ_=>M) (MT.dec (λ_=>MT.some trivial) λ_=>MT.some trivial) λn _=>MT.cond (λ_=>a) λ_=>MT.bind (P:=λr=>r=X->e.2.2.2.2.2.2.2=[]) ?_ λt k=>?_;refine MT.cond (λl=>MT.some λb=>?_) λ_=>MT.some λb=>?_;rw[l]at b;cases b;simpa using b;refine MT.cond (λ_=>a) λb=>?_;exact⟨λc=>(by cases c),λr _ _=>k b⟩;refine MT.dec (λj=>?_) λj=>O! d o!;refine MT.dec (λ_=>a) λ_=>MT.bind (P:=λ_=>M) (MT.dec (λ_=>MT.some trivial) λ_=>MT.some trivial) λn _=>MT.cond (λ_=>a) λ_=>MT.cond (λ_=>a) λb=>?_;exact⟨λc=>(by cases c),λr _ _=>by simpa using b⟩
  exact main.2
 exact key E h rfl
def vH{e}:BE e=Y (hZ e):=by unfold BE hZ;grind
def AAL{x}:Ao (Mw x) λr=>r=E↔1<=x.1/\x.1<=x.2.1/\x.2.1<=1099511627776/\0<=x.2.2.1/\x.2.2.1<=x.2.2.2.1/\x.2.2.2.1<64/\0<=x.2.2.2.2.1/\x.2.2.2.2.1<=8:=by
 unfold Mw;exact x!
def ADe{x:AS}{e:EN}:Ao (QM (x,e)) λr=>r=E↔hZ e=E/\x.2.2.1<=e.2.2.2.2.2.2.1.1/\e.2.2.2.2.2.2.1.1<=x.2.2.2.1/\x.1<=e.1/\e.1<=x.2.1:=by
 unfold QM;rw[vH,AD];refine AK (λa=>?_) (λa=>AB ⟨λb=>(by cases b),λb=>k!⟩);exact x!
def AJN(a b:V):Ky [a,b]=Y (if a≠0 then a else b):=by unfold Ky;rw[show(0:V)=((0:U):V)from rfl,pn (k:=0) (v:=a) rfl o! q!];by_cases c:a=0;rw[C! c,pn (k:=1) (v:=b) rfl o! q!];grind[HV,Kj];grind
def ABa(f e:EN):∃c:V,O0 (f,e)=Y c/\(c<0↔ltC f e):=by unfold O0;rw[ABA,ABA,AD,AD,AJN,AD];unfold ltC;grind
def ADd{x:AS}(I:x.2.2.2.2.2.length<=4096):Ao (Ag (Th x) 0) λr=>(r= .inl false/\ ¬ ∀i,yx x i)\/(r= .inr ()/\ ∀e∈x.2.2.2.2.2,hZ e=true/\e.2.2.2.2.2.2.2=[]):=by
 refine CQ (λ(s:V)=>0<=s/\s<=x.2.2.2.2.2.length/\ ∀e∈x.2.2.2.2.2.take s.toNat,hZ e=true/\e.2.2.2.2.2.2.2=[]) (λ(s:V)=>((x.2.2.2.2.2.length:V)-s).toNat) ⟨Ae _,o!,λe p=>by simp at p⟩ (λs C=>?_);have⟨w,J,y⟩:=C;unfold Th;simp only[O];refine AC (λu=>?_) (λu=>Ao.done (.inr ⟨rfl,by rw[BN o!]at y;exact y⟩));obtain⟨k,rfl⟩:=Ef w;refine AA (AI w u) λv d=>?_;have d:=d.1;rw[CO]at d;have a:(yx x k->False)->Ao (some (Step.done (.inl false)):Option (Step V (N ⊕ Unit))) (MX (λ(s:V)=>0<=s/\s<=x.2.2.2.2.2.length/\ ∀e∈x.2.2.2.2.2.take s.toNat,hZ e=true/\e.2.2.2.2.2.2.2=[]) (λ(s:V)=>((x.2.2.2.2.2.length:V)-s).toNat) ((x.2.2.2.2.2.length:V)-(k:V)).toNat λr=>(r= .inl false/\ ¬ ∀i,yx x i)\/(r= .inr ()/\ ∀e∈x.2.2.2.2.2,hZ e=true/\e.2.2.2.2.2.2.2=[])):=λh=>Ao.done (.inl ⟨rfl,λD_=>h (D_ k)⟩);refine D6 Kk λG z B=>AO (λj=>a λok=>?_) (λj=>?_);have:=B (ok v d).1.1;rw[j]at this;cases this;refine AA ADe λH t=>AO (λj=>a λok=>?_) (λm=>?_);have q:=(ok v d).1;have:=t.2 ⟨q.2.1,q.2.2.2.2.1,q.2.2.2.2.2,q.2.2.1,q.2.2.2.1⟩;rw[j]at this;cases this;have q3:=ADc (by rw[z,j]) ((t.1 m).1);have b:Ao (some (Step.next (wi ((k:V)+1))):Option (Step V (N ⊕ Unit))) (MX (λ(s:V)=>0<=s/\s<=x.2.2.2.2.2.length/\ ∀e∈x.2.2.2.2.2.take s.toNat,hZ e=true/\e.2.2.2.2.2.2.2=[]) (λ(s:V)=>((x.2.2.2.2.2.length:V)-s).toNat) ((x.2.2.2.2.2.length:V)-(k:V)).toNat λr=>(r= .inl false/\ ¬ ∀i,yx x i)\/(r= .inr ()/\ ∀e∈x.2.2.2.2.2,hZ e=true/\e.2.2.2.2.2.2.2=[])):=by
  rw[AY];refine Ao.next ⟨o!,o!,λe p=>?_⟩ o!
  rw[show((k:V)+1).toNat=k+1 by omega,Cl,d]at p;grind[Option.toList_some,List.mem_singleton]
 have F: ∀f,0<k->x.2.2.2.2.2[k-1]? =some f->ix x.2.2.2.2.2 (wi ((k:V)-1))=some f:=λf A g=>by rw[show wi ((k:V)-1)=((k-1:U):V) by rw[AY];omega];unfold ix;grind[Int.toNat_natCast]
 apply AP<;>intro A;refine AC (λo=>a λok=>?_) (λ_=>b);have:=(ok v d).2.1 o!;omega;have g:x.2.2.2.2.2[k-1]? =some (x.2.2.2.2.2[k-1]):=Au o!;generalize x.2.2.2.2.2[k-1]=f at g;rw[F f o! g,AD];apply AC<;>intro E_;refine AC (λo=>a λok=>?_) (λ_=>b);have:=((ok v d).2.2 f o! g).2.2 o!;omega;have⟨c,n,l⟩:=ABa f v;rw[AD,n,AD];refine AC (λo=>a λok=>?_) (λo=>?_);have:=l.2 ((ok v d).2.2 f o! g).1;omega;refine AL (λhn=>a λok=>hn ?_) (λ_=>b);have:=l.1 o!;unfold ltC at this;exact((ok v d).2.2 f o! g).2.1 o!
def AAM{x}:Ao (Vi x) λr=>(VR x->r=E)/\(r=E->aq x/\∀e∈x.2.2.2.2.2,hZ e=E/\e.2.2.2.2.2.2.2=[]):=by refine AA AAL λg c=>AO (λb=>AB ⟨λa=>?_,λa=>(by cases a)⟩) (λb=>?_);have⟨⟨a1,a2,a3,a4,a5,a6,a7,a8,a9⟩,_⟩:=a;grind;have hn:=c.1 b;refine AC (λf=>AB ⟨λa=>?_,λa=>(by cases a)⟩) (λd=>?_);have:=a.1.2.2.2.2.2.2.2.2;grind;simp[O]at d;refine AA (ADd o!) λr hr=>?_;rcases hr with⟨rfl,hr⟩|⟨rfl,hr⟩;exact BF (AB ⟨λa=>O! a.2 hr,λa=>(by cases a)⟩);exact A0 (AB ⟨λ_=>rfl,λ_=>⟨⟨hn.1,hn.2.1,hn.2.2.1,hn.2.2.2.1,hn.2.2.2.2.1,hn.2.2.2.2.2.1,hn.2.2.2.2.2.2.1,hn.2.2.2.2.2.2.2,o!⟩,hr⟩⟩)
def AAS{p:Bd}(h:W p=33):FH (p,([80,77,82,78]:S UInt8))=Y (p.take 4==[80,77,82,78]):=by grind[FH,Ek,R3,σ]
abbrev ZR:=V×(V×(V×(V×(V×AS))))
def wo{p:Bd}(x:W p=33)(t:p.take 4=[80,77,82,78]):∃b c d e f a:V,(A1 (p,4,8)=Y (b,0)∧A1 (p,12,8)=Y (c,0)∧A1 (p,20,4)=Y (d,0)∧A1 (p,24,4)=Y (e,0)∧A1 (p,28,1)=Y (f,0)∧A1 (p,29,4)=Y (a,0))∧
  (B0 (p,4,8)=Y (b,0)/\B0 (p,12,8)=Y (c,0)/\B0 (p,20,4)=Y (d,0)/\B0 (p,24,4)=Y (e,0)/\B0 (p,28,1)=Y (f,0)/\B0 (p,29,4)=Y (a,0))/\
  p=[80,77,82,78]++(C6 b 8++(C6 c 8++(C6 d 4++(C6 e 4++(C6 f 1++C6 a 4)))))/\0<=a:=by
 have D_:(p.drop 4).length=29:=by rw[C2];omega
 have⟨b,J,a2,g,n,y,l2⟩:=ADR (k:=8) (at_:=4) (by rw[<-t,DG]:p=[80,77,82,78]++p.drop 4) g! o! g! g! o!;have⟨c,K,a3,h,o,z,E_⟩:=ADR (k:=8) (at_:=12) n (by simp only[AZ,Ay];decide) o! g! g! o!;have⟨d,L,a4,i,q,A,F⟩:=ADR (k:=4) (at_:=20) o (by simp only[AZ,Ay];decide) o! g! g! o!;have⟨e,M,a5,j,r,B,G⟩:=ADR (k:=4) (at_:=24) q (by simp only[AZ,Ay];decide) o! g! g! o!;have⟨f,N,a6,l,s,C,H⟩:=ADR (k:=1) (at_:=28) r (by simp only[AZ,Ay];decide) o! g! g! o!;have⟨a,v,a7,m,w,u,I⟩:=ADR (k:=4) (at_:=29) s (by simp only[AZ,Ay];decide) o! g! g! o!;have:v=[]:=Eh o!;subst this;refine⟨b,c,d,e,f,a,⟨a2,a3,a4,a5,a6,a7⟩,⟨g,h,i,j,l,m⟩,?_,(u.1 g!).1⟩;grind[t?]
def zn{x}(h:aq x):(A1 (fg x,4,8)=Y (x.1,0)∧A1 (fg x,12,8)=Y (x.2.1,0)∧A1 (fg x,20,4)=Y (x.2.2.1,0)∧A1 (fg x,24,4)=Y (x.2.2.2.1,0)∧A1 (fg x,28,1)=Y (x.2.2.2.2.1,0)∧A1 (fg x,29,4)=Y ((W x.2.2.2.2.2:V),0))∧
  (B0 (fg x,4,8)=Y (x.1,0)/\B0 (fg x,12,8)=Y (x.2.1,0)/\B0 (fg x,20,4)=Y (x.2.2.1,0)/\B0 (fg x,24,4)=Y (x.2.2.2.1,0)/\B0 (fg x,28,1)=Y (x.2.2.2.2.1,0)/\B0 (fg x,29,4)=Y ((W x.2.2.2.2.2:V),0)):=by
 have⟨i,j,l,m,n,o⟩:=h.inr;have q:=ab x;have a:fg x=[80,77,82,78]++(C6 x.1 8++(C6 x.2.1 8++(C6 x.2.2.1 4++(C6 x.2.2.2.1 4++(C6 x.2.2.2.2.1 1++(C6 (W x.2.2.2.2.2:V) 4++[])))))):=by rw[DT];rfl
 generalize fg x=p at*;have b:=lQ (k:=8) (at_:=4) a g! o! g! g! i;rw[<-A2]at a;have c:=lQ (k:=8) (at_:=12) a (by simp only[AZ,Ay];decide) o! g! g! j;rw[<-A2]at a;have d:=lQ (k:=4) (at_:=20) a (by simp only[AZ,Ay];decide) o! g! g! l;rw[<-A2]at a;have e:=lQ (k:=4) (at_:=24) a (by simp only[AZ,Ay];decide) o! g! g! m;rw[<-A2]at a;have f:=lQ (k:=1) (at_:=28) a (by simp only[AZ,Ay];decide) o! g! g! n;rw[<-A2]at a;have g:=lQ (k:=4) (at_:=29) a (by simp only[AZ,Ay];decide) o! g! g! o;exact⟨⟨b.1,c.1,d.1,e.1,f.1,g.1⟩,b.2,c.2,d.2,e.2,f.2,g.2⟩
def AKd{x p:Bd}{n:V}{z:ZR}{j:Bd}(D_:W x≤1099511627776)(l:x=HX p++j)(hn:0≤n)(o:n≤4096):Ao (Ag (Gx x n) (((HX p).length:V),0,[],z)) λr=>(∃u,r=.inl u∧u.1≠0)∨
  ∃a b,r=.inr (((HX p++Kx a).length:V),a,z)/\(W a:V)=n/\x=(HX p++Kx a)++b/\∀e∈a,G6 e.2.2.2.2.2.2.1.2.2.1/\G6 e.2.2.2.2.2.2.1.2.2.2:=by
 refine CQ (λs=>∃a b,s=(((HX p++Kx a).length:V),(W a:V),a,z)/\(W a:V)<=n/\x=(HX p++Kx a)++b/\∀e∈a,G6 e.2.2.2.2.2.2.1.2.2.1/\G6 e.2.2.2.2.2.2.1.2.2.2) (λs=>(n-s.2.1).toNat)
  ⟨[],j,by simp[Kx],by simpa using hn,by simpa[Kx]using l,λe c=>by cases c⟩ ?_
 rintro s ⟨a,b,rfl,E_,h,i⟩;unfold Gx;dsimp only;refine AC (λm=>?_) (λm=>k? (.inr ⟨a,b,rfl,o!,h,i⟩));have g:=E! W h;rw[AZ]at g;rw[(by grind[Tm]:Bl (x,((HX p++Kx a).length:V))=Y (UF (HX p++Kx a).length b)),AD];refine AL (λc=>k? (.inl ⟨_,rfl,c⟩)) (λc=>?_);have⟨H,⟨d,t⟩,I⟩:=zF c;refine AA (AJd o!) λv q=>AL (λc=>k? (.inl ⟨_,rfl,c⟩)) (λf=>?_);have⟨y,A,B,J,K⟩:=q f;refine AA (Ac w!) λw C=>?_;have k:HX p++Kx (a++[v.1])=(HX p++Kx a)++HX (B3 v.1):=by rw[S9,A2]
 rw[AY];refine y! ⟨a++[v.1],d,?_,by rw[AZ,Bh,Bj];omega,?_,λe c=>?_⟩ d!
 have F:((HX p++Kx (a++[v.1])).length:V)=((HX p++Kx a).length:V)+8+((UF (HX p++Kx a).length b).1.length:V):=by grind[n?,HX,Kx,EM]
 have G:((a++[v.1]).length:V)=(W a:V)+1:=by grind[n?,List.length_cons,List.length_nil]
 grind[Prod.ext];rw[k,<-y,A2,<-t];exact h;rcases Ak.1 c with c|c;exact i e c;rw[A9.1 c];exact⟨A,B⟩
def AJe{x:Bd}(w:W x<=1099511627776):Ao (Fm x) λr=>r.2=0->x=NZ r.1/\VR r.1:=by unfold Fm;have q:Bl (x,0)=Y (UF 0 x):=Tm (a:=[]) (t:=x) w!;rw[q,AD];refine AL (λh=>AB λb=>O! b h) (λh=>?_);have⟨Q,⟨P,z⟩,A⟩:=zF h;generalize UF 0 x=v0 at*;refine AL (y? λb=>O! (show(4:V)=0 from b) g!) (λg=>?_);simp[len]at g;rw[(by grind[R3]:R3 v0.1 0 4=Y (v0.1.take 4)),AD];refine AL (y? λb=>O! (show(4:V)=0 from b) g!) (λm=>?_);have⟨K,L,M,N,O,y,⟨a2,a3,a4,a5,a6,a7⟩,⟨C,D_,E_,F,G,H⟩,J,j⟩:=wo (by omega:W v0.1=33) (by simpa using m);unfold Bg;rw[a2,a3,a4,a5,a6,a7];simp only[AD];refine AC (y? λb=>O! (show(4:V)=0 from b) g!) (λo=>?_);rw[(by rw[A,EM];omega:v0.2.1=((HX v0.1).length:V))];refine AA (AKd (n:=y) w z j (by first|omega|(dsimp only;omega))) λr hr=>?_;rcases hr with⟨u,rfl,s⟩|⟨I,e,rfl,i,k,p⟩;grind[BF,AB];apply A0;dsimp only at i⊢;have l:=E! W k;rw[AZ]at l;refine AL (y? λb=>O! (show(4:V)=0 from b) g!) (λd=>?_);have c:e=[]:=Eh (by simp only[len]at d;omega);subst c;refine AA (YY) λB f=>AO (y? λb=>O! (show(40:V)=0 from b) g!) (λv=>AB λ_=>⟨?_,f.1 v⟩);grind[NZ,fg]
theorem yi{x:AS}(h:VR x):Fm (NZ x)=some (x,0):=by
 have D_:=h.1.2.2.2.2.2.2.2.2;have j:=h.len;have o:=ab x;have⟨⟨a2,a3,a4,a5,a6,a7⟩,⟨v,y,z,A,B,C⟩⟩:=zn h.1;unfold Fm;have p:Bl (NZ x,0)=some (fg x,(((HX (fg x)).length:V),0)):=by refine(Tm (a:=[]) (t:=NZ x) (by simp;omega)).trans (congrArg some ?_);grind[NZ,kJ,EM,Prod.ext,List.length_nil]
 have l:(fg x).take 4=[80,77,82,78]:=rfl;rw[p,AD];dsimp only[O];rw[show((0:V) !=0)=false by decide,cond_false,o,show(((33:U):V) !=33)=false by decide,cond_false];rw[(by grind[R3]:R3 (fg x) 0 4=some ((fg x).take 4)),AD,l,bne_self_eq_false,cond_false];unfold Bg;rw[a2,a3,a4,a5,a6,a7];simp only[AD];rw[decide_eq_false (by omega),cond_false];have key:Ao (Ag (Gx (NZ x) (x.2.2.2.2.2.length:V)) (((HX (fg x)).length:V),(0,([],(x.1,(x.2.1,(x.2.2.1,(x.2.2.2.1,(x.2.2.2.2.1,(0,(0,(0,(0,(0,[])))))))))))))) λr=>r= .inr (((NZ x).length:V),(x.2.2.2.2.2,(x.1,(x.2.1,(x.2.2.1,(x.2.2.2.1,(x.2.2.2.2.1,(0,(0,(0,(0,(0,[])))))))))))):=by
  refine CQ (λ(s:V×(V×(R EN×ZR)))=> ∃k:U,k<=x.2.2.2.2.2.length/\s=(((HX (fg x)++Kx (x.2.2.2.2.2.take k)).length:V),((k:V),(x.2.2.2.2.2.take k,(x.1,(x.2.1,(x.2.2.1,(x.2.2.2.1,(x.2.2.2.2.1,(0,(0,(0,(0,(0,[])))))))))))))) (λs=>x.2.2.2.2.2.length-s.2.1.toNat)
   ⟨0,BU _,by simp[Kx]⟩ ?_
  rintro s ⟨k,F,rfl⟩;unfold Gx;dsimp only;refine AC (λn=>?_) (λn=>Ao.done ?_)
  ·have i:k<x.2.2.2.2.2.length:=by omega
   have c:=(h.ent (Gz i)).1;have e:Kx x.2.2.2.2.2=Kx (x.2.2.2.2.2.take k)++(HX (B3 x.2.2.2.2.2[k])++Kx (x.2.2.2.2.2.drop (k+1))):=by grind[pM,List.drop_eq_getElem_cons,Kx,List.flatten_append,List.take_append_drop]
   have d:NZ x=(HX (fg x)++Kx (x.2.2.2.2.2.take k))++(HX (B3 x.2.2.2.2.2[k])++Kx (x.2.2.2.2.2.drop (k+1))):=by grind[NZ,List.append_assoc]
   have g:=congrArg List.length d;rw[AZ]at g;have f:Bl (NZ x,((HX (fg x)++Kx (x.2.2.2.2.2.take k)).length:V))=some (B3 x.2.2.2.2.2[k],(((HX (fg x)++Kx (x.2.2.2.2.2.take k)).length:V)+8+((B3 x.2.2.2.2.2[k]).length:V),0)):=by
    conv=>lhs;arg 1;rw[d]
    rw[Tm (by omega),kJ (S7 c)]
   rw[f,AD];dsimp only;rw[show((0:V) !=0)=false by decide,cond_false,AFj c,AD];dsimp only;rw[show((0:V) !=0)=false by decide,cond_false];refine AA (Ac (by rw[BQ];simp;omega)) λw u=>?_;rw[AY (by omega)];refine Ao.next ⟨k+1,by omega,?_⟩ (by dsimp only;omega)
   rw[u.1,Cl,Au i,nm,S9,<-A2,AZ (b:=HX (B3 x.2.2.2.2.2[k])),EM];grind[Prod.ext]
  ·rw[BN (by omega)];rfl
 obtain⟨r,hr,rfl⟩:=key;rw[hr,AD,np];dsimp only;rw[show(((NZ x).length:V) !=O (NZ x))=false from bne_self_eq_false _,cond_false];obtain⟨b,E_,q⟩:=(YY)
 have m:b=true:=q.2 h;grind[Bool.not_true]
def AKY{x p:Bd}{n:(V×V)}{z:ZR}{j:Bd}(D_:W x≤1099511627776)(l:x=HX p++j)(hn:0≤n.1)(o:n.1≤4096):Ao (Ag (LN x n) (((HX p).length:V),0,[],z)) λr=>(∃u,r=.inl u∧u.1≠0)∨
  ∃a b,r=.inr (((HX p++Kx a).length:V),a,z)/\(W a:V)=n.1/\x=(HX p++Kx a)++b/\∀e∈a,G6 e.2.2.2.2.2.2.1.2.2.1/\G6 e.2.2.2.2.2.2.1.2.2.2:=by
 refine CQ (λs=>∃a b,s=(((HX p++Kx a).length:V),(W a:V),a,z)/\(W a:V)<=n.1/\x=(HX p++Kx a)++b/\∀e∈a,G6 e.2.2.2.2.2.2.1.2.2.1/\G6 e.2.2.2.2.2.2.1.2.2.2) (λs=>(n.1-s.2.1).toNat)
  ⟨[],j,by simp[Kx],by simpa using hn,by simpa[Kx]using l,λe c=>by cases c⟩ ?_
 rintro s ⟨a,b,rfl,E_,h,i⟩;unfold LN;dsimp only;refine AC (λm=>?_) (λm=>k? (.inr ⟨a,b,rfl,o!,h,i⟩));have g:=E! W h;rw[AZ]at g;rw[(by grind[XU]:Dr (x,((HX p++Kx a).length:V))=Y (UF (HX p++Kx a).length b)),AD];refine AL (λc=>k? (.inl ⟨_,rfl,c⟩)) (λc=>?_);have⟨H,⟨d,t⟩,I⟩:=zF c;refine AA (AJR o!) λv q=>AL (λc=>k? (.inl ⟨_,rfl,c⟩)) (λf=>?_);have⟨y,A,B,J,K⟩:=q f;refine AA (Ac w!) λw C=>?_;have k:HX p++Kx (a++[v.1])=(HX p++Kx a)++HX (B3 v.1):=by rw[S9,A2]
 rw[AY];refine y! ⟨a++[v.1],d,?_,by rw[AZ,Bh,Bj];omega,?_,λe c=>?_⟩ d!
 have F:((HX p++Kx (a++[v.1])).length:V)=((HX p++Kx a).length:V)+8+((UF (HX p++Kx a).length b).1.length:V):=by grind[n?,HX,Kx,EM]
 have G:((a++[v.1]).length:V)=(W a:V)+1:=by grind[n?,List.length_cons,List.length_nil]
 grind[Prod.ext];rw[k,<-y,A2,<-t];exact h;rcases Ak.1 c with c|c;exact i e c;rw[A9.1 c];exact⟨A,B⟩
def AJT{x:Bd}(H:W x<=1099511627776):Ao (LH x) λr=>r.2=0->x=NZ r.1/\WR r.1:=by
 unfold LH;have E_:Dr (x,0)=Y (UF 0 x):=XU (a:=[]) (t:=x) w!;rw[E_,AD];refine AL (λc=>AB λb=>O! b c) (λc=>?_);have⟨U,⟨T,J⟩,K⟩:=zF c;generalize UF 0 x=v0 at*;refine AL (y? λb=>O! (show(4:V)=0 from b) g!) (λk=>?_);simp[len]at k;have q:W v0.1=33:=o!
 rw[AAS q,AD];refine AO (y? λb=>O! (show(4:V)=0 from b) g!) (λD_=>?_);have⟨O,P,Q,R,S,I,⟨a2,a3,a4,a5,a6,a7⟩,⟨s,v,w,y,z,A⟩,N,m⟩:=wo q (by simpa using D_);rw[show wi (4+8)=12 from rfl,show wi (12+8)=20 from rfl,show wi (20+4)=24 from rfl,show wi (24+4)=28 from rfl,show wi (28+1)=29 from rfl];rw[s,v,w,y,z,A];simp only[AD];refine AO (y? λb=>O! (show(4:V)=0 from b) g!) (λf=>?_);have f:=N! f;rw[(by rw[K,EM];omega:v0.2.1=((HX v0.1).length:V))];refine AA (AKY (n:=(I,0)) H J m (by first|omega|(dsimp only;omega))) λr hr=>?_;rcases hr with⟨u,rfl,F⟩|⟨M,i,rfl,l,o,g⟩;grind[BF,AB];apply A0;dsimp only at l⊢;have p:=E! W o;rw[AZ]at p;refine AC (y? λb=>O! (show(4:V)=0 from b) g!) (λh=>?_);have d:i=[]:=Eh (by simp only[len]at h;omega);subst d;refine AA (AAM) λL j=>AO (y? λb=>O! (show(40:V)=0 from b) g!) (λG=>AB λ_=>⟨?_,?_⟩);grind[NZ,fg];have⟨B,C⟩:=j.2 G;exact⟨B,λe c=>⟨(g e c).1,(g e c).2,(C e c).2⟩⟩
theorem AJS{x:AS}(h:VR x):LH (NZ x)=some (x,0):=by
 have E_:=h.1.2.2.2.2.2.2.2.2;have j:=h.len;have l:=ab x;have⟨⟨a2,a3,a4,a5,a6,a7⟩,⟨m,n,o,p,q,u⟩⟩:=zn h.1;unfold LH;have B:Dr (NZ x,0)=some (fg x,(((HX (fg x)).length:V),0)):=by refine(XU (a:=[]) (t:=NZ x) (by simp;omega)).trans (congrArg some ?_);grind[NZ,kJ,EM,Prod.ext,List.length_nil]
 have v:(fg x).take 4=[80,77,82,78]:=rfl;rw[B,AD];dsimp only[O];rw[show((0:V) !=0)=false by decide,cond_false,l,show(((33:U):V) !=33)=false by decide,cond_false];rw[AAS l,AD,v,beq_self_eq_true,By,cond_false];rw[show wi (4+8)=12 from rfl,show wi (12+8)=20 from rfl,show wi (20+4)=24 from rfl,show wi (24+4)=28 from rfl,show wi (28+1)=29 from rfl];rw[m,n,o,p,q,u];simp only[AD];rw[decide_eq_true (by omega),By,cond_false];have key:Ao (Ag (LN (NZ x) ((x.2.2.2.2.2.length:V),0)) (((HX (fg x)).length:V),(0,([],(x.1,(x.2.1,(x.2.2.1,(x.2.2.2.1,(x.2.2.2.2.1,(0,(0,(0,(0,(0,[])))))))))))))) λr=>r= .inr (((NZ x).length:V),(x.2.2.2.2.2,(x.1,(x.2.1,(x.2.2.1,(x.2.2.2.1,(x.2.2.2.2.1,(0,(0,(0,(0,(0,[])))))))))))):=by
  refine CQ (λ(s:V×(V×(R EN×ZR)))=> ∃k:U,k<=x.2.2.2.2.2.length/\s=(((HX (fg x)++Kx (x.2.2.2.2.2.take k)).length:V),((k:V),(x.2.2.2.2.2.take k,(x.1,(x.2.1,(x.2.2.1,(x.2.2.2.1,(x.2.2.2.2.1,(0,(0,(0,(0,(0,[])))))))))))))) (λs=>x.2.2.2.2.2.length-s.2.1.toNat)
   ⟨0,BU _,by simp[Kx]⟩ ?_
  rintro s ⟨k,F,rfl⟩;unfold LN;dsimp only;refine AC (λz=>?_) (λz=>Ao.done ?_)
  ·have i:k<x.2.2.2.2.2.length:=by omega
   have c:=(h.ent (Gz i)).1;have A:=S7 c;have d:Kx x.2.2.2.2.2=Kx (x.2.2.2.2.2.take k)++(HX (B3 x.2.2.2.2.2[k])++Kx (x.2.2.2.2.2.drop (k+1))):=by grind[pM,List.drop_eq_getElem_cons,Kx,List.flatten_append,List.take_append_drop]
   have g:NZ x=(HX (fg x)++Kx (x.2.2.2.2.2.take k))++(HX (B3 x.2.2.2.2.2[k])++Kx (x.2.2.2.2.2.drop (k+1))):=by grind[NZ,List.append_assoc]
   have f:=congrArg List.length g;rw[AZ]at f;rw[(by grind[XU,kJ]:Dr (NZ x,((HX (fg x)++Kx (x.2.2.2.2.2.take k)).length:V))=some (B3 x.2.2.2.2.2[k],(((HX (fg x)++Kx (x.2.2.2.2.2.take k)).length:V)+8+((B3 x.2.2.2.2.2[k]).length:V),0))),AD];dsimp only;rw[show((0:V) !=0)=false by decide,cond_false,AJQ c,AD];dsimp only;rw[show((0:V) !=0)=false by decide,cond_false];refine AA (Ac (by rw[BQ];simp;omega)) λw D_=>?_;rw[AY (by omega)];refine Ao.next ⟨k+1,by omega,?_⟩ (by dsimp only;omega)
   rw[D_.1,Cl,Au i,nm,S9,<-A2,AZ (b:=HX (B3 x.2.2.2.2.2[k])),EM];grind[Prod.ext]
  ·rw[BN (by omega)];rfl
 obtain⟨r,hr,rfl⟩:=key;rw[hr,AD,np];dsimp only;rw[decide_eq_false (by first|omega|(simp[O];omega)),cond_false];obtain⟨b,y,C⟩:=(AAM)
 have e:b=true:=C.1 h;subst e;rw[y,AD,By,cond_false]
def frames(P:S Bd):Bd:=(P.map HX).flatten
def Sml(P:S Bd):Prop:=∀p∈P,33<=W p/\W p<=255
def UU(p:Bd)(P:S Bd):frames (p::P)=HX p++frames P:=rfl
def S8{p:Bd}(h:W p<=255):HX p=UInt8.ofNat (W p)::0::0::0::(p++C6 (P7 (C6 (W p:V) 4++p)) 4):=by
 have e:C6 (W p:V) 4=[UInt8.ofNat (W p),0,0,0]:=by simp only[C6];rw[show((W p:V)%256).toNat=W p by omega,show((W p:V)/256%256).toNat=0 by omega,show((W p:V)/256/256%256).toNat=0 by omega,show((W p:V)/256/256/256%256).toNat=0 by omega];rfl
 unfold HX;grind
theorem rI{m n:U}(a:m<=255)(hn:n<=255)(h:UInt8.ofNat m=UInt8.ofNat n):m=n:=by grind[UInt8.toNat,UInt8.toNat_ofNat']
def AAI{n:U}(h:33<=n)(hn:n<=255)(e:UInt8.ofNat n=0):False:=by have:=E! UInt8.toNat e;rw[fx]at this;grind
def yN:∀P Q,Sml P->Sml Q->∀(u v:Bd)(b:UInt8),frames P=u++v->frames Q=u++b::v->False
 |P,[],hP,hQ,u,v,b,h1,d=>by have:=E! W d;simp[frames]at this
 |[],q::Q,hP,hQ,u,v,b,h1,d=>by have B:=E! W h1;have y:=E! W d;rw[UU,AZ,EM]at y;simp only[frames,Hi,List.flatten_nil,Bj,AZ,Bh]at B y;have:=hQ q (Av.2 (.inl rfl));omega
 |p::P,q::Q,hP,hQ,u,v,b,h1,d=>by
  obtain⟨I,n⟩:=hP p (Av.2 (.inl rfl));obtain⟨q1,q2⟩:=hQ q (Av.2 (.inl rfl));have f:Sml P:=λx w=>hP x (Av.2 (.inr w));have g:Sml Q:=λx w=>hQ x (Av.2 (.inr w));rw[UU]at h1 d;cases u with
  |nil=>rw[B7]at h1 d;rw[<-h1,S8 n,S8 q2,ET,ET]at d;injection d with _ d;injection d with d _;exact AAI I n d.symm
  |cons a u=>
   have i:=h1;have j:=d;rw[S8 n,ET,ET]at i;rw[S8 q2,ET,ET]at j;injection i with C _;injection j with D_ _;have o:W p=W q:=rI n q2 (C.trans D_.symm);have h:(HX p).length=(HX q).length:=by rw[EM,EM,o]
   rcases qM.1 h1 with⟨t,l,m⟩|⟨t,l,m⟩;rw[l,A2]at d;obtain⟨G,e⟩:=Eg d h.symm;exact yN P Q f g t v b m e
   
   cases z:t.reverse with
   |nil=>
    have s:t=[]:=by simpa using z
    subst s;rw[DT]at l;rw[B7]at m;rw[<-l,m]at d;obtain⟨G,e⟩:=Eg d h.symm;exact yN P Q f g [] (frames P) b (by rw[B7]) (by rw[B7];exact e)
   |cons c r=>
    have k:t=r.reverse++[c]:=by have:=E! List.reverse z;rwa[List.reverse_reverse,List.reverse_cons]at this
    have E_:HX q++frames Q=((a::u)++b::r.reverse)++(c::frames P):=by rw[d,m,k];simp only[A2,ET,B7]
    have F:(HX q).length=((a::u)++b::r.reverse).length:=by have:=E! W l;rw[k]at this;simp only[AZ,Bh,Bj]at this⊢;omega
    obtain⟨_,e⟩:=Eg E_ F;cases Q with
    |nil=>exact O! (E! W e) (by simp[frames])
    |cons J Q=>
     obtain⟨M,K⟩:=g J (Av.2 (.inl rfl));rw[UU,S8 K,ET,ET]at e;injection e with _ e;cases P with
     |nil=>exact O! (E! W e) (by simp[frames])
     |cons H P=>obtain⟨L,A⟩:=f H (Av.2 (.inl rfl));rw[UU,S8 A,ET]at e;injection e with e _;exact AAI L A e.symm
def AHB{p q u w:Bd}{a b:UInt8}(m:W p=W q)(g:HX p=u++a::w)(d:HX q=u++b::w):a=b:=by
 have r:HX p=(C6 (W p:V) 4++p)++C6 (P7 (C6 (W p:V) 4++p)) 4:=by unfold HX;rw[t?]
 have v:HX q=(C6 (W p:V) 4++q)++C6 (P7 (C6 (W p:V) 4++q)) 4:=by unfold HX;rw[t?,m]
 rw[r]at g;rw[v]at d;have h:(C6 (W p:V) 4++p).length=(C6 (W p:V) 4++q).length:=by rw[AZ,AZ,m]
 generalize C6 (W p:V) 4++p=A at*;generalize C6 (W p:V) 4++q=B at*;have l:∀s,cr 4 (P7 s):=λs=>by have:=aU s;exact⟨λ_=>by rw[show(256:V)^4=4294967296 by decide];omega,o!⟩
 have C:=Ay 4 (P7 A);have D_:=Ay 4 (P7 B);rcases qM.1 g with⟨t,f,j⟩|⟨t,f,j⟩
 
 have:B=A:=by rw[f,A2]at d;exact(Eg d h.symm).1
 subst this;have:=g.symm.trans d;have:=(Eg this rfl).2;injection this;cases t with
 |nil=>
  rw[DT]at f;rw[f]at h;have i:=(Eg d o!)
  have:B=A:=by rw[i.1,f]
  rw[this]at d;rw[d]at g;have:=(Eg g rfl).2;injection this with e _;exact e.symm
 |cons c t=>
  rw[ET]at j;injection j with n o;subst n o;have z:B++C6 (P7 B) 4=(u++b::t)++C6 (P7 A) 4:=by rw[d,A2,ET]
  obtain⟨x,y⟩:=Eg z (by rw[<-h,f,AZ,AZ,Bh,Bh]);have k:=YU g! (l B) (l A) y;rw[x,f]at k;exact(AGx k).symm
def ABX:∀P Q,Sml P→Sml Q→(∀(i:U)(p q s t:Bd),P[i]?=Y p→Q[i]?=Y q→p++s=q++t→W p=W q)→
  ∀(u v:Bd)(a b:UInt8),frames P=u++a::v->frames Q=u++b::v->a=b
 |[],Q,hP,hQ,hf,u,v,a,b,f,e=>by have:=E! W f;simp[frames]at this
 |P,[],hP,hQ,hf,u,v,a,b,f,e=>by have:=E! W e;simp[frames]at this
 |p::P,q::Q,hP,hQ,hf,u,v,a,b,f,e=>by
  obtain⟨G,E_⟩:=hP p (Av.2 (.inl rfl));obtain⟨q1,q2⟩:=hQ q (Av.2 (.inl rfl));have k:Sml P:=λx C=>hP x (Av.2 (.inr C));have l:Sml Q:=λx C=>hQ x (Av.2 (.inr C));have m:∀(i:U)(p q s t:Bd),P[i]?=Y p->Q[i]?=Y q->p++s=q++t->W p=W q:=λi p q s t A B=>hf (i+1) p q s t (by simpa using A) (by simpa using B);rw[UU]at f e;cases u with
  |nil=>rw[B7]at f e;rw[S8 E_,ET]at f;rw[S8 q2,ET]at e;injection f with y f;injection e with z e;rw[<-f]at e;simp only[ET,A2]at e;injection e with _ e;injection e with _ e;injection e with _ e;have:=hf 0 p q _ _ rfl rfl e.symm;rw[<-y,<-z,this]
  |cons c u=>
   have n:=f;have o:=e;rw[S8 E_,ET,ET]at n;rw[S8 q2,ET,ET]at o;injection n with A _;injection o with B _;have r:W p=W q:=rI E_ q2 (A.trans B.symm);have g:(HX p).length=(HX q).length:=by rw[EM,EM,r]
   rcases qM.1 f with⟨t,h,j⟩|⟨t,h,j⟩;rw[h,A2]at e;obtain⟨D_,w⟩:=Eg e g.symm;exact ABX P Q k l m t v a b j w;cases t with
   |nil=>rw[DT]at h;rw[B7]at j;rw[<-h]at e;obtain⟨D_,w⟩:=Eg e g.symm;exact ABX P Q k l m [] v a b (by rw[B7];exact j.symm) (by rw[B7];exact w)
   |cons d t=>
    rw[ET]at j;injection j with y z;subst y z;have F:HX q++frames Q=((c::u)++b::t)++frames P:=by rw[e];simp only[A2,ET]
    obtain⟨D_,w⟩:=Eg F (by rw[<-g,h];simp only[AZ,Bh]);exact AHB r h D_
def wZ{c d:Ck}(e:G6 c)(f:G6 d){s t:Bd}(h:VI c++s=VI d++t):(VI c).length=(VI d).length:=by
 have g: ∀{c:Ck},G6 c-> ∃(n:U) (r:Bd),VI c=UInt8.ofNat n::r/\n<=255/\(VI c).length=if n=255 then 1 else n+1:=λ{c} e=>by
  have⟨b,w⟩:=c;have a:=e.1;dsimp only at a;unfold VI;cases b with
  |false=>exact⟨255,[],rfl,Al _,rfl⟩
  |true=>refine⟨w.length,w,?_,o!,?_⟩;grind[C6];grind[List.length_append,Ay]
 grind[rI]
def ADM{e f:EN}(d:G6 e.2.2.2.2.2.2.1.2.2.1/\G6 e.2.2.2.2.2.2.1.2.2.2/\e.2.2.2.2.2.2.2=[])(g:G6 f.2.2.2.2.2.2.1.2.2.1/\G6 f.2.2.2.2.2.2.1.2.2.2/\f.2.2.2.2.2.2.2=[]){s t:Bd}(h:B3 e++s=B3 f++t):(B3 e).length=(B3 f).length:=by have⟨a1,a2,a3⟩:=d;have⟨a,b,c⟩:=g;unfold B3 at*;rw[a3,c]at*;simp at h;have st:∀{n m}{k}{x y:Bd},C6 n k++x=C6 m k++y->x=y:=λi=>(Eg i (by rw[Ay,Ay])).2;have h:=st (st (st (st (st (st (st (st h)))))));have l1:=wZ a1 a h;simp[AZ,Ay,l1,(wZ a2 b ((Eg h l1).2))]
def AFa(x:AS):S Bd:=fg x::x.2.2.2.2.2.map B3
def sE(x:AS):NZ x=frames (AFa x):=by unfold NZ AFa;rw[UU];unfold Kx frames;rw[PJ];rfl
def WR.sml{x}(h:WR x):Sml (AFa x):=λp a=>by rcases Av.1 a with rfl|a;rw[ab];decide;obtain⟨e,f,rfl⟩:=Bp.1 a;have⟨b,c,d⟩:=h.2 e f;have l1:=ku b;have l2:=ku c;unfold B3;rw[d];simp[AZ,Ay,Bj];omega
inductive AIA(s t:Bd):Prop where
 |more (u v:Bd) (b:UInt8) (h1:s=u++v) (h2:t=u++b::v)
 |less (u v:Bd) (b:UInt8) (h1:s=u++b::v) (h2:t=u++v)
 |other (u v:Bd) (a b:UInt8) (h:a≠b) (h1:s=u++a::v) (h2:t=u++b::v)
def AFP{x y}(g:WR x)(j:WR y)(h:AIA (NZ x) (NZ y)):False:=by
 rw[sE,sE]at h;rcases h with⟨u,v,b,c,d⟩|⟨u,v,b,c,d⟩|⟨u,v,a,b,h,c,d⟩;exact yN _ _ g.sml j.sml u v b c d;exact yN _ _ j.sml g.sml u v b d c;refine h (ABX _ _ g.sml j.sml (λi p q s t k l o=>?_) u v a b c d);cases i with
 |zero=>grind[AFa,List.getElem?_cons_zero,Option.some.injEq,ab]
 |succ i=>simp only[AFa,mJ,CT,Tr]at k l;obtain⟨e,m,rfl⟩:=k;obtain⟨f,n,rfl⟩:=l;exact ADM (g.2 e (BP m)) (j.2 f (BP n)) o
def AF4{a b n k:U}{d:Q NE}(h:a<=k:=by omega)(c:k<a+n:=by omega):swR a b n d k=d[b+(k-a)]! :=if_pos ⟨h,c⟩
def AF5{a b n k:U}{d:Q NE}(e:a+n<=b)(h:b<=k:=by omega)(c:k<b+n:=by omega):swR a b n d k=d[a+(k-b)]! :=by unfold swR;rw[if_neg (by omega),if_pos ⟨h,c⟩]
def sg{a b n k:U}{d:Q NE}(h:k<a\/a+n<=k:=by omega)(c:k<b\/b+n<=k:=by omega):swR a b n d k=d[k]! :=by unfold swR;rw[if_neg (by omega),if_neg (by omega)]
def yk(s m e:U)(d:Q NE)(k:U):NE:=if s<=k/\k<s+(e-m)then d[m+(k-s)]! else if s+(e-m)<=k/\k<e then d[s+(k-(s+(e-m)))]! else d[k]!
def lh{s m e k:U}{d:Q NE}(h:s<=k:=by omega)(a:k<s+(e-m):=by omega):yk s m e d k=d[m+(k-s)]! :=if_pos ⟨h,a⟩
def pq{s m e k:U}{d:Q NE}(h:s+(e-m)<=k:=by omega)(a:k<e:=by omega):yk s m e d k=d[s+(k-(s+(e-m)))]! :=by unfold yk;rw[if_neg (by omega),if_pos ⟨h,a⟩]
theorem Vm{s m e k:U}{d:Q NE}(a:s<=m:=by omega)(b:m<=e:=by omega)(h:k<s\/e<=k:=by omega):yk s m e d k=d[k]! :=by unfold yk;rw[if_neg (by omega),if_neg (by omega)]
def rf{d:Q NE}{x y:U}(h:x=y):d[x]! =d[y]! :=by rw[h]
theorem AFp{m i j k:U}{d e:Q NE}(o:i<=m)(p:1<=j)(l:j<i)(n:m+j<=d.size)(a: ∀k,k<d.size->e[k]! =swR (m-i) m j d k)(b:k<d.size):yk (m-(i-j)) m (m+j) e k=yk (m-i) m (m+j) d k:=by
 rcases Az k (m-i)with c|c
 ·rw[Vm (by omega) (by omega) (by omega),Vm (by omega) (by omega) (by omega),a k b,sg (by omega) (by omega)]
 rcases Az k (m-i+j)with f|f
 ·rw[Vm (by omega) (by omega) (by omega),lh (by omega) (by omega),a k b,AF4 (by omega) (by omega)]
 rcases Az k (m-(i-j)+j)with g|g
 ·rw[lh (by omega) (by omega),pq (by omega) (by omega),a _ (by omega),AF5 (by omega) (by omega) (by omega)];exact rf (by omega)
 rcases Az k (m+j)with h|h
 ·rw[pq (by omega) (by omega),pq (by omega) (by omega),a _ (by omega),sg (by omega) (by omega)];exact rf (by omega)
 ·rw[Vm (by omega) (by omega) (by omega),Vm (by omega) (by omega) (by omega),a k b,sg (by omega) (by omega)]
theorem AFq{m i j k:U}{d e:Q NE}(p:i<=m)(n:1<=i)(l:i<j)(o:m+j<=d.size)(a: ∀k,k<d.size->e[k]! =swR (m-i) (m+j-i) i d k)(b:k<d.size):yk (m-i) m (m+(j-i)) e k=yk (m-i) m (m+j) d k:=by
 rcases Az k (m-i)with c|c
 ·rw[Vm (by omega) (by omega) (by omega),Vm (by omega) (by omega) (by omega),a k b,sg (by omega) (by omega)]
 rcases Az k (m-i+(j-i))with f|f
 ·rw[lh (by omega) (by omega),lh (by omega) (by omega),a _ (by omega),sg (by omega) (by omega)]
 rcases Az k (m+(j-i))with g|g
 ·rw[pq (by omega) (by omega),lh (by omega) (by omega),a _ (by omega),AF4 (by omega) (by omega)];exact rf (by omega)
 rcases Az k (m+j)with h|h
 ·rw[Vm (by omega) (by omega) (by omega),pq (by omega) (by omega),a _ (by omega),AF5 (by omega) (by omega) (by omega)];exact rf (by omega)
 ·rw[Vm (by omega) (by omega) (by omega),Vm (by omega) (by omega) (by omega),a k b,sg (by omega) (by omega)]
def ADo{d:Q NE}{a m b:U}(C:a<m)(D_:m<b)(E_:b≤d.size)(G:d.size≤16777216):
  Ao (E2 d.toList ((a:V),((m:V),(b:V)))) λr=> ∃e:Q NE,r=e.toList/\e.size=d.size/\ ∀k,k<d.size->e[k]! =yk a m b d k:=by
 unfold E2;have q:wi ((m:V)-(a:V))=((m-a:U):V):=by rw[oX];omega
 have t:wi ((b:V)-(m:V))=((b-m:U):V):=by rw[oX];omega
 dsimp only;rw[q,t];refine AA (P:=λ(r:V×R NE)=> ∃(i:U) (e:Q NE),r.1=i/\r.2=e.toList/\1<=i/\i<=m-a/\m+i<=b/\e.size=d.size/\ ∀k,k<d.size->yk (m-i) m (m+i) e k=yk a m b d k) ?_ ?_;refine AW (λ(s:V×(V×R NE))=> ∃(i j:U) (e:Q NE),s.1=i/\s.2.1=j/\s.2.2=e.toList/\1<=i/\1<=j/\i<=m-a/\m+j<=b/\e.size=d.size/\ ∀k,k<d.size->yk (m-i) m (m+j) e k=yk a m b d k) (λs=>(s.1+s.2.1).toNat)
  ⟨m-a,b-m,d,rfl,rfl,rfl,o!,o!,Al _,o!,rfl,λk _=>by rw[show m-(m-a)=a by omega,show m+(b-m)=b by omega]⟩ ?_
 rintro⟨H,I,J⟩ ⟨i,j,e,q1,q2,q3,q4,q5,q6,q7,q8,q9⟩;dsimp only at q1 q2 q3;subst q1 q2 q3;unfold JN;dsimp only;have o:wi ((m:V)-(i:V))=((m-i:U):V):=by rw[oX];omega
 rw[o];refine AL (λB=>?_) (λA=>AB ⟨i,e,rfl,rfl,q4,q6,o!,q8,λk g=>?_⟩);apply AC<;>intro F;apply AA (yq (d:=e) (a:=m-i) (b:=m) (n:=j) o! o! o!);rintro v ⟨f,rfl,h,l⟩;have c:Nat.beq (List.length f.toList) (List.length e.toList)=true:=by rw[Dy,Dy,h];exact Hl _
 have p:wi ((i:V)-(j:V))=((i-j:U):V):=by rw[oX];omega
 rw[c,cond_true,p];refine AB ⟨⟨i-j,j,f,rfl,rfl,rfl,o!,q5,o!,q7,o!,λk g=>?_⟩,?_⟩;rw[AFp o! q5 o! o! l o!,q9 k g];show(((i-j:U):V)+(j:V)).toNat<((i:V)+(j:V)).toNat
 omega;have u:wi (wi ((m:V)+(j:V))-(i:V))=((m+j-i:U):V):=by rw[oX (x:=(m:V)+(j:V)),oX];omega
 rw[u];apply AA (yq (d:=e) (a:=m-i) (b:=m+j-i) (n:=i) o! o! o!);rintro v ⟨f,rfl,h,l⟩;have c:Nat.beq (List.length f.toList) (List.length e.toList)=true:=by rw[Dy,Dy,h];exact Hl _
 have p:wi ((j:V)-(i:V))=((j-i:U):V):=by rw[oX];omega
 rw[c,cond_true,p];refine AB ⟨⟨i,j-i,f,rfl,rfl,rfl,q4,o!,q6,o!,o!,λk g=>?_⟩,?_⟩;rw[AFq o! q4 o! o! l o!,q9 k g];show((i:V)+((j-i:U):V)).toNat<((i:V)+(j:V)).toNat
 omega;have:j=i:=o!
 subst this;exact q9 k g;rintro⟨K,L⟩ ⟨i,e,q1,q2,q3,q4,q5,q6,q7⟩;dsimp only at q1 q2;subst q1 q2;dsimp only;have o:wi ((m:V)-(i:V))=((m-i:U):V):=by rw[oX];omega
 rw[o];apply AA (yq (d:=e) (a:=m-i) (b:=m) (n:=i) o! o! o!);rintro v ⟨f,rfl,h,l⟩;have c:Nat.beq (List.length f.toList) (List.length e.toList)=true:=by rw[Dy,Dy,h];exact Hl _
 rw[c,cond_true];refine AB ⟨f,rfl,o!,λk g=>?_⟩;rw[<-q7 k g,l k o!];rcases Az k (m-i)with w|w;rw[sg,Vm];rcases Az k m with y|y;rw[AF4,lh];rcases Az k (m+i)with z|z;rw[AF5 o!,pq];exact rf o!;rw[sg,Vm]
def AAG{i j:U}(h:i+j<=1099511627776):wi (Int.fdiv (IntKind.wrap .u64 (wi ((i:V)+(j:V)))) (2^(min (Int.toNat 1) 64)))=(((i+j)/2:U):V):=by rw[ABS];omega
def bs{body:V×V→Z (Step (V×V) V)}{P:U→N}{b a:U}(m:∀i:U,body ((i:V),(i:V))=Y (.done (i:V)))
  (s:∀i j:U,b<=i->i<j->j<=a->body ((i:V),(j:V))=Y (.next (if P ((i+j)/2)=E then((((i+j)/2+1:U):V),(j:V))else((i:V),(((i+j)/2:U):V))))) (l:b<=a):
  ∃r:U,Ag body ((b:V),(a:V))=Y (r:V)/\b<=r/\r<=a/\(b<r->P (r-1)=E)/\(r<a->P r=X):=by
 suffices h:∀n i j:U,j-i<=n->b<=i->i<=j->j<=a->(b<i->P (i-1)=E)->(j<a->P j=X)->∃r:U,Ag body ((i:V),(j:V))=Y (r:V)/\b<=r/\r<=a/\(b<r->P (r-1)=E)/\(r<a->P r=X)from
  h _ b a (Al _) (Al _) l (Al _) (O! · o!) (O! · o!)
 intro n;induction n with
 |zero=>
  intro i j p c q d e f;have:i=j:=o!
  subst this;rw[HV,m];exact⟨i,rfl,c,d,e,f⟩
 |succ n o=>intro i j p c q d e f;rw[HV];by_cases k:i=j;subst k;rw[m];exact⟨i,rfl,c,d,e,f⟩;rw[s i j c o! d];by_cases g:P ((i+j)/2)=E;rw[C! g];exact o _ j o! o! o! d (λ_=>by rw[nh];exact g) f;rw[D! g];exact o i _ o! c o! o! e (λ_=>by simpa using g)
def AKh{d:Q NE}{a m b:U}(o:a<d.size)(g:m≤b)(p:b≤d.size)(q:d.size≤16777216)(c:V×V):
  ∃r:U,Ag (DR d.toList ((a:V),c)) ((m:V),(b:V))=some (r:V)/\m<=r/\r<=b/\(m<r->lN d[r-1]! d[a]! =true)/\(r<b->lN d[r]! d[a]! =false):=by
 refine bs (P:=λk=>lN d[k]! d[a]!) (λi=>?_) (λi j h l n=>?_) g;unfold DR;have:decide ((i:V)<(i:V))=false:=q!
 dsimp only;rw[this,cond_false];unfold DR;have:decide ((i:V)<(j:V))=true:=w!
 dsimp only;rw[this,cond_true,AAG o!];obtain⟨v,e,f⟩:=AHm d[(i+j)/2]! d[a]!;rw[ixG (k:=(i+j)/2) rfl,ixG (k:=a) rfl];simp only[AD,e,f,wip (i:=(i+j)/2)];cases lN d[(i+j)/2]! d[a]! <;>rfl
def AKi{d:Q NE}{a r b:U}(h:a<r)(hr:r≤b)(w:b≤d.size)(x:d.size≤16777216):
  Ao (Ag (D9 (r:V)) ((a:V),d.toList)) λq=>∃e:Q NE,q=e.toList/\Sort.PermIn a b d e/\(∀t,a<=t->t<r-1->e[t]! =d[t+1]!)/\e[r-1]! =d[a]! /\∀t,r<=t->e[t]! =d[t]! :=by
 refine AW (λ(s:V×R NE)=>∃(k:U)(e:Q NE),s.1=k/\s.2=e.toList/\a<=k/\k<r/\Sort.PermIn a b d e/\(∀t,a<=t->t<k->e[t]! =d[t+1]!)/\e[k]! =d[a]! /\∀t,k<t->e[t]! =d[t]!) (λs=>r-s.1.toNat) ⟨a,d,rfl,rfl,Al _,h,Sort.permIn_refl _ _ _,λt _ _=>o!,rfl,λt _=>rfl⟩ ?_;rintro⟨z,A⟩ ⟨k,e,q1,q2,q3,q4,q5,q6,q7,q8⟩;dsimp only at q1 q2;subst q1 q2;have y:=q5.1;unfold D9;dsimp only;have l:wi ((r:V)-1)=((r-1:U):V):=by rw[wim];omega
 rw[l];refine AC (λn=>?_) (λn=>AB ⟨e,rfl,q5,λt g m=>q6 t g o!,?_,λt o=>q8 t o!⟩);have p:ix e.toList ((k+1:U):V)=δ e[k+1]! :=ixG rfl;have u:ix e.toList (k:V)=δ e[k]! :=ixG rfl;have v:ix (ER e.toList (k:V) e[k+1]!) ((k+1:U):V)=δ (e.setIfInBounds k e[k+1]!)[k+1]! :=AHH rfl rfl;simp only[wip (i:=k),p,u,v,AD,AHy (d:=e) (a:=k) (b:=k+1) rfl rfl];have c:=Sort.swp_get e (i:=k) (j:=k+1) o! o!;refine AB ⟨⟨k+1,_,rfl,rfl,o!,o!,Sort.permIn_trans _ _ _ _ _ q5 (Sort.swp_permIn e a b k (k+1) q3 o! o! o! o!),λt g m=>?_,?_,λt o=>?_⟩,?_⟩;rw[c,D! o!];by_cases f:t=k;subst f;rw[C! rfl];exact q8 _ o!;rw[D! f];exact q6 t g o!;rw[c,C! rfl];exact q7;rw[c,D! o!,D! o!];exact q8 t o!;show r-((k+1:U):V).toNat<r-((k:U):V).toNat
 omega;have:k=r-1:=o!
 rw[<-this];exact q7
def AFx{d:Q NE}{a b:U}(o:a+1≤b)(z:b≤d.size)(A:d.size≤16777216)(k:Sort.SortedIn lN (a+1) b d)(c:V×V):
  Ao (σ (Ag (DR d.toList ((a:V),c)) (((a+1:U):V),(b:V))) λv=>σ (Ag (D9 v) ((a:V),d.toList)) λw=>Y w) λq=>∃e:Q NE,q=e.toList/\Sort.PermIn a b d e/\Sort.SortedIn lN a b e:=by
 obtain⟨r,g,H,I,J,K⟩:=AKh (d:=d) (a:=a) (m:=a+1) (b:=b) o! o z A c;rw[g,AD];apply AA (AKi (d:=d) (a:=a) (r:=r) (b:=b) o! I z A);rintro q ⟨e,rfl,G,n,B,C⟩;refine AB ⟨e,rfl,G,λx y p s u=>?_⟩;have W:=vY;have F:∀t,a+1<=t->t<r->lN d[a]! d[t]! =X:=λt h l=>by
  have f:=J o!;cases D_:lN d[a]! d[t]! with
  |false=>rfl
  |true=>have i:=W.trans _ _ _ f D_;rcases Az t (r-1)with j|j;exact O! i (by rw[k t (r-1) h j o!];decide);rw[show t=r-1 by omega,W.irrefl]at i;cases i
 have E_:∀t,r<=t->t<b->lN d[t]! d[a]! =X:=λt h l=>by have f:=K o!;rcases Az r t with j|j;exact W.ntrans _ _ _ (k r t H j l) f;rw[show t=r by omega];exact f
 rcases Az y (r-1)with h|h;rw[n x p o!,n y o! h];exact k (x+1) (y+1) o! o! o!;rcases Az (r-1) y with l|l;rw[C y o!];rcases Az x (r-1)with f|f;rw[n x p f];exact k (x+1) y o! o! u;rcases Az (r-1) x with i|i;rw[C x o!];exact k x y o! s u;rw[show x=r-1 by omega,B];exact E_ y o! u;rw[show y=r-1 by omega,B,n x p o!];exact F (x+1) o! o!
def AKj{d:Q NE}{a m:U}(l:a≤m)(w:m<d.size)(u:d.size≤16777216)(b:V):
  ∃r:U,Ag (Cb d.toList ((a:V),((m:V),b))) ((a:V),(m:V))=some (r:V)/\a<=r/\r<=m/\(a<r->lN d[m]! d[r-1]! =false)/\(r<m->lN d[m]! d[r]! =true):=by
 have c: ∀i:U,Cb d.toList ((a:V),((m:V),b)) ((i:V),(i:V))=some (.done (i:V)):=λi=>by
  unfold Cb;have:decide ((i:V)<(i:V))=false:=q!
  dsimp only;rw[this,cond_false]
 have e: ∀i j:U,a<=i->i<j->j<=m->Cb d.toList ((a:V),((m:V),b)) ((i:V),(j:V))=some (.next (if(!lN d[m]! d[(i+j)/2]!)=true then((((i+j)/2+1:U):V),(j:V))else((i:V),(((i+j)/2:U):V)))):=λi j q s t=>by
  unfold Cb;have:decide ((i:V)<(j:V))=true:=w!
  dsimp only;rw[this,cond_true,AAG o!];obtain⟨v,f,g⟩:=AHm d[m]! d[(i+j)/2]!;rw[ixG (k:=(i+j)/2) rfl,ixG (k:=m) rfl];simp only[AD,f,g,wip (i:=(i+j)/2)];cases lN d[m]! d[(i+j)/2]! <;>rfl
 obtain⟨r,f,g,n,o,p⟩:=bs (P:=λk=>!lN d[m]! d[k]!) c e l;exact⟨r,f,g,n,λh=>by simpa using o h,λh=>by simpa using p h⟩
def AKk{d:Q NE}{a r m:U}(n:a≤r)(hr:r≤m)(y:m<d.size)(x:d.size≤16777216):
  Ao (Ag (EA (r:V)) ((m:V),d.toList)) λq=>∃e:Q NE,q=e.toList/\Sort.PermIn a (m+1) d e/\(∀t,r<t->t<=m->e[t]! =d[t-1]!)/\e[r]! =d[m]! /\∀t,t<r->e[t]! =d[t]! :=by
 refine AW (λ(s:V×R NE)=>∃(k:U)(e:Q NE),s.1=k/\s.2=e.toList/\r<=k/\k<=m/\Sort.PermIn a (m+1) d e/\(∀t,k<t->t<=m->e[t]! =d[t-1]!)/\e[k]! =d[m]! /\∀t,t<k->e[t]! =d[t]!) (λs=>s.1.toNat) ⟨m,d,rfl,rfl,hr,Al _,Sort.permIn_refl _ _ _,λt _ _=>o!,rfl,λt _=>rfl⟩ ?_;rintro⟨A,B⟩ ⟨k,e,q1,q2,q3,q4,q5,q6,q7,q8⟩;dsimp only at q1 q2;subst q1 q2;have z:=q5.1;unfold EA;dsimp only;refine AC (λo=>?_) (λo=>AB ⟨e,rfl,q5,λt l g=>q6 t o! g,?_,λt p=>q8 t o!⟩);have h:wi ((k:V)-1)=((k-1:U):V):=by rw[wim];omega
 have u:ix e.toList ((k-1:U):V)=δ e[k-1]! :=ixG rfl;have v:ix e.toList (k:V)=δ e[k]! :=ixG rfl;have w:ix (ER e.toList (k:V) e[k-1]!) ((k-1:U):V)=δ (e.setIfInBounds k e[k-1]!)[k-1]! :=AHH rfl rfl;simp only[h,u,v,w,AD,AHy (d:=e) (a:=k) (b:=k-1) rfl rfl];have c:=Sort.swp_get e (i:=k) (j:=k-1) o! o!;refine AB ⟨⟨k-1,_,rfl,rfl,o!,o!,Sort.permIn_trans _ _ _ _ _ q5 (Sort.swp_permIn e a (m+1) k (k-1) o! o! o! o! o!),λt l g=>?_,?_,λt p=>?_⟩,?_⟩;rw[c,D! o!];by_cases f:t=k;subst f;rw[C! rfl];exact q8 _ o!;rw[D! f];exact q6 t o! g;rw[c,C! rfl];exact q7;rw[c,D! o!,D! o!];exact q8 t o!;show((k-1:U):V).toNat<((k:U):V).toNat
 omega;have:k=r:=o!
 rw[<-this];exact q7
def AHs{d:Q NE}{a m:U}(n:a≤m)(u:m<d.size)(s:d.size≤16777216)(k:Sort.SortedIn lN a m d)(b:V):
  Ao (σ (Ag (Cb d.toList ((a:V),(m:V),b)) ((a:V),(m:V))) λv=>σ (Ag (EA v) ((m:V),d.toList)) λw=>Y w) λq=>∃e:Q NE,q=e.toList/\Sort.PermIn a (m+1) d e/\Sort.SortedIn lN a (m+1) e:=by
 obtain⟨r,g,B,G,H,I⟩:=AKj (d:=d) (a:=a) (m:=m) n u s b;rw[g,AD];apply AA (AKk (d:=d) (a:=a) (r:=r) (m:=m) B G u s);rintro q ⟨e,rfl,F,z,A,l⟩;refine AB ⟨e,rfl,F,λx y o p J=>?_⟩;have W:=vY;have E_:∀t,a<=t->t<r->lN d[m]! d[t]! =X:=λt h i=>by have c:=H o!;rcases Az t (r-1)with j|j;exact W.ntrans _ _ _ c (k t (r-1) h j o!);rw[show t=r-1 by omega];exact c
 have D_:∀t,r<=t->t<m->lN d[t]! d[m]! =X:=λt h i=>by
  have c:=I o!;cases C:lN d[t]! d[m]! with
  |false=>rfl
  |true=>have f:=W.trans _ _ _ C c;rcases Az r t with j|j;exact O! f (by rw[k r t B j i];decide);rw[show t=r by omega,W.irrefl]at f;cases f
 rcases Az y r with h|h;rw[l x o!,l y h];exact k x y o p o!;rcases Az r y with i|i;rw[z y i o!];rcases Az x r with c|c;rw[l x c];exact k x (y-1) o o! o!;rcases Az r x with f|f;rw[z x f o!];exact k (x-1) (y-1) o! o! o!;rw[show x=r by omega,A];exact D_ (y-1) o! o!;rw[show y=r by omega,A,l x o!];exact E_ x o o!
def AKl{d:Q NE}{a m b lo hi:U}(l:lo≤hi)(s:a≤lo)(t:hi≤m)(u:(a+b)/2+m-lo≤b)(y:hi≤(a+b)/2+m)(w:m≤b)(z:b≤d.size)(A:d.size≤16777216):
  ∃r:U,Ag (Cr d.toList ((a:V),((m:V),(b:V)))) ((lo:V),(hi:V))=some (r:V)/\lo<=r/\r<=hi/\(lo<r->lN d[(a+b)/2+m-1-(r-1)]! d[r-1]! =false)/\(r<hi->lN d[(a+b)/2+m-1-r]! d[r]! =true):=by
 have c: ∀i:U,Cr d.toList ((a:V),((m:V),(b:V))) ((i:V),(i:V))=some (.done (i:V)):=λi=>by
  unfold Cr;have:decide ((i:V)<(i:V))=false:=q!
  dsimp only;rw[this,cond_false]
 have e: ∀i j:U,lo<=i->i<j->j<=hi->Cr d.toList ((a:V),((m:V),(b:V))) ((i:V),(j:V))=some (.next (if(!lN d[(a+b)/2+m-1-(i+j)/2]! d[(i+j)/2]!)=true then((((i+j)/2+1:U):V),(j:V))else((i:V),(((i+j)/2:U):V)))):=λi j s t u=>by
  unfold Cr;have:decide ((i:V)<(j:V))=true:=w!
  dsimp only;rw[this,cond_true,AAG (i:=i) (j:=j) o!,AAG (i:=a) (j:=b) o!];have n:wi (wi (wi ((((a+b)/2:U):V)+(m:V))-1)-(((i+j)/2:U):V))=(((a+b)/2+m-1-(i+j)/2:U):V):=by rw[oX (x:=(((a+b)/2:U):V)+(m:V)),oX (x:=(((a+b)/2:U):V)+(m:V)-1),oX];omega
  obtain⟨v,f,g⟩:=AHm d[(a+b)/2+m-1-(i+j)/2]! d[(i+j)/2]!;rw[n,ixG (k:=(i+j)/2) rfl,ixG (k:=(a+b)/2+m-1-(i+j)/2) rfl];simp only[AD,f,g,wip (i:=(i+j)/2)];cases lN d[(a+b)/2+m-1-(i+j)/2]! d[(i+j)/2]! <;>rfl
 obtain⟨r,f,g,o,p,q⟩:=bs (P:=λk=>!lN d[(a+b)/2+m-1-k]! d[k]!) c e l;exact⟨r,f,g,o,λh=>by simpa using p h,λh=>by simpa using q h⟩
def AHl{s m e:U}{d f:Q NE}(o:s<=m)(p:m<=e)(b:e<=d.size)(c:f.size=d.size)(h:∀k,k<d.size->f[k]! =yk s m e d k):Sort.PermIn s e d f:=by
 refine⟨c,λi a=>?_,?_⟩;grind[Nat.lt_or_ge,Vm];have key:∀(g:U->NE)(s n:U),(List.range' s n).map g=(List.range n).map λi=>g (s+i):=λg s n=>by rw[List.range'_eq_map_range,PJ];rfl
 rw[Sort.extract_toList f s e o!,Sort.extract_toList d s e b];have j:List.range' s (e-s)=List.range' s (e-m)++List.range' (s+(e-m)) (m-s):=k!
 have l:List.range' s (e-s)=List.range' s (m-s)++List.range' (s+(m-s)) (e-m):=k!
 have l1:(List.range' s (e-m)).map (λi=>f[i]!)=(List.range' (s+(m-s)) (e-m)).map λi=>d[i]! :=by rw[key,key];refine NS λi a=>?_;have:=IJ.1 a;rw[h _ o!,lh];simp_all
 have l2:(List.range' (s+(e-m)) (m-s)).map (λi=>f[i]!)=(List.range' s (m-s)).map λi=>d[i]! :=by rw[key,key];refine NS λi a=>?_;have:=IJ.1 a;rw[h _ o!,pq];simp_all
 grind
def zD(a b:U)(d e:Q NE):Prop:=Sort.PermIn a b d e/\Sort.SortedIn lN a b e
def pr{a m b:U}{d}(h:m<=a\/b<=m)(c:Sort.SortedIn lN a m d)(e:Sort.SortedIn lN m b d)(f:a<=m)(g:m<=b):Sort.SortedIn lN a b d:=by
 rcases h with h|h;have:m=a:=o!
 rw[<-this];exact e;have:m=b:=o!
 rw[<-this];exact c
def ALN{C:List NE×(Int×(Int×Int))→Option (List NE)}{N a m b:Nat}{d:Array NE}(a4:a<m)(a5:m<b)(hb:b≤d.size)(hd:d.size≤16777216)(s:Sort.SortedIn lN a m d)(A:Sort.SortedIn lN m b d)
  (O: ∀(S:Array NE) (V m' R:Nat),V<m'->m'<R->R<=S.size->S.size<=16777216->Sort.SortedIn lN V m' S->Sort.SortedIn lN m' R S->PT (R-V<=N) (C (S.toList,((V:Int),((m':Int),(R:Int))))) λr=> ∃e:Array NE,r=e.toList/\zD V R S e):
  PT (b-a<=N+1) (CN C d.toList ((a:Int),((m:Int),(b:Int)))) λr=> ∃e:Array NE,r=e.toList/\zD a b d e:=by
 have W:=vY;unfold CN;have e0:wi ((m:Int)-(a:Int))=((m-a:Nat):Int):=by grind[oX]
 have e1:wi ((b:Int)-(m:Int))=((b-m:Nat):Int):=by grind[oX]
 dsimp only;rw[e0,e1,AAG (i:=a) (j:=b) o!];apply PT.cond<;>intro Q;have Q:m=a+1:=by have:=eq_of_beq Q;omega
 subst Q;exact lD (AFx o! hb hd A _);apply PT.cond<;>intro n;have n:b=m+1:=by have:=eq_of_beq n;omega
 subst n;exact lD (AHs o! hb hd s _);have n1:m-a≠1:=λh=>by rw[h]at Q;exact absurd Q g!
 have n2:b-m≠1:=λh=>by rw[h]at n;exact absurd n g!
 have Y_:a<(a+b)/2/\(a+b)/2<b:=o!
 generalize hM:(a+b)/2=M at Y_⊢;have e2:wi ((M:Int)+(m:Int))=((M+m:Nat):Int):=by rw[oX];omega
 rw[e2];refine PT.bind (P:=λv=> ∃L J:Nat,v=((L:Int),(J:Int))/\L<=J/\a<=L/\J<=m/\J<=M/\M+m-L<=b/\(L=a\/M+m-L=b)/\(J=m\/J=M)) ?_ ?_;refine PT.dec (λhc=>PT.some ⟨M+m-b,M,?_,o!⟩) (λhc=>PT.some ⟨a,m,rfl,o!⟩);rw[oX];exact congrArg (λz=>(z,(M:Int))) o!;rintro v ⟨L,J,rfl,f1,f2,f3,f4,f5,f6,f7⟩;have⟨r,g,r1,r2,r3,r4⟩:=AKl (d:=d) (a:=a) (m:=m) (b:=b) (lo:=L) (hi:=J) f1 f2 f3 o! o! o! hb hd;rw[hM]at r3 r4;rw[g,AD];have e3:wi (((M+m:Nat):Int)-(r:Int))=((M+m-r:Nat):Int):=by rw[oX];omega
 simp only[e3];obtain⟨E_,hE⟩: ∃E_,E_=M+m-r:=⟨_,rfl⟩
 rw[<-hE];have c1:a<r->E_<b->lN d[E_]! d[r-1]! =false:=λQ n=>by have:=r3 o!;rw[show M+m-1-(r-1)=E_ by omega]at this;exact this
 have c2:r<m->m<E_->lN d[E_-1]! d[r]! =true:=λQ n=>by have:=r4 o!;rw[show M+m-1-r=E_-1 by omega]at this;exact this
 have s3: ∀c l:Array NE,Sort.PermIn a b d c->(∀k,k<d.size->c[k]! =yk r m E_ d k)->zD a M c l->PT (b-a<=N+1) (bif decide ((M:Int)<(E_:Int))then Option.bind (bif decide ((E_:Int)<(b:Int))then Option.bind (C (l.toList,((M:Int),((E_:Int),(b:Int))))) λv=>bif Nat.beq (List.length v) (List.length l.toList)then some v else none else some l.toList) λv=>some v else some l.toList) λq=> ∃e:Array NE,q=e.toList/\zD a b d e:=by
  intro c l U f n;have z1:c.size=d.size:=U.1;have z2:l.size=c.size:=n.1.1;have ar: ∀k,k<r->c[k]! =d[k]! :=λk hk=>by rw[f k o!,Vm]
  have ax: ∀k,r<=k->k<M->c[k]! =d[m+(k-r)]! :=λk h h'=>by rw[f k o!,lh]
  have H: ∀k,M<=k->k<E_->c[k]! =d[r+(k-M)]! :=λk h h'=>by rw[f k o!,pq];exact rf o!
  have I: ∀k,E_<=k->k<b->c[k]! =d[k]! :=λk h h'=>by rw[f k o!,Vm]
  have a0: ∀x y,a<=x->x<M->M<=y->y<b->lN c[y]! c[x]! =false:=by
   intro x y F a3 G K;rcases Az x r with q1|q1;rw[ar x q1];rcases Az y E_ with q2|q2;rw[H y G q2];exact s x _ F o! o!;rw[I y q2 K];have k1:lN d[y]! d[E_]! =false:=by rcases Az E_ y with q3|q3;exact A E_ y o! q3 K;rw[show y=E_ by omega];exact W.irrefl _
   have k2:lN d[r-1]! d[x]! =false:=by rcases Az x (r-1)with q3|q3;exact s x (r-1) F q3 o!;rw[show r-1=x by omega];exact W.irrefl _
   exact W.ntrans _ _ _ (W.ntrans _ _ _ k1 (c1 o! o!)) k2;rw[ax x q1 a3];rcases Az y E_ with q2|q2;rw[H y G q2];have hc:=c2 o! o!;have k1:lN d[E_-1]! d[m+(x-r)]! =false:=by rcases Az (m+(x-r)) (E_-1)with q3|q3;exact A _ (E_-1) o! q3 o!;rw[show m+(x-r)=E_-1 by omega];exact W.irrefl _
   refine W.ntrans _ d[E_-1]! _ ?_ k1;cases hk:lN d[r+(y-M)]! d[E_-1]! with
   |false=>rfl
   |true=>have k2:=W.trans _ _ _ hk hc;rcases Az r (r+(y-M))with q3|q3;exact absurd k2 (by rw[s r _ o! q3 o!];decide);rw[show r+(y-M)=r by omega,W.irrefl]at k2;cases k2
   rw[I y q2 K];exact A _ y o! o! K
  have X_: ∀d3:Array NE,zD M b l d3->zD a b d d3:=λd3 T=>by refine⟨Sort.permIn_trans _ _ _ _ _ U (Sort.permIn_trans _ _ _ _ _ (Sort.permIn_mono _ _ a M a b o! o! o! n.1) (Sort.permIn_mono _ _ M b a b o! o! o! T.1)),λx y F B G=>?_⟩;rcases Az y M with q1|q1;rw[T.1.2.1 x o!,T.1.2.1 y o!];exact n.2 x y F B q1;rcases Az x M with q2|q2;rw[T.1.2.1 x o!];refine Sort.permIn_all l d3 M b (λz=>lN z l[x]! =false) o! T.1 (λw hw a2=>?_) y q1 G;rw[n.1.2.1 w o!];exact Sort.permIn_all c l a M (λz=>lN c[w]! z=false) o! n.1 (λu hu a1=>a0 u w hu a1 hw a2) x F q2;exact T.2 x y q2 B G
  have ao:Sort.SortedIn lN M E_ l:=λx y F B G=>by rw[n.1.2.1 x o!,n.1.2.1 y o!,H x F o!,H y o! G];exact s _ _ o! o! o!
  have ap:Sort.SortedIn lN E_ b l:=λx y F B G=>by rw[n.1.2.1 x o!,n.1.2.1 y o!,I x F o!,I y o! G];exact A _ _ o! o! o!
  have o:E_<=M\/b<=E_->zD a b d l:=λh=>X_ l ⟨Sort.permIn_refl _ _ _,pr h ao ap o! o!⟩;refine PT.dec (λq1=>PT.bind (P:=λq=> ∃e:Array NE,q=e.toList/\zD a b d e) (PT.dec (λq2=>?_) (λq2=>PT.some ⟨l,rfl,o o!⟩)) λr h=>PT.some h) (λq1=>PT.some ⟨l,rfl,o o!⟩);have hr:=O l M E_ b o! o! o! o! ao ap;refine PT.bind (P:=λq=> ∃e:Array NE,q=e.toList/\zD M b l e) ⟨λt=>hr.1 o!,hr.2⟩ ?_;rintro q ⟨e,rfl,D_⟩;exact bg (by rw[Dy,Dy,D_.1.1]) (PT.some ⟨e,rfl,X_ e D_⟩)
 have s2: ∀c:Array NE,Sort.PermIn a b d c->(∀k,k<d.size->c[k]! =yk r m E_ d k)->PT (b-a<=N+1) (bif decide ((a:Int)<(r:Int))then Option.bind (bif decide ((r:Int)<(M:Int))then Option.bind (C (c.toList,((a:Int),((r:Int),(M:Int))))) λv=>bif Nat.beq (List.length v) (List.length c.toList)then some v else none else some c.toList) λv=>(bif decide ((M:Int)<(E_:Int))then Option.bind (bif decide ((E_:Int)<(b:Int))then Option.bind (C (v,((M:Int),((E_:Int),(b:Int))))) λw=>bif Nat.beq (List.length w) (List.length v)then some w else none else some v) λw=>some w else some v)else(bif decide ((M:Int)<(E_:Int))then Option.bind (bif decide ((E_:Int)<(b:Int))then Option.bind (C (c.toList,((M:Int),((E_:Int),(b:Int))))) λw=>bif Nat.beq (List.length w) (List.length c.toList)then some w else none else some c.toList) λw=>some w else some c.toList)) λq=> ∃e:Array NE,q=e.toList/\zD a b d e:=by
  intro c U f;have z1:c.size=d.size:=U.1;have ad:Sort.SortedIn lN a r c:=λx y F B G=>by rw[f x o!,f y o!,Vm,Vm];exact s _ _ o! o! o!
  have al:Sort.SortedIn lN r M c:=λx y F B G=>by rw[f x o!,f y o!,lh,lh];exact A _ _ o! o! o!
  have o:r<=a\/M<=r->zD a M c c:=λh=>⟨Sort.permIn_refl _ _ _,pr h ad al o! o!⟩
  refine PT.dec (λq1=>PT.bind (P:=λq=> ∃e:Array NE,q=e.toList/\zD a M c e) ?_ ?_) (λq1=>s3 c c U f (o o!));refine PT.dec (λq2=>?_) (λq2=>PT.some ⟨c,rfl,o o!⟩);have hr:=O c a r M o! o! o! o! ad al;refine PT.bind (P:=λq=> ∃e:Array NE,q=e.toList/\zD a M c e) ⟨λt=>hr.1 o!,hr.2⟩ ?_;rintro q ⟨e,rfl,D_⟩;exact bg (by rw[Dy,Dy,D_.1.1]) (PT.some ⟨e,rfl,D_⟩);rintro q ⟨e,rfl,D_⟩;exact s3 c e U f D_
 have Z:r=m\/E_=m-> ∀k,k<d.size->d[k]! =yk r m E_ d k:=λh k hk=>by rcases Az k r with q1|q1;rw[Vm];rcases Az k (r+(E_-m))with q2|q2;rw[lh q1 q2];exact rf o!;rcases Az k E_ with q3|q3;rw[pq q2 q3];exact rf o!;rw[Vm]
 refine PT.dec (λq1=>PT.bind (P:=λq=> ∃e:Array NE,q=e.toList/\Sort.PermIn a b d e/\ ∀k,k<d.size->e[k]! =yk r m E_ d k) ?_ ?_) (λq1=>s2 d (Sort.permIn_refl _ _ _) (Z o!));refine PT.dec (λq2=>PT.bind (lD (ADo (d:=d) (a:=r) (m:=m) (b:=E_) o! o! o! hd)) ?_) (λq2=>PT.some ⟨d,rfl,Sort.permIn_refl _ _ _,Z o!⟩);rintro q ⟨e,rfl,z,D_⟩;exact bg (by rw[Dy,Dy,z]) (PT.some ⟨e,rfl,Sort.permIn_mono _ _ r E_ a b o! o! hb (AHl o! o! o! z D_),D_⟩);rintro q ⟨e,rfl,p,D_⟩;exact s2 e p D_
def AJj(n:U)(p:S NE×(V×(V×V))):pI (λg (p:S NE×(V×(V×V)))=>CN g p.1 p.2) (n+1) p=CN (pI (λg (p:S NE×(V×(V×V)))=>CN g p.1 p.2) n) p.1 p.2:=rfl
def ABv:∀(N:U)(d:Q NE)(a m b:U),a<m→m<b→b≤d.size→d.size≤16777216→Sort.SortedIn lN a m d→Sort.SortedIn lN m b d→
  PT (b-a<=N) (pI (λg (p:S NE×(V×(V×V)))=>CN g p.1 p.2) N (d.toList,(a:V),(m:V),(b:V))) λr=>∃e:Q NE,r=e.toList/\zD a b d e
 |0,d,a,m,b,h1,h2,h3,h4,h5,h6=>⟨λt=>O! t o!,λr e=>by cases e⟩
 |N+1,d,a,m,b,h1,h2,h3,h4,h5,h6=>by rw[AJj];exact ALN h1 h2 h3 h4 h5 h6 (ABv N)
def AIS{d:Q NE}{a m b:U}(c:a<m)(f:m<b)(g:b≤d.size)(h:d.size≤16777216)(i:Sort.SortedIn lN a m d)(j:Sort.SortedIn lN m b d):
  Ao (Ea d.toList ((a:V),(m:V),(b:V))) λr=>∃e:Q NE,r=e.toList/\zD a b d e:=by
 have⟨r,hr⟩:=(ABv (b-a) d a m b c f g h i j).1 (Al _);have⟨s,k⟩:=iG hr;have⟨N,l⟩:=eL k;exact⟨s,k,(ABv N d a m b c f g h i j).2 s l⟩
def Mul(s a:U):Prop:=∃k,a=k*s
def Mul.zero{s}:Mul s 0:=⟨0,q!⟩
def Mul.add{s a}(h:Mul s a):Mul s (a+s):=by obtain⟨k,rfl⟩:=h;exact⟨k+1,k!⟩
def Mul.half{s a:U}(h:Mul (2*s) a):Mul s a:=by obtain⟨k,rfl⟩:=h;exact⟨k*2,k!⟩
def Mul.lt{s a b}(c:Mul s a)(d:Mul s b)(h:a<b):a+s<=b:=by obtain⟨k,rfl⟩:=c;obtain⟨j,rfl⟩:=d;have:k<j:=Nat.lt_of_mul_lt_mul_right h;have:=NU s (Nat.succ_le_of_lt this);grind
theorem ah{a b c:U}{d}(h:Sort.SortedIn lN a b d)(i:c<=b):Sort.SortedIn lN a c d:=λx y e f g=>h x y e f o!
def XX{a b x y}{d e}(h:Sort.SortedIn lN a b d)(c:Sort.PermIn x y d e)(l:b<=x\/y<=a):Sort.SortedIn lN a b e:=λi j f g k=>by rw[c.2.1 i o!,c.2.1 j o!];exact h i j f g k
def Blk(s n:U)(d:Q NE):Prop:=∀a b,Mul s a->b<=a+s->b<=n->Sort.SortedIn lN a b d
def ADt{d0:Array NE}{n:Nat}(hn:n=d0.size)(hd:n<=1048576):Ao (E4 d0.toList (n:Int)) λr=>∃e:Array NE,r=e.toList/\zD 0 n d0 e:=by
 unfold E4;refine AA (P:=λ(r:Int×List NE)=>∃(a:Nat)(d:Array NE),r.1=a/\r.2=d.toList/\a<=n/\n<a+20/\Mul 20 a/\Sort.PermIn 0 n d0 d/\∀c,Mul 20 c->c<a->Sort.SortedIn lN c (c+20) d) ?_ ?_;refine AW (λ(s:Int×(Int×List NE))=>∃(a:Nat)(d:Array NE),s.1=a/\s.2.1=((a+20:Nat):Int)/\s.2.2=d.toList/\a<=n/\Mul 20 a/\Sort.PermIn 0 n d0 d/\∀c,Mul 20 c->c<a->Sort.SortedIn lN c (c+20) d) (λs=>n-s.1.toNat) ⟨0,d0,rfl,rfl,rfl,BU _,Mul.zero,Sort.permIn_refl _ _ _,λc _ h=>O! h o!⟩ ?_;rintro⟨Y_,Z,s3⟩ ⟨a,d,q1,q2,q3,q4,q5,q6,q7⟩;dsimp only at q1 q2 q3;subst q1 q2 q3;have hz:d.size=n:=by rw[q6.1,hn]
 unfold JO;dsimp only;refine AC (λO=>?_) (λO=>AB ⟨a,d,rfl,rfl,q4,o!,q5,q6,q7⟩);have A:=Sort.insertionSort_holds vY d a (a+20) o! o!;rw[ACY (d:=d) (k:=a) (m:=a+20) rfl rfl o! o! o!,AD];have j:ξ (θ (Sort.insertionSort lN d a (a+20)).toList) (θ d.toList)=ζ:=by rw[Dy,Dy,A.1.1];exact Hl _
 have e1:wi (((a+20:Nat):Int)+20)=((a+20+20:Nat):Int):=by grind[oX]
 rw[j,B!,e1];refine AB ⟨⟨a+20,_,rfl,rfl,rfl,o!,q5.add,Sort.permIn_trans _ _ _ _ _ q6 (Sort.permIn_mono _ _ a (a+20) 0 n o! o! o! A.1),λc g w=>?_⟩,?_⟩;rcases Az c a with l|l;exact XX (q7 c g l) A.1 (.inl (g.lt q5 l));have:c=a:=by rcases Az a c with i|i;have:=q5.lt g i;omega;omega
 rw[this];exact A.2;show n-((a+20:Nat):Int).toNat<n-((a:Nat):Int).toNat
 omega;rintro⟨r1,r2⟩ ⟨a,d,q1,q2,q3,q4,q5,q6,q7⟩;dsimp only at q1 q2;subst q1 q2;have hz:d.size=n:=by rw[q6.1,hn]
 dsimp only;have A:=Sort.insertionSort_holds vY d a n q3 o!;rw[ACY (d:=d) (k:=a) (m:=n) rfl rfl o! o! o!,AD];have j:ξ (θ (Sort.insertionSort lN d a n).toList) (θ d.toList)=ζ:=by rw[Dy,Dy,A.1.1];exact Hl _
 rw[j,B!];have C:Sort.PermIn 0 n d0 (Sort.insertionSort lN d a n):=Sort.permIn_trans _ _ _ _ _ q6 (Sort.permIn_mono _ _ a n 0 n o! o! o! A.1);have u:Blk 20 n (Sort.insertionSort lN d a n):=λc o g w l=>by rcases Az c a with i|i;exact ah (XX (q7 c g i) A.1 (.inl (g.lt q5 i))) w;rcases Az a c with E_|E_;have:=q5.lt g E_;exact λx y H I J=>O! J o!;grind[ah]
 revert C u;generalize Sort.insertionSort lN d a n=d1;intro C u;refine AA (P:=λr=>∃e:Array NE,r=e.toList/\zD 0 n d0 e) (AW (λ(s:Int×List NE)=>∃(t:Nat)(e:Array NE),s.1=t/\s.2=e.toList/\1<=t/\t<=2097172/\Sort.PermIn 0 n d0 e/\Blk t n e) (λs=>n-s.1.toNat) ⟨20,d1,rfl,rfl,o!,o!,C,u⟩ ?_) λr h=>AB h;rintro⟨Y_,Z⟩ ⟨t,e,H,I,J,g4,V,W⟩;dsimp only at H I;subst H I;unfold JP;dsimp only;refine AC (λO=>?_) (λO=>AB ⟨e,rfl,V,W 0 n Mul.zero o! (Al _)⟩);have U:wi (2*(t:Int))=((2*t:Nat):Int):=by rw[oX];omega
 have e3:wi ((t:Int)*2)=((2*t:Nat):Int):=by rw[oX];omega
 rw[U,e3];refine AA (P:=λ(r:Int×List NE)=>∃(a:Nat)(f:Array NE),r.1=a/\r.2=f.toList/\a<=n/\n<a+2*t/\Mul (2*t) a/\Sort.PermIn 0 n d0 f/\(∀c,Mul (2*t) c->c<a->Sort.SortedIn lN c (c+2*t) f)/\∀c o,Mul t c->a<=c->o<=c+t->o<=n->Sort.SortedIn lN c o f) ?_ ?_;refine AW (λ(s:Int×(Int×List NE))=>∃(a:Nat)(f:Array NE),s.1=a/\s.2.1=((a+2*t:Nat):Int)/\s.2.2=f.toList/\a<=n/\Mul (2*t) a/\Sort.PermIn 0 n d0 f/\(∀c,Mul (2*t) c->c<a->Sort.SortedIn lN c (c+2*t) f)/\∀c o,Mul t c->a<=c->o<=c+t->o<=n->Sort.SortedIn lN c o f) (λs=>n-s.1.toNat)
  ⟨0,e,rfl,q!,rfl,BU _,Mul.zero,V,λc _ h=>O! h o!,λc o g _ w l=>W c o g w l⟩ ?_
 rintro⟨Y_,Z,s3⟩ ⟨a,f,k1,G,T,X_,p,D_,K,B⟩;dsimp only at k1 G T;subst k1 G T;have S:f.size=n:=by rw[D_.1,hn]
 unfold JQ;dsimp only;refine AC (λQ=>?_) (λQ=>AB ⟨a,f,rfl,rfl,X_,o!,p,D_,K,B⟩);have N:wi ((a:Int)+(t:Int))=((a+t:Nat):Int):=by rw[oX];omega
 have e5:wi (((a+2*t:Nat):Int)+((2*t:Nat):Int))=((a+2*t+2*t:Nat):Int):=by rw[oX];omega
 rw[N,U,e5];apply AA (AIS (d:=f) (a:=a) (m:=a+t) (b:=a+2*t) o! o! o! o! (B a (a+t) p.half (Al _) (Al _) o!) (B (a+t) (a+2*t) p.half.add o! o! o!));rintro r ⟨q,rfl,v,F⟩;have j:ξ (θ q.toList) (θ f.toList)=ζ:=by rw[Dy,Dy,v.1];exact Hl _
 rw[j,B!];refine AB ⟨⟨a+2*t,q,rfl,rfl,rfl,o!,p.add,Sort.permIn_trans _ _ _ _ _ D_ (Sort.permIn_mono _ _ a (a+2*t) 0 n o! o! o! v),λc g w=>?_,λc o g w l i=>XX (B c o g o! l i) v (.inr w)⟩,?_⟩;rcases Az c a with l|l;exact XX (K c g l) v (.inl (g.lt p l));have:c=a:=by rcases Az a c with i|i;have:=p.lt g i;omega;omega
 rw[this];exact F;show n-((a+2*t:Nat):Int).toNat<n-((a:Nat):Int).toNat
 omega;rintro⟨v1,v2⟩ ⟨a,f,k1,G,T,X_,p,D_,K,B⟩;dsimp only at k1 G;subst k1 G;have S:f.size=n:=by rw[D_.1,hn]
 dsimp only;have N:wi ((a:Int)+(t:Int))=((a+t:Nat):Int):=by rw[oX];omega
 rw[N];have z:∀q:Array NE,Sort.PermIn a n f q->Sort.SortedIn lN a n q->(∃(L:Nat)(M:Array NE),((2*t:Nat):Int)=L/\q.toList=M.toList/\1<=L/\L<=2097172/\Sort.PermIn 0 n d0 M/\Blk L n M)/\n-((2*t:Nat):Int).toNat<n-((t:Nat):Int).toNat:=λq v F=>by refine⟨⟨2*t,q,rfl,rfl,o!,o!,Sort.permIn_trans _ _ _ _ _ D_ (Sort.permIn_mono _ _ a n 0 n o! o! o! v),λc o g w l=>?_⟩,o!⟩;rcases Az c a with i|i;exact ah (XX (K c g i) v (.inl (g.lt p i))) w;rcases Az a c with E_|E_;have:=p.lt g E_;exact λx y H I J=>O! J o!;rw[show c=a by omega];exact ah F l
 refine AC (λR=>AA (AIS (d:=f) (a:=a) (m:=a+t) (b:=n) o! o! o! o! (B a (a+t) p.half (Al _) (Al _) o!) (B (a+t) n p.half.add o! o! (Al _))) ?_) (λR=>AB (z f (Sort.permIn_refl _ _ _) (B a n p.half (Al _) o! (Al _))));rintro r ⟨q,rfl,v,F⟩;have j:ξ (θ q.toList) (θ f.toList)=ζ:=by rw[Dy,Dy,v.1];exact Hl _
 rw[j,B!];exact AB (z q v F)
def AHw{l:S NE}(h:W l<=1048576):Ao (C7 l ()) λr=>r.Perm l/\r.Pairwise λx y=>lN y x=X:=by
 unfold C7;apply AA (ADt (d0:=l.toArray) (n:=W l) q! h);rintro r ⟨R,rfl,d,f⟩;have e:R.size=W l:=by rw[d.1];simp
 have g:ξ (W R.toList) (W l)=E:=by simp[e]
 rw[g,B!];refine AB ⟨?_,?_⟩;have:=d.2.2;rw[show R.extract 0 (W l)=R by rw[<-e];exact og,show l.toArray.extract 0 (W l)=l.toArray by rw[show W l=l.toArray.size by simp];exact og]at this;exact this;rw[EI];intro i j k m b;have a:i<R.size:=by simpa using k
 have c:j<R.size:=by simpa using m
 have:=f i j (BU _) b o!;rw[getElem!_pos R j c,getElem!_pos R i a]at this;simpa using this
def AGN(l:S NE):Prop:=∀x∈l,∀y∈l,x≠y->x.1.2.2.1=y.1.2.2.1->x.1.2.1<y.1.1\/y.1.2.1<x.1.1
def AHo{N a:List NE}(W:θ N=θ a)(G:θ a≤256)(I:∀e∈a,1≤e.1.1∧e.1.1≤e.1.2.1∧e.1.2.1≤1099511627776∧0≤e.1.2.2.1)(P:a.Pairwise λx y=>lN y x=η)(hn:a.Nodup)(O:AGN a):
  Ao (Ag (T1 N a) (0,(-1),0,[],[])) λr=>r=(a.map (·.1),a.map (·.2)):=by
 refine AW (λ(s:Int×(Int×(Int×(List AS×List Int))))=>∃k:Nat,s.1=k/\k<=θ a/\s.2.2.2=((a.take k).map (·.1),(a.take k).map (·.2))/\((k=0/\s.2.1= -1)\/∃e,0<k/\a[k-1]?=δ e/\s.2.1=e.1.2.2.1/\s.2.2.1=e.1.2.1)) (λs=>θ a-s.1.toNat) ⟨0,rfl,BU _,rfl,.inl ⟨rfl,rfl⟩⟩ ?_;rintro⟨Y_,R,Z,s4⟩ ⟨k,q1,q2,q3,q4⟩;dsimp only at q1 q3 q4;subst q1 q3;unfold T1;dsimp only;refine AC (λw=>?_) (λw=>AB ?_)
 ·simp only[len]at w;refine AA (AI) λv8 _=>AA (AI) λv h=>?_;have z:a[k]?=δ v:=by simpa using h.1
  obtain⟨S,T,U,V⟩:=I v h.2;have C:a.take (k+1)=a.take k++[v]:=by rw[Cl,z];rfl
  have X_:(a.take k).length<=256:=by rw[BQ];omega
  have j:∀D_:Int,D_=v.1.2.2.1→Ao (σ (app ((a.take k).map (·.1)) [v.1]) λf=>σ (app ((a.take k).map (·.2)) [v.2]) λg=>δ (Step.next (wi ((k:Int)+1),D_,v.1.2.1,f,g))) λ(st:Step (Int×(Int×(Int×(List AS×List Int)))) (List AS×List Int))=>match st with
    |.next i=>(∃d:Nat,i.1=d/\d<=θ a/\i.2.2.2=((a.take d).map (·.1),(a.take d).map (·.2))/\((d=0/\i.2.1= -1)\/∃e,0<d/\a[d-1]?=δ e/\i.2.1=e.1.2.2.1/\i.2.2.1=e.1.2.1))/\θ a-i.1.toNat<θ a-((k:Nat):Int).toNat
    |.done r=>r=(a.map (·.1),a.map (·.2)):=λD_ A=>by
   refine AA (Ac w!) λf t=>AA (Ac w!) λg u=>AB ⟨⟨k+1,?_,o!,?_,.inr ⟨v,o!,by rw[nh];exact z,A,rfl⟩⟩,?_⟩;show wi ((k:Int)+1)=_;rw[wip];show(f,g)=_;rw[t.1,u.1,C,LR,LR];rfl;show θ a-(wi ((k:Int)+1)).toNat<θ a-((k:Nat):Int).toNat
   rw[wip];omega
  have b:∀n:Int,n<v.1.1->OS (v.1,n)=δ v.1:=λn hn=>by unfold OS;have:τ (v.1.1>n)=ζ:=G! hn;dsimp only;rw[this,B!]
  refine AL (λm=>?_) (λc=>?_);refine AC (λq=>O! q o!) (λ_=>?_);rw[b 0 o!,AD];obtain⟨st,E_,F⟩:=j v.1.2.2.1 rfl;exact⟨st,E_,by cases st<;>exact F⟩;rcases q4 with⟨_,q4⟩|⟨e,q5,q6,q7,q8⟩;exact O! (c.trans q4) o!;have B:e.1.2.1<v.1.1:=by
   have H:=BP q6;obtain⟨J,K⟩:=Ei.1 q6;obtain⟨L,M⟩:=Ei.1 z;have m:e≠v:=λp=>by have:=(EI.1 (Hj.1 hn)) (k-1) k J L o!;rw[K,M]at this;exact this p
   have o:=(EI.1 P) (k-1) k J L o!;rw[K,M]at o;have Q:=I e H;have l:e.1.2.2.1=v.1.2.2.1:=by rw[<-q7];exact c.symm
   rcases O e H v h.2 m l with p|p;exact p;simp only[lN,decide_eq_false_iff_not]at o;omega
  rw[q8];refine AC (λq=>O! q o!) (λ_=>?_);rw[b _ B,AD];obtain⟨st,E_,F⟩:=j R c.symm;exact⟨st,E_,by cases st<;>exact F⟩
 simp only[len]at w;rw[BN o!]
noncomputable def intR(a:AJ)(f:Am):Z NE:=
 match G7 (a,f)with
 |some (r,E)=>Y (r,f.2.1)
 |_=>D
noncomputable def DU(a:AJ):S NE:=a.2.2.1.filterMap (intR a)
def AHn{x:AJ}(h:VB x)(t:DS x):Ao (Ag (T0 x) (0,[])) λr=>r=DU x/\θ r<=256/\∀e∈r,aq e.1:=by
 obtain⟨⟨v,w,y,n,z,A,B⟩,a1,a2,a3,a4,a5,a6⟩:=id h;refine AW (λ(s:V×NL)=>0<=s.1/\s.1<=θ x.2.2.1/\θ s.2<=s.1/\(∀e∈s.2,aq e.1)/\s.2=(x.2.2.1.take s.1.toNat).filterMap (intR x)) (λ(s:V×NL)=>((θ x.2.2.1:V)-s.1).toNat) ⟨Ae _,d!,q!,λe a=>by simp at a,q!⟩ (λs q=>?_);obtain⟨u,C,D_,j,k⟩:=q;unfold T0;refine AC (λf=>?_) (λf=>AB ⟨?_,o!,j⟩);simp only[O]at f;have e:=AY (x:=s.1+1);rw[e];refine AA (AI u f) λg m=>?_;have c:x.2.2.1.take (s.1+1).toNat=x.2.2.1.take s.1.toNat++[g]:=by rw[show(s.1+1).toNat=s.1.toNat+1 by omega,Cl,m.1];rfl
 refine D6 (nE n (t _ m.2)) λl d p=>AK (λb=>?_) (λb=>AB ⟨⟨d!,d!,d!,j,?_⟩,d!⟩);have hr:intR x g=δ (l.1,g.2.1):=by unfold intR;rw[d];obtain⟨r,o⟩:=l;dsimp only at b;subst b;rfl
 refine AA (Ac w!) λE_ i=>AB ⟨⟨d!,d!,?_,λe a=>?_,?_⟩,d!⟩;have:=i.2.1;simp only[Bh,Bj]at this;dsimp only;omega;dsimp only at a;rw[i.1]at a;rcases Ak.1 a with a|a;exact j e a;rw[A9.1 a];exact p b;dsimp only;rw[c,wN,i.1,k];simp[hr];have hr:intR x g=ε:=by unfold intR;rw[d];obtain⟨r,o⟩:=l;dsimp only at b;subst b;rfl
 dsimp only;rw[c,wN,k];simp[hr];simp only[O]at f;rw[k,BN o!];rfl
def tj{x}(h:VB x)(m:DS x)(hn:(DU x).Nodup)(b:AGN (DU x)):Ao (HY x) λr=>∃v:S NE,v.Perm (DU x)/\(v.Pairwise λp q=>lN q p=X)/\r=(v.map (·.1),v.map (·.2))/\W v<=256/\∀e∈v,aq e.1:=by
 unfold HY;refine AA (Fg h) λt j=>?_;rw[j,By,A!];refine AA (AHn h m) λu k=>?_;obtain⟨rfl,g,s⟩:=k;refine AA (AHw o!) λf a=>?_;have i:=a.1.length_eq;have l:ξ (W f) (W (DU x))=E:=by rw[i];exact Hl _
 rw[l,B!];have c:∀e∈f,aq e.1:=λe d=>s e (a.1.mem_iff.1 d);refine AA (AHo i.symm o! (λe d=>?_) a.2 (a.1.nodup_iff.2 hn) (λp n q o=>b p (a.1.mem_iff.1 n) q (a.1.mem_iff.1 o))) λr hr=>AB ⟨f,a.1,a.2,hr,o!,c⟩;have:=c e d;exact⟨this.1,this.2.1,this.2.2.1,this.2.2.2.1⟩
def zU(l:S (V×V))(n:V):Prop:=∃s∈l,s.1<=n/\n<=s.2
def AEx{l:R (V×V)}{u b:V}(p:θ l<=16777216):Ao (Ag (T2 (l,u)) (0,b)) λr=>(∀q,r=.inl q->0<=q.1/\q.1<θ l/\q.2=b/\∀e,l[q.1.toNat]?=δ e->e.1<=b/\b<=e.2)/\(∀q,r=.inr q->q=b/\¬zU l b):=by refine AW (λ(s:V×V)=>0<=s.1/\s.1<=θ l/\s.2=b/\∀e∈l.take s.1.toNat,¬(e.1<=b/\b<=e.2)) (λ(s:V×V)=>((θ l:V)-s.1).toNat) ⟨Ae _,d!,rfl,q!⟩ (λt n=>?_);obtain⟨k,v,m,g⟩:=n;unfold T2;refine AC (λd=>?_) (λd=>AB ⟨λu c=>(by cases c),λu c=>?_⟩);simp only[O]at d;have e:=AY (x:=t.1+1);rw[e];refine AA (AI k d) λw h=>?_;unfold VT;rw[has_eq,AD,AD,m];refine AK (λf=>AB ⟨λu c=>?_,λu c=>(by cases c)⟩) (λi=>AB ⟨⟨d!,d!,rfl,λe a=>?_⟩,d!⟩);cases c;refine⟨k,d,rfl,λe a=>?_⟩;dsimp only at a;rw[h.1]at a;injection a with a;subst a;unfold QZ at f;simp only[BZ,K!]at f;exact f;dsimp only at a;rw[show(t.1+1).toNat=t.1.toNat+1 by omega,Cl,h.1]at a;rcases Ak.1 a with a|a;exact g e a;rw[nm,A9]at a;subst a;intro j;unfold QZ at i;simp only[Bool.and_eq_false_iff,decide_eq_false_iff_not]at i;omega;cases c;simp only[O]at d;rw[BN o!]at g;exact⟨m,by rw[show zU l b↔∃s∈l,s.1<=b/\b<=s.2 from Wb];rintro⟨s,o,j⟩;exact g s o j⟩
def ABF{l}{u:V}(h:SpL l)(w:0<=u)(A:u<=1099511627776):Ao (Mv (l,u)) λr=>0<=r/\r<=u/\(∀n,r<n->n<=u->zU l n)/\(r=0\/¬zU l r):=by obtain⟨a1,a2⟩:=h;unfold Mv;refine AA (P:=λr=>0<=r/\r<=u/\(∀n,r<n->n<=u->zU l n)/\(r=0\/¬zU l r)) ?_ λr hr=>AB hr;refine AW (λs=>0<=s/\s<=u/\∀n,s<n->n<=u->zU l n) (·.toNat) ⟨w,Ae _,λn k m=>by dsimp only at k;omega⟩ (λs v=>?_);obtain⟨p,t,g⟩:=v;unfold Y7;refine AA (AEx (b:=s) a1) λr hr=>BG (λq f=>?_) (λq f=>?_);obtain⟨i,j,y,z⟩:=hr.1 q f;refine AC (O! · o!) (λ_=>AC (λd=>AB ?_) (λB=>?_));rw[y]at d⊢;exact⟨p,t,g,.inl o!⟩;refine AA (AI i j) λa c=>?_;have q1:=z a c.1;have q2:=a2 a c.2;have e:=AY (x:=a.1-1);rw[e];refine AB ⟨⟨o!,o!,λn k m=>?_⟩,o!⟩;rcases mB s n with o|o;exact g n o m;exact⟨a,c.2,o!⟩;obtain⟨i,j⟩:=hr.2 q f;rw[i];exact AB ⟨p,t,g,.inr j⟩
def we{x:AJ}(h:VB x):x.2.2.1.Pairwise λf g=>f.2.1<g.2.1:=by
 have c:=h.2.2.2.2.2.2.2;rw[EI];have step:∀n i:U,∀(a:i<θ x.2.2.1)(b:i+1+n<θ x.2.2.1),(x.2.2.1[i]).2.1<(x.2.2.1[i+1+n]).2.1:=by
  intro n;induction n with
  |zero=>intro i a b;exact c i _ _ o! (Au a) (Au b)
  |succ n m=>intro i a b;have d:=m i a o!;have k:=c (i+1+n) _ _ o! (Au o!) (Au b);exact Int.lt_trans d k
 intro i j a b l;have:=step (j-(i+1)) i a o!;have e:i+1+(j-(i+1))=j:=o!
 simp only[e]at this;exact this
theorem mc{x}(h:VB x):((DU x).map (·.2)).Pairwise (· < ·):=by
 unfold DU;rw[Q8,List.pairwise_filterMap];refine(we h).imp λ{f g} b y a z c=>?_;have one:∀f(y:NE),intR x f=Y y->y.2=f.2.1:=λf y a=>by unfold intR at a;split at a;injection a with a;rw[<-a];cases a
 rw[one f y a,one g z c];exact b
def LK{x}(h:VB x):(DU x).Nodup:=by have:=mc h;rw[Q8]at this;exact Hj.2 (this.imp λh e=>by rw[e]at h;omega)
def AKV{a:AJ}{l:Aa}{p i j:Int}{Q:List (Int×Int)}{d:Int×Int}{r:AS}{W:List (Int×EN)}{u:Int}{P:EN→Prop}(hr:θ r.2.2.2.2.2≤4096)(Y_:Q[0]?=δ d)(hm:Qz W P)(hn:0≤u∧u≤1099511627776)
  (S:∀v∈r.2.2.2.2.2,HW p i j v=ζ->(QZ d v.1=ζ->P v)/\∀e,(P e\/(e∈r.2.2.2.2.2/\HW p i j e=ζ))->e.1=v.1->e=v):
  Ao (Ag (Xn (a,l,p,i,j) Q r) (0,W,u,[],0)) λq=>∃m n,q=.inl (m,n,[],0)/\Qz m (λe=>P e\/(e∈r.2.2.2.2.2/\HW p i j e=ζ))/\n=u+((r.2.2.2.2.2.filter λe=>HW p i j e&&QZ d e.1).length:Int):=by
 generalize hL:r.2.2.2.2.2=L at hr S⊢;refine AW (λ(s:Int×(List (Int×EN)×(Int×(List EN×Int))))=>0<=s.1/\s.1<=θ L/\s.2.2.2=([],0)/\s.2.2.1=u+(((L.take s.1.toNat).filter λe=>HW p i j e&&QZ d e.1).length:Int)/\Qz s.2.1 λe=>P e\/(e∈L.take s.1.toNat/\HW p i j e=ζ)) (λs=>((θ L:Int)-s.1).toNat)
  ⟨Ae _,d!,rfl,q!,hm.congr λe=>q!⟩ (λs Z=>?_)
 obtain⟨c,E_,F,s4⟩:=s;obtain⟨U,i2,V,C,z⟩:=Z;dsimp only at U i2 V C z;subst V;unfold Xn;dsimp only;rw[hL];refine AC (λf=>?_) (λf=>AB ?_);simp only[len]at f;have X_:=AY (x:=c+1);rw[X_];refine AA (AI U f) λv R=>?_;rw[nz,AD];have o:L.take (c+1).toNat=L.take c.toNat++[v]:=by rw[show(c+1).toNat=c.toNat+1 by omega,Cl,R.1];rfl
 have k:HW p i j v=η->(0<=c+1/\c+1<=θ L/\(([],0):List EN×Int)=([],0)/\F=u+(((L.take (c+1).toNat).filter λe=>HW p i j e&&QZ d e.1).length:Int)/\Qz E_ λe=>P e\/(e∈L.take (c+1).toNat/\HW p i j e=ζ))/\((θ L:Int)-(c+1)).toNat<((θ L:Int)-c).toNat:=λy=>by
  refine⟨⟨o!,o!,rfl,?_,?_⟩,o!⟩;rw[o,GL,C];simp[y];rw[o];refine z.congr λe=>⟨?_,?_⟩
  rintro(h|h);exact .inl h;exact .inr ⟨Ak.2 (.inl h.1),h.2⟩;rintro(h|⟨h,w⟩);exact .inl h;rcases Ak.1 h with h|h;exact .inr ⟨h,w⟩;rw[A9.1 h,y]at w;cases w
 refine AK (λG=>?_) (λG=>AB (k (by simp[HW,G])));refine AK (λH=>?_) (λH=>AB (k (by simp[HW,H])));refine AK (λI=>?_) (λI=>AB (k (by unfold HW;rw[I];simp)));refine AO (λJ=>AB (k (by unfold HW;rw[J];simp))) (λJ=>?_);have y:HW p i j v=ζ:=by unfold HW;rw[G,H,I,J];rfl
 have O:ix Q 0=δ d:=by unfold ix;rw[C! (Ae _)];exact Y_
 rw[O,AD,has_eq,AD];obtain⟨M,A⟩:=S v R.2 y;have t:Qz (Qa v.1 v E_) λe=>P e\/(e∈L.take (c+1).toNat/\HW p i j e=ζ):=by
  rw[o];refine z.put.congr λe=>⟨?_,λh=>?_⟩
  rintro(rfl|⟨h|h,_⟩);exact .inr ⟨Ak.2 (.inr (A9.2 rfl)),y⟩;exact .inl h;exact .inr ⟨Ak.2 (.inl h.1),h.2⟩;by_cases g:e=v;exact .inl g;rcases h with h|⟨h,w⟩;exact .inr ⟨.inl h,λN=>g (A e (.inl h) N)⟩;rcases Ak.1 h with h|h;exact .inr ⟨.inr ⟨h,w⟩,λN=>g (A e (.inr ⟨F9 h,w⟩) N)⟩;exact O! (A9.1 h) g
 have T:(((L.take c.toNat).filter λe=>HW p i j e&&QZ d e.1).length:Int)<=4096:=by have h1:=EH (λe=>HW p i j e&&QZ d e.1) (L.take c.toNat);have h3:=List.length_take_le' c.toNat L;omega
 have K:=AY (x:=F+1);rw[K];have B:∀b:Bool,QZ d v.1=b->u+((((L.take (c+1).toNat).filter λe=>HW p i j e&&QZ d e.1).length:Nat):Int)=F+(if b=ζ then 1 else 0):=λb hb=>by rw[o,GL,AZ,C];cases b<;>simp[y,hb]<;>omega
 refine AK (λD_=>?_) (λD_=>AB ⟨⟨d!,d!,rfl,?_,t⟩,d!⟩);have hg:Lo v.1 E_=δ v:=z.get (.inl (M D_));rw[hg];simp only[Option.isSome_some,By,A!,nk,L!,YZ];refine AB ⟨⟨d!,d!,rfl,?_,t⟩,d!⟩;rw[B ζ D_];rfl;rw[B η D_];simp;simp only[len]at f;rw[BN o!]at C z;exact⟨E_,F,rfl,z,C⟩
def Kl(low:V)(rs:S AS):S EN:=(rs.filter λr=>r.2.2.1==low).flatMap λr=>r.2.2.2.2.2
def AKU{a:AJ}{l:Aa}{p i j:Int}{X_:List (Int×Int)}{sp:Int×Int}{b:Int×(Int×Bool)}{c:List AS}{E_:List Int}{W:List (Int×EN)}{P:EN→Prop}(Z:X_[0]? =some sp)(hm:Qz W P)
  (U:c.length=E_.length) (T:c.length<=256) (hr: ∀r∈c,r.2.2.2.2.2.length<=4096)
  (hc: ∀v∈Kl b.1 c,HW p i j v=true->(QZ sp v.1=true->P v)/\ ∀e,(P e\/(e∈Kl b.1 c/\HW p i j e=true))->e.1=v.1->e=v):
  Ao (Ag (Xm (a,(l,(p,(i,j)))) X_ b (c,E_)) (0,(W,(0,([],0))))) λq=> ∃m n,q= .inl (m,(n,([],0)))/\Qz m (λe=>P e\/(e∈Kl b.1 c/\HW p i j e=true))/\n=(((Kl b.1 c).filter λe=>HW p i j e&&QZ sp e.1).length:Int):=by
 have B: ∀k:Nat,(Kl b.1 (c.take k)).length<=k*4096:=by
  intro k;induction k with
  |zero=>simp[Kl]
  |succ k ih=>rw[Cl];grind[Kl,List.length_append,Nat.succ_mul,Nat.add_le_add]
 refine AW (λ(s:Int×(List (Int×EN)×(Int×(List EN×Int))))=>0<=s.1/\s.1<=c.length/\s.2.2.2=([],0)/\s.2.2.1=(((Kl b.1 (c.take s.1.toNat)).filter λe=>HW p i j e&&QZ sp e.1).length:Int)/\Qz s.2.1 λe=>P e\/(e∈Kl b.1 (c.take s.1.toNat)/\HW p i j e=true)) (λs=>((c.length:Int)-s.1).toNat)
  ⟨Ae _,d!,rfl,by simp[Kl],hm.congr λe=>by simp[Kl]⟩ (λs hI=>?_)
 have⟨d,s2,S,s4⟩:=s;have⟨R,i2,V,C,D_⟩:=hI;dsimp only at R i2 V C D_;subst V;unfold Xm;dsimp only;refine AC (λo=>?_) (λo=>AB ?_);simp[len]at o;have Y_:=AY (x:=d+1);rw[Y_];refine AA (AI R o) λv G=>?_;have t:c.take (d+1).toNat=c.take d.toNat++[v]:=by rw[show(d+1).toNat=d.toNat+1 by omega,Cl,G.1];rfl
 refine AK (λF=>?_) (λF=>AB ⟨⟨d!,d!,rfl,?_,?_⟩,d!⟩);refine AA (AI R) λad _=>?_;have u: ∀e∈v.2.2.2.2.2,e∈Kl b.1 c:=λe g=>G0.2 ⟨v,BR.2 ⟨G.2,F⟩,g⟩;have z: ∀e∈Kl b.1 (c.take d.toNat),e∈Kl b.1 c:=λe g=>by have⟨r,L,M⟩:=G0.1 g;have⟨N,O⟩:=BR.1 L;exact G0.2 ⟨r,BR.2 ⟨F9 N,O⟩,M⟩
 have K:0<=S/\S<=1099511627776:=by
  have h1:=EH (λe=>HW p i j e&&QZ sp e.1) (Kl b.1 (c.take d.toNat));have h2:=B d.toNat
  omega
 have f:Kl b.1 (c.take d.toNat++[v])=Kl b.1 (c.take d.toNat)++v.2.2.2.2.2:=by grind[Kl]
 refine AA (AKV (hr v G.2) Z D_ K λw hw Q=>?_) ?_;have⟨q1,q2⟩:=hc w (u w hw) Q;refine⟨λh=>.inl (q1 h),λe g H=>q2 e ?_ H⟩;rcases g with(g|⟨g,y⟩)|⟨g,y⟩;exact .inl g;exact .inr ⟨z e g,y⟩;exact .inr ⟨u e g,y⟩;rintro q ⟨m,n,rfl,I,J⟩;refine BF (AB ⟨⟨d!,d!,rfl,?_,?_⟩,d!⟩);dsimp only;rw[t,f,J,C,GL,AZ];omega;dsimp only;rw[t,f];refine I.congr λe=>?_;rw[Ak];constructor;rintro((h|⟨h,A⟩)|⟨h,A⟩);exact .inl h;exact .inr ⟨.inl h,A⟩;exact .inr ⟨.inr h,A⟩;rintro(h|⟨h|h,A⟩);exact .inl (.inl h);exact .inl (.inr ⟨h,A⟩);exact .inr ⟨h,A⟩;have f:Kl b.1 (c.take d.toNat++[v])=Kl b.1 (c.take d.toNat):=by unfold Kl;rw[GL,Yd];simp[F]
 dsimp only;rw[t,f];exact C;have f:Kl b.1 (c.take d.toNat++[v])=Kl b.1 (c.take d.toNat):=by unfold Kl;rw[GL,Yd];simp[F]
 dsimp only;rw[t,f];exact D_;simp[len]at o;rw[BN o!]at C D_;exact⟨s2,S,rfl,D_,C⟩
def Vk{l:S EN}:(l.map (·.1)).Nodup->∀{a b:EN},a∈l->b∈l->a.1=b.1->a=b:=by
 induction l with
 |nil=>intro _ a b d;cases d
 |cons p r f=>intro e a b d c h;rw[B4,G1]at e;rcases Av.1 d with d|d;rcases Av.1 c with c|c;rw[d,c];exact O! (by rw[<-d,h];exact Tn c) e.1;rcases Av.1 c with c|c;exact O! (by rw[<-c,<-h];exact Tn d) e.1;exact f e.2 d c h
def AHU{B}(j:CP B){l:S EN}(h:W l<=B)(k:W l<=16777216)(hn:(l.map (·.1)).Nodup):Ao (vO DD l) λr=>r.Perm l/\r.Pairwise λa b=>a.1<b.1:=by
 have n:=List.pairwise_mergeSort (le:=λa b:EN=>decide (a.1<=b.1)) (λa b c o p=>by simp only[K!]at*;omega) (λa b=>by simp only[QI,K!];omega) l;have i:(l.mergeSort λa b:EN=>decide (a.1<=b.1)).Perm l:=List.mergeSort_perm _ _;have g:(l.mergeSort λa b:EN=>decide (a.1<=b.1)).Pairwise λa b=>a.1<=b.1:=n.imp λh=>N! h;have key:∀m,l.Perm m->DD m ()=Y (l.mergeSort λa b:EN=>decide (a.1<=b.1)):=λm f=>by have d:(m.map (·.1)).Nodup:=(f.map (·.1)).nodup_iff.1 hn;unfold DD ACq;rw[C! ⟨d,by rw[<-f.length_eq];exact k⟩,<-ABw (key:=λe:EN=>e.1) d (i.trans f) g]
 refine⟨_,?_,i,?_⟩;unfold vO;rw[C!];exact key l (mD l);intro m f;rw[key m f,key l (mD l)];have d:=(i.map (·.1)).nodup_iff.2 hn;rw[Hj,Q8]at d;exact(g.and d).imp λh=>o!
def xF:∀(n:U)(i:V)(l:S V),l.Nodup->(∀x∈l,i<x/\x<=i+n)->W l<=n
 |0,i,l,_,h=>by
  cases l with
  |nil=>exact Al _
  |cons a r=>have:=h a (Av.2 (.inl rfl));omega
 |n+1,i,l,hl,h=>by
  have d:=xF n i (l.erase (i+(n+1:U))) (hl.erase _) λx c=>by have b:=(hl.mem_erase_iff).1 c;have:=h x b.2;have:=b.1;omega
  have e:W l<=(l.erase (i+(n+1:U))).length+1:=by rw[List.length_erase];split<;>omega
  omega
def Yk(i:V)(s:S EN):Prop:=∀(k:U)(e:EN),s[k]?=Y e->(k=0->e.2.2.2.2.1<=i)/\∀f,0<k->s[k-1]?=Y f->e.2.2.2.2.1=f.1
def AKT{a:AJ}{l:Aa}{p i j:V}{s:R EN}(O:s.length≤16777216):
  Ao (Ag (P8 (a,(l,(p,(i,j)))) s) (0,([],0))) λr=>(r= .inl ([],0)/\Yk i s)\/(r= .inr ([],13)/\ ¬Yk i s):=by
 refine AW (λ(t:V×(R EN×V))=>0<=t.1/\t.1<=s.length/\t.2=([],0)/\ ∀(k:U) (e:EN),k<t.1->s[k]? =some e->(k=0->e.2.2.2.2.1<=i)/\ ∀f,0<k->s[k-1]? =some f->e.2.2.2.2.1=f.1) (λt=>((s.length:V)-t.1).toNat)
  ⟨Ae _,d!,rfl,λk e F=>(by dsimp only at F;omega)⟩ (λt K=>?_)
 obtain⟨b,P⟩:=t;obtain⟨C,L,G,D_⟩:=K;dsimp only at C L G D_;subst G;unfold P8;dsimp only;refine AC (λn=>?_) (λn=>AB (.inl ⟨rfl,λk e d=>D_ k e ?_ d⟩));simp only[len]at n;have I:=AY (x:=b+1);rw[I];refine AA (AI C n) λM _=>AA (AI C n) λv h=>?_;have o:((b=0->v.2.2.2.2.1<=i)/\ ∀f,0<b->s[b.toNat-1]? =some f->v.2.2.2.2.1=f.1)->(0<=b+1/\b+1<=s.length/\(([],0):R EN×V)=([],0)/\ ∀(k:U) (e:EN),k<b+1->s[k]? =some e->(k=0->e.2.2.2.2.1<=i)/\ ∀f,0<k->s[k-1]? =some f->e.2.2.2.2.1=f.1)/\((s.length:V)-(b+1)).toNat<((s.length:V)-b).toNat:=λE_=>by
  refine⟨⟨o!,o!,rfl,λk e F d=>?_⟩,o!⟩;by_cases B:(k:V)<b;exact D_ k e B d;have H:k=b.toNat:=o!
  subst H;rw[h.1]at d;injection d with d;subst d;exact⟨λy=>E_.1 o!,λf y g=>E_.2 f o! g⟩
 apply AP<;>intro y;refine AC (λu=>AB (.inr ⟨rfl,λA=>?_⟩)) (λu=>?_);have:=(A b.toNat v h.1).1 o!;omega;refine AC (λm=>absurd m o!) (λ_=>AB (o ⟨λ_=>o!,λf g=>absurd g o!⟩));refine AC (λu=>?_) (λu=>absurd u o!);have w:=AY (x:=b-1);rw[w];refine AA (AI) λN _=>AA (AI) λq z=>?_;have c:s[b.toNat-1]? =some q:=by rw[show b.toNat-1=(b-1).toNat by omega];exact z.1
 refine AL (λm=>AB (.inr ⟨rfl,λA=>m ((A b.toNat v h.1).2 q o! c)⟩)) (λm=>AB (o ⟨λJ=>absurd J y,λf _ g=>?_⟩));rw[c]at g;injection g with g;rw[<-g];exact m;simp only[len]at n;have:=(Ei.1 d).1;omega
def AKW{a:AJ}{l:Aa}{p i j:V}{s:S EN}(b:W s≤16777216):
  Ao (Ag (P8 (a,l,p,i,j) s) (0,[],0)) λr=>(r=.inl ([],0)/\Yk i s)\/(r=.inr ([],13)/\¬Yk i s):=AKT b
def Vn(l:Aa)(low:V)(rs:S AS):S (V×V):=(l.1,l.1+W l.2.1-1)::(rs.filter λr=>r.2.2.1==low).map λr=>(r.1,r.2.1)
def AAf{a:AJ}{l:Aa}{p:V}{e:V×(V×N)}{b:R AS}{d:R V}(A:Dg l)(k:Fv (a,p)=δ e)(B:e.2.2=ζ)(m:HY a=δ (b,d))(s:θ b=θ d)(o:θ b≤256):
  QA (a,l,p)=δ (Vn l e.1 b):=by
 obtain⟨F,w,y⟩:=Rw A;unfold QA;dsimp only;rw[w,AD,k,AD,B,By,A!,m,AD,y];have main:Ao (Ag (T4 e (b,d)) (0,([(l.1,l.1+θ l.2.1-1)]:R (V×V)))) λr=>r=Vn l e.1 b:=by
  refine AW (λ(t:V×R (V×V))=>0<=t.1/\t.1<=θ b/\θ t.2<=t.1.toNat+1/\t.2=Vn l e.1 (b.take t.1.toNat)) (λt=>((θ b:V)-t.1).toNat) ⟨Ae _,d!,q!,rfl⟩ (λt z=>?_);obtain⟨g,E_⟩:=t;obtain⟨n,C,D_,j⟩:=z;dsimp only at n C D_ j;unfold T4;dsimp only;refine AC (λi=>?_) (λi=>AB ?_);simp only[O]at i;have u:=AY (x:=g+1);rw[u];refine AA (AI n i) λv h=>?_;have f:b.take (g+1).toNat=b.take g.toNat++[v]:=by rw[show(g+1).toNat=g.toNat+1 by omega,Cl,h.1];rfl
  refine AK (λc=>?_) (λc=>AB ⟨⟨d!,d!,d!,?_⟩,d!⟩);refine AA (AI n) λG _=>AA (Ac (by simp only[Bh,Bj];omega)) λH q=>AB ⟨⟨d!,d!,?_,?_⟩,d!⟩;have:=q.2.1;simp only[Bh,Bj]at this;dsimp only;omega;dsimp only;rw[q.1,j,f];unfold Vn;rw[GL,LR,wP (by exact c)];rfl;dsimp only;rw[j,f];unfold Vn;rw[GL,wO (by rw[c];decide)];simp;simp only[O]at i;rw[j,BN o!]
 obtain⟨r,q1,q2⟩:=main;rw[q1,AD,q2]
def pk{l:S EN}:(l.map (·.1)).Nodup->l.Nodup:=by
 induction l with
 |nil=>intro _;exact Q7
 |cons p r b=>intro a;rw[B4,G1]at a;exact G1.2 ⟨λh=>a.1 (Tn h),b a.2⟩
def Dg.nodup{l}(h:Dg l):(l.2.1.map (·.1)).Nodup:=by obtain⟨l1,l2,i,j,k,a⟩:=h;rw[Hj,Q8,EI];intro x y b d c g;have e:=(a x _ (Au b)).1;have f:=(a y _ (Au d)).1;omega
def Dg.has{l}(h:Dg l){e:EN}(a:e∈l.2.1):QZ (l.1,l.1+W l.2.1-1) e.1=E:=by obtain⟨k,b,a⟩:=WU.1 a;have c:=(h.2.2.2.2.2 k e (by rw[<-a];exact Au b)).1;unfold QZ;simp only[BZ,K!];omega
structure AH6(l:Aa)(low p i j:Int)(rs:List AS):Prop where
 fromLog:∀f∈Kl low rs,HW p i j f=true->QZ (l.1,l.1+l.2.1.length-1) f.1=true->f∈l.2.1
 inRuns:∀e∈l.2.1,HW p i j e=true->((rs.filter λr=>r.2.2.1==low).any λr=>QZ (r.1,r.2.1) e.1)=true->e∈Kl low rs
 own:∀r∈rs,∀f∈r.2.2.2.2.2,QZ (r.1,r.2.1) f.1=true
 once:((Kl low rs).map (·.1)).Nodup
def AK3{B:Nat}{a:AJ}{l:Aa}{p i j fl:Int}{c:Int×(Int×Bool)}{b:Ψ AS}{P:Ψ Int}(U:CP B)(hB:B≤16777216)(ao:j-i≤B)(hi:0≤i)(hj:i≤j)
  (h:VB a) (D_:Dg l) (hp:0<=p/\p<a.2.1) (L:Fv (a,p)=Y c) (ht:c.2.2=E) (N:HY a=Y (b,P)) (w:θ b=θ P) (t:θ b<=256)
  (hr:∀r∈b,θ r.2.2.2.2.2<=4096) (V:Mv (Vn l c.1 b,j)=Y fl) (z:AH6 l c.1 p i j b):
  Ao (HZ (a,l,p,i,j)) λr=>(fl>i/\r=([],42))\/(fl<=i/\∃s:Ψ EN,(s.Pairwise λx y=>x.1<y.1)/\(∀e,e∈s↔(e∈l.2.1\/e∈Kl c.1 b)/\HW p i j e=E)/\((Yk i s/\r=(s,0))\/(¬Yk i s/\r=([],13)))):=by
 have K:=D_.nodup;unfold HZ;dsimp only;refine AA (aY (x:=(a,l,p,i)) h D_ ⟨hp.1,hp.2,hi⟩) λv0 h0=>AL (O! h0 ·) (λ_=>AC (O! · o!) (λ_=>?_));rw[AAf D_ L ht N w t,AD,V,AD];refine AC (λhf=>AB (.inl ⟨hf,rfl⟩)) (λhf=>AA (AKR D_ (by simp[Vn]) (by have:=EH (λr:AS=>r.2.2.1==c.1) b;simp only[Vn,Bh,Ba];omega)) λal H=>?_);rw[L,AD,ht,By,A!,N,AD];have hP:∀v∈Kl c.1 b,HW p i j v=E->(QZ (l.1,l.1+θ l.2.1-1) v.1=E->(v∈l.2.1/\HW p i j v=E))/\∀e,((e∈l.2.1/\HW p i j e=E)\/(e∈Kl c.1 b/\HW p i j e=E))->e.1=v.1->e=v:=λv Z E_=>by refine⟨λk=>⟨z.fromLog v Z E_ k,E_⟩,λe u A=>?_⟩;rcases u with⟨u,_⟩|⟨u,_⟩;have ad:=z.fromLog v Z E_ (by rw[<-A];exact D_.has u);exact Vk K u ad A;exact Vk z.once u Z A
 apply AA (AKU (sp:=(l.1,l.1+θ l.2.1-1)) rfl H.2 w t hr hP);rintro q ⟨m,n,rfl,o,hn⟩;apply BF;dsimp only;have f:al.1=n:=by
  rw[H.1,hn];refine E! Int.ofNat (List.Perm.length_eq ?_)
  refine(na ((pk K).filter _) ((pk z.once).filter _)).2 λe=>?_;rw[BR,BR];simp only[BZ];have I:((Vn l c.1 b).tail.any λs=>QZ s e.1)=((b.filter λr=>r.2.2.1==c.1).any λr=>QZ (r.1,r.2.1) e.1):=by unfold Vn;rw[List.tail_cons,List.any_map];rfl
  rw[I];constructor;rintro⟨F,G,R⟩;exact⟨z.inRuns e F G R,G,D_.has F⟩;rintro⟨F,G,R⟩;obtain⟨r,M,X_⟩:=G0.1 F;exact⟨z.fromLog e F G R,G,qL.2 ⟨r,M,z.own r (BR.1 M).1 e X_⟩⟩
 refine AL (O! f ·) (λ_=>?_);have J:∀q∈m,HW p i j q.2=E:=λq d=>by
  have:(q.2.1,q.2)∈m:=by rw[<-o.2.1 q d];exact d
  rcases(o.2.2 q.2).1 this with g|g;exact g.2;exact g.2
 have W:θ m<=B:=by
  have:=xF (j-i).toNat i (m.map (·.1)) o.1 λx hx=>by obtain⟨q,d,rfl⟩:=Bp.1 hx;have E_:=J q d;have hk:=o.2.1 q d;unfold HW at E_;simp only[BZ,K!]at E_;omega
  rw[Ba]at this;omega
 refine AC (λ_=>?_) (λk=>O! k (by show¬ ¬((θ m:Int)<=16777216);omega));have C:((m.map (·.2)).map (·.1))=m.map (·.1):=by rw[PJ];exact NS λq d=>(o.2.1 q d).symm
 refine AA (AHU U (l:=m.map (·.2)) (by rw[Ba];exact W) (by rw[Ba];omega) (by rw[C];exact o.1)) λs Q=>?_;have Y_:θ s=θ m:=by rw[Q.1.length_eq,Ba]
 have T:ξ (θ s) (θ m)=E:=by rw[Y_];exact Hl _
 rw[T,B!];have O:∀e,e∈s↔(e∈l.2.1\/e∈Kl c.1 b)/\HW p i j e=E:=λe=>by
  rw[Q.1.mem_iff];constructor;intro u;obtain⟨q,d,rfl⟩:=Bp.1 u;have:(q.2.1,q.2)∈m:=by rw[<-o.2.1 q d];exact d
  rcases(o.2.2 q.2).1 this with g|g;exact⟨.inl g.1,g.2⟩;exact⟨.inr g.1,g.2⟩;rintro⟨g,g'⟩;exact Bp.2 ⟨(e.1,e),(o.2.2 e).2 (g.imp (λg=>⟨g,g'⟩) (λg=>⟨g,g'⟩)),rfl⟩
 refine AA (AKW o!) λr hr=>?_;rcases hr with⟨rfl,S⟩|⟨rfl,S⟩;exact BF (AB (.inr ⟨o!,s,Q.2,O,.inl ⟨S,rfl⟩⟩));exact A0 (AB (.inr ⟨o!,s,Q.2,O,.inr ⟨S,rfl⟩⟩))
def Ux{s t:S EN}(c:s.Pairwise λx y=>x.1<y.1)(d:t.Pairwise λx y=>x.1<y.1)(h:∀e,e∈s↔e∈t):s=t:=by have nd:∀{u:S EN},(u.Pairwise λx y=>x.1<y.1)->u.Nodup:=λg=>Hj.2 (g.imp λh e=>by rw[e]at h;omega);have f:=(na (nd c) (nd d)).2 h;exact qI (le:=λa b=>a.1<b.1) (λa b _ _ i j=>o!) c d f
structure cu(L:List EN)(r:AS):Prop where
 mem:∀e,e∈r.2.2.2.2.2↔e∈L/\hZ e=true/\r.2.2.1<=e.2.2.2.2.2.2.1.1/\e.2.2.2.2.2.2.1.1<=r.2.2.2.1/\r.1<=e.1/\e.1<=r.2.1
 nd:(r.2.2.2.2.2.map (·.1)).Nodup
def AEQ{L:S EN}{l:Aa}{k:S AS}{b p i j:V}(a:∀e,e∈l.2.1↔e∈L∧l.1≤e.1∧e.1≤l.1+W l.2.1-1)(hr:∀r∈k,cu L r)
  (t:∀r∈k,r.2.2.1=b->b<=p/\p<=r.2.2.2.1) (h:(k.filter λr=>r.2.2.1==b).Pairwise λr s=>r.2.1<s.1\/s.2.1<r.1):AH6 l b p i j k where
 fromLog f hf hw hh:=by obtain⟨r,c,g⟩:=G0.1 hf;have d:=((hr r (BR.1 c).1).mem f).1 g;unfold QZ at hh;simp only[BZ,K!]at hh;exact(a f).2 ⟨d.1,o!⟩
 inRuns e o hw ha:=by obtain⟨r,c,g⟩:=qL.1 ha;have d:=BR.1 c;have q:r.2.2.1=b:=eq_of_beq d.2;have A:=t r d.1 q;unfold HW at hw;unfold QZ at g;simp only[BZ,K!,J!]at hw g;exact G0.2 ⟨r,c,((hr r d.1).mem e).2 ⟨((a e).1 o).1,hw.1,o!⟩⟩
 own r hrr f hf:=by have d:=((hr r hrr).mem f).1 hf;unfold QZ;simp only[BZ,K!];omega
 once:=by unfold Kl;rw[List.map_flatMap,Hj,List.pairwise_flatMap];refine⟨λr c=>Hj.1 (hr r (BR.1 c).1).nd,?_⟩;refine qH ?_ h;intro r s c g d x u y v o;obtain⟨e,m,rfl⟩:=Bp.1 u;obtain⟨f,n,rfl⟩:=Bp.1 v;have w:=((hr r (BR.1 c).1).mem e).1 m;have z:=((hr s (BR.1 g).1).mem f).1 n;omega
def zc{L}{d:S AS}{a p i j:V}(hr:∀r∈d,cu L r)(n:∀r∈d,r.2.2.1=a→a≤p∧p≤r.2.2.2.1){e}(l:HW p i j e=E):
  e∈Kl a d↔e∈L/\∃r∈d,r.2.2.1=a/\r.1<=e.1/\e.1<=r.2.1:=by
 unfold HW at l;simp only[BZ,K!,J!]at l;constructor;intro h;obtain⟨r,f,b⟩:=G0.1 h;obtain⟨c,k⟩:=BR.1 f;have g:=((hr r c).mem e).1 b;exact⟨g.1,r,c,eq_of_beq k,g.2.2.2.2.1,g.2.2.2.2.2⟩;rintro⟨f,r,b,c,k,m⟩;have g:=n r b c;exact G0.2 ⟨r,BR.2 ⟨b,by simp[c]⟩,((hr r b).mem e).2 ⟨f,l.1,o!,o!,k,m⟩⟩
def bf(a:AJ)(l:Aa)(low n:V):Prop:=(l.1<=n/\n<=l.1+l.2.1.length-1)\/ ∃e∈DU a,e.1.2.2.1=low/\e.1.1<=n/\n<=e.1.2.1
def AId{B:Nat}{a:AJ}{l:Aa}{L:Ψ EN}{p i j:Int}{c:Int×(Int×Bool)}(N:CP B)(hB:B≤16777216)(O:j-i≤B)(X_:0≤i)(Y_:i≤j)(hJ:j≤1099511627776)
  (h:VB a) (hd:DS a) (I:Dg l) (R:0<=p/\p<a.2.1) (F:Fv (a,p)=Y c) (Z:c.2.2=E) (J:L.Pairwise λx y=>x.1<y.1) (b:∀e,e∈l.2.1↔e∈L/\l.1<=e.1/\e.1<=l.1+θ l.2.1-1)
  (hR:∀e∈DU a,cu L e.1) (w:AGN (DU a)) (S:∀e∈DU a,e.1.2.2.1=c.1->c.1<=p/\p<=e.1.2.2.2.1):
  ∃fl,(0<=fl/\fl<=j/\(∀n,fl<n->n<=j->bf a l c.1 n)/\(fl=0\/¬bf a l c.1 fl))/\Ql (a,l,p,i,j)=Y (τ (fl<=i))/\Ao (HZ (a,l,p,i,j)) λr=>(fl>i/\r=([],42))\/(fl<=i/\((Yk i (L.filter (HW p i j))/\r=(L.filter (HW p i j),0))\/(¬Yk i (L.filter (HW p i j))/\r=([],13)))):=by
 obtain⟨q,G,v,D_,w2,rfl,w4,w5⟩:=tj h hd (LK h) w;have m:∀r∈v.map (·.1),∃e∈DU a,e.1=r:=λr hr=>by obtain⟨e,d,rfl⟩:=Bp.1 hr;exact⟨e,D_.mem_iff.1 d,rfl⟩
 have C:∀r∈v.map (·.1),cu L r:=λr hr=>by obtain⟨e,d,rfl⟩:=m r hr;exact hR e d
 have A:∀r∈v.map (·.1),r.2.2.1=c.1->c.1<=p/\p<=r.2.2.2.1:=λr hr=>by obtain⟨e,d,rfl⟩:=m r hr;exact S e d
 have T:((v.map (·.1)).filter λr=>r.2.2.1==c.1).Pairwise λr s=>r.2.1<s.1\/s.2.1<r.1:=by rw[List.filter_map,Q8];have Q:v.Pairwise λx y=>x≠y:=Hj.1 (D_.nodup_iff.2 (LK h));refine qH ?_ (Q.filter _);intro x y hx hy P;obtain⟨x1,x2⟩:=BR.1 hx;obtain⟨U,V⟩:=BR.1 hy;exact w x (D_.mem_iff.1 x1) y (D_.mem_iff.1 U) P ((eq_of_beq x2).trans (eq_of_beq V).symm)
 have ad:(Vn l c.1 (v.map (·.1))).length<=257:=by have:=EH (λr:AS=>r.2.2.1==c.1) (v.map (·.1));rw[Ba]at this;simp only[Vn,Bh,Ba];omega
 have K:SpL (Vn l c.1 (v.map (·.1))):=by refine⟨o!,λs f=>?_⟩;rcases Av.1 f with f|f;rw[f];exact I.1;obtain⟨r,hr,rfl⟩:=Bp.1 f;obtain⟨e,d,rfl⟩:=Bp.1 (BR.1 hr).1;exact(w5 e d).1
 have k:∀n,zU (Vn l c.1 (v.map (·.1))) n↔bf a l c.1 n:=λn=>by constructor;rintro⟨s,f,o,t⟩;rcases Av.1 f with f|f;rw[f]at o t;exact .inl ⟨o,t⟩;obtain⟨r,hr,rfl⟩:=Bp.1 f;obtain⟨g1,H⟩:=BR.1 hr;obtain⟨e,d,rfl⟩:=m r g1;exact .inr ⟨e,d,eq_of_beq H,o,t⟩;rintro(⟨o,t⟩|⟨e,d,h0,o,t⟩);exact⟨_,Av.2 (.inl rfl),o,t⟩;exact⟨(e.1.1,e.1.2.1),Av.2 (.inr (Bp.2 ⟨e.1,BR.2 ⟨Tn (D_.mem_iff.2 d),by simp[h0]⟩,rfl⟩)),o,t⟩
 obtain⟨fl,E_,f1,f2,W,f4⟩:=ABF K (u:=j) o! hJ;refine⟨fl,⟨f1,f2,λn o t=>(k n).1 (W n o t),f4.imp id λhh M=>hh ((k fl).2 M)⟩,?_,?_⟩;obtain⟨v0,ev,hv⟩:=aY (x:=(a,l,p,i)) h I ⟨R.1,R.2,X_⟩;unfold Ql;dsimp only;rw[ev,AD,beq_iff_eq.2 hv,B!,G! Y_,B!,AAf I F Z G (by rw[Ba,Ba]) (by rw[Ba];exact w4),AD,E_,AD];refine(AK3 N hB O X_ Y_ h I R F Z G (by rw[Ba,Ba]) (by rw[Ba];exact w4) (λr hr=>?_) E_ (AEQ b C A T)).mono λr hr=>?_;obtain⟨e,d,rfl⟩:=Bp.1 hr;exact(w5 e d).2.2.2.2.2.2.2.2;rcases hr with hr|⟨hr,s,s1,s2,s3⟩;exact .inl hr;refine .inr ⟨hr,?_⟩;have f:s=L.filter (HW p i j):=Ux s1 (J.filter _) λe=>by rw[s2,BR];constructor;rintro⟨g|g,z⟩;exact⟨((b e).1 g).1,z⟩;exact⟨((zc C A z).1 g).1,z⟩;rintro⟨g,z⟩;refine⟨?_,z⟩;have H:=z;unfold HW at H;simp only[BZ,K!]at H;rcases(k e.1).1 (W e.1 o! o!)with M|⟨y,U,V,y3,y4⟩;exact .inl ((b e).2 ⟨g,M⟩);exact .inr ((zc C A z).2 ⟨g,y.1,Tn (D_.mem_iff.2 U),V,y3,y4⟩)
 rw[<-f];exact s3
def BD.lt{n}{l}(h:BD n l):∀(d i:U)(x y:V),l[i]?=Y x->l[i+1+d]?=Y y->x<y
 |0,i,x,y,hx,hy=>by have:=Cv hy;exact h.2.2.2.2.2.1 i x y o! hx hy
 |d+1,i,x,y,hx,hy=>by have e:=Cv hy;have a:l[i+1+d]?=Y (l[i+1+d]' o!):=Au o!;have b:=BD.lt h d i x _ hx a;have c:=h.2.2.2.2.2.1 (i+1+d) _ y o! a k!;omega
def BD.le{n}{l}(h:BD n l){i j:U}{x y:V}(a:i<=j)(b:l[i]?=Y x)(c:l[j]?=Y y):x<=y:=by
 by_cases e:i=j;grind;obtain⟨d,rfl⟩:∃d,j=i+1+d:=⟨j-(i+1),o!⟩
 have:=h.lt d i x y b c;omega
def BD.mem{n}{l}(h:BD n l){i:U}{x:V}(a:l[i]?=Y x):0<=x/\x<n:=by have f:=Cv a;have b:l[W l-1]?=Y (l[W l-1]' o!):=Au o!;have c:=h.le (BU i) h.2.2.2.2.1 a;have d:=h.le (by omega:i<=W l-1) a b;have e:=h.2.2.2.2.2.2 _ b;omega
def BD.inj{n}{l}(h:BD n l){i j:U}{x:V}(b:l[i]?=Y x)(c:l[j]?=Y x):i=j:=by
 rcases Q9 i j with a|a|a;obtain⟨d,rfl⟩:∃d,j=i+1+d:=⟨j-(i+1),o!⟩
 have:=h.lt d i x x b c;omega;exact a;obtain⟨d,rfl⟩:∃d,i=j+1+d:=⟨i-(j+1),o!⟩
 have:=h.lt d j x x c b;omega
def qu(a:AJ)(i:U):V:=match a.1[i+1]? with
 |some h=>h-1
 |none=>a.2.1-1
def Ku(a:AJ)(lo hi:V):Prop:=∃i:U,a.1[i]?=Y lo/\hi=qu a i
def AE2{a:AJ}(h:BD a.2.1 a.1){i:U}(c:i<W a.1):(∀w,a.1[i+1]?=Y w->wi (w-1)=qu a i)/\(W a.1<=i+1->wi (a.2.1-1)=qu a i):=by refine⟨λw b=>?_,λd=>?_⟩;have:=h.mem b;have:=h.2.1;grind[qu,AY];have:=h.1;have:=h.2.1;grind[qu,u?,AY]
def od{a:AJ}(h:BD a.2.1 a.1){i:U}{b:V}(c:a.1[i]?=Y b):E8 (a,(i:V))=Y (b,qu a i):=by
 have f:=Cv c;have d:=h.2.2.2.1;have⟨j,k⟩:=AE2 h f;unfold E8;rw[AY (x:=(i:V)+1),(by unfold ix;rw[C! o!,s?,c]:ix a.1 (i:V)=Y b)];by_cases e:i+1<W a.1;have g:ix a.1 ((i:V)+1)=Y a.1[i+1]:=by unfold ix;rw[C! o!,show((i:V)+1).toNat=i+1 by omega,(m? e)]
 grind;grind
def zI{a:AJ}(h:BD a.2.1 a.1){i:U}{b:V}(c:a.1[i]?=Y b):Ki (a,(i:V))=Y (b,qu a i):=by
 have f:=Cv c;have d:=h.2.2.2.1;have⟨j,k⟩:=AE2 h f;unfold Ki;rw[AY (x:=(i:V)+1),(by unfold ix;rw[C! o!,s?,c]:ix a.1 (i:V)=Y b)];by_cases e:i+1<W a.1;have g:ix a.1 ((i:V)+1)=Y a.1[i+1]:=by unfold ix;rw[C! o!,show((i:V)+1).toNat=i+1 by omega,(m? e)]
 grind;grind
def sW{a:AJ}{r:AS}(h:BD a.2.1 a.1):Ao (Fb (a,r)) λk=>0<=k↔Ku a r.2.2.1 r.2.2.2.1:=by
 have g:=h.2.2.2.1;refine AA (P:=λq=>(∃k:V,q= .inl k/\0<=k/\Ku a r.2.2.1 r.2.2.2.1)\/(q= .inr ()/\ ¬Ku a r.2.2.1 r.2.2.2.1)) ?_ λq p=>?_
 ·refine CQ (λ(s:V)=>0<=s/\s<=a.1.length/\ ∀i:U,(i:V)<s-> ¬(a.1[i]? =some r.2.2.1/\r.2.2.2.1=qu a i)) (λs=>((a.1.length:V)-s).toNat) ⟨Ae _,o!,λi m=>o!⟩ (λs j=>?_);have⟨e,t,u⟩:=j;unfold Hf;dsimp[O];refine AC (λl=>?_) (λl=>Ao.done (.inr ⟨rfl,?_⟩))
  ·obtain⟨k,rfl⟩:=Ef e;rw[od h (Au o!),AD,AY];have f: ¬(a.1[k]? =some r.2.2.1/\r.2.2.2.1=qu a k)->Ao (some (Step.next ((k:V)+1)):Option (Step V (V ⊕ Unit))) (MX (λ(s:V)=>0<=s/\s<=a.1.length/\ ∀i:U,(i:V)<s-> ¬(a.1[i]? =some r.2.2.1/\r.2.2.2.1=qu a i)) (λs=>((a.1.length:V)-s).toNat) ((a.1.length:V)-(k:V)).toNat λq=>(∃k:V,q= .inl k/\0<=k/\Ku a r.2.2.1 r.2.2.2.1)\/(q= .inr ()/\ ¬Ku a r.2.2.1 r.2.2.2.1)):=λhn=>by
    refine Ao.next ⟨o!,o!,λi m=>?_⟩ o!
    grind
   refine AP (λb=>?_) (λb=>f λd=>b ?_)
   ·refine AP (λc=>Ao.done (.inl ⟨_,rfl,e,k,?_,?_⟩)) (λc=>f λd=>c d.2.symm);grind;grind
   grind
  rintro⟨i,n,o⟩;grind
 grind[BF,AB,A0]
def AFQ{a:AJ}{r:AS}(h:BD a.2.1 a.1):Ao (M2 (a,r)) λk=>0<=k↔Ku a r.2.2.1 r.2.2.2.1:=by
 have g:=h.2.2.2.1;refine AA (P:=λq=>(∃k:V,q= .inl k/\0<=k/\Ku a r.2.2.1 r.2.2.2.1)\/(q= .inr ()/\ ¬Ku a r.2.2.1 r.2.2.2.1)) ?_ λq p=>?_
 ·refine CQ (λ(s:V)=>0<=s/\s<=a.1.length/\ ∀i:U,(i:V)<s-> ¬(a.1[i]? =some r.2.2.1/\r.2.2.2.1=qu a i)) (λs=>((a.1.length:V)-s).toNat) ⟨Ae _,o!,λi m=>o!⟩ (λs j=>?_);have⟨e,t,u⟩:=j;unfold RK;dsimp[O];refine AC (λl=>?_) (λl=>Ao.done (.inr ⟨rfl,?_⟩))
  ·obtain⟨k,rfl⟩:=Ef e;rw[zI h (Au o!),AD,AY];have f: ¬(a.1[k]? =some r.2.2.1/\r.2.2.2.1=qu a k)->Ao (some (Step.next ((k:V)+1)):Option (Step V (V ⊕ Unit))) (MX (λ(s:V)=>0<=s/\s<=a.1.length/\ ∀i:U,(i:V)<s-> ¬(a.1[i]? =some r.2.2.1/\r.2.2.2.1=qu a i)) (λs=>((a.1.length:V)-s).toNat) ((a.1.length:V)-(k:V)).toNat λq=>(∃k:V,q= .inl k/\0<=k/\Ku a r.2.2.1 r.2.2.2.1)\/(q= .inr ()/\ ¬Ku a r.2.2.1 r.2.2.2.1)):=λhn=>by
    refine Ao.next ⟨o!,o!,λi m=>?_⟩ o!
    grind
   refine AP (λb=>?_) (λb=>f λd=>b ?_)
   ·refine AP (λc=>Ao.done (.inl ⟨_,rfl,e,k,?_,?_⟩)) (λc=>f λd=>c d.2.symm);grind;grind
   grind
  rintro⟨i,n,o⟩;grind
 grind[BF,AB,A0]
def Good(a:AJ)(f:Am)(r:AS):Prop:=f.1=1/\f.2.2=NZ r/\VR r/\Ku a r.2.2.1 r.2.2.2.1
def Bad(f:Am):Prop:=W f.2.2<=1099511627776/\∀r,WR r->f.2.2≠NZ r
def Good.intact{a}{f}{r}(h:Good a f r)(e:BD a.2.1 a.1):G7 (a,f)=Y (r,E):=by have⟨b,c,d,g⟩:=h;have⟨k,k1,i⟩:=AFQ (r:=r) e;unfold G7;rw[b,c,H!,A!,AJS d,AD,show(((r,(0:V)):AS×V).2==0)=E from rfl,B!];grind
def Good.intR{a}{f}{r}(h:Good a f r)(b:BD a.2.1 a.1):intR a f=Y (r,f.2.1):=by unfold Go.Pm.intR;rw[h.intact b]
def Good.ref{a}{f}{r}(h:Good a f r)(g:BD a.2.1 a.1):∃k,DQ (a,f)=Y (r,k)/\0<=k:=by have⟨b,c,d,e⟩:=h;have⟨k,k1,i⟩:=sW (r:=r) g;refine⟨k,?_,i.2 e⟩;unfold DQ;rw[b,c,H!,A!,yi d,AD,show(((r,(0:V)):AS×V).2 !=0)=X from rfl,A!];grind
def Bad.intR{a:AJ}{f}(h:Bad f)(d:BD a.2.1 a.1):intR a f=D:=by
 have key:Ao (G7 (a,f)) λr=>r.2=X:=by exact AL (y? rfl) (λ_=>AA (AJT h.1) λv b=>AP (λc=>O! (b c).1 (h.2 _ (b c).2)) (y? rfl))
 have⟨⟨r,o⟩,k1,e⟩:=key;grind[Go.Pm.intR]
def Bad.ref{a:AJ}{f}(h:Bad f):∃r,DQ (a,f)=Y (r,-1):=by
 have key:Ao (DQ (a,f)) λr=>r.2= -1:=by exact AL (y? rfl) (λ_=>AA (AJe h.1) λv b=>AL (y? rfl) (λc=>O! (b c).1 (h.2 _ (b c).2.wr)))
 have⟨⟨r,o⟩,k1,d⟩:=key;grind
def uW{x y}(b:VR x)(c:VR y)(h:NZ x=NZ y):x=y:=by have a:=yi b;rw[h,yi c]at a;injection a with a;exact(Prod.ext_iff.1 a).1.symm
structure AR(L:List EN)(a:AJ):Prop where
 vb:VB a
 files:∀f∈a.2.2.1,Bad f\/∃r,Good a f r/\cu L r/\r.2.1<a.2.2.2.1
 dis:AGN (DU a)
def AG(a:AJ):Prop:=∀f∈a.2.2.1,∃r,Good a f r
def RC(a:AJ)(c:U):Prop:= ∀lo,((DU a).filter λe=>e.1.2.2.1==lo).length<=c
def jL{b:Type}:∀(l m:S b),l.Nodup->(∀x∈l,x∈m)->W l<=W m
 |[],m,_,_=>BU _
 |a::l,m,hn,hs=>by
  obtain⟨s,t,rfl⟩:=List.append_of_mem (hs a (Av.2 (.inl rfl)));rw[G1]at hn;have:=jL l (s++t) hn.2 λx c=>k!
  grind
def AR.mem{L}{a}(h:AR L a){e:NE}(g:e∈DU a):∃f∈a.2.2.1,Good a f e.1/\e.2=f.2.1/\cu L e.1/\e.1.2.1<a.2.2.2.1:=by have⟨f,i,b⟩:=PK.1 g;rcases h.files f i with d|⟨r,c,j,k⟩;rw[d.intR h.vb.1]at b;cases b;rw[c.intR h.vb.1]at b;grind
def QO{a:AJ}(b:BD a.2.1 a.1){f:Am}{r}(c:f∈a.2.2.1)(h:Good a f r):(r,f.2.1)∈DU a:=by exact PK.2 ⟨f,c,h.intR b⟩
def Good.size{a}{f}{r}(h:Good a f r):W f.2.2<=34406441:=by rw[h.2.1];exact h.2.2.1.len
def AR.sa{L}{a}(h:AR L a):SA a:=by have⟨⟨g,i,j,b,k,l,m⟩,a1,a2,a3,a4,a5,a6⟩:=h.vb;refine⟨b,o!,λf e=>?_⟩;rcases h.files f e with d|⟨r,c,_⟩;exact d.1;have:=c.size;omega
def AR.ds{L}{a}(h:AR L a):DS a:=λf b=>by have:=h.sa.2.2 f b;omega
def Ku.uniq{a:AJ}(d:BD a.2.1 a.1){lo b c}(p:Ku a lo b)(q:Ku a lo c):b=c:=by obtain⟨i,e,f⟩:=p;obtain⟨j,g,h⟩:=q;have:=d.inj e g;subst this;rw[f,h]
def AAu{l:S EN}{e:EN}(h:W l<=16777000):Ao (Cg (l,e)) λr=>W r.1<=W l+1/\((∀y,y∈r.1↔y∈l\/y=e)\/(r.1=l/\∃z∈l,z.1=e.1)):=by
 unfold Cg;refine AA (Qp (x:=(l,e)) ⟨Ae _,o!,d!⟩) λp g=>?_;dsimp only at g⊢;have main:Ao (σ (T6 l 0 p) λi=>
  σ (T6 l p (O l)) λj=>
  σ (app [] i) λk=>
  σ (app k ([e]:S (V×(V×(V×(V×(V×(V×((V×(V×((N×Bd)×(N×Bd))))×Bd))))))))) λv=>
  σ (app v j) λw=>
  Y (w,E)) λr=>W r.1<=W l+1/\((∀y,y∈r.1↔y∈l\/y=e)\/(r.1=l/\∃z∈l,z.1=e.1)):=by
  refine AA (BX (Ae _) g.1 g.2) λt a=>AA (BX g.1 b! i!) λu n=>?_;have B:=a.2;have o:=n.2;simp[O]at o;refine AA (Ac w!) λi b=>?_;have q:=b.2.1;simp[Bj]at q;refine AA (Ac w!) λj d=>?_;have s:=d.2.1;simp[Bj,Bh]at s;refine AA (Ac o!) λk f=>AB ?_;have C:=f.2.1;refine⟨d!,.inl λy=>?_⟩;have m:t=l.take p.toNat:=by rw[a.1];simp
  dsimp only;rw[f.1,d.1,b.1,m,(by grind[List.take_of_length_le,List.length_drop]:u=l.drop p.toNat),B7];conv=>rhs;rw[<-DG p.toNat l]
  grind[a!]
 refine AC (λA=>?_) (λ_=>main);simp[O]at A;refine AA (AI g.1 A) λD_ H=>?_;have⟨c,E_,F,G⟩:=AIC D_ e;grind[AP,AA,AI,AB]
def Uq(L:S EN):Prop:=∀x∈L,∀y∈L,x.1=y.1->x=y
theorem oY{L l:S EN}{e:EN}(c:Uq L)(f:∀x∈l,x∈L)(d:e∈L)(h:W l<=16777000):Ao (Cg (l,e)) λr=>W r.1<=W l+1/\∀y,y∈r.1↔y∈l\/y=e:=by
 refine(AAu h).mono λr hr=>⟨hr.1,?_⟩
 rcases hr.2 with hr|⟨b,z,a,i⟩;exact hr;have:=c z (f z a) e d i;subst this;intro y;rw[b];exact⟨.inl,λg=>g.elim id λh=>h▸a⟩
def VR.sorted{r:AS}(h:VR r):r.2.2.2.2.2.Pairwise ltC:=by
 rw[EI];have step:∀d i:U,∀(a:i<θ r.2.2.2.2.2)(b:i+1+d<θ r.2.2.2.2.2),ltC r.2.2.2.2.2[i] r.2.2.2.2.2[i+1+d]:=by
  intro d;induction d with
  |zero=>intro i a b;exact((h.2 (i+1) _ (Au b)).2.2 _ o! (Au a)).1
  |succ d e=>intro i a b;exact ADZ (e i a o!) (((h.2 (i+1+(d+1)) _ (Au b)).2.2 _ o! (Au (by omega:i+1+d<_))).1)
 intro i j a b c;have:=step (j-(i+1)) i a o!;simp[(by omega:i+1+(j-(i+1))=j)]at this;exact this
def VR.nd{L}{r}(b:Uq L)(h:VR r)(a:∀e∈r.2.2.2.2.2,e∈L):(r.2.2.2.2.2.map (·.1)).Nodup:=by rw[Hj,Q8];refine h.sorted.imp_of_mem λ{x y} f g d c=>?_;have:=b x (a x f) y (a y g) c;grind[ABR]
def VR.runOf{L}{r}(b:Uq L)(h:VR r)(a:∀e,e∈r.2.2.2.2.2↔e∈L/\hZ e=E/\r.2.2.1<=e.2.2.2.2.2.2.1.1/\e.2.2.2.2.2.2.1.1<=r.2.2.2.1/\r.1<=e.1/\e.1<=r.2.1):cu L r:=⟨a,h.nd b λe c=>((a e).1 c).1⟩
def ACI{v}:hZ v=E↔v.2.1=1\/v.2.1=2:=by grind[hZ]
def AGR{L d:S EN}{F T g f i:V}(C:Uq L)(B:∀e∈d,e∈L)(H:W d≤16777000):
  Ao (Ag (Kb (d,F,T,g,f,i)) (X,0,F,T,g,f,i,[])) λr=>∃a:S EN,r.2=(F,T,g,f,i,a)/\W a<=W d/\∀y,y∈a↔y∈d/\hZ y=E/\g<=y.2.2.2.2.2.2.1.1/\y.2.2.2.2.2.2.1.1<=f/\F<=y.1/\y.1<=T:=by
 refine CQ (λs=>∃(k:U)(a:S EN),s.2=((k:V),F,T,g,f,i,a)/\k<=W d/\W a<=k/\∀y,y∈a↔y∈d.take k/\hZ y=E/\g<=y.2.2.2.2.2.2.1.1/\y.2.2.2.2.2.2.1.1<=f/\F<=y.1/\y.1<=T) (W d-·.2.1.toNat)
  ⟨0,[],rfl,BU _,Al _,λy=>q!⟩ ?_
 rintro⟨M,K⟩ ⟨k,a,rfl,I,J,n⟩;unfold Kb;dsimp only;simp only[O];refine AC (λw=>?_) (λw=>k? ⟨a,rfl,o!,by rw[BN o!]at n;exact n⟩);refine AA (AI o! w) λv l=>?_;have A:=l.1;rw[CO]at A;have q:d.take (k+1)=d.take k++[v]:=by rw[Cl,A];rfl
 rw[AY]
 have c:∀m:N,¬(hZ v=E∧g≤v.2.2.2.2.2.2.1.1∧v.2.2.2.2.2.2.1.1≤f∧F≤v.1∧v.1≤T)→
   Ao (Y (Step.next (m,(k:V)+1,F,T,g,f,i,a)):Z (Step (N×(V×AS)) (N×AS))) (MX (λs=>∃(k:U)(a:S EN),s.2=((k:V),F,T,g,f,i,a)/\k<=W d/\W a<=k/\∀y,y∈a↔y∈d.take k/\hZ y=E/\g<=y.2.2.2.2.2.2.1.1/\y.2.2.2.2.2.2.1.1<=f/\F<=y.1/\y.1<=T) (W d-·.2.1.toNat) (W d-((k:U):V).toNat)
    λr=>∃a:S EN,r.2=(F,T,g,f,i,a)/\W a<=W d/\∀y,y∈a↔y∈d/\hZ y=E/\g<=y.2.2.2.2.2.2.1.1/\y.2.2.2.2.2.2.1.1<=f/\F<=y.1/\y.1<=T):=λm hn=>by
  refine y! ⟨k+1,a,rfl,o!,o!,λy=>?_⟩ d!
  grind[a!]
 refine AA CR λb u=>AO (λz=>c _ λj=>?_) (λD_=>?_);rw[u.2 (ACI.1 j.1)]at z;cases z;refine AC (λ_=>c _ λj=>o!) (λq2=>AC (λ_=>c _ λj=>o!) (λq3=>AC (λ_=>c _ λj=>o!) (λq4=>AC (λ_=>c _ λj=>o!) (λq5=>AA (SP ⟨Ae _,d!⟩) λG _=>AA (oY C (λx E_=>B x (F9 ((n x).1 E_).1)) (B v l.2) o!) λt o=>y! ⟨k+1,t.1,rfl,o!,o!,λy=>?_⟩ d!))))
 rw[o.2,n,q,Ak,A9];constructor;rintro(⟨h,p⟩|h);exact⟨.inl h,p⟩;subst h;exact⟨.inr rfl,ACI.2 (u.1 D_),o!⟩;rintro⟨h|h,p⟩;exact .inl ⟨h,p⟩;exact .inr h
def AIf{L c:S EN}{F T h g j:V}(n:Uq L)(q:∀e∈c,e∈L)(p:W c<=16777000):Ao (J3 (c,F,T,h,g,j)) λr=>r.2=0->VR r.1/\∃b:S EN,r.1=(F,T,h,g,j,b)/\∀y,y∈b↔y∈c/\hZ y=E/\h<=y.2.2.2.2.2.2.1.1/\y.2.2.2.2.2.2.1.1<=g/\F<=y.1/\y.1<=T:=by unfold J3;refine AA I3 λw _=>AO (y? λa=>O! (show(1:V)=0 from a) g!) (λ_=>?_);refine AA (SO ⟨Ae _,d!⟩) λx m=>BG (λu i=>AB λa=>O! a (m u i)) (λu i=>AA (AGR n q p) λs d=>?_);have⟨b,k,v,l⟩:=d;refine AK (y? λa=>O! (show(41:V)=0 from a) g!) (λ_=>?_);refine AC (y? λa=>O! (show(21:V)=0 from a) g!) (λ_=>?_);refine AA YY λt f=>AO (y? λa=>O! (show(13:V)=0 from a) g!) (λo=>AB λ_=>⟨f.1 o,b,k,l⟩)
def AIg{x:V×S V}(h:BD x.1 x.2):Ao (Il x) λr=>r.2=0/\VB r.1/\r.1.2.1=x.1/\r.1.2.2.2.1=1:=by refine AA nt λl c=>AO (λb=>(by rw[c.2 h]at b;cases b)) (λ_=>?_);have k:=h.2.2.2.1;refine AA (Ac w!) λm e=>AB ⟨rfl,⟨?_,u!,u!,u!,u!,q!,⟨λi f d a=>by simp at a,λi f g d a j=>by simp at a⟩⟩,rfl,rfl⟩;grind
def FR.push{l m:S Am}{f:Am}{c}(h:FR l c (W l))(v:1<=c)(r:f.2.1=c)(u:m=l++[f]):FR m (c+1) (W m):=by
 subst u;obtain⟨q,t⟩:=h;have p:(l++[f]).length=W l+1:=q!
 have b:∀(i:U)(g:Am),¬i<W l->(l++[f])[i]?=Y g->g=f:=λi g j a=>by
  have o:=Cv a;rw[p]at o;have s:i=W l:=o!
  subst s;rw[Cn (Al _)]at a;simp at a;exact a.symm
 refine⟨λi g j a=>?_,λi g k j a n=>?_⟩;by_cases e:i<W l;rw[CZ e]at a;have:=q i g o! a;exact⟨this.1,o!⟩;rw[b i g e a,r];exact o!;rw[p]at j;have e:i<W l:=o!
 rw[CZ e]at a;by_cases d:i+1<W l;rw[CZ d]at n;exact t i g k o! a n;rw[b (i+1) k d n,r];exact(q i g o! a).2
def AGX{x:AJ×Aa×Int}(h:SA x.1)(l:VB x.1):Ao (Es x) λr=>r.2=0->SA r.1/\VB r.1/\r.1.2.1=x.1.2.1/\(r.1.2.2.2.1=x.1.2.2.2.1\/r.1.2.2.2.1<=x.2.1.2.2+1):=by
 unfold Es;refine AA Kc λv0 O=>AO (λ_=>AB n!) (λd=>?_);obtain⟨a1,a2,a3,a4,a5,a6,a7,a8,a9⟩:=O d;refine AA Bb λv1 q=>AO (λ_=>AB n!) (λm=>?_);obtain⟨l1,l2,l3,l4,l5,Z⟩:=q.1 m;refine AC (λ_=>AB n!) (λc1=>AC (λ_=>AB n!) (λc2=>?_));generalize S:(if(x.2.1.1>x.1.2.2.2.1)then x.2.1.1 else x.1.2.2.2.1)=F;have f1:x.2.1.1<=F/\x.1.2.2.2.1<=F/\F<=1099511627777:=by rw[<-S];split<;>omega
 have D_:=AY (x:=F+x.2.2);have E_:=AY (x:=F+x.2.2-1);rw[D_,E_];generalize T:(if(x.2.1.2.2<(F+x.2.2-1))then x.2.1.2.2 else(F+x.2.2-1))=G;have g1:G<=x.2.1.2.2/\G<=F+x.2.2-1:=by rw[<-T];split<;>omega
 refine AC (λ_=>AB λ_=>⟨h,l,rfl,.inl rfl⟩) (λc3=>?_);have H:=AY (x:=F-x.2.1.1);have I:=AY (x:=G-x.2.1.1);have J:=AY (x:=G-x.2.1.1+1);rw[H,I,J];have K:=AY (x:=len x.1.2.2.1+len x.1.1) i!;have L:=AY (x:=x.1.2.2.2.2+len x.1.1) i!;have M:=AY (x:=G+1);rw[K,L,M];have U:G<=1099511627776:=by
  have X_:θ x.2.1.2.1≠0:=o!
  obtain⟨i,n⟩:∃i,x.2.1.2.1[θ x.2.1.2.1-1]?=δ i:=⟨_,Au o!⟩
  have:=Z _ i n;have q:=this.1;have t:=this.2.2.1;omega
 refine AC (λ_=>AB n!) (λB=>AC (λ_=>AB n!) (λC=>?_));simp only[len]at B C;refine AA (BX) λv2 t=>?_;have W:=t.2;refine AA (SU ⟨Ae _,d!,o!⟩) λv8 R=>BG (λu b=>AB λa=>O! a (R u b)) (λu b=>AA (Ac w!) λad j=>?_);have c:=j.1;rw[B7]at c;refine AA (P:=λr=>(∀u,r=.inl u->u.1≠0)/\∀u,r=.inr u->u.2.1=x.1.1/\θ u.1<=256/\(∀f∈u.1,θ f.2.2<=1099511627776)/\u.2.2.1=x.1.2.1/\u.2.2.2.2.1=x.1.2.2.2.2+θ x.1.1/\FR u.1 u.2.2.2.2.1 (θ u.1)) ?_ λr hr=>BG (λu b=>AB λa=>O! a (hr.1 u b)) (λu b=>AB λ_=>?_);refine AW (λ(s:Int×List Am×List Int×Int×Int×Int×AJ)=>0<=s.1/\s.1<=θ x.1.1/\s.2.2.1=x.1.1/\(θ s.2.1:Int)=θ x.1.2.2.1+s.1/\(∀f∈s.2.1,θ f.2.2<=1099511627776)/\s.2.2.2.1=x.1.2.1/\s.2.2.2.2.2.1=x.1.2.2.2.2+s.1/\FR s.2.1 s.2.2.2.2.2.1 (θ s.2.1)) (λ(s:Int×List Am×List Int×Int×Int×Int×AJ)=>((θ x.1.1:Int)-s.1).toNat) ⟨Ae _,d!,rfl,by dsimp only;rw[c];omega,by dsimp only;rw[c];exact h.2.2,rfl,d!,by dsimp only;rw[c];exact l.2.2.2.2.2.2⟩ (λs V=>?_);obtain⟨Y_,i2,v,i4,y,z,i7,A⟩:=V;unfold Ov;have e:=AY (x:=s.1+1);rw[e];refine AC (λd=>?_) (λd=>AB ⟨λu b=>(by cases b),λu b=>(by cases b;simp only[len]at d;exact⟨v,o!,y,z,o!,A⟩)⟩);simp only[len]at d;refine AA (Uj a4 ⟨Y_,d⟩) λal _=>AA (iu d!) λao Q=>AL (λd=>AB ⟨λu b=>(by cases b;exact d),λu b=>(by cases b)⟩) (λ_=>AA cQ λap k=>AA (Ac w!) λar g=>AB ?_);have p:=g.2.1;simp only[Bh,Bj]at p;have N:=AY (x:=s.2.2.2.2.2.1+1);rw[N];refine⟨⟨d!,d!,v,d!,λf o=>?_,z,d!,A.push o! rfl g.1⟩,d!⟩;dsimp only at o;rw[g.1]at o;rcases Ak.1 o with w|w;exact y f w;simp at w;rw[w];exact k;obtain⟨q1,q2,q3,q4,q5,q6⟩:=hr.2 u b;refine⟨⟨by dsimp only;rw[q1];exact a4,d!,q3⟩,⟨?_,d!,d!,d!,d!,q2,q6⟩,q4,.inr d!⟩;dsimp only;rw[q1,q4];exact l.1
def FP(l:S Am)(m:V):Prop:=(∀f∈l,0<f.2.1/\f.2.1<m)/\l.Pairwise λf g=>f.2.1<g.2.1
def ABE{l}{m}(h:FP l m):FR l m (W l):=by refine⟨λi f e a=>h.1 f (BP a),λi f g e a d=>?_⟩;have b:=Cv a;have c:=Cv d;have:=EI.1 h.2 i (i+1) b c o!;grind
def FR.fp{l}{m}(h:FR l m (W l)):FP l m:=by
 refine⟨λf e=>?_,EI.2 λi j b c g=>?_⟩;obtain⟨i,b⟩:=Ed.1 e;have:=Cv b;exact h.1 i f o! b;obtain⟨d,rfl⟩:∃d,j=i+1+d:=⟨j-(i+1),o!⟩
 induction d with
 |zero=>exact h.2 i _ _ o! (Au b) (Au c)
 |succ d k=>
  have a:i+1+d<W l:=o!
  have n:=k a o!;have o:=h.2 (i+1+d) l[i+1+d] l[i+1+(d+1)] o! (Au a) (Au c);omega
def FR.sub{l k:S Am}{m}(h:FR l m (W l))(a:k.Sublist l):FR k m (W k):=ABE ⟨λf b=>h.fp.1 f (a.subset b),h.fp.2.sublist a⟩
def AC1{b}{x}{m}(v:FR x m (θ x))(h:CX b)(hx:θ x<=1000000)(j:∀f∈x,θ f.2.2<=1099511627776):Ao (GB b x) λr=>CX r.2/\θ r.1<=θ x/\FR r.1 m (θ r.1)/\∀f∈r.1,θ f.2.2<=1099511627777:=by
 unfold GB;refine AP (y? ⟨h,q!,⟨λi f s j=>by simp at j,λi f g s j c=>by simp at j⟩,λf j=>by simp at j⟩) (λA=>?_);simp only[len]at A;refine AA (Ah h i!) λd Q=>?_;obtain⟨M,t,N⟩:=Q;simp only[len]at N;have e:=AY (x:=d.1+1);rw[e];refine AA (Ah M g!) λv1 D_=>AP (λ_=>?_) (λ_=>?_);refine AA (BX (Ae _) t) λv2 E_=>AA (BX o! i! i!) λv3 F=>?_;have l2:=E_.2;have T:=F.2;simp only[len]at T;refine AA (Ac w!) λv4 G=>?_;have U:=G.2.1;simp only[Bj]at U;refine AA (Ac o!) λY_ H=>AB ⟨D_.1,?_,?_⟩;have l5:=H.2.1;dsimp only;omega;have J:Y_.Sublist x:=by
  rw[H.1,G.1,E_.1,F.1,B7];have O:x=x.take d.1.toNat++x.drop d.1.toNat:=(DG _ _).symm;suffices n:((x.drop (0:Int).toNat).take (d.1.toNat-(0:Int).toNat)++(x.drop (d.1+1).toNat).take ((len x).toNat-(d.1+1).toNat)).Sublist (x.take d.1.toNat++x.drop d.1.toNat) by rw[<-O]at n;exact n
  apply List.Sublist.append;simp;apply (fo _ _).trans;have P:(d.1+1).toNat=d.1.toNat+1:=o!
  rw[P,<-LL];exact mH _ _
 exact⟨v.sub J,λf l=>by have:=j f (J.subset l);omega⟩;refine AA (Ac w!) λy R=>?_;have C:=R.1;rw[B7]at C;subst C;refine AA (AI t) λv7 _=>AA (AI t) λK z=>AA (XL D_.1 (j _ z.2)) λL I=>AA (AI t) λX_ _=>AA (AI t) λa u=>AB ⟨I.1,by simp[ER],?_,λf l=>?_⟩;have q:=v.fp;have Z:K=a:=by have:=z.1;rw[u.1]at this;exact(BW this).symm
 have key:∀(i:Nat)(g:Am),(ER y d.1 (a.1,a.2.1,L.1))[i]?=Y g->∃k,y[i]?=Y k/\k.2.1=g.2.1:=λi g c=>by simp only[ER]at c;rw[We]at c;split at c;rename_i s;subst s;split at c;exact⟨a,u.1,by rw[<-BW c]⟩;cases c;exact⟨g,c,rfl⟩
 have el:(ER y d.1 (a.1,a.2.1,L.1)).length=θ y:=by simp[ER]
 refine⟨λi g s c=>?_,λi g k s c S=>?_⟩;obtain⟨p,B,W⟩:=key i g c;have:=v.1 i p (by dsimp only at s;omega) B;omega;obtain⟨p,B,W⟩:=key i g c;obtain⟨o,V,o2⟩:=key (i+1) k S;have:=v.2 i p o (by dsimp only at s;omega) B V;omega;simp only[ER]at l;rcases Q5 l with w|w;have:=j f w;omega;rw[w];have:=I.2;have:=j K z.2;dsimp only;omega
def AEE(L:S EN)(a:AJ)(F G s:V)(nf:S Am):Prop:=∀(j:U)(f:Am),nf[j]?=Y f->
 ∃r,f=(1,s+j,NZ r)/\VR r/\cu L r/\r.1=F/\r.2.1=G/\a.1[j]?=Y r.2.2.1/\r.2.2.2.1=qu a j
def Dg.uq{l}(h:Dg l):Uq l.2.1:=λx b y c a=>Vk h.nodup b c a
def w6{l}(h:Dg l){F G:V}{v:S EN}(g:l.1<=F)(i:F<=G)(j:G<=l.1+W l.2.1-1)(b:v=(l.2.1.drop (F-l.1).toNat).take ((G-l.1+1).toNat-(F-l.1).toNat))(e:EN):e∈v↔e∈l.2.1/\F<=e.1/\e.1<=G:=by subst b;have⟨l1,l2,m,n,o,c⟩:=h;rw[Ed,Ed];constructor;grind;rintro⟨⟨k,a⟩,d,f⟩;have:=(c _ e a).1;refine⟨k-(F-l.1).toNat,?_⟩;rw[dD,C! o!,KD,show(F-l.1).toNat+(k-(F-l.1).toNat)=k by omega,a]
def AAw{x:AJ×Aa×Int}(h:SA x.1)(hb:VB x.1)(q:Dg x.2.1):Ao (Es x) λr=>r.2=0→r.1=x.1∨
  ∃F G a,r.1=(x.1.1,x.1.2.1,x.1.2.2.1++a,G+1,x.1.2.2.2.2+θ a)/\(x.1.2.2.2.1<=F/\(x.2.1.1<=x.1.2.2.2.1->F=x.1.2.2.2.1)/\(x.2.1.1<=F/\G<=x.2.1.2.2))/\F<=G/\θ a=θ x.1.1/\AEE x.2.1.2.1 x.1 F G x.1.2.2.2.2 a:=by
 unfold Es;refine AA Kc λv0 X_=>AO (y? λb=>O! (show(54:Int)=0 from b) g!) (λi=>?_);have⟨a1,a2,a3,a4,a5,a6,a7,a8,a9⟩:=X_ i;refine AA Bb λv1 h1=>AO (y? λb=>O! (show(26:Int)=0 from b) g!) (λad=>?_);have⟨l1,l2,l3,l4,l5,l6⟩:=id q;refine AC (y? λb=>O! (show(1:Int)=0 from b) g!) (λc1=>AC (y? λb=>O! (show(1:Int)=0 from b) g!) (λc2=>?_));have o:∃F,(if(x.2.1.1>x.1.2.2.2.1)then x.2.1.1 else x.1.2.2.2.1)=F:=⟨_,rfl⟩
 have⟨F,o⟩:=o;have V:x.2.1.1<=F/\x.1.2.2.2.1<=F/\F<=1099511627777:=k!
 have W:x.2.1.1<=x.1.2.2.2.1->F=x.1.2.2.2.1:=k!
 have C:=AY (x:=F+x.2.2);have D_:=AY (x:=F+x.2.2-1);have p:∃G,(if(x.2.1.2.2<(F+x.2.2-1))then x.2.1.2.2 else(F+x.2.2-1))=G:=⟨_,rfl⟩
 have⟨G,p⟩:=p;have g1:G<=x.2.1.2.2/\G<=F+x.2.2-1:=k!
 rw[o,C,D_,p];refine AC (y? λ_=>.inl rfl) (λc3=>?_);have Q:=AY (x:=F-x.2.1.1);have R:=AY (x:=G-x.2.1.1);have S:=AY (x:=G-x.2.1.1+1);rw[Q,R,S];have T:=AY (x:=len x.1.2.2.1+len x.1.1) b!;have U:=AY (x:=x.1.2.2.2.2+len x.1.1) b!;rw[T,U,(AY (x:=G+1))];refine AC (y? λb=>O! (show(21:Int)=0 from b) g!) (λN=>AC (y? λb=>O! (show(21:Int)=0 from b) g!) (λO=>?_));simp[len]at N O;refine AA (BX) λv2 E_=>?_;have al:=E_.2;have l:=w6 q (F:=F) (G:=G) V.1 o! o! E_.1;refine AA (SU ⟨Ae _,d!,o!⟩) λv8 Z=>BG (λu c=>AB λb=>O! b (Z u c)) (λu c=>AA (Ac w!) λao t=>?_);have g:=t.1;rw[B7]at g;subst g;refine AA (P:=λr=>(∀u,r=.inl u->u.1≠0)/\∀u,r=.inr u->∃(a:Ψ Am),(u.1,u.2.1,u.2.2.1,u.2.2.2.1,u.2.2.2.2.1)=(x.1.2.2.1++a,x.1.1,x.1.2.1,x.1.2.2.2.1,x.1.2.2.2.2+θ a)/\θ a=θ x.1.1/\AEE x.2.1.2.1 x.1 F G x.1.2.2.2.2 a) ?_ λr hr=>BG (λu c=>AB λb=>O! b (hr.1 u c)) (λu c=>AB λ_=>.inr ?_)
 ·refine CQ (λs=>∃(k:Nat)(a:Ψ Am)(z:AJ),s=((k:Int),x.1.2.2.1++a,x.1.1,x.1.2.1,x.1.2.2.2.1,x.1.2.2.2.2+(k:Int),z)/\k<=θ x.1.1/\θ a=k/\AEE x.2.1.2.1 x.1 F G x.1.2.2.2.2 a) (θ x.1.1-·.1.toNat)
   ⟨0,[],u,q!,BU _,rfl,λj f d=>by simp at d⟩ ?_
  rintro s ⟨k,a,z,rfl,i2,A,I⟩;unfold Ov;dsimp only;simp only[len];rw[o,C,D_,p];refine AC (λi=>?_) (λi=>k? ⟨λu c=>(by cases c),λu c=>(by cases c;exact⟨a,by dsimp only;rw[A],o!,I⟩)⟩);have H:x.1.1[k]?=Y (x.1.1[k]' o!):=Au o!;rw[od hb.1 H,AD];refine AA (AIf q.uq (λe he=>((l e).1 he).1) o!) λn v=>AL (λi=>k? ⟨λu c=>(by cases c;exact i),λu c=>(by cases c)⟩) (λb=>?_);have⟨B,es,m,m3⟩:=v b;rw[rX B,AD];refine AA (Ac w!) λap Y_=>?_;rw[AY (x:=x.1.2.2.2.2+(k:Int)+1),AY (x:=(k:Int)+1)];refine y! ⟨k+1,a++[(1,x.1.2.2.2.2+(k:Int),NZ n.1)],z,?_,o!,by rw[AZ,A];rfl,λj f d=>?_⟩ d!
  grind;by_cases hj:j<θ a;rw[CZ hj]at d;exact I j f d;have y:=Cv d;rw[AZ,Bh,Bj]at y;have w:j=k:=o!
  subst w;rw[Cn o!,A,G2]at d;cases d;refine⟨n.1,rfl,B,B.runOf q.uq λe=>?_,by rw[m],by rw[m],by rw[m];exact H,by rw[m]⟩;rw[m];dsimp only;rw[m3,l];constructor;grind;rintro⟨q1,q2,q3,q4,q5,q6⟩;exact⟨⟨q1,q5,q6⟩,q2,q3,q4,q5,q6⟩
 have⟨a,q1,q2,q3⟩:=hr.2 u c;refine⟨F,G,a,?_,⟨o!,W,o!⟩,o!,q2,q3⟩;have J:=E! (·.1) q1;have K:=E! (·.2.1) q1;have L:=E! (·.2.2.1) q1;have M:=E! (·.2.2.2.2) q1;dsimp only at J K L M;dsimp only;rw[J,K,L,M]
def Ku.congr{a b:AJ}(e:b.1=a.1)(f:b.2.1=a.2.1){d c}:Ku a d c↔Ku b d c:=by grind[Ku,qu]
def Good.congr{a b:AJ}(c:b.1=a.1)(d:b.2.1=a.2.1){f}{r}(h:Good a f r):Good b f r:=⟨h.1,h.2.1,h.2.2.1,(Ku.congr c d).1 h.2.2.2⟩
def Good.run{a}{f}{r s}(h:Good a f r)(g:Good a f s):r=s:=uW h.2.2.1 g.2.2.1 (h.2.1.symm.trans g.2.1)
def AR.step{L:List EN}{a b:AJ}{F G:Int}{s:List Am}(h:AR L a)(e:b=(a.1,a.2.1,a.2.2.1++s,G+1,a.2.2.2.2+θ s))(hF:a.2.2.2.1<=F)(hG:F<=G)(hn:AEE L a F G a.2.2.2.2 s)(D_:VB b):AR L b/\(AG a->AG b)/\∀c,RC a c->RC b (c+1):=by
 have P:b.1=a.1:=by rw[e]
 have Q:b.2.1=a.2.1:=by rw[e]
 have Y_:b.2.2.1=a.2.2.1++s:=by rw[e]
 have h4:b.2.2.2.1=G+1:=by rw[e]
 have q:∀f∈s,∃(j:Nat)(r:AS),Good b f r/\cu L r/\r.1=F/\r.2.1=G/\a.1[j]?=δ r.2.2.1/\s[j]?=δ f:=λf k=>by have⟨j,hj⟩:=Ed.1 k;have⟨r,l,M,w,r4,W,S,r7⟩:=hn j f hj;refine⟨j,r,⟨by rw[l],by rw[l],M,(Ku.congr P Q).1 ⟨j,S,r7⟩⟩,w,r4,W,S,hj⟩
 have K:∀f∈a.2.2.1,Bad f\/∃r,Good b f r/\cu L r/\r.2.1<a.2.2.2.1:=λf k=>(h.files f k).imp id λ⟨r,l,M,w⟩=>⟨r,l.congr P Q,M,w⟩
 have d:∀x∈DU b,(x∈DU a/\x.1.2.1<a.2.2.2.1)\/∃(j:Nat)(f:Am),s[j]?=δ f/\Good b f x.1/\x.2=f.2.1/\x.1.1=F/\a.1[j]?=δ x.1.2.2.1:=λx m=>by unfold DU at m;rw[Y_]at m;have⟨f,k,z⟩:=PK.1 m;rcases Ak.1 k with k|k;rcases K f k with E_|⟨r,l,M,w⟩;rw[E_.intR D_.1]at z;cases z;rw[l.intR D_.1]at z;cases z;exact .inl ⟨QO h.vb.1 k (l.congr P.symm Q.symm),w⟩;have⟨j,r,l,M,w,r4,W,S⟩:=q f k;rw[l.intR D_.1]at z;cases z;exact .inr ⟨j,f,S,l,rfl,w,W⟩
 refine⟨⟨D_,λf k=>?_,λx m y R J p=>?_⟩,λU f k=>?_,λc Z v=>?_⟩;grind;rcases d x m with⟨n,A⟩|⟨i,f,n,A,N,x4,B⟩;rcases d y R with⟨o,C⟩|⟨j,g,o,C,T,y4,O⟩;exact h.dis x n y o J p;grind;rcases d y R with⟨o,C⟩|⟨j,g,o,C,T,y4,O⟩;exact .inr o!;rw[<-p]at O;have t:=h.vb.1.inj B O;subst t;rw[n]at o;cases o;exact O! (DZ (A.run C) (N.trans T.symm)) J;rw[Y_]at k;rcases Ak.1 k with k|k;have⟨r,hr⟩:=U f k;exact⟨r,hr.congr P Q⟩;have⟨j,r,l,_⟩:=q f k;exact⟨r,l⟩;have I:=(LK D_).filter λe=>e.1.2.2.1==v;by_cases H:∃y∈(DU b).filter (λe=>e.1.2.2.1==v),∃(j:Nat)(f:Am),s[j]?=δ f/\Good b f y.1/\y.2=f.2.1/\a.1[j]?=δ y.1.2.2.1;have⟨y,R,j,g,o,C,T,O⟩:=H;have V:y.1.2.2.1=v:=eq_of_beq (BR.1 R).2;have:=jL _ (y::(DU a).filter λe=>e.1.2.2.1==v) I λx m=>by have⟨X_,u⟩:=BR.1 m;rcases d x X_ with⟨n,_⟩|⟨i,f,n,A,N,x4,B⟩;grind;rw[eq_of_beq u,<-V]at B;have t:=h.vb.1.inj B O;subst t;rw[n]at o;cases o;exact Av.2 (.inl (DZ (A.run C) (N.trans T.symm)))
 rw[Bh]at this;have:=Z v;omega;have:=jL _ ((DU a).filter λe=>e.1.2.2.1==v) I λx m=>by have⟨X_,u⟩:=BR.1 m;rcases d x X_ with⟨n,_⟩|⟨i,f,n,A,N,x4,B⟩;exact BR.2 ⟨n,u⟩;exact O! ⟨x,m,i,f,n,A,N,B⟩ H
 have:=Z v;omega
def AIc(a:AJ)(lo n:V):Prop:=∃e∈DU a,e.1.2.2.1=lo/\e.1.1<=n/\n<=e.1.2.1
def AF(a:AJ):Prop:=∀lo∈a.1,∀n:V,1<=n->n<a.2.2.2.1->AIc a lo n
def AF.step{L}{a b:AJ}{F G:V}{c:S Am}(w:AF a)(h:AR L a)(e:b=(a.1,a.2.1,a.2.2.1++c,G+1,a.2.2.2.2+W c))(H:F=a.2.2.2.1)(z:W c=W a.1)(hn:AEE L a F G a.2.2.2.2 c)(s:VB b):AF b:=by
 have k:b.1=a.1:=by rw[e]
 have p:b.2.1=a.2.1:=by rw[e]
 have q:b.2.2.1=a.2.2.1++c:=by rw[e]
 have E_:b.2.2.2.1=G+1:=by rw[e]
 intro A d n B I;rw[k]at d;rcases mB n a.2.2.2.1 with g|g;obtain⟨r,hr,i,m,u⟩:=w A d n B g;have⟨f,l,v,D_,_⟩:=h.mem hr;exact⟨(r.1,f.2.1),QO s.1 (by rw[q];exact F8 _ l) (v.congr k p),i,m,u⟩;have⟨j,t⟩:=Ed.1 d;have y:=Cv t;have l:c[j]?=Y (c[j]' o!):=Au o!;have⟨r,i,m,u,J,K,o,C⟩:=hn j _ l;have x:Good b (c[j]' o!) r:=⟨by rw[i],by rw[i],m,(Ku.congr k p).1 ⟨j,o,C⟩⟩
 refine⟨(r,(c[j]' o!).2.1),QO s.1 (by rw[q];exact LU _ (Gz _)) x,?_,d!⟩;rw[t]at o;exact(BW o).symm
def SF(a:AJ)(m:V):Prop:=a.2.2.2.2+W a.2.2.1<=m
def AGW{x:AJ×Aa×V}{m}(h:AR x.2.1.2.1 x.1)(f:Dg x.2.1)(t:SF x.1 m):Ao (Es x) λr=>r.2=0->AR x.2.1.2.1 r.1/\(AG x.1->AG r.1)/\(∀c,RC x.1 c->RC r.1 (c+1))/\SF r.1 (m+32)/\r.1.2.1=x.1.2.1/\(r.1.2.2.2.1=x.1.2.2.2.1\/r.1.2.2.2.1<=x.2.1.2.2+1)/\(Gv x.2.1.2.1->AF x.1->AF r.1):=by
 refine((AGX h.sa h.vb).and (AAw h.sa h.vb f)).mono λr hr k=>?_;have⟨q1,q2,q3,q4⟩:=hr.1 k;rcases hr.2 k with e|⟨F,G,u,g,i,l,n,j⟩;rw[e];exact⟨h,id,λc q s=>Nat.le_succ_of_le (q s),by unfold SF at*;omega,rfl,.inl rfl,λ_=>id⟩
 ·have a:=h.step g i.1 l j q2;have b:0<W x.2.1.2.1:=by have:=f.2.2.2.2.1;omega
  have d:Gv x.2.1.2.1->AF x.1->AF r.1:=λo p=>p.step h g (i.2.1 (by have v:=(o 0 _ (Au b)).1;have w:=(f.2.2.2.2.2 0 _ (Au b)).1;have:=h.vb.2.1;omega)) n j q2;have:=h.sa.1;refine⟨a.1,a.2.1,a.2.2,?_,?_,?_,d⟩;all_goals unfold SF at*;grind
def AH5{c d:Type}(l:S c)(m:S d)(n:U):l.zip m=(l.take n).zip (m.take n)++(l.drop n).zip (m.drop n):=by
 induction n generalizing l m with
 |zero=>simp
 |succ n e=>
  cases l with
  |nil=>simp
  |cons a l=>
   cases m with
   |nil=>simp
   |cons b m=>grind[List.zip_cons_cons]
theorem AJp{c d:Type}{l:S c}{m:S d}{k:U}{a:c}{b:d}(e:l[k]?=Y a)(f:m[k]?=Y b):(a,b)∈l.zip m:=by refine Ed.2 ⟨k,?_⟩;grind[List.getElem?_zip_eq_some]
def AEN{x:AJ}{L:List EN}{U:Int×List AS×List Int×List Bool}(h:AR L x)(b:0<=U.1):Ao (Ag (Ex x U) ([],[],0)) λr=>θ r.2=θ r.1/\∀p∈r.1.zip r.2,p∈DU x:=by
 obtain⟨⟨b1,b2,b3,b4,b5,b6,b7⟩,a1,a2,a3,a4,a5,a6⟩:=h.vb;refine CQ (λ(s:List AS×List Int×Int)=>0<=s.2.2/\s.2.2<=θ x.2.2.1/\θ s.2.1=θ s.1/\θ s.1<=s.2.2/\∀p∈s.1.zip s.2.1,p∈DU x) (λ(s:List AS×List Int×Int)=>((θ x.2.2.1:Int)-s.2.2).toNat) ⟨Ae _,d!,rfl,q!,λp b=>by simp at b⟩ (λs X_=>?_);obtain⟨S,i2,T,i4,u⟩:=X_;unfold Ex;have e:=AY (x:=s.2.2+1);rw[e];refine AC (λE_=>?_) (λ_=>Ao.done ⟨T,u⟩);simp only[len]at E_;refine AA (AI S E_) λv D_=>?_;have q:∃w,DQ (x,v)=δ w/\(w.2= -1\/Good x v w.1):=by rcases h.files v D_.2 with Y_|⟨r,R,_⟩;obtain⟨r,hr⟩:=Y_.ref (a:=x);exact⟨_,hr,.inl rfl⟩;obtain⟨k,hk,ad⟩:=R.ref h.vb.1;exact⟨_,hk,.inr R⟩
 obtain⟨w,F,t⟩:=q;rw[F,AD];refine AL (λ_=>Ao.next ⟨d!,d!,T,d!,u⟩ d!) (λZ=>?_);have c:Good x v w.1:=t.elim (λhz=>O! hz o!) id;refine AA (Rc ⟨i!,i!,o!⟩) λy o=>AA (BX (Ae _) o.1 o.2) λv8 P=>AA (BX o.1 i! i!) λv9 Q=>?_;have l8:=P.2;have l9:=Q.2;simp only[len]at l9;refine AA (Ac w!) λar d=>?_;have G:=d.2.1;simp only[Bj]at G;refine AA (Ac w!) λax f=>?_;have H:=f.2.1;simp only[Bj,Bh]at H;refine AA (Ac o!) λa0 g=>?_;have al:=g.2.1;refine AA (BX (Ae _) o.1) λM i=>?_;have ao:=i.2;refine AA (AI S E_) λN C=>AA (BX o.1 i! i!) λO j=>?_;have I:=j.2;simp only[len]at I;refine AA (Ac w!) λa7 l=>?_;have J:=l.2.1;simp only[Bj]at J;refine AA (Ac w!) λa8 m=>?_;have K:=m.2.1;simp[Bj,Bh]at K;refine AA (Ac o!) λa9 n=>?_;have ap:=n.2.1;have A:N=v:=by have:=C.1;rw[D_.1]at this;exact(BW this).symm
 have V:v8=s.1.take y.toNat:=by rw[P.1];simp
 have W:v9=s.1.drop y.toNat:=by rw[Q.1];exact BN (by rw[C2];simp only[len];omega)
 have z:M=s.2.1.take y.toNat:=by rw[i.1];simp
 have B:O=s.2.1.drop y.toNat:=by rw[j.1];exact BN (by rw[C2];simp only[len];omega)
 refine Ao.next ⟨d!,d!,d!,d!,λp b=>?_⟩ d!
 dsimp only at b;rw[g.1,f.1,d.1,n.1,m.1,l.1,V,W,z,B,B7,B7]at b;rw[fq (by simp[AZ,BQ,Bh,Bj];omega),fq (by simp[BQ];omega)]at b;rw[AH5 s.1 s.2.1 y.toNat]at u;rcases Ak.1 b with b|b;rcases Ak.1 b with b|b;exact u p (Ak.2 (.inl b));rw[List.zip_cons_cons,List.zip_nil_left,A9]at b;rw[b,A];exact QO h.vb.1 D_.2 c;exact u p (Ak.2 (.inr b))
def Wh(x:AJ)(t:S AS×S V×S N):Prop:=∀p∈(t.1.zip t.2.1).zip t.2.2,p.2=E->p.1∈DU x
def AEO{x:AJ}{a:List AS×List V}{n:V}{t:List AS×List V×List Bool}(h:θ a.2=θ a.1/\θ a.1<=256/\RL a.1)(hn:n<=100000)(m:T3 n t)(R:∀p∈a.1.zip a.2,p∈DU x)(G:Wh x t):Ao (Ag (Ey a) (0,0,t)) λr=>Wh x r:=by
 refine CQ (λ(s:V×V×List AS×List V×List Bool)=>0<=s.2.1/\s.2.1<=θ a.1/\T3 (n+s.2.1) s.2.2/\Wh x s.2.2) (λ(s:V×V×List AS×List V×List Bool)=>((θ a.1:V)-s.2.1).toNat) ⟨Ae _,d!,by simpa using m,G⟩ (λs F=>?_);have⟨g,S,⟨z,H,T,A⟩,o⟩:=F;have⟨P,Q,E_⟩:=h;unfold Ey;rw[(AY (x:=s.2.1+1))];refine AC (λf=>?_) (λ_=>Ao.done o);simp[len]at f;refine AA (AI g f) λI _=>AC (λ_=>Ao.next ⟨d!,d!,⟨z,H,d!,A⟩,o⟩ d!) (λ_=>AA (AI g f) λy k=>AA (AI g) λJ C=>AA (AI g f) λi D_=>?_);have j:i=y:=by grind[Option.some.inj]
 subst j;refine D6 (SV (E_ i k.2)) λK B l=>AA (Ac w!) λL b=>?_;have q:=b.2.1;simp[Bj,Bh]at q;refine AA (Ac w!) λM d=>?_;have u:=d.2.1;simp[Bj,Bh]at u;refine AA (Ac w!) λN e=>?_;have v:=e.2.1;simp[Bj,Bh]at v;refine AA (AI g f) λO _=>Ao.next ⟨d!,d!,⟨d!,d!,d!,λr hr=>?_⟩,λp c m=>?_⟩ d!
 dsimp only at hr;rw[b.1]at hr;rcases Ak.1 hr with w|w;exact A r w;simp at w;rw[w];exact l;dsimp only at c;rw[b.1,d.1,e.1,fq z.symm,fq (by rw[List.length_zip];omega)]at c;rcases Ak.1 c with c|c;exact o p c m;grind[List.zip_cons_cons,List.zip_nil_left,List.mem_singleton,FW,AJp]
def AEM{x:AJ}{L:R EN}(h:AR L x):Ao (GF x) λr=>T3 4096 r/\Wh x r:=by unfold GF;refine AA Kc λo i=>AO (λ_=>AB ⟨⟨rfl,rfl,q!,λr hr=>by simp at hr⟩,λp d=>by simp at d⟩) (λc=>?_);have e:=i c;have a4:=e.2.2.2.1;refine AA (P:=λr=>T3 4096 r/\Wh x r) ?_ λr hr=>AB hr;refine CQ (λ(s:V×R AS×R V×R N)=>0<=s.1/\s.1<=θ x.1/\T3 (256*s.1) s.2/\Wh x s.2) (λ(s:V×R AS×R V×R N)=>((θ x.1:V)-s.1).toNat) ⟨Ae _,d!,⟨rfl,rfl,q!,λr hr=>by simp at hr⟩,λp d=>by simp at d⟩ (λs k=>?_);have⟨f,n,b,g⟩:=k;unfold N1;rw[(AY (x:=s.1+1))];refine AC (λc=>?_) (λ_=>Ao.done ⟨⟨b.1,b.2.1,by have:=b.2.2.1;omega,b.2.2.2⟩,g⟩);simp[O]at c;refine AA ((ZZ e h.sa f).and (AEN h f)) λl a=>AA ((Za a.1 o! b).and (AEO a.1 o! b a.2.2 g)) λm j=>?_;grind[Ao.next]
def ADS{L}{x:S AS×S N}{k:U}{z t:AS}{F T lo hi lv:V}{b:S EN}(i:Uq L)(m:x.1[k]?=Y t)(f:∀e∈t.2.2.2.2.2,e∈L)(n:W t.2.2.2.2.2≤4096)(l:∀e∈b,e∈L)(q:W b≤1000000){o:AS}:
  Ao (Ag (HT x ((k:V),o,z)) (0,F,T,lo,hi,lv,b)) λr=>∃a:S EN,r=(F,T,lo,hi,lv,a)/\W a<=W b+4096/\∀y,y∈a↔y∈b\/y∈t.2.2.2.2.2:=by
 refine CQ (λs=>∃(j:U)(a:S EN),s=((j:V),F,T,lo,hi,lv,a)/\j<=W t.2.2.2.2.2/\W a<=W b+j/\∀y,y∈a↔y∈b\/y∈t.2.2.2.2.2.take j) (W t.2.2.2.2.2-·.1.toNat)
  ⟨0,b,rfl,BU _,o!,λy=>q!⟩ ?_
 rintro s ⟨j,a,rfl,A,B,p⟩;unfold HT;rw[(by unfold ix;rw[C! o!,s?,m]:ix x.1 (k:V)=Y t),p?];simp only[O];refine AC (λd=>?_) (λd=>k? ⟨a,rfl,o!,k!⟩);rw[AD];refine AA (AI o! d) λv g=>?_;have c:=g.1;rw[CO]at c;refine AA (oY i (λe h=>((p e).1 h).elim (l e) λh=>f e (F9 h)) (f v g.2) o!) λw u=>?_;rw[AY];refine y! ⟨j+1,w.1,k!,o!,o!,λy=>?_⟩ o!
 grind[List.take_add_one,Option.toList_some,a!]
def wG(x:S AS×S N)(lo hi:V)(k:U):Prop:=x.2[k]?=Y E/\∃r,x.1[k]?=Y r/\r.2.2.1=lo/\r.2.2.2.1=hi/\(0<k->∀p,x.1[k-1]?=Y p->r.1=p.2.1+1)
def AHE{L}{x:Ψ AS×Ψ Bool}{a l:AS}(hL:Uq L)(h:∀(k:Nat)(r:AS),x.1[k]?=Y r→x.2[k]?=Y E→VR r∧ ∀e∈r.2.2.2.2.2,e∈L)(h1:1≤θ x.1∧θ x.1≤8)(h2:θ x.2=θ x.1)(V:x.1[0]?=Y a)(W:x.1[θ x.1-1]?=Y l):
  Ao (MS x) λr=>r.2=E->VR r.1/\∃(d:Int)(b:Ψ EN),r.1=(a.1,l.2.1,a.2.2.1,a.2.2.2.1,d,b)/\(∀k,k<θ x.1->wG x a.2.2.1 a.2.2.2.1 k)/\∀y,y∈b↔∃(k:Nat)(r:AS),x.1[k]?=Y r/\y∈r.2.2.2.2.2:=by
 have G:ix x.1 0=Y a:=by unfold ix;rw[C! o!];exact V
 have R:ix x.1 (wi (len x.1-1))=Y l:=by rw[AY (x:=len x.1-1) b!];unfold ix;simp only[len];rw[C! o!,show((θ x.1:Int)-1).toNat=θ x.1-1 by omega,W]
 unfold MS;rw[G,R,AD,AD,AD,AD,AD];generalize wi (a.2.2.2.2.1+1)=d;refine AA (P:=λr=>(∃u,r=.inl u/\u.1=X)\/∃z b,r=.inr ((a.1,l.2.1,a.2.2.1,a.2.2.2.1,d,b),z)/\(∀k,k<θ x.1->wG x a.2.2.1 a.2.2.2.1 k)/\∀y,y∈b↔∃(k:Nat)(r:AS),x.1[k]?=Y r/\y∈r.2.2.2.2.2) ?_ λr hr=>?_
 ·refine CQ (λs=>∃(k:Nat)(z:AS)(b:Ψ EN),s=((k:Int),(a.1,l.2.1,a.2.2.1,a.2.2.2.1,d,b),z)/\k<=θ x.1/\θ b<=4096*k/\(∀j,j<k->wG x a.2.2.1 a.2.2.2.1 j)/\∀y,y∈b↔∃(j:Nat)(r:AS),j<k/\x.1[j]?=Y r/\y∈r.2.2.2.2.2) (θ x.1-·.1.toNat)
   ⟨0,_,[],rfl,BU _,BU _,λj H=>O! H o!,λy=>⟨λhy=>by simp at hy,λ⟨j,r,H,_⟩=>O! H o!⟩⟩ ?_
  rintro s ⟨k,z,b,rfl,i2,i3,X_,Y_⟩;unfold TU;dsimp only;simp only[len];refine AC (λhc=>?_) (λhc=>k? (.inr ⟨z,b,rfl,λj H=>X_ j o!,λy=>?_⟩))
  ·have hk:k<θ x.1:=o!
   have c:x.1[k]?=Y x.1[k]:=Au hk;generalize x.1[k]=t at c;have i:x.2[k]?=Y (x.2[k]' o!):=Au o!;generalize x.2[k]' o!=bb at i;have U:ix x.1 (k:Int)=Y t:=by unfold ix;rw[C! o!,s?,c]
   have Q:ix x.2 (k:Int)=Y bb:=by unfold ix;rw[C! o!,s?,i]
   rw[Q,AD];refine AO (λ_=>k? (.inl ⟨_,rfl,rfl⟩)) (λO=>?_);rw[O]at i;have⟨tv,tm⟩:=h k t c i;rw[U,AD,G,AD];refine AL (λ_=>k? (.inl ⟨_,rfl,rfl⟩)) (λq1=>?_);rw[AD,AD];refine AL (λ_=>k? (.inl ⟨_,rfl,rfl⟩)) (λq2=>?_);rw[AD,AD];refine AL (λ_=>k? (.inl ⟨_,rfl,rfl⟩)) (λq3=>?_);have E_:∀e∈b,e∈L:=λe he=>by have⟨j,r,B,m,v⟩:=(Y_ e).1 he;exact(h j r m (X_ j B).1).2 e v
   have J:=ADS (x:=x) (k:=k) (z:=z) (o:=(a.1,l.2.1,a.2.2.1,a.2.2.2.1,d,b)) (F:=a.1) (T:=l.2.1) (lo:=a.2.2.1) (hi:=a.2.2.2.1) (lv:=d) hL c tm tv.1.2.2.2.2.2.2.2.2 E_ o!
   have D_:wG x a.2.2.1 a.2.2.2.1 k→ ∀f:Ψ EN,θ f≤θ b+4096→(∀y,y∈f↔y∈b∨y∈t.2.2.2.2.2)→
     Ao (Y (Step.next (wi ((k:Int)+1),(a.1,l.2.1,a.2.2.1,a.2.2.2.1,d,f),z)):Ω (Step (Int×AS×AS) ((Bool×AS)⊕(AS×AS)))) (MX (λs=>∃(k:Nat)(z:AS)(b:Ψ EN),s=((k:Int),(a.1,l.2.1,a.2.2.1,a.2.2.2.1,d,b),z)/\k<=θ x.1/\θ b<=4096*k/\(∀j,j<k->wG x a.2.2.1 a.2.2.2.1 j)/\∀y,y∈b↔∃(j:Nat)(r:AS),j<k/\x.1[j]?=Y r/\y∈r.2.2.2.2.2) (θ x.1-·.1.toNat) (θ x.1-((k:Nat):Int).toNat)
      λr=>(∃u,r=.inl u/\u.1=X)\/∃z b,r=.inr ((a.1,l.2.1,a.2.2.1,a.2.2.2.1,d,b),z)/\(∀k,k<θ x.1->wG x a.2.2.1 a.2.2.2.1 k)/\∀y,y∈b↔∃(k:Nat)(r:AS),x.1[k]?=Y r/\y∈r.2.2.2.2.2):=λhm f M C=>by
    rw[AY];refine y! ⟨k+1,z,f,by rw[show(k:Int)+1=((k+1:Nat):Int) by omega],o!,o!,λj H=>?_,λy=>?_⟩ d!
    grind;rw[C,Y_];constructor;rintro(⟨j,r,B,m,v⟩|g);exact⟨j,r,o!,m,v⟩;exact⟨k,t,o!,c,g⟩;rintro⟨j,r,B,m,v⟩;by_cases ao:j=k<;>grind
   apply AC<;>intro al
   ·have hp:k-1<θ x.1:=o!
    have q:x.1[k-1]?=Y x.1[k-1]:=Au hp;generalize x.1[k-1]=p at q;have S:ix x.1 (wi ((k:Int)-1))=Y p:=by rw[AY];unfold ix;rw[C! o!,show((k:Int)-1).toNat=k-1 by omega,q]
    rw[AD,S,AD];have A:=(h (k-1) p q (X_ (k-1) o!).1).1.1;have ad:=A.2.2.1;have ap:=A.1;have ar:=A.2.1;rw[AY (x:=p.2.1+1)];refine AL (λ_=>k? (.inl ⟨_,rfl,rfl⟩)) (λq4=>AA J λZ w=>?_);obtain⟨f,rfl,M,C⟩:=w;refine D_ ⟨i,t,c,q1,q2,λ_ p' n=>?_⟩ f M C;rw[q]at n;injection n with n;rw[<-n];exact q4
   have K:Ao (Ag (HT x ((k:Int),(a.1,l.2.1,a.2.2.1,a.2.2.2.1,d,b),z)) (0,a.1,l.2.1,a.2.2.1,a.2.2.2.1,d,b)) λr=>∃f:Ψ EN,r=(a.1,l.2.1,a.2.2.1,a.2.2.2.1,d,f)/\θ f<=θ b+4096/\∀y,y∈f↔y∈b\/y∈t.2.2.2.2.2:=J;refine AA K λZ w=>?_;obtain⟨f,rfl,M,C⟩:=w;exact D_ ⟨i,t,c,q1,q2,λh0=>O! h0 o!⟩ f M C
  rw[Y_];constructor;rintro⟨j,r,B,m,v⟩;exact⟨j,r,m,v⟩;rintro⟨j,r,m,v⟩;exact⟨j,r,by have:=Cv m;omega,m,v⟩
 rcases hr with⟨u,rfl,hu⟩|⟨z,b,rfl,B,m⟩;exact BF (AB λI=>by dsimp only at I;rw[hu]at I;cases I);refine A0 (AA YY λax N=>AB λI=>⟨N.1 I,d,b,rfl,B,m⟩)
def jO(a b:AJ):Prop:=∀lo n,AIc a lo n↔AIc b lo n
def xQ{a}(h:VB a){x y:NE}(c:x∈DU a)(d:y∈DU a)(b:x.2=y.2):x=y:=by grind[mc,List.pairwise_iff_getElem,List.mem_iff_getElem]
structure Grp(M:List NE)(lo hi:Int):Prop where
 same:∀(k:Nat)(e:NE),M[k]?=some e->e.1.2.2.1=lo/\e.1.2.2.2.1=hi/\e.1.1<=e.1.2.1
 next:∀(k:Nat)(e f:NE),M[k]?=some e->M[k+1]?=some f->f.1.1=e.1.2.1+1
def Grp.cover{M}{m l}(h:Grp M m l){c:NE}(d:M[0]?=Y c):∀(k:U)(b:NE),M[k]?=Y b->c.1.1<=b.1.1/\∀n:V,c.1.1<=n->n<=b.1.2.1->∃j e,j<=k/\M[j]?=Y e/\e.1.1<=n/\n<=e.1.2.1
 |0,b,a=>by rw[d]at a;injection a with a;subst a;exact⟨Ae _,λn g i=>⟨0,c,Al _,d,g,i⟩⟩
 |k+1,b,a=>by
  have o:=Cv a;have f:M[k]?=Y (M[k]' o!):=Au o!;have q:=Grp.cover h d k _ f;have hn:=h.next k _ _ f a
  have p:=(h.same k _ f).2.2;grind
def Grp.le{M}{g c}(h:Grp M g c){k:U}{a:NE}(f:M[k]?=Y a):∀(d:U)(e:NE),M[k+d]?=Y e->a.1.2.1<=e.1.2.1
 |0,e,he=>k!
 |d+1,e,he=>by
  have i:=Cv he;have b:M[k+d]?=Y (M[k+d]' o!):=Au o!;have l:=Grp.le h f d _ b;have hn:=h.next (k+d) _ _ b he
  have j:=(h.same _ _ he).2.2;omega
def ACt{c:Type}{l:S c}{a b:c}(d:a∈l)(e:b∈l)(h:a≠b):2<=W l:=by cases l<;>grind
def oK{b:Type}(p:b->N):∀l:S b,(l.filter p).length+(l.filter λa=>!p a).length=W l
 |[]=>rfl
 |a::r=>by have:=oK p r;grind
def ac(M:S NE)(l:S Am):S Am:=l.filter λf=>!(M.any λe=>e.2==f.2.1)
def mX{M:S NE}{l:S Am}{f:Am}:f∈ac M l↔f∈l/\∀e∈M,e.2≠f.2.1:=by grind[ac]
def zx{L}{a}{M:S NE}{r q}(h:AR L a)(c:∀e∈M,e∈DU a)(l:Grp M r q)(w:2<=W M):(ac M a.2.2.1).length+2<=W a.2.2.1:=by
 have d:M[0]?=Y (M[0]' o!):=Au o!;have k:M[1]?=Y (M[1]' o!):=Au o!;have n:=BP d;have o:=BP k;have i:(M[0]' o!).2≠(M[1]' o!).2:=λm=>by
  have j:=l.next 0 _ _ d k
  have:=(l.same 0 _ d).2.2;rw[<-(xQ h.vb (c _ n) (c _ o) m)]at j;omega
 have⟨f,s,_,t,_⟩:=h.mem (c _ n);have⟨g,u,_,v,_⟩:=h.mem (c _ o);have p:=oK (λf:Am=>!(M.any λe=>e.2==f.2.1)) a.2.2.1;have:2<=(a.2.2.1.filter λf=>!!(M.any λe=>e.2==f.2.1)).length:=by refine ACt (a:=f) (b:=g) ?_ ?_ λm=>i k!;grind;grind
 unfold ac;omega
def AFJ{L}{a}{M:S NE}{m l}{s:Bd}(h:AR L a)(j:∀e∈M,e∈DU a)(k:Grp M m l)(i:2<=W M)(q:a.2.2.2.2<=1073741824):VB (a.1,a.2.1,ac M a.2.2.1++[(1,a.2.2.2.2,s)],a.2.2.2.1,a.2.2.2.2+1):=by have p:=zx h j k i;have⟨b,c,d,f,n,o,g⟩:=h.vb;refine⟨b,c,d,k!,k!,k!,?_⟩;exact(g.sub (Wd)).push f rfl rfl
def notM(M:S NE)(x:NE):N:= !(M.any λe=>e.2==x.2)
def vy{L:Ψ EN}{a b:AJ}{M:Ψ NE}{r:AS}{lo t:Int}{I T:NE}(hL:Uq L)(h:AR L a)(J:∀e∈M,e∈DU a)(V:Grp M lo t)(h2:2≤θ M)(h0:M[0]?=Y I)(hn:M[θ M-1]?=Y T)
  (hr:VR r) (r1:r.1=I.1.1) (r2:r.2.1=T.1.2.1) (O:r.2.2.1=lo) (r4:r.2.2.2.1=t) (r5:∀y,y∈r.2.2.2.2.2↔∃e∈M,y∈e.1.2.2.2.2.2)
  (hb:b=(a.1,a.2.1,ac M a.2.2.1++[(1,a.2.2.2.2,NZ r)],a.2.2.2.1,a.2.2.2.2+1)) (q:VB b):
  AR L b/\jO a b/\(AG a->AG b)/\∀c,RC a c->RC b c:=by
 have b1:b.1=a.1:=by rw[hb]
 have b2:b.2.1=a.2.1:=by rw[hb]
 have S:b.2.2.1=ac M a.2.2.1++[(1,a.2.2.2.2,NZ r)]:=by rw[hb]
 have b4:b.2.2.2.1=a.2.2.2.1:=by rw[hb]
 have m0:=BP h0;have mn:=BP hn;have z:∀n:Int,(r.1<=n/\n<=r.2.1)↔∃e∈M,e.1.1<=n/\n<=e.1.2.1:=λn=>by constructor;rintro⟨B,C⟩;obtain⟨j,e,_,q2,q3⟩:=(V.cover h0 _ T hn).2 n o! o!;exact⟨e,BP q2,q3⟩;rintro⟨e,i,B,C⟩;obtain⟨k,W⟩:=Ed.1 i;have q1:=(V.cover h0 k e W).1;have a2:=Cv W;have q2:=V.le W (θ M-1-k) T (by rw[show k+(θ M-1-k)=θ M-1 by omega];exact hn);omega
 have Z:∀e∈M,cu L e.1:=λe i=>by obtain⟨f,_,_,_,g,_⟩:=h.mem (J e i);exact g
 have p:∀e∈M,e.1.2.2.1=lo/\e.1.2.2.2.1=t/\e.1.1<=e.1.2.1:=λe i=>by obtain⟨k,W⟩:=Ed.1 i;exact V.same k e W
 have ad:cu L r:=by refine hr.runOf hL λy=>?_;rw[r5,O,r4];constructor;rintro⟨e,i,N⟩;have g:=((Z e i).mem y).1 N;obtain⟨p1,p2,p3⟩:=p e i;have:=(z y.1).2 ⟨e,i,g.2.2.2.2⟩;exact⟨g.1,g.2.1,o!,o!,this.1,this.2⟩;rintro⟨B,C,P,g4,g5,g6⟩;obtain⟨e,i,q1,q2⟩:=(z y.1).1 ⟨g5,g6⟩;obtain⟨p1,p2,p3⟩:=p e i;exact⟨e,i,((Z e i).mem y).2 ⟨B,C,o!,o!,q1,q2⟩⟩
 have K:Ku a r.2.2.1 r.2.2.2.1:=by obtain⟨f,_,g,_⟩:=h.mem (J I m0);obtain⟨p1,p2,p3⟩:=p I m0;rw[O,r4,<-p1,<-p2];exact g.2.2.2
 have u:Good b (1,a.2.2.2.2,NZ r) r:=⟨rfl,rfl,hr,(Ku.congr b1 b2).1 K⟩
 have v:∀{f}{s},Good a f s->Good b f s:=λg=>g.congr b1 b2;have l:∀x∈DU b,(x∈DU a/\∀e∈M,e.2≠x.2)\/x=(r,a.2.2.2.2):=λx w=>by unfold DU at w;rw[S]at w;obtain⟨f,d,t⟩:=PK.1 w;rcases Ak.1 d with d|d;obtain⟨f1,f2⟩:=mX.1 d;rcases h.files f f1 with U|⟨s,s1,s2,s3⟩;rw[U.intR q.1]at t;cases t;rw[(v s1).intR q.1]at t;injection t with t;subst t;exact .inl ⟨QO h.vb.1 f1 s1,f2⟩;rw[A9]at d;subst d;rw[u.intR q.1]at t;injection t with t;exact .inr t.symm
 have ar:∀x∈DU a,(∀e∈M,e.2≠x.2)->x∈DU b:=λx w Q=>by
  obtain⟨f,f1,f2,f3,_⟩:=h.mem w;have:f∈b.2.2.1:=by rw[S];exact Ak.2 (.inl (mX.2 ⟨f1,λe i=>f3▸Q e i⟩))
  have:=QO q.1 this (v f2);rw[<-f3]at this;exact this
 have Y_:(r,a.2.2.2.2)∈DU b:=QO q.1 (by rw[S];exact Ak.2 (.inr (A9.2 rfl))) u;have al:∀x∈DU a,x.1.1<=x.1.2.1:=λx w=>by obtain⟨f,_,g,_⟩:=h.mem w;exact g.2.2.1.1.2.1
 have a0:r.1<=r.2.1:=hr.1.2.1;have A:∀y∈DU a,(∀e∈M,e.2≠y.2)->y.1.2.2.1=lo->r.2.1<y.1.1\/y.1.2.1<r.1:=λy N Q o=>by refine UD λF=>?_;have a4:=al y N;obtain⟨e,i,q1,q2⟩:=(z (if y.1.1<=r.1 then r.1 else y.1.1)).1 (by split<;>omega);have D_:e≠y:=λF=>Q e i (by rw[F]);have:=h.dis e (J e i) y N D_ ((p e i).1.trans o.symm);split at q1<;>split at q2<;>omega
 refine⟨⟨q,λf d=>?_,λx w y N D_ o=>?_⟩,λm n=>?_,λao f d=>?_,λc hc m=>?_⟩;rw[S]at d;rw[b4];rcases Ak.1 d with d|d;exact(h.files f (mX.1 d).1).imp id λ⟨s,s1,s2,s3⟩=>⟨s,v s1,s2,s3⟩
 rw[A9]at d;subst d;obtain⟨f,_,_,_,_,g⟩:=h.mem (J T mn);exact .inr ⟨r,u,ad,o!⟩;rcases l x w with⟨R,x2⟩|rfl;rcases l y N with⟨y1,y2⟩|rfl;exact h.dis x R y y1 D_ o;have:=A x R x2 (o.trans O);exact this.symm;rcases l y N with⟨y1,y2⟩|rfl;exact A y y1 y2 (o.symm.trans O);exact O! rfl D_;constructor;rintro⟨e,i,B,C,P⟩;by_cases Q:∃f∈M,f.2=e.2;obtain⟨f,d,ap⟩:=Q;have:=xQ h.vb (J f d) i ap;subst this;have hc:=(z n).2 ⟨f,d,C,P⟩;exact⟨_,Y_,by rw[<-B,(p f d).1];exact O,hc.1,hc.2⟩;exact⟨e,ar e i λf d F=>Q ⟨f,d,F⟩,B,C,P⟩;rintro⟨e,i,B,C,P⟩;rcases l e i with⟨q1,q2⟩|rfl;exact⟨e,q1,B,C,P⟩;obtain⟨f,d,q1,q2⟩:=(z n).1 ⟨C,P⟩;exact⟨f,J f d,by rw[(p f d).1,<-B];exact O.symm,q1,q2⟩;rw[S]at d;rcases Ak.1 d with d|d;obtain⟨s,hs⟩:=ao f (mX.1 d).1;exact⟨s,v hs⟩;rw[A9]at d;subst d;exact⟨r,u⟩
 ·have X_:=(LK q).filter λe=>e.1.2.2.1==m;have a1:=hc m;by_cases hl:m=lo
  ·subst hl;have H:=jL _ ((r,a.2.2.2.2)::((DU a).filter λe=>e.1.2.2.1==m).filter (notM M)) X_ λx w=>by obtain⟨x0,E_⟩:=BR.1 w;rcases l x x0 with⟨R,x2⟩|rfl;refine Av.2 (.inr (BR.2 ⟨BR.2 ⟨R,E_⟩,?_⟩));unfold notM;simp only[Wa,List.any_eq_false,J!];exact x2;exact Av.2 (.inl rfl)
   have a3:=oK (notM M) ((DU a).filter λe=>e.1.2.2.1==m);have h1:M[1]?=Y (M[1]' o!):=Au o!;have m1:=BP h1;have a5:2<=(((DU a).filter λe=>e.1.2.2.1==m).filter λx=>!notM M x).length:=by
    have G:∀e∈M,e∈((DU a).filter λe=>e.1.2.2.1==m).filter λx=>!notM M x:=λe i=>by refine BR.2 ⟨BR.2 ⟨J e i,by rw[(p e i).1];exact L! _⟩,?_⟩;unfold notM;rw[Bool.not_not];exact qL.2 ⟨e,i,L! _⟩
    refine ACt (G I m0) (G _ m1) λF=>?_;have ax:=V.next 0 I _ h0 h1
    have:=(p I m0).2.2;rw[<-F]at ax;omega
   rw[Bh]at H;omega
  have H:=jL _ ((DU a).filter λe=>e.1.2.2.1==m) X_ λx w=>by obtain⟨x0,E_⟩:=BR.1 w;rcases l x x0 with⟨R,x2⟩|rfl;exact BR.2 ⟨R,E_⟩;exact O! (eq_of_beq E_) λF=>hl (F.symm.trans O)
  omega
def Vu(v1:S AS×S V×S N)(i n:U):S NE:=((v1.1.zip v1.2.1).drop i).take n
def yE{a}{i n k:U}{e:NE}(b:k<n):(Vu a i n)[k]?=Y e↔a.1[i+k]?=Y e.1/\a.2.1[i+k]?=Y e.2:=by grind[Vu]
def AGU{x:AJ×V}{a:S AS×S V×S N}{i n j:U}{f:Am}{z:AJ}{w:S Am×S V×V×V×V}(hn:x.2=n)(o:n<=8)(t:W a.2.1=W a.1)(p:i+n<=W a.1)(m:W a.1<=4096)(h:x.1.2.2.1[j]?=Y f):Ao (Ag (Ox x a ((i:V),z) ((j:V),w)) (X,(i:V))) λr=>r=(Vu a i n).any λe=>e.2==f.2.1:=by
 have l:(Vu a i n).length=n:=by grind[Vu,r?,List.length_drop,List.length_zip]
 refine CQ (λs=>∃k:U,s=(((Vu a i n).take k).any (·.2==f.2.1),((i+k:U):V))/\k<=n) (i+n-·.2.toNat) ⟨0,q!,BU _⟩ ?_;rintro s ⟨k,rfl,q⟩;unfold Ox;dsimp only;rw[hn,AY (x:=(i:V)+(n:V)),AY (x:=((i+k:U):V)+1)];refine AC (λg=>?_) (λg=>k? k!);have b:k<n:=o!
 have d:a.2.1[i+k]?=Y (a.2.1[i+k]' o!):=Au o!;refine AK (λc=>y! ⟨k+1,?_,b⟩ k!) (λc=>?_);grind
 ·rw[(by unfold ix;rw[C! o!,s?,d]:ix a.2.1 ((i+k:U):V)=Y (a.2.1[i+k]' o!)),p?,(by unfold ix;rw[C! o!,s?,h]:ix x.1.2.2.1 (j:V)=Y f),p?];refine y! ⟨k+1,?_,b⟩ o!
  rw[(by rw[Cl,((yE (e:=(a.1[i+k]' o!,a.2.1[i+k]' o!)) b).2 ⟨Au o!,d⟩)];rfl:(Vu a i n).take (k+1)=(Vu a i n).take k++[(a.1[i+k]' o!,a.2.1[i+k]' o!)]),List.any_append,c,Bool.false_or];refine DZ ?_ k!;dsimp only;rw[List.any_cons,List.any_nil,Bool.or_false]
def AGT{x:AJ×V}{a:S AS×S V×S N}{i n:U}{z:AJ}(hn:x.2=n)(g:n<=8)(o:W a.2.1=W a.1)(l:i+n<=W a.1)(f:W a.1<=4096)(u:W x.1.2.2.1<=256):Ao (Ag (Ow x a ((i:V),z)) (0,[],x.1.1,x.1.2.1,x.1.2.2.2)) λr=>r=(ac (Vu a i n) x.1.2.2.1,x.1.1,x.1.2.1,x.1.2.2.2):=by
 refine CQ (λq=>∃j:U,q=((j:V),ac (Vu a i n) (x.1.2.2.1.take j),x.1.1,x.1.2.1,x.1.2.2.2)/\j<=W x.1.2.2.1) (W x.1.2.2.1-·.1.toNat) ⟨0,rfl,BU _⟩ ?_;rintro q ⟨j,rfl,v⟩;unfold Ow;simp only[O];rw[AY];refine AC (λk=>?_) (λk=>k? k!);have d:x.1.2.2.1[j]?=Y (x.1.2.2.1[j]' o!):=Au o!;have m:ix x.1.2.2.1 (j:V)=Y (x.1.2.2.1[j]' o!):=by unfold ix;rw[C! o!,s?,d]
 refine AA (AGU hn g o l f d) λc e=>?_;have p:ac (Vu a i n) (x.1.2.2.1.take (j+1))=ac (Vu a i n) (x.1.2.2.1.take j)++(if c=E then []else [x.1.2.2.1[j]' o!]):=by grind[List.take_add_one,Option.toList_some,ac]
 refine AA (P:=λt=>t=(ac (Vu a i n) (x.1.2.2.1.take (j+1)),x.1.1,x.1.2.1,x.1.2.2.2)) ?_ λs b=>?_;refine AO (λh=>?_) (λh=>AB ?_);grind[ac,Vu,Nat.le_trans,List.length_filter_le,r?,AA,Ac,AB];grind
 ·rw[b];exact y! ⟨j+1,k!,o!⟩ k!
def AH8(L:S EN)(x:AJ×V)(r:AJ×N×V):Prop:=
 (x.1.2.2.2.2<=1073741824->r.2.2=0)/\(r.2.2=0->(r.2.1=X/\r.1=x.1)\/(r.2.1=E/\AR L r.1/\jO x.1 r.1/\(AG x.1->AG r.1)/\(∀c,RC x.1 c->RC r.1 c)/\r.1.1=x.1.1/\r.1.2.1=x.1.2.1/\r.1.2.2.2.1=x.1.2.2.2.1/\r.1.2.2.2.2=x.1.2.2.2.2+1/\W r.1.2.2.1+1<=W x.1.2.2.1/\x.1.2.2.2.2<=1073741824))
def AIi{L:List EN}{x:AJ×Int}(hL:Uq L)(h:AR L x.1)(hf:2<=x.2/\x.2<=8):Ao (NM x) (AH8 L x):=by
 have hs:=h.sa;have⟨n,hn⟩:=Ef (show 0<=x.2 by omega);have p:θ x.1.2.2.1<=256:=by have:=h.vb.2.2.2.2.2.1;omega
 have al:=h.vb.2.2.2.1;unfold NM;have⟨v0,U,V⟩:=O3 (x:=x.1);have X_:=V.2 h.vb;subst X_;rw[U,AD,By,A!,F! o!,A!,F! o!,A!];refine AA (AEM h) λa o=>?_;have⟨⟨t1,t2,t3,t4⟩,hw⟩:=o;have q:∀e∈DU x.1,VR e.1/\∀y∈e.1.2.2.2.2.2,y∈L:=λe t=>by have⟨f,_,g,_,g2,_⟩:=h.mem t;exact⟨g.2.2.1,λy hy=>((g2.mem y).1 hy).1⟩
 refine AA (P:=λr=>(∃z,r=.inr z)\/∃u,r=.inl u/\AH8 L x (u.2.2,u.1,u.2.1)) ?_ λr hr=>?_
 ·refine CQ (λ(s:Int×AJ)=>0<=s.1/\s.1<=θ a.1) (λ(s:Int×AJ)=>((θ a.1:Int)-s.1).toNat) ⟨Ae _,d!⟩ (λs hI=>?_);have⟨i',z⟩:=s;have⟨D_,i2⟩:=hI;dsimp only at D_ i2;obtain⟨i,rfl⟩:=Ef D_;unfold Uk;dsimp only;rw[AY (x:=(i:Int)+1),AY (x:=(i:Int)+x.2)];refine AC (λhc=>?_) (λ_=>Ao.done (.inl ⟨_,rfl⟩));simp[len]at hc;refine AA (BX D_) λd h3=>AA (BX D_) λZ h4=>?_;have l3:=h3.2;have l4:=h4.2;have l:∀k,k<n->d[k]?=a.1[i+k]? :=λk c=>by grind[Int.toNat_natCast]
  have F:∀k,k<n->Z[k]?=a.2.2[i+k]? :=λk c=>by grind[Int.toNat_natCast]
  have w:∀{k:Nat}{r:AS},d[k]?=δ r->k<n:=λ{k r} c=>by have:=Cv c;omega
  have whole:∀(k:Nat)(r:AS),d[k]?=δ r->Z[k]?=δ ζ->∃id,a.2.1[i+k]?=δ id/\(r,id)∈DU x.1:=λk r o h2=>by have c:=w o;rw[l k c]at o;rw[F k c]at h2;have ap:=Cv o;have j:a.2.1[i+k]?=δ (a.2.1[i+k]' o!):=Au o!;refine⟨_,j,?_⟩;refine hw ((r,a.2.1[i+k]' o!),ζ) ?_ rfl;refine Ed.2 ⟨i+k,?_⟩;rw[tu,tu];exact⟨⟨o,j⟩,h2⟩
  have S:θ d=n:=o!
  have I:d[0]?=δ (d[0]' o!):=Au o!;have J:d[θ d-1]?=δ (d[θ d-1]' o!):=Au o!;generalize d[0]' o!=r0 at I;generalize d[θ d-1]' o!=rn at J;refine AA (AHE (x:=(d,Z)) hL (λk r q1 q2=>?_) d! d! I J) λv5 h5=>?_;have⟨id,_,q3⟩:=whole k r q1 q2;exact q _ q3;refine AO (λ_=>Ao.next d! d!) (λT=>?_);have⟨w1,lv,es,B,E_,w4⟩:=h5 T;dsimp only at E_ w4;refine AC (λad=>Ao.done (.inr ⟨_,rfl,λhh=>O! hh o!,λhz=>O! (show(21:Int)=0 from hz) g!⟩)) (λar=>?_);have hi:i+n<=θ a.1:=o!
  have Q:(Vu a i n).length=n:=by unfold Vu;rw[List.length_take,List.length_drop,List.length_zip];omega
  have b:∀(k:Nat)(e:NE),(Vu a i n)[k]?=δ e->k<n/\d[k]?=δ e.1/\a.2.1[i+k]?=δ e.2:=λk e c=>by
   have m:k<n:=k!
   have:=(yE m).1 c;exact⟨m,by rw[l k m];exact this.1,this.2⟩
  have C:∀e∈Vu a i n,e∈DU x.1:=λe t=>by have⟨k,c⟩:=Ed.1 t;have⟨k1,v,Y_⟩:=b k e c;have⟨q1,_⟩:=E_ k o!;have⟨id,q2,q3⟩:=whole k e.1 v q1;rw[Y_]at q2;injection q2 with q2;rw[<-q2]at q3;exact q3
  have N:Grp (Vu a i n) r0.2.2.1 r0.2.2.2.1:=by refine⟨λk e c=>?_,λk e f c hf=>?_⟩;have⟨k1,v,Y_⟩:=b k e c;have⟨_,r,q1,q2,q3,_⟩:=E_ k o!;dsimp only at q1;rw[v]at q1;cases q1;exact⟨q2,q3,(q e (C e (BP c))).1.1.2.1⟩;have⟨k1,v,Y_⟩:=b k e c;have⟨f1,f2,f3⟩:=b (k+1) f hf;have⟨_,r,q1,_,_,q2⟩:=E_ (k+1) o!;dsimp only at q1 q2;rw[f2]at q1;cases q1;exact q2 o! e.1 (by rw[nh];exact v)
  have G:(Vu a i n)[0]?=δ ((Vu a i n)[0]' o!):=Au o!;have H:(Vu a i n)[(Vu a i n).length-1]?=δ ((Vu a i n)[(Vu a i n).length-1]' o!):=Au o!;generalize (Vu a i n)[0]' o!=m0 at G;generalize (Vu a i n)[(Vu a i n).length-1]' o!=mn at H;have O:m0.1=r0:=by have:=(b 0 m0 G).2.1;rw[I]at this;exact(BW this).symm
  have R:mn.1=rn:=by have:=(b _ mn H).2.1;rw[Q,<-S,J]at this;exact(BW this).symm
  refine AA (AGT hn o! t1 hi o! p) λax K=>?_;subst K;rw[rX w1,AD];dsimp only;have ao:=zx h C N o!;refine AA (Ac w!) λa0 M=>?_;rw[AY (x:=x.1.2.2.2.2+1),M.1];have W:=AFJ (s:=NZ v5.1) h C N o! o!;have key:=vy (r:=v5.1) hL h C N o! G H w1 (by rw[B,O]) (by rw[B,R]) (by rw[B]) (by rw[B]) (λy=>by rw[B];dsimp only;rw[w4];constructor;rintro⟨k,r,q1,q2⟩;have c:=w q1;have A:=q1;rw[l k c]at A;have j:a.2.1[i+k]?=δ (a.2.1[i+k]' o!):=Au o!;exact⟨(r,_),BP ((yE (e:=(r,a.2.1[i+k]' o!)) c).2 ⟨A,j⟩),q2⟩;rintro⟨e,t,q2⟩;have⟨k,c⟩:=Ed.1 t;exact⟨k,e.1,(b k e c).2.1,q2⟩) rfl W;refine Ao.done (.inr ⟨_,rfl,λ_=>rfl,λ_=>.inr ⟨rfl,key.1,key.2.1,key.2.2.1,key.2.2.2,rfl,rfl,rfl,rfl,?_,o!⟩⟩);dsimp only;rw[AZ,Bh,Bj];omega
 rcases hr with⟨z,rfl⟩|⟨u,rfl,hu⟩;exact A0 (AB ⟨λ_=>rfl,λ_=>.inl ⟨rfl,rfl⟩⟩);exact BF (AB hu)
def jO.refl(a:AJ):jO a a:=λ_ _=>Wb
def jO.trans{a b c}(h:jO a b)(g:jO b c):jO a c:=λd n=>(h d n).trans (g d n)
def AIr{L:R EN}{x:AJ×V}{m:V}(q:Uq L)(h:AR L x.1)(u:2<=x.2/\x.2<=8)(v:SF x.1 m)(w:m<=1073741824):Ao (J4 x) λr=>r.2=0/\AR L r.1/\jO x.1 r.1/\(AG x.1->AG r.1)/\(∀c,RC x.1 c->RC r.1 c)/\SF r.1 m/\r.1.1=x.1.1/\r.1.2.1=x.1.2.1/\r.1.2.2.2.1=x.1.2.2.2.1:=by
 unfold J4;refine AA (P:=λr=>r.1=0/\AR L r.2/\jO x.1 r.2/\(AG x.1->AG r.2)/\(∀c,RC x.1 c->RC r.2 c)/\SF r.2 m/\r.2.1=x.1.1/\r.2.2.1=x.1.2.1/\r.2.2.2.2.1=x.1.2.2.2.1) ?_ λr hr=>AB hr;refine CQ (λ(s:AJ×AJ)=>AR L s.1/\jO x.1 s.1/\(AG x.1->AG s.1)/\(∀c,RC x.1 c->RC s.1 c)/\SF s.1 m/\s.1.1=x.1.1/\s.1.2.1=x.1.2.1/\s.1.2.2.2.1=x.1.2.2.2.1) (λs=>θ s.1.2.2.1) ⟨h,jO.refl _,id,λ_=>id,v,rfl,rfl,rfl⟩ (λs p=>?_);obtain⟨e,f,l,n,g,i,j,k⟩:=p;unfold Ul;refine AA (AIi (x:=(s.1,x.2)) q e u) λC o=>?_;obtain⟨y,z⟩:=o;have b:s.1.2.2.2.2<=1073741824:=by unfold SF at g;omega
 have d:=y b;refine AL (λt=>O! d t) (λ_=>?_);rcases z d with⟨q1,q2⟩|⟨q1,q2,q3,A,B,q4,q5,q6,q7,q8,q9⟩
 ·rw[q1,Bool.not_false,B!];exact Ao.done ⟨rfl,e,f,l,n,g,i,j,k⟩
 ·rw[q1,By,A!];dsimp only at q3 q4 q5 q6 q7 q8;exact Ao.next ⟨q2,f.trans q3,λa=>A (l a),λc a=>B c (n c a),by unfold SF at*;dsimp only;omega,q4.trans i,q5.trans j,q6.trans k⟩ d!
def ABy{b:UInt8}{n:V}(a:0<=n)(e:n<255):E5 ([ι .u8 (((π ((κ 8 (b.toNat:V))^^^(κ 8 (ι .u8 (wi (1+n)))))):U):V)]:S V)=[UInt8.ofNat (BitVec.ofNat 8 b.toNat^^^BitVec.ofNat 8 (1+n).toNat).toNat]/\b≠UInt8.ofNat (BitVec.ofNat 8 b.toNat^^^BitVec.ofNat 8 (1+n).toNat).toNat:=by obtain⟨m,rfl⟩:=Ef a;rw[(by grind[AY]:wi (1+(m:V))=((1+m:U):V)),(by rw[AH4];omega:ι .u8 ((1+m:U):V)=((1+m:U):V)),(by omega:(1+(m:V)).toNat=1+m),cy,cy];refine⟨?_,λd=>?_⟩;rw[(by rw[AH4];omega:ι .u8 (((BitVec.ofNat 8 b.toNat^^^BitVec.ofNat 8 (1+m)).toNat:U):V)=(((BitVec.ofNat 8 b.toNat^^^BitVec.ofNat 8 (1+m)).toNat:U):V))];rfl;have c:=E! UInt8.toNat d;rw[fx,Tq o!]at c;have f:=E! (BitVec.ofNat 8 b.toNat^^^ ·) (by grind:BitVec.ofNat 8 b.toNat=BitVec.ofNat 8 b.toNat^^^BitVec.ofNat 8 (1+m));grind[BitVec.xor_assoc,BitVec.xor_self,BitVec.zero_xor]
def AEJ{b}{s:Bd}(h:CX b)(A:W s≠0)(B:W s<=1099511627775):Ao (GI b s) λr=>CX r.2/\AIA s r.1/\W r.1<=W s+1:=by
 unfold GI;simp only[O];refine AP (O! · o!) (λ_=>AA (Ah h o!) λE_ m=>?_);have⟨l,k0,k1⟩:=m;have⟨k,t⟩:=Ef k0;refine AA (Ah l g!) λF e=>?_;rw[t,AY];have u:k<W s:=o!
 have a:s=s.take k++s[k]::s.drop (k+1):=t!
 have i:R3 s 0 (k:V)=Y (s.take k):=by grind[R3]
 have j:R3 s ((k:V)+1) (W s:V)=Y (s.drop (k+1)):=by unfold R3;grind[List.take_of_length_le]
 have C:(s.take k).length=k:=k!
 have D_:(s.drop (k+1)).length=W s-(k+1):=C2;refine AP (λ_=>?_) (λ_=>?_);rw[i,AD,j,AD];refine AA (CM o!) λG o=>AB ⟨e.1,.less _ _ _ a o.1,k!⟩;refine AP (λ_=>?_) (λ_=>?_);refine AA (Ah e.1 g!) λz p=>AA (CM (by rw[My];simp;omega)) λH q=>AB ⟨p.1,?_,?_⟩;exact .more s [] (UInt8.ofNat (ι .u8 z.1).toNat) (DT s).symm (by rw[q.1];rfl);grind[My,List.length_cons,List.length_nil];rw[i,AD];have f:six s (k:V)=Y ((s[k].toNat:U):V):=by grind[six,s?,m?]
 rw[f,AD,j,AD];refine AA (Ah e.1 g!) λw c=>?_;have⟨q1,q2⟩:=ABy (b:=s[k]) c.2.1 o!;rw[q1];refine AA (CM w!) λx d=>?_;have g:=d.2;simp[Bh,Bj]at g;refine AA (CM o!) λy n=>AB ⟨c.1,.other _ _ _ _ q2 a ?_,k!⟩;grind[t?]
theorem AAr{a:AJ}{b:AU}(y:AG a)(h:CX b)(I:a.2.2.1.length<=1000000):Ao (GB b a.2.2.1) λr=>CX r.2/\ ∀f∈r.1,f∈a.2.2.1\/Bad f:=by
 unfold GB;generalize B:a.2.2.1=x at*;refine AP (λ_=>AB ⟨h,λf v=>by simp at v⟩) (λg=>?_);simp only[len]at g;refine AA (Ah h (by grind)) λC p=>?_;have⟨n,c,o⟩:=p;simp[len]at o;rw[AY (x:=C.1+1) (by omega)];refine AA (Ah n (by decide)) λJ q=>AP (λ_=>?_) (λ_=>?_)
 ·refine AA (BX (Ae _) c (by omega)) λK F=>AA (BX (by omega) (by grind) (by grind)) λL G=>?_;grind[AA,Ac,List.length_nil,AB]
 ·refine AA (Ac (by simp;omega)) λM u=>?_;have j:=u.1;rw[B7]at j;subst j;refine AA (AI c (by omega)) λN _=>AA (AI c (by omega)) λm H=>?_;have⟨r,hr⟩:=y m (by grind);have A:=hr.size;have i:m.2.2.length≠0:=by rw[hr.2.1];grind[NZ,List.length_append,EM]
  refine AA (AEJ q.1 i (by omega)) λO k=>AA (AI c (by omega)) λD_ _=>AA (AI c (by omega)) λE_ t=>AB ⟨k.1,λf e=>?_⟩;rcases Q5 e with w|w
  ·grind
  ·refine .inr ?_;rw[w];refine⟨by grind,λs z l=>?_⟩;dsimp only at l;have d:=k.2.1;rw[l,hr.2.1]at d;exact AFP hr.2.2.1.wr z d
theorem AC0{L}{a}{b}{m}(h:AR L a)(p:AG a)(k:CX b)(J:SF a m):Ao (GB b a.2.2.1) λr=>CX r.2/\AR L (a.1,a.2.1,r.1,a.2.2.2)/\(∀c,RC a c->RC (a.1,a.2.1,r.1,a.2.2.2) c)/\SF (a.1,a.2.1,r.1,a.2.2.2) m:=by
 obtain⟨B,C,D_,E_,F,K,G⟩:=id h.vb;refine((AC1 G k o! h.sa.2.2).and (AAr p k o!)).mono λr hr=>?_;obtain⟨⟨H,M,I,N⟩,_,u⟩:=hr;have i:VB (a.1,a.2.1,r.1,a.2.2.2):=⟨B,C,D_,E_,F,d!,I⟩
 have g:∀e∈DU (a.1,a.2.1,r.1,a.2.2.2),e∈DU a:=λe o=>by unfold DU at o;obtain⟨f,d,j⟩:=PK.1 o;rcases u f d with d|d;obtain⟨s,q⟩:=p f d;have n:Good (a.1,a.2.1,r.1,a.2.2.2) f s:=q.congr rfl rfl;rw[n.intR i.1]at j;injection j with j;subst j;exact QO h.vb.1 d q;rw[d.intR i.1]at j;cases j
 refine⟨H,⟨i,λf d=>?_,λx l y v=>h.dis x (g x l) y (g y v)⟩,λc k t=>?_,by unfold SF at*;dsimp only;omega⟩;rotate_left;exact Cq (jL _ ((DU a).filter λe=>e.1.2.2.1==t) ((LK i).filter _) λx l=>BR.2 ⟨g x (BR.1 l).1,(BR.1 l).2⟩) (k t);rcases u f d with d|d;exact(h.files f d).imp id λ⟨s,w,z,A⟩=>⟨s,w.congr rfl rfl,z,A⟩
 exact .inl d
def AEF{L}{x:V×S V}(h:BD x.1 x.2):Ao (Il x) λr=>AR L r.1/\AG r.1/\RC r.1 0/\SF r.1 1/\r.1.2.1=x.1/\r.1.2.2.2.1=1:=by
 have a:Ao (Il x) λr=>r.2=0->r.1.2.2.1=[]/\r.1.2.2.2.2=1:=by refine AA nt λo b=>AO (λj=>AB λm=>?_) (λ_=>?_);grind;have l:=h.2.2.2.1;grind[AA,Ac,AB]
 refine((AIg h).and a).mono λr hr=>?_;have⟨⟨b,c,d,g⟩,i⟩:=hr;refine⟨⟨c,λf a=>?_,λe k=>?_⟩,λf a=>?_,λn=>?_,?_,d,g⟩;grind;grind[DU];grind;grind[DU];unfold SF;grind
def AX(L:S EN)(n d m:V)(a:AJ):Prop:=AR L a/\AG a/\(∃c:U,RC a c/\100*(c:V)<=m+99)/\SF a m/\a.2.1=n/\a.2.2.2.1<=d+1/\(Gv L->AF a)
def AX.step{n m}{a}{l}{c:V}(p:Dg l)(h:AX l.2.1 n l.2.2 m a):Ao (Es (a,l,c)) λr=>r.2=0->AX l.2.1 n l.2.2 (m+100) r.1:=by have⟨d,e,⟨k,j,o⟩,f,g,t,i⟩:=h;refine(AGW (x:=(a,l,c)) d p f).mono λr hr q=>?_;have⟨q1,q2,s,q3,q4,q5,q6⟩:=hr q;exact⟨q1,q2 e,⟨k+1,s k j,o!⟩,by unfold SF at*;omega,q4.trans g,k!,λb=>q6 b (i b)⟩
def AX.mono{L}{n d m k:V}{a}(h:AX L n d m a)(o:m<=k):AX L n d k a:=by have⟨b,e,⟨c,i,j⟩,l,f,g⟩:=h;exact⟨b,e,⟨c,i,o!⟩,by unfold SF at*;omega,f,g⟩
def AX.tidy{L}{n d m}{a}{c:V}(p:Uq L)(h:AX L n d m a)(u:m<=1073741824)(s:2<=c/\c<=8):Ao (J4 (a,c)) λr=>AX L n d m r.1:=by have⟨g,i,⟨k,t,b⟩,j,l,z,o⟩:=h;refine(AIr (x:=(a,c)) p g s j u).mono λr hr=>?_;have⟨q0,q1,q2,q3,y,q4,q5,q6,q7⟩:=hr;exact⟨q1,q3 i,⟨k,y k t,b⟩,q4,q6.trans l,k!,λq f e n v w=>(q2 f n).1 (o q f (q5▸e) n v (q7▸w))⟩
def AAo{b}{x:Int×Aa}(h:CX b)(C:1<=x.1/\x.1<=64)(e:Dg x.2):Ao (PX b x) λr=>CX r.2/\AX x.2.2.1 x.1 x.2.2.2 901 r.1:=by
 have T:=e.1;have U:=e.2.2.2.1;refine AA (ACy h C) λv0 m=>AA (AEF (L:=x.2.2.1) m.2) λI v=>?_;have⟨D_,E_,H,F,G,s5⟩:=v;have A:AX x.2.2.1 x.1 x.2.2.2 1 I.1:=⟨D_,E_,⟨0,H,g!⟩,F,G,o!,λ_ lo _ n n1 n2=>o!⟩
 refine AA (Ah m.1 g!) λv2 w=>?_;have⟨t,u,S⟩:=w;refine AA (P:=λr=>CX r.1/\AX x.2.2.1 x.1 x.2.2.2 801 r.2) ?_ λK c=>AA (Ah c.1 g!) λM f=>AA (P:=λa=>AX x.2.2.1 x.1 x.2.2.2 901 a) (AK (λ_=>AA (c.2.step e) λN g=>AA (P:=λa=>AX x.2.2.1 x.1 x.2.2.2 901 a) (AP (λk=>AB ((g k).mono g!)) (y? (c.2.mono g!))) λO i=>AB i) (y? (c.2.mono g!))) λQ j=>AB ⟨f.1,j⟩;refine CQ (λs=>0<=s.1/\s.1<=8/\CX s.2.1/\AX x.2.2.1 x.1 x.2.2.2 (801-100*s.1) s.2.2) (·.1.toNat) ⟨u,k!,t,A.mono k!⟩ (λs B=>?_);have⟨Y_,Z,q,l⟩:=B;unfold SC;rw[(AY (x:=s.1-1))];refine AC (λX_=>AA (Ah q g!) λv4 y=>AA (l.step e) λv5 z=>AA (P:=λa=>AX x.2.2.1 x.1 x.2.2.2 (801-100*(s.1-1)) a) (AP (λk=>AB ((z k).mono o!)) (y? (l.mono o!))) λv6 o=>AA (Ah y.1 g!) λv7 p=>?_) (λ_=>k? ⟨q,l.mono o!⟩);refine AA (P:=λr=>CX r.1/\AX x.2.2.1 x.1 x.2.2.2 (801-100*(s.1-1)) r.2) ?_ λJ d=>y! ⟨k!,k!,d.1,d.2⟩ k!
 refine AK (λ_=>AA (Ah p.1 g!) λR V=>?_) (y? ⟨p.1,o⟩);rw[AY (x:=2+R.1)];refine AA (o.tidy e.uq o! o!) λv9 W=>?_;grind[AA,AP,AB]
def AEH{n p:V}{l:R V}(h:BD n l):Ao (J6 (l,p)) λr=>0<=r.1/\r.1<=θ l/\(∀(i:U)(v:V),(i:V)<r.1->l[i]?=δ v->v<p)/\(∀(i:U)(v:V),r.1<=(i:V)->l[i]?=δ v->p<=v)/\(r.2=ζ->l[r.1.toNat]?=δ p)/\(r.2=η->∀v,l[r.1.toNat]?=δ v->p<v):=by
 have t:=h.2.2.2.1;refine AA (P:=λ(r:V)=>0<=r/\r<=θ l/\(∀(i:U)(v:V),(i:V)<r->l[i]?=δ v->v<p)/\∀(i:U)(v:V),r<=(i:V)->l[i]?=δ v->p<=v) ?_ λJ u=>?_
 ·refine CQ (λ(s:V×V)=>0<=s.1/\s.1<=s.2/\s.2<=θ l/\(∀(i:U)(v:V),(i:V)<s.1->l[i]?=δ v->v<p)/\∀(i:U)(v:V),s.2<=(i:V)->l[i]?=δ v->p<=v) (λ(s:V×V)=>(s.2-s.1).toNat) ⟨Ae _,k!,k!,λi v e=>k!,λi v e b=>k!⟩ (λs y=>?_);have⟨o,G,C,D_,E_⟩:=y;unfold NQ;rw[ABS o];refine AC (λa=>?_) (λa=>Ao.done ?_)
  ·refine AA (AI o! k!) λF g=>AA Wn λH k=>?_;rw[(AY (x:=(s.1+s.2)/2+1))];refine AA (P:=λ(q:V×V)=>(0<=q.1/\q.1<=q.2/\q.2<=(θ l:V)/\(∀(i:U)(v:V),(i:V)<q.1->l[i]?=δ v->v<p)/\∀(i:U)(v:V),q.2<=(i:V)->l[i]?=δ v->p<=v)/\(q.2-q.1).toNat<(s.2-s.1).toNat) ?_ λI m=>Ao.next m.1 m.2
   refine AK (λB=>AB ⟨⟨k!,k!,C,λi v e b=>?_,E_⟩,k!⟩) (λz=>AB ⟨⟨o,o!,o!,D_,λi v e b=>?_⟩,o!⟩);have f:=k.1 B;have:=h.le (i:=i) (j:=((s.1+s.2)/2).toNat) o! b g.1;omega;have f:¬F<p:=λq=>by have:=k.2 q;rw[z]at this;cases this
   have:=h.le (i:=((s.1+s.2)/2).toNat) (j:=i) o! g.1 b;omega
  grind
 have⟨a1,a2,a3,a4⟩:=u;refine AC (λa=>?_) (λa=>AB ⟨a1,a2,a3,a4,λc=>(by cases c),λ_ v b=>?_⟩);simp[O]at a;refine AA (AI a1 a) λK w=>AP (λd=>AB ⟨a1,a2,a3,a4,λ_=>by dsimp only;rw[w.1,d],λc=>(by cases c)⟩) (λA=>AA (AI a1 a) λL _=>AK (λc=>?_) (λ_=>AB ⟨a1,a2,a3,a4,λc=>(by cases c),λ_ v b=>?_⟩));grind;grind;grind
def OK(a:AJ)(p lo hi:V):Prop:= ∃i:U,a.1[i]? =some lo/\hi=qu a i/\lo<=p/\p<=hi
def xf{a}{p:V}(h:VB a)(z:0<=p/\p<a.2.1):∃b d,Fv (a,p)=Y (b,d,E)/\OK a p b d:=by
 have key:Ao (Fv (a,p)) λr=>r.2.2=E/\OK a p r.1 r.2.1:=by
  unfold Fv;dsimp only;refine AA (Fg h) λG m=>?_;rw[m,By,A!,F! o!,A!,F! o!,A!];refine AA (AEH h.1) λc n=>?_;have⟨D_,E_,v,F,k,x⟩:=n;have q:=h.1.2.2.2.1;refine AA (P:=λl:V=>∃(i:U)(b:V),l=i/\a.1[i]?=Y b/\b<=p/\∀w,a.1[i+1]?=Y w->p<w) ?_ λl s=>?_;refine AO (λt=>AB ?_) (λf=>AB ?_);have e:0<c.1:=by refine UD λy=>?_;have:=x t 0 (by rw[show c.1.toNat=0 by omega];exact h.1.2.2.2.2.1);omega
  rw[AY];refine⟨c.1.toNat-1,a.1[c.1.toNat-1],o!,Au o!,?_,λw g=>?_⟩;have:=v (c.1.toNat-1) _ o! (Au o!);omega;grind;refine⟨c.1.toNat,p,o!,k f,Ae _,λw g=>?_⟩;exact h.1.lt 0 c.1.toNat p w (k f) g;obtain⟨i,b,rfl,j,u,A⟩:=s;rw[zI h.1 j,AD];refine AB ⟨rfl,i,j,rfl,u,?_⟩;grind[qu]
 have⟨⟨b,d,o⟩,k1,B,C⟩:=key;grind
def OK.uniq{a b:AJ}{p l1 l2 f g}(h:BD a.2.1 a.1)(d:b.1=a.1)(e:b.2.1=a.2.1)(m:OK a p l1 f)(n:OK b p l2 g):l1=l2:=by
 obtain⟨i,s,t,u,v⟩:=m;obtain⟨j,w,z,A,B⟩:=n;have o:qu b j=qu a j:=by unfold qu;rw[d,e]
 have key:∀{i j:U}{x y:V},a.1[i]?=Y x->a.1[j]?=Y y->i<j->qu a i<y:=λ{i j x y} q c k=>by have r:=Cv c;have l:a.1[i+1]?=Y (a.1[i+1]' o!):=Au o!;have:=h.le (by omega:i+1<=j) l c;unfold qu;grind
 grind
def sh(P:V->Prop)(j fl:V):Prop:=0<=fl/\fl<=j/\(∀n,fl<n->n<=j->P n)/\(fl=0\/ ¬P fl)
def sh.uniq{P Q:V->Prop}{j r s}(h:∀n,P n↔Q n)(hr:sh P j r)(a:sh Q j s):r=s:=by obtain⟨b,c,d,e⟩:=hr;obtain⟨f,g,i,k⟩:=a;grind
structure O2(L:List EN)(l:Aa):Prop where
 vl:Dg l
 sorted:L.Pairwise λx y=>x.1<y.1
 tail:∀e,e∈l.2.1↔e∈L/\l.1<=e.1/\e.1<=l.1+l.2.1.length-1
 len:L.length<=4096
def AIe{B}{L}{a}{l}{p i j:V}(o:CP B)(C:B≤16777216)(u:j-i≤B)(s:0≤i)(E:i≤j)(D:j≤1099511627776)(h:AR L a)(v:O2 L l)(x:0≤p∧p<a.2.1):
  ∃n s fl,OK a p n s/\sh (bf a l n) j fl/\Ql (a,l,p,i,j)=Y (τ (fl<=i))/\Ao (HZ (a,l,p,i,j)) λr=>(fl>i/\r=([],42))\/(fl<=i/\((Yk i (L.filter (HW p i j))/\r=(L.filter (HW p i j),0))\/(¬Yk i (L.filter (HW p i j))/\r=([],13)))):=by
 obtain⟨n,t,w,m⟩:=xf h.vb x;obtain⟨k,k1,F,G,H⟩:=id m;obtain⟨fl,y,A,z⟩:=AId o C u s E D h.vb h.ds v.vl x w rfl v.sorted v.tail (λe q=>by
  obtain⟨f,_,_,_,g,_⟩:=h.mem q;exact g) h.dis (λe q d=>by
  obtain⟨f,_,g,_⟩:=h.mem q;have c:e.1.2.2.1=n:=d;have b:=g.2.2.2;rw[c]at b;have:=b.uniq h.vb.1 ⟨k,k1,F⟩;exact⟨G,o!⟩)
 exact⟨n,t,fl,m,y,A,z⟩
def Dg.sorted{l}(h:Dg l):l.2.1.Pairwise λx y=>x.1<y.1:=by have⟨l1,l2,a,b,c,d⟩:=h;rw[EI];grind
def Xj{l}(h:Dg l):O2 l.2.1 l:=⟨h,h.sorted,λe=>⟨λa=>⟨a,by have⟨k,b⟩:=Ed.1 a;have:=(h.2.2.2.2.2 k e b).1;have:=Cv b;omega⟩,λa=>a.1⟩,h.2.2.1⟩
def AJy{l}{f:V}(h:Dg l)(n:l.2.2=l.1+W l.2.1-1)(i:l.1<=f)(j:f<=l.2.2+1)(m:f<=1099511627776):Ao (Kq (l,f)) λr=>O2 l.2.1 r.1/\r.1.1=f/\r.1.2.2=l.2.2:=by
 have o:Ao (Kq (l,f)) λr=>r.2=0->r.1=(f,l.2.1.drop (f-l.1).toNat,l.2.2):=by have⟨a1,a2,a3,a4,a5,a6⟩:=id h;refine AA Bb λv t=>AO (y? λa=>O! (show(26:V)=0 from a) g!) (λ_=>?_);refine AC (y? λa=>O! (show(1:V)=0 from a) g!) (λ_=>?_);refine AC (y? λa=>O! (show(1:V)=0 from a) g!) (λ_=>?_);refine AC (y? λa=>O! (show(1:V)=0 from a) g!) (λ_=>?_);refine AC (y? λa=>O! (show(15:V)=0 from a) g!) (λ_=>?_);grind[AY,AA,BX,Ac,AB,List.take_of_length_le]
 refine((jv (x:=(l,f)) h n i j m).and o).mono λr hr=>?_;have⟨⟨c,q,s⟩,d⟩:=hr;refine⟨⟨q,h.sorted,λe=>?_,h.2.2.1⟩,s,by rw[(d c)]⟩;rw[(d c)];have⟨l1,l2,u,w,y,p⟩:=h;rw[Ed,Ed];constructor;grind;rintro⟨⟨k,b⟩,g,_⟩;have:=(p _ e b).1;exact⟨k-(f-l.1).toNat,by rw[KD,show(f-l.1).toNat+(k-(f-l.1).toNat)=k by omega];exact b⟩
def xo{p i j}{e}:HW p i j e=(aT p e&&(τ (e.1>i)&&τ (e.1<=j))):=by unfold HW aT hZ;grind
def Yk.snoc{i}{s}{e:EN}(h:Yk i s)(m:s=[]->e.2.2.2.2.1<=i)(n:∀f,s[W s-1]?=Y f->e.2.2.2.2.1=f.1):Yk i (s++[e]):=by
 intro k g b;rcases Az k (W s)with d|d;rw[CZ d]at b;refine⟨(h k g b).1,λf a c=>(h k g b).2 f a ?_⟩;grind;have o:=Cv b;rw[AZ,Yq]at o;have l:k=W s:=o!
 subst l;have j:e=g:=k!
 subst j;refine⟨λp=>m (Eh p),λf a c=>n f ?_⟩;rwa[CZ o!]at c
def wV{n p i j:V}{L}(F:LI n L)(G:L.Pairwise λx y=>x.1<y.1)(H:0≤i):∀m:U,m≤W L→
  Yk i ((L.take m).filter (HW p i j))/\((∀f∈L.take m,f.1<=j)->((L.take m).filter (HW p i j)=[]->BY (L.take m) p<=i)/\∀f,((L.take m).filter (HW p i j))[((L.take m).filter (HW p i j)).length-1]?=Y f->BY (L.take m) p=f.1)
 |0,_=>by rw[List.take_zero];exact⟨λk e E_=>by simp at E_,λ_=>⟨λ_=>H,λf a=>by simp at a⟩⟩
 |m+1,hm=>by
  obtain⟨C,D_⟩:=wV (j:=j) F G H m o!;have d:m<W L:=o!
  have B:L.take (m+1)=L.take m++[L[m]]:=by rw[Cl,Au d];rfl
  have l:∀f∈L.take m,f.1<L[m].1:=λf a=>by obtain⟨k,w⟩:=Db a;have z:=Cv w;rw[BQ]at z;rw[II o!,Au o!]at w;rw[<-BW w];exact EI.1 G k m o! d o!
  have A:=F m _ (Au d);rw[B,GL];generalize I:L.take m=M at*;generalize L[m]=e at*;by_cases t:HW p i j e=E;have g:=t;rw[xo]at g;simp only[BZ,K!]at g;obtain⟨s,K,N⟩:=g;have q:e.2.2.2.2.2.2.1.1=p/\(e.2.1=1\/e.2.1=2):=by unfold aT at s;simp only[BZ,QI,J!]at s;exact⟨s.2,s.1⟩
  obtain⟨q1,q2⟩:=D_ λf a=>by have:=l f a;omega
  have b:=A.1 q.2;rw[q.1]at b;rw[wP t,mI];refine⟨C.snoc (λh=>by rw[b.1];exact q1 h) (λf a=>by rw[b.1];exact q2 f a),λ_=>⟨λh=>by simp at h,λf a=>?_⟩⟩;rw[Px,C! s];have:e=f:=by simpa using a
  rw[this];rw[wO t,mI,DT];refine⟨C,λc=>?_⟩;have E_:=c e q!;obtain⟨q1,q2⟩:=D_ λf a=>c f (F8 _ a);rw[Px];by_cases u:aT p e=E;have v:e.1<=i:=by refine UD λJ=>t ?_;rw[xo,u];simp;omega
  have o:M.filter (HW p i j)=[]:=List.filter_eq_nil_iff.2 λf a r=>by rw[xo]at r;simp only[BZ,K!]at r;have:=l f a;omega
  rw[C! u,o];exact⟨λ_=>v,λf a=>by simp at a⟩;rw[D! u];exact⟨q1,q2⟩
def wU{n p i j:V}{L}(a:LI n L)(b:L.Pairwise λx y=>x.1<y.1)(c:0<=i):Yk i (L.filter (HW p i j)):=by have:=(wV (p:=p) (j:=j) a b c (W L) (Al _)).1;grind
def td{B:U}{n:V}{L:R EN}{a:AJ}{l:Aa}{p i j:V}(d:CP B)(q:B≤16777216)(t:LI n L)(e:j-i≤B)(b:0≤i)(u:i≤j)(s:j≤1099511627776)(h:AR L a)(f:O2 L l)(v:0≤p∧p<a.2.1):
  ∃c b fl,OK a p c b/\sh (bf a l c) j fl/\Ql (a,(l,(p,(i,j))))=some (decide (fl<=i))/\((fl>i/\HZ (a,(l,(p,(i,j))))=some ([],42))\/(fl<=i/\HZ (a,(l,(p,(i,j))))=some (L.filter (HW p i j),0))):=by
 obtain⟨c,o,fl,w,k,m,r,g,x⟩:=AIe d q e b u s h f v;refine⟨c,o,fl,w,k,m,?_⟩;rcases x with⟨q1,q2⟩|⟨q1,⟨q2,q3⟩|⟨q2,q3⟩⟩;exact .inl ⟨q1,by rw[g,q2]⟩;exact .inr ⟨q1,by rw[g,q3]⟩;exact absurd (wU t f.sorted b) q2
def ADf{x:AQ×Dw}(a:PG x.2)(c:x.2.1=x.1.1)(b:Gy x.1.2.2 x.2.2.1=Y x.2.2.2.1):VO x=Y ((x.1.1,x.1.2.1,Xe x.1.2.2 x.2.2.1 x.2.2.2.2),0):=by grind[Ao,VO,Xe,AA,eS,AO,AL,BJ,AB]
def AHb{x}{e}(h:Hg x)(d:Mc e)(j:e.2.1=1\/e.2.1=2)(b:e.2.2.2.2.2.2.1.1=x.1)(f:e.2.2.2.2.1=x.2.1)(c:Gy x.2.2 e.2.2.2.2.2.2.1.2.1=Y e.2.2.2.2.2.2.1.2.2.1):Vh (x,e)=Y (upd x e,0):=by
 suffices g:Ao (Vh (x,e)) λr=>r=(upd x e,0) by obtain⟨r,hr,rfl⟩:=g;exact hr
 have a:PG e.2.2.2.2.2.2.1:=by grind[Mc,Vw]
 unfold Vh;refine AA Kk λv i=>AO (λa=>O! (i d) (by simp[a])) (λ_=>?_);rw[nz,(by grind[hZ]:hZ e=E),mZ h,AD,By,A!];refine BJ (AL (O! rfl ·) (λ_=>AL (O! b ·) (λ_=>AL (O! f ·) (λ_=>?_))));rw[ADf a b c];exact BJ (AL (O! rfl ·) (y? rfl))
def yg{x:AQ}{es:R AE}(p:OKs x es)(c:θ es<=4096):Ie (x,es)=δ (es.foldl upd x,0):=by
 suffices q:Ao (Ie (x,es)) λr=>r=(es.foldl upd x,0) by obtain⟨r,hr,rfl⟩:=q;exact hr
 generalize u:es.foldl upd x=y;refine AA (P:=λr=>∃z,r=.inr (y,z)) ?_ λr hr=>?_
 ·refine CQ (λ(s:V×AQ×AQ)=>∃A B,es=A++B/\s.1=θ A/\OKs s.2.1 B/\B.foldl upd s.2.1=y) (λ(s:V×AQ×AQ)=>((θ es:V)-s.1).toNat) ⟨[],es,rfl,rfl,p,u⟩ ?_;rintro⟨i,x,z⟩ ⟨A,B,rfl,f,g,b⟩;dsimp only at f g b;subst f;unfold aa;dsimp[O];rw[AZ]at c;refine AC (λa=>?_) (λa=>Ao.done ?_)
  ·obtain _|⟨e,B⟩:=B;simp at a;have t:ix (A++e::B) (θ A:V)=δ e:=by unfold ix;rw[C! o!,CO,Cn (Al _),G2];rfl
   have⟨⟨h,d,j,k,l,m⟩,n⟩:=g;have o:e.2.2.2.2.1<e.1:=d.2.2.2.2.2.1;rw[t,AD,F! o!,A!,AHb h d j k l m,AD,AY (x:=(θ A:V)+1)];refine AL (λa=>O! rfl a) (λ_=>Ao.next ⟨A++[e],B,q!,q!,n,b⟩ d!)
  obtain _|⟨e,B⟩:=B;exact⟨z,by rw[<-b];rfl⟩;simp at a;omega
 grind[A0,AB]
def tT{L}(h:Gv L){p}{a b:U}(g:a<=b):L.filter (HW p a b)=((L.take b).drop a).filter (aT p):=by
 have j:∀(i:U)(e:AE),L[i]?=Y e->HW p a b e=(aT p e&&(τ (a<=i)&&τ (i<b))):=λi e d=>by have:=(h i e d).1;rw[xo,show τ (e.1>(a:V))=τ (a<=i)from decide_eq_decide.2 o!,show τ (e.1<=(b:V))=τ (i<b)from decide_eq_decide.2 o!]
 conv=>lhs;rw[<-DG b L,vZ L g]
 rw[GL,GL];rw[(List.filter_eq_nil_iff (l:=L.take a)).2 λe d=>by obtain⟨i,c⟩:=Db d;have f:=Cv c;rw[BQ]at f;rw[II o!]at c;rw[j i e c,F! (show¬a<=i by omega)];simp];rw[(List.filter_eq_nil_iff (l:=L.drop b)).2 λe d=>by obtain⟨i,c⟩:=Db d;rw[KD]at c;rw[j _ e c,F! (show¬b+i<b by omega)];simp];rw[B7,DT];refine List.filter_congr λe d=>?_;obtain⟨i,c⟩:=Db d;rw[KD]at c;have f:=Cv c;rw[BQ]at f;rw[II o!]at c;rw[j _ e c,G! (show a<=a+i by omega),G! (show a+i<b by omega)];simp
def Cov(a:AJ)(l:Aa)(k:U):Prop:=∀m:V,1<=m->m<=k->∀p lo hi,OK a p lo hi->bf a l lo m
def AFd{a}{l}(h:VB a)(b:Dg l):Qs (a,l)=Y 0:=by obtain⟨v,c,rfl⟩:=Fg h;obtain⟨w,d,rfl⟩:=G8 b;grind[Qs,p?,Bool.not_true]
def Xb(x:AQ):C0:=(x.1,(x.2.1,eF x))
def img(L:R EN)(n:U):R C0:=(List.range n).map λ(i:U)=>Xb (st L i)
abbrev c!(s:V)(n:U)(L:R EN)(k:U):=(s,(n:V),img (L.take k) n)
theorem I4(L:S EN)(n:U):(img L n).length=n:=by grind[img,List.length_map,List.length_range]
theorem qx{L}{n i:U}(h:i<n):(img L n)[i]?=Y (Xb (st L i)):=by grind[img,List.getElem?_range]
theorem cX{L}{n:U}{i:V}(a:0<=i)(h:i<n):ix (img L n) i=Y (Xb (st L i)):=by have⟨v,c,b,_⟩:=AI (l:=img L n) a (by rw[I4];exact h);grind[qx,Int.toNat_of_nonneg,Option.some.inj]
def zo(L:S EN)(n:U):img L (n+1)=img L n++[Xb (st L n)]:=by grind[img,List.range_succ]
theorem ACs{L}(h:Gv L){p}{k}(a:(st (L.take k) p).2.1=0):st (L.take k) p=(p,0,GG.all (X,[])):=by rw[Jf]at a;exact(mg h (j:=k) (k:=0) (by rw[a];rfl)).trans rfl
def uo{L}(h:Gv L)(a:W L<=1099511627776){p:V}(b:0<=p/\p<64){k}:Gb (eF (st (L.take k) p),p)=Y (st (L.take k) p,0):=by grind[AFU,XY,ACs,Se]
theorem po{L:R EN}(h:Gv L)(l:θ L<=1099511627776){s:V}{n k:U}(d:1<=s/\s<=1073741824)(hn:1<=n/\n<=64):LG (s,(n:V),img (L.take k) n)=δ ζ:=by
 suffices d:Ao (LG (s,(n:V),img (L.take k) n)) λr=>r=ζ by obtain⟨r,hr,rfl⟩:=d;exact hr
 unfold LG;dsimp only;have c:O (img (L.take k) n)=n:=by grind[I4]
 rw[F! o!,A!,F! o!,A!,F! o!,A!,F! o!,A!,c,F! o!,A!];refine AA (P:=λr=>r=.inr ()) ?_ λr hr=>by rw[hr];exact A0 (AB rfl)
 refine CQ (λ(s:V)=>0<=s/\s<=n) (λs=>((n:V)-s).toNat) ⟨Ae _,o!⟩ (λi j=>?_);have⟨e,o⟩:=j;unfold eT;dsimp only;rw[c];refine AC (λa=>?_) (λ_=>Ao.done rfl);have f:Ao (δ (Step.next (wi (i+1))):Option (Step V (N⊕Unit))) (MX (λ(s:V)=>0<=s/\s<=n) (λs=>((n:V)-s).toNat) ((n:V)-i).toNat λr=>r=.inr ()):=by grind[AY,Ao.next]
 have g:(Xb (st (L.take k) i)).1=i:=Se _ _;rw[cX e a,AD,g,F! o!,A!];have b:Gb ((Xb (st (L.take k) i)).2.2,i)=δ (st (L.take k) i,0):=uo h l ⟨e,o!⟩;refine AC (λm=>?_) (λ_=>?_);rw[AY,cX o! o!,AD,show(Xb (st (L.take k) (i-1))).1=i-1 from Se _ _,F! o!,A!,b,AD];exact AL (λa=>O! rfl a) (λ_=>AL (λa=>O! rfl a) (λ_=>f));rw[b,AD];exact AL (λa=>O! rfl a) (λ_=>AL (λa=>O! rfl a) (λ_=>f))
def AH1{L:R EN}(h:Gv L)(a:L.length<=1099511627776){s:V}{n k:U}(b:1<=s/\s<=1073741824)(hn:1<=n/\n<=64):W5 (s,((n:V),img (L.take k) n))=some true:=by unfold W5;rw[po h a b hn,AD,cond_true];dsimp only;rw[(by grind[I4]:O (img (L.take k) n)=n),beq_self_eq_true]
def AFI{m:U}(h:m<=64):Jz (1,(m:V))=some (1,((m:V),img [] m)):=by
 suffices d:Ao (Jz (1,(m:V))) λr=>r=(1,((m:V),img [] m)) by obtain⟨r,hr,rfl⟩:=d;exact hr
 unfold Jz;refine AA (P:=λr=>r=(img [] m,(1,(m:V)))) ?_ λr hr=>AB (by rw[hr]);refine CQ (λ(t:V×R C0×V×V)=>0<=t.1/\t.1<=m/\t.2=(img [] t.1.toNat,(1,(m:V)))) (λt=>((m:V)-t.1).toNat) ⟨Ae _,d!,rfl⟩ ?_;rintro⟨i,t⟩ ⟨b,f,c⟩;dsimp only at b f c;subst c;unfold UV;dsimp only;refine AC (λa=>?_) (λa=>Ao.done ?_)
 ·rw[tG,AD];refine AA (Ac (by rw[I4];simp;omega)) λv e=>?_;rw[AY];refine Ao.next ⟨d!,d!,?_⟩ d!
  dsimp only;rw[e.1,show(i+1).toNat=i.toNat+1 by omega,zo,Ig b];rfl
 rw[show i.toNat=m by omega]
def Gv.nil:Gv []:=λi e h=>by simp at h
def AEm{L:S EN}{a}{l:Aa}{k:U}(b:l.1=1)(d:k<=W l.2.1):Cov a l k:=λm f g p e c _=>.inl o!
def AEf{l:S V}(h:∀c∈l,0≤c∧c<256):Ao (z (τ ((O l)>500)) (σ (T6 l 0 500) λd=>
    Y d)<|Y l) λr=>CX (r,0):=by
 refine AC (λa=>?_) (λa=>AB ⟨Ae _,by simp only[O]at a;dsimp only;omega,h⟩);simp only[O]at a;refine AA (BX) λd e=>AB ⟨Ae _,d!,λc b=>?_⟩;dsimp only at b;rw[e.1]at b;exact h c (Q4 (F9 b))
def xJ(x:AQ):AJW x x=E:=by
 unfold AJW;simp only[L!,Ya];generalize List.finRange 16=l;induction l with
 |nil=>rfl
 |cons i l a=>rw[List.foldr_cons];exact a
theorem cp{a:Type}{l r:R a}(h:r.Perm l):Nat.beq r.length l.length=true:=by rw[h.length_eq];exact Hl _
def ABK{g v:Type}{c:g×g->Option v}{n:v->Bool}(y: ∀p,Ao (c p) λ_=>True){l:List g}{b:Nat}(w:b<=l.length)(K:l.length<=16777000):Ao (ABJ c n l (0,(b:V))) λr=>r.Perm l:=by
 unfold ABJ;refine AA (P:=λr=>r.Perm l) ?_ λr hr=>AB hr;refine CQ (λ(s:V×List g)=>1<=s.1/\s.1<=b+1/\s.2.Perm l) (λs=>((b:V)+1-s.1).toNat) ⟨by show 1<=wi (0+1);rw[AY];decide,by show wi (0+1)<=_;rw[AY];omega,mD _⟩ ?_;rintro⟨M,N⟩ ⟨B,C,h⟩;dsimp only at B C h;refine AC (λw=>?_) (λ_=>Ao.done h);have q:=h.length_eq;refine AA (P:=λr=>r.Perm l) ?_ λr hr=>?_
 ·refine CQ (λ(t:V×List g)=>0<=t.1/\t.1<l.length/\t.2.Perm l) (λt=>t.1.toNat) ⟨d!,d!,h⟩ ?_;rintro⟨e,j⟩ ⟨d,D_,i⟩;dsimp only at d D_ i;have O:=i.length_eq;unfold AE5;dsimp only;refine AA (P:=λr:Unit ⊕ Unit=>r= .inr ()->e>0) ?_ λr hr=>?_;refine AC (λa=>?_) (λ_=>AB λA=>by cases A);rw[AY (x:=e-1)];refine AA (AI d) λQ _=>AA (AI d) λR _=>AA (AI) λS _=>AA (AI) λT _=>AA (y _) λU _=>AK (λ_=>AB λ_=>a) (λ_=>AB λ_=>a)
  ·refine BG (λu _=>Ao.done i) (λu z=>?_);have a:=hr (by cases u;exact z);rw[AY (x:=e-1)];refine AA (AI) λE_ _=>AA (AI) λf k=>AA (AI d) λF _=>AA (AI d) λo m=>AA (AI d) λG _=>AA (AI d) λH _=>?_;have L:(ER j e f).length=j.length:=pj;refine AA (AI) λI _=>AA (AI) λJ _=>Ao.next ⟨d!,d!,?_⟩ d!
   dsimp only;unfold ER;rw[(by have:=k.1;rw[Au o!]at this;exact(BW this).symm:f=j[(e-1).toNat]),(by have:=m.1;rw[Au o!]at this;exact(BW this).symm:o=j[e.toNat])];exact(List.set_set_perm o! o!).trans i
 ·grind[AY,Ao.next]
def AIP{a:Type}{f:S a->V×V->Z (S a)}{l:S a}(d:Ao (f l (0,(W l:V))) λr=>r.Perm l)(h:W l<=12)(n:V):Ao (sy (λ(_:S a×(V×(V×V))->Z (S a)) p=>pdG f p.1 p.2) (l,0,O l,n)) λr=>r.Perm l:=by
 have step:Ao (pdG f l (0,O l,n)) λr=>r.Perm l:=by unfold pdG;refine AA (P:=λr=>r.Perm l) ?_ λr hr=>AB hr;rw[HV];unfold AJV;dsimp[O];rw[AY,G! o!,B!];have⟨r,hr,e⟩:=d;grind[p?,cp]
 have⟨r,hr,e⟩:=step;have⟨s,c⟩:=iG (f:=λ(_:S a×(V×(V×V))->Z (S a)) p=>pdG f p.1 p.2) (x:=(l,0,O l,n)) (n:=1) hr;have⟨N,b⟩:=eL c;refine⟨s,c,?_⟩;cases N with
 |zero=>cases b
 |succ N=>exact step.get b
def AIT{a:Type}{f:S a->V×(V×V)->Z (S a)}{l:S a}(b:∀n,Ao (f l (0,O l,n)) λr=>r.Perm l)(h:W l<=12):Ao (soG f l) λr=>r.Perm l:=by unfold soG Tg;obtain⟨n,g,-,-⟩:=AB6 (x:=W l) o!;grind[Xa,p?,AA,cp,AB]
def AHu{l:S V}(h:W l<=12):Ao (MW l ()) λr=>r.Perm l:=AIT (λn=>AIP (ABK (λp=>Wn.mono λ_ _=>P!) (Al _) o!) h n) h
def AK5(p:Aq×Aq):Ao (Qk p) λ_=>M:=by grind[Qk,AA,Sl,AB]
def AK6(p:Be×Be):Ao (Qj p) λ_=>M:=by grind[Qj,AA,Sl,AB]
def AHv{l:R Aq}(h:l.length<=12):Ao (Gt l ()) λr=>r.Perm l:=AIT (λn=>AIP (ABK AK5 (Al _) o!) h n) h
def AHx{l:R Be}(h:l.length<=12):Ao (EZ l ()) λr=>r.Perm l:=by
 unfold EZ;refine AA (P:=λr=>r.Perm l) ?_ λr hr=>by rw[cp hr,cond_true];exact AB hr
 unfold Jb;rw[HV];unfold Ma;dsimp[O];rw[decide_eq_false o!,cond_false];dsimp[Option.bind];have⟨r,hr,b⟩:=ABK (n:=λa=>decide (a<0)) AK6 (Al l.length) o!;grind[Ez,cp,HV,Mb,AB]
def yX{a:AJ}{r:AS}(h:BD a.2.1 a.1):Ao (Fb (a,r)) λk=>0<=k->a.1[k.toNat]? =some r.2.2.1:=by
 have b:=h.2.2.2.1;refine AA (P:=λq=> ∀k:V,q= .inl k->a.1[k.toNat]? =some r.2.2.1) ?_ λq f=>?_
 ·refine CQ (λ(s:V)=>0<=s/\s<=a.1.length) (λs=>((a.1.length:V)-s).toNat) ⟨Ae _,o!⟩ (λs c=>?_);have⟨g,i⟩:=c;unfold Hf;dsimp[O];refine AC (λe=>?_) (λ_=>Ao.done λk d=>by cases d);have hr:=od h (Au o!:a.1[s.toNat]? =some (a.1[s.toNat]' o!));grind[Int.toNat_of_nonneg,AY,AP,Ao.done,Ao.next]
 grind[BG,AB]
def Good.refE{a}{f}{r}(h:Good a f r)(c:BD a.2.1 a.1):∃k:U,DQ (a,f)=Y (r,(k:V))/\a.1[k]?=Y r.2.2.1:=by have⟨e,g,i,b⟩:=h;have⟨k,k1,d,j⟩:=(sW (r:=r) c).and (yX (r:=r) c);refine⟨ο k,?_,j (d.2 b)⟩;unfold DQ;rw[e,g,H!,A!,yi i,AD,show(((r,(0:V)):AS×V).2 !=0)=X from rfl,A!,k1,AD,Ig (d.2 b)]
def Beh(a b:NE):Prop:=a.1.2.1<b.1.1
def Lt(a b:NE):Prop:=a.1.2.2.1<b.1.2.2.1\/(a.1.2.2.1=b.1.2.2.1/\Beh a b)
def ACo{L}{x}(h:AR L x)(e:NE):e∈DU x↔∃f∈x.2.2.1,Good x f e.1/\e.2=f.2.1:=⟨λd=>by have⟨f,a,b,c,_⟩:=h.mem d;exact⟨f,a,b,c⟩,λ⟨f,a,b,c⟩=>by have:=QO h.vb.1 a b;rw[<-c]at this;exact this⟩
def rT{L}{x}(h:AR L x){e:NE}(a:e∈DU x):1<=e.1.1/\e.1.1<=e.1.2.1:=by have⟨f,_,g,_⟩:=h.mem a;have:=g.2.2.1.1;exact⟨this.1,this.2.1⟩
def AC5{s2:R AS×R V×V}{v4:AS×V}(h:s2.1.length<=16777215):Ao (Ag (HS s2 v4) (O s2.1)) λr=>0<=r/\r<=s2.1.length/\(∀e∈s2.1.drop r.toNat,v4.1.1<=e.1)/\(0<r-> ∀e,s2.1[r.toNat-1]? =some e->e.1<=v4.1.1):=by refine CQ (λ(s:V)=>0<=s/\s<=s2.1.length/\ ∀e∈s2.1.drop s.toNat,v4.1.1<=e.1) (λ(s:V)=>s.toNat) ⟨by unfold O;omega,by unfold O;omega,λe a=>by simp[O]at a⟩ (λs i=>?_);have⟨f,g,b⟩:=i;unfold HS;refine AC (λj=>?_) (λj=>Ao.done ⟨f,g,b,λl=>absurd l o!⟩);rw[AY];refine AA (AI) λm c=>AC (λk=>Ao.next ⟨o!,o!,λe a=>?_⟩ o!) (λk=>Ao.done ⟨f,g,b,λ_ e a=>?_⟩);rw[show s.toNat=(s-1).toNat+1 by omega]at b;have d:=Cv c.1;rw[OO d]at a;rcases Av.1 a with q|q;have:=c.1;rw[Au d]at this;grind[Option.some.inj];exact b e q;have:=c.1;rw[show(s-1).toNat=s.toNat-1 by omega,a]at this;rw[BW this];omega
def W2(x:AJ)(k:U)(s:S AS×S V×V):Prop:=0<=s.2.2/\s.2.2<=W x.2.2.1/\∃M:S NE,s.1=M.map (·.1)/\s.2.1=M.map (·.2)/\W M<=s.2.2/\M.Pairwise Beh/\∀e,e∈M↔(∃f∈x.2.2.1.take s.2.2.toNat,Good x f e.1/\e.2=f.2.1)/\x.1[k]?=Y e.1.2.2.1
def AC4{x}{L}{s1:Int×Ψ AS×Ψ Int×Ψ Bool}(h:AR L x){k:Nat}(hp:s1.1=k):Ao (Ag (Ex x s1) ([],[],0)) λr=>∃M:Ψ NE,r=(M.map (·.1),M.map (·.2))/\θ M<=256/\M.Pairwise Beh/\∀e,e∈M↔e∈DU x/\x.1[k]?=Y e.1.2.2.1:=by
 obtain⟨⟨b1,b2,b3,b4,b5,b6,b7⟩,a1,a2,a3,a4,a5,a6⟩:=h.vb;refine CQ (W2 x k) (λs=>((θ x.2.2.1:Int)-s.2.2).toNat) ⟨Ae _,d!,[],rfl,rfl,q!,List.Pairwise.nil,λe=>q!⟩ ?_;rintro⟨A,B,i⟩ ⟨i1,i2,M,eA,eB,i4,W,X_⟩;dsimp only at i1 i2 eA eB i4 X_;subst eA eB;unfold Ex;dsimp only[len];rw[AY (x:=i+1)];refine AC (λhc=>?_) (λhc=>k? ⟨M,rfl,o!,W,λe=>by rw[X_ e,ACo h,BN o!]⟩);refine AA (AI i1 hc) λZ P=>?_;have et:x.2.2.1.take (i+1).toNat=x.2.2.1.take i.toNat++[Z]:=by rw[show(i+1).toNat=i.toNat+1 by omega,Cl,P.1];rfl
 have C:(∀e:NE,Good x Z e.1->x.1[k]? ≠Y e.1.2.2.1)->Ao (Y (Step.next (M.map (·.1),M.map (·.2),i+1)):Ω (Step (Ψ AS×Ψ Int×Int) (Ψ AS×Ψ Int))) (MX (W2 x k) (λs=>((θ x.2.2.1:Int)-s.2.2).toNat) ((θ x.2.2.1:Int)-i).toNat λr=>∃M:Ψ NE,r=(M.map (·.1),M.map (·.2))/\θ M<=256/\M.Pairwise Beh/\∀e,e∈M↔e∈DU x/\x.1[k]?=Y e.1.2.2.1):=λhn=>by
  refine y! ⟨d!,d!,M,rfl,rfl,d!,W,λe=>?_⟩ d!
  dsimp only;rw[X_ e,et];constructor;rintro⟨⟨f,o,l⟩,m⟩;exact⟨⟨f,Ak.2 (.inl o),l⟩,m⟩;rintro⟨⟨f,o,l⟩,m⟩;rcases Ak.1 o with q|q;exact⟨⟨f,q,l⟩,m⟩;rw[A9.1 q]at l;exact O! m (hn e l.1)
 rcases h.files Z P.2 with u|⟨r,D_,_⟩;obtain⟨r,hr⟩:=u.ref (a:=x);rw[hr,AD];dsimp only;rw[show((-1:Int) !=s1.1)=E by rw[hp];exact bne_iff_ne.2 o!,B!];exact C λe v=>O! v.2.1 (u.2 _ v.2.2.1.wr);obtain⟨kk,hr,F⟩:=D_.refE h.vb.1;rw[hr,AD];dsimp only;rw[hp];refine AL (λa9=>C λe v hk=>a9 ?_) (λT=>?_);have e1:=uW v.2.2.1 D_.2.2.1 (v.2.1.symm.trans D_.2.1);rw[e1]at hk;rw[h.vb.1.inj F hk];have T:kk=k:=o!
 subst T;refine AA (AC5 (s2:=(M.map (·.1),M.map (·.2),i)) (v4:=(r,(kk:Int))) (by dsimp only;rw[Ba];omega)) λc h7=>?_;obtain⟨Y_,g2,g3,g4⟩:=h7;dsimp only at g2 g3 g4;rw[Ba]at g2;have m1:(M.map (·.1)).length=θ M:=Ba _;have m2:(M.map (·.2)).length=θ M:=Ba _;refine AA (BX (Ae _) Y_) λv8 h8=>AA (BX Y_) λv9 h9=>?_;have l8:=h8.2;have l9:=h9.2;refine AA (Ac w!) λca H=>?_;have bb:=H.2.1;simp only[Bj]at bb;refine AA (Ac w!) λcb I=>?_;have bl:=I.2.1;simp only[Bj,Bh]at bl;refine AA (Ac o!) λbz ax=>AA (BX (Ae _) Y_) λbG J=>?_;have b9:=J.2;refine AA (AI i1 hc) λd a0=>?_;have ao:d=Z:=by have:=a0.1;rw[P.1]at this;exact(BW this).symm
 subst ao;refine AA (BX Y_) λbN K=>?_;have b':=K.2;refine AA (Ac w!) λcc N=>?_;have bm:=N.2.1;simp only[Bj]at bm;refine AA (Ac w!) λcd O=>?_;have bt:=O.2.1;simp only[Bj,Bh]at bt;refine AA (Ac o!) λb0 a7=>?_;have z:∀{β:Type}g(a b:Ψ β),a=List.take (c.toNat-ο 0) (List.drop (ο 0) (M.map g))->b=List.take (((M.map g).length:Int).toNat-c.toNat) (List.drop c.toNat (M.map g))->a=(M.take c.toNat).map g/\b=(M.drop c.toNat).map g:=λg a b t u=>by refine⟨?_,?_⟩;rw[t,List.map_take];rfl;rw[u,nZ];exact BN (by rw[C2];omega)
 obtain⟨e8,e9⟩:=z (·.1) v8 v9 h8.1 h9.1;obtain⟨al,ap⟩:=z (·.2) bG bN J.1 K.1;have ad:bz=(M.take c.toNat++(r,d.2.1)::M.drop c.toNat).map (·.1):=by rw[ax.1,I.1,H.1,e8,e9];simp
 have ar:b0=(M.take c.toNat++(r,d.2.1)::M.drop c.toNat).map (·.2):=by rw[a7.1,O.1,N.1,al,ap];simp
 have y:=QO h.vb.1 P.2 D_;have U:∀a∈M,a∈DU x/\a.1.2.2.1=r.2.2.1/\a≠(r,d.2.1):=λa t=>by
  obtain⟨⟨f,o,l,m⟩,G⟩:=(X_ a).1 t;refine⟨(ACo h a).2 ⟨f,F9 o,l,m⟩,?_,λv=>?_⟩;rw[F]at G;exact(BW G).symm;obtain⟨j,p⟩:=Db o;have E_:=Cv p;rw[BQ]at E_;rw[II o!,Au o!]at p;have Q:=P.1;rw[Au o!]at Q;have:=EI.1 (we h.vb) j i.toNat o! o! o!
  rw[BW p,BW Q]at this;rw[v]at m;dsimp only at m;omega
 have S:∀a∈M.take c.toNat,Beh a (r,d.2.1):=λa t=>by
  have a8:=F9 t;obtain⟨q1,q2,q3⟩:=U a a8;have ra:=rT h q1;have rr:=rT h y;obtain⟨j,p⟩:=Db t;have E_:=Cv p;rw[BQ]at E_;rw[II o!]at p;have n:M[c.toNat-1]?=Y (M[c.toNat-1]' o!):=Au o!;have V:(M[c.toNat-1]' o!).1.1<=r.1:=g4 o! _ (by rw[CT,n];rfl);have b8:a.1.1<=r.1:=by by_cases v:j=c.toNat-1;rw[v,n]at p;rw[<-BW p];exact V;have:=EI.1 W j (c.toNat-1) o! o! o!;rw[Au o!]at p;rw[BW p]at this;unfold Beh at this;omega
  rcases h.dis a q1 _ y q3 q2 with w|w;exact w;dsimp only at w rr;omega
 have R:∀b∈M.drop c.toNat,Beh (r,d.2.1) b:=λb u=>by obtain⟨q1,q2,q3⟩:=U b (Q4 u);have rb:=rT h q1;have rr:=rT h y;have V:=g3 b.1 (by rw[<-nZ];exact Tn u);rcases h.dis _ y b q1 (PM q3) q2.symm with w|w;exact w;dsimp only at w rr;omega
 rw[ad,ar];refine y! ⟨d!,d!,_,rfl,rfl,by simp[AZ,Bh,BQ,C2];omega,?_,λe=>?_⟩ d!
 rw[<-DG c.toNat M]at W;obtain⟨p1,p2,p3⟩:=List.pairwise_append.1 W;refine List.pairwise_append.2 ⟨p1,List.pairwise_cons.2 ⟨R,p2⟩,λa t b u=>?_⟩;rcases Av.1 u with q|q;rw[q];exact S a t;exact p3 a t b q;dsimp only;rw[et];have a':e∈M.take c.toNat++(r,d.2.1)::M.drop c.toNat↔e∈M\/e=(r,d.2.1):=by
  conv=>rhs;rw[<-DG c.toNat M]
  simp only[Ak,Av];constructor;rintro(q|q|q);exact .inl (.inl q);exact .inr q;exact .inl (.inr q);rintro((q|q)|q);exact .inl q;exact .inr (.inr q);exact .inr (.inl q)
 rw[a',X_ e];constructor;rintro(⟨⟨f,o,l⟩,m⟩|q);exact⟨⟨f,Ak.2 (.inl o),l⟩,m⟩;rw[q];exact⟨⟨d,Ak.2 (.inr (A9.2 rfl)),D_,rfl⟩,F⟩;rintro⟨⟨f,o,l,G⟩,m⟩;rcases Ak.1 o with q|q;exact .inl ⟨⟨f,q,l,G⟩,m⟩;rw[A9.1 q]at l G;have e1:=uW l.2.2.1 D_.2.2.1 (l.2.1.symm.trans D_.2.1);exact .inr (DZ e1 G)
def AC6{M:R NE}{t:R AS×R V×R N}(v:M.Pairwise Beh)(m: ∀e∈M,1<=e.1.1/\e.1.1<=e.1.2.1)(w:M.length<=256)(z:t.1.length<=100000)(A:t.2.1.length<=100000)(B:t.2.2.length<=100000):Ao (Ag (Ey (M.map (·.1),M.map (·.2))) (0,(0,t))) λr=>r=(t.1++M.map (·.1),(t.2.1++M.map (·.2),t.2.2++M.map λ_=>true)):=by
 have y:(M.map (·.1)).length=M.length:=Ba _;refine CQ (λ(s:V×V×R AS×R V×R N)=> ∃k:U,s.2.1=k/\k<=M.length/\s.2.2=(t.1++(M.take k).map (·.1),(t.2.1++(M.take k).map (·.2),t.2.2++(M.take k).map λ_=>true))/\((k=0/\s.1=0)\/ ∃e,0<k/\M[k-1]? =some e/\s.1=e.1.2.1)) (λs=>((M.length:V)-s.2.1).toNat) ⟨0,rfl,BU _,q!,.inl ⟨rfl,rfl⟩⟩ ?_;rintro⟨j,_,T⟩ ⟨k,rfl,k1,rfl,o⟩;dsimp only at o;unfold Ey;dsimp[O];rw[AY (x:=(k:V)+1)];refine AC (λl=>?_) (λl=>Ao.done (by rw[BN o!]));have a:k<M.length:=o!
 have h:ix (M.map (·.1)) (k:V)=some M[k].1:=by unfold ix;rw[if_pos o!,Int.toNat_natCast,List.getElem?_map,List.getElem?_eq_getElem a];rfl
 have i:ix (M.map (·.2)) (k:V)=some M[k].2:=by unfold ix;rw[if_pos o!,Int.toNat_natCast,List.getElem?_map,List.getElem?_eq_getElem a];rfl
 have n:=m _ (Gz a);have b:j<M[k].1.1:=by grind[List.pairwise_iff_getElem,List.getElem?_eq_getElem,Option.some.inj,Beh]
 have g:M.take (k+1)=M.take k++[M[k]]:=by grind[List.take_add_one,List.getElem?_eq_getElem]
 have l1:=fi k M;rw[h,AD,decide_eq_false o!,cond_false,AD,i,AD,AD];rw[show FW (M[k].1,j)=some M[k].1 by unfold FW;rw[decide_eq_true (by exact b)];rfl,Option.bind_some];refine AA (Ac w!) λp c=>AA (Ac w!) λq d=>AA (Ac w!) λu f=>?_;rw[AD];refine Ao.next ⟨k+1,rfl,a,?_,.inr ⟨M[k],o!,Au a,rfl⟩⟩ d!
 dsimp only;rw[c.1,d.1,f.1,g,decide_eq_true (by exact b)];simp only[LR,B4,Hi,A2]
def AGd{x:AJ}{L:R EN}(h:AR L x):Ao (GF x) λr=> ∃W:R NE,r=(W.map (·.1),(W.map (·.2),W.map λ_=>true))/\W.Pairwise Lt/\ ∀e,e∈W↔e∈DU x:=by
 obtain⟨⟨E_,F,G,H,I,J,K⟩,a1,a2,a3,a4,a5,a6⟩:=h.vb;unfold GF;refine AA O3 λQ A=>AO (λt=>absurd (A.2 h.vb) (by simp[t])) (λ_=>AA (P:=λr=> ∃W:R NE,r=(W.map (·.1),(W.map (·.2),W.map λ_=>true))/\W.Pairwise Lt/\ ∀e,e∈W↔e∈DU x) ?_ λr hr=>AB hr);refine CQ (λ(s:V×R AS×R V×R Bool)=> ∃(i:U) (W:R NE),s.1=i/\i<=x.1.length/\s.2=(W.map (·.1),(W.map (·.2),W.map λ_=>true))/\W.length<=256*i/\W.Pairwise Lt/\ ∀e,e∈W↔e∈DU x/\ ∃k:U,k<i/\x.1[k]? =some e.1.2.2.1) (λs=>((x.1.length:V)-s.1).toNat) ⟨0,[],rfl,BU _,rfl,q!,List.Pairwise.nil,λe=>q!⟩ ?_;rintro⟨_,_⟩ ⟨i,W,rfl,N,rfl,O,y,v⟩;unfold N1;dsimp only[len];rw[AY (x:=(i:V)+1)];refine AC (λt=>?_) (λt=>Ao.done ⟨W,rfl,y,λe=>?_⟩)
 ·refine AA (AC4 h rfl) λC l=>?_;obtain⟨M,rfl,B,z,j⟩:=l;refine AA (AC6 z (λe u=>rT h ((j e).1 u).1) B (by rw[Ba];omega) (by rw[Ba];omega) (by rw[Ba];omega)) λD_ m=>Ao.next ⟨i+1,W++M,rfl,o!,by rw[m];simp,by rw[AZ];omega,List.pairwise_append.2 ⟨y,?_,λa n b p=>?_⟩,λe=>?_⟩ d!
  refine qH ?_ z;intro a b n p o;have w:=((j a).1 n).2;rw[((j b).1 p).2]at w;exact .inr ⟨(BW w).symm,o⟩;obtain⟨_,k,k1,c⟩:=(v a).1 n;obtain⟨d,rfl⟩: ∃d,i=k+1+d:=⟨i-(k+1),o!⟩
  exact .inl (h.vb.1.lt d k _ _ c ((j b).1 p).2);rw[Ak,v e,j e];constructor;rintro(⟨q,k,k1,c⟩|⟨q1,q2⟩);exact⟨q,k,o!,c⟩;exact⟨q1,i,o!,q2⟩;rintro⟨q,k,k1,c⟩;by_cases u:k=i;rw[u]at c;exact .inr ⟨q,c⟩;exact .inl ⟨q,k,o!,c⟩
 rw[v e];refine⟨λq=>q.1,λq=>⟨q,?_⟩⟩;obtain⟨f,_,g,_⟩:=h.mem q;obtain⟨k,k1,_⟩:=g.2.2.2;have:=Cv k1;exact⟨k,o!,k1⟩
def AIo{x}{L}(h:AR L x):Ao (Rb x) λr=>∃W:S NE,r=(W.map (·.1),W.map (·.2))/\W.Pairwise Lt/\θ W<=256/\∀e,e∈W↔e∈DU x:=by refine AA (AGd h) λr hr=>?_;obtain⟨W,rfl,i,g⟩:=hr;refine AB ⟨W,rfl,i,?_,g⟩;have f:W.Nodup:=Hj.2 (i.imp_of_mem λ{a b} j k c d=>by subst d;have:=rT h ((g a).1 j);rcases c with q|⟨_,q⟩;omega;unfold Beh at q;omega);have q1:=jL W (DU x) f λe d=>(g e).1 d;have q2:(DU x).length<=θ x.2.2.1:=List.length_filterMap_le _ _;have:=h.vb.2.2.2.2.2.1;omega
def Src(L:S EN)(p:V)(rs:S AS):Prop:=W rs<=256/\∀r∈rs,VR r/\cu L r/\r.2.2.1<=p/\p<=r.2.2.2.1
def AHi{a:AJ}{l:Aa}{p i j:V}:Ao (JI (a,l,p,i,j)) λr=>r=0->0<=p/\p<a.2.1/\0<=i/\i<=j:=by refine AA Kc λk g=>AO (y? n!) (λ_=>AA Bb λm h=>AO (y? n!) (λ_=>AC (y? n!) (λc=>AC (y? n!) (λd=>AC (y? n!) (λe=>AC (y? n!) (λf=>AB λ_=>?_))))));dsimp only at c d e f;omega
def AIk{a:AJ}{p:V}(h:VB a)(o:0<=p/\p<a.2.1):Ao (Ra (a,p)) λr=> ∃k:U,a.1[k]? =some r.1/\r.1<=p/\p<=qu a k:=by
 have i:=h.1.2.2.2.1;have w:=h.1.2.2.1;refine AA O3 λB g=>AO (λc=>absurd (g.2 h) (by simp[c])) (λ_=>?_);dsimp only;rw[decide_eq_false o!,cond_false,decide_eq_false o!,cond_false];refine AA (P:=λk:V=> ∃m:U,k=m/\ ∃b,a.1[m]? =some b/\b<=p/\p<=qu a m) ?_ λk n=>?_
 ·refine CQ (λ(s:V)=>0<=s/\s<a.1.length/\ ∃b,a.1[s.toNat]? =some b/\b<=p) (λs=>((a.1.length:V)-s).toNat) ⟨Ae _,o!,0,h.1.2.2.2.2.1,o.1⟩ (λs j=>?_);have⟨x,y,b,e,f⟩:=j;unfold Ui;dsimp[O];rw[AY];refine AC (λc=>AA (AI o! c) λv q=>?_) (λc=>Ao.done ⟨s.toNat,o!,b,e,f,?_⟩)
  ·have u:(s+1).toNat=s.toNat+1:=o!
   refine AC (λd=>Ao.next ⟨o!,o!,v,q.1,d⟩ o!) (λl=>Ao.done ⟨s.toNat,o!,b,e,f,?_⟩);grind[qu]
  grind[qu,List.getElem?_eq_none]
 obtain⟨m,rfl,b,t,z,A⟩:=n;rw[od h.1 t,AD];grind[AB]
def AHh{a}{l}{p i j:V}(c:VB a)(e:Dg l)(f:0<=p/\p<a.2.1)(d:0<=i)(b:i<=j):JI (a,l,p,i,j)=Y 0:=by grind[Ao,JI,AA,O3,AO,Bb,AB]
def vW{L:List EN}{a:AJ}{l:Aa}{p:Int}(h:AR L a)(F:0<=p/\p<a.2.1):Ao (Jt (a,(l,p))) λr=> ∃(M:List NE) (v D_:Int),OK a p v D_/\r=(M.map (·.1),(M.map (·.2),l))/\M.Pairwise Beh/\(∀e,e∈M↔e∈DU a/\e.1.2.2.1=v)/\Src L p (M.map (·.1)):=by
 refine AA (AIk h.vb F) λc A=>AA (AIo h) λY_ B=>?_;have⟨k,k1,t,u⟩:=A;dsimp only at k1 t u;obtain⟨W,rfl,K,N,w⟩:=B;have U:(W.map (·.1)).length=W.length:=Ba _;refine AA (P:=λr=>r=((W.filter λe=>e.1.2.2.1==c.1).map (·.1),((W.filter λe=>e.1.2.2.1==c.1).map (·.2),l))) ?_ λr hr=>AB ⟨W.filter λe=>e.1.2.2.1==c.1,c.1,qu a k,⟨k,k1,rfl,t,u⟩,hr,?_,?_,?_⟩
 ·refine CQ (λ(s:Int×List AS×List Int×Aa)=> ∃k:Nat,s.1=k/\k<=W.length/\s.2=(((W.take k).filter λe=>e.1.2.2.1==c.1).map (·.1),(((W.take k).filter λe=>e.1.2.2.1==c.1).map (·.2),l))) (λs=>((W.length:Int)-s.1).toNat) ⟨0,rfl,BU _,rfl⟩ ?_;rintro⟨_,_⟩ ⟨k,rfl,T,rfl⟩;unfold Qq;dsimp[len];rw[AY (x:=(k:Int)+1)];refine AC (λC=>?_) (λC=>Ao.done (by rw[BN o!]));have d:k<W.length:=o!
  have j:ix (W.map (·.1)) (k:Int)=some W[k].1:=by unfold ix;rw[if_pos o!,Int.toNat_natCast,List.getElem?_map,List.getElem?_eq_getElem d];rfl
  have m:ix (W.map (·.2)) (k:Int)=some W[k].2:=by unfold ix;rw[if_pos o!,Int.toNat_natCast,List.getElem?_map,List.getElem?_eq_getElem d];rfl
  have H:W.take (k+1)=W.take k++[W[k]]:=by grind[List.take_add_one,List.getElem?_eq_getElem]
  have V:=EH (λe:NE=>e.1.2.2.1==c.1) (W.take k);have X_:=fi k W;rw[j,AD];refine AA (P:=λr=>r=(((W.take (k+1)).filter λe=>e.1.2.2.1==c.1).map (·.1),(((W.take (k+1)).filter λe=>e.1.2.2.1==c.1).map (·.2),l))) (AP (λo=>?_) (λE_=>AB ?_)) λr hr=>Ao.next ⟨k+1,rfl,d,hr⟩ d!
  rw[AD,m,AD];refine AA (Ac w!) λZ R=>AA (Ac w!) λv7 S=>AB ?_;grind;grind
 apply (K.filter _).imp_of_mem;intro x y I J n;have O:=eq_of_beq (BR.1 I).2;have Q:=eq_of_beq (BR.1 J).2;rcases n with q|⟨_,q⟩;omega;exact q;intro e;rw[BR,w e,beq_iff_eq];refine⟨by rw[Ba];exact Cq (EH _ _) N,λq G=>?_⟩;obtain⟨e,o,rfl⟩:=Bp.1 G;have⟨q1,q2⟩:=BR.1 o;have⟨f,_,g,_,z,_⟩:=h.mem ((w e).1 q1);have i:=eq_of_beq q2;have b:=g.2.2.2;rw[i]at b;have:=b.uniq h.vb.1 ⟨k,k1,rfl⟩;exact⟨g.2.2.1,z,o!⟩
def V4(rs:S AS)(l:Aa)(m:V):Prop:=(∃r∈rs,r.1<=m/\m<=r.2.1)\/(l.1<=m/\m<=l.1+W l.2.1-1)
def yG{l}{m:V}(h:Dg l):JH (l,m)=Y (τ (l.1<=m/\m<=l.1+W l.2.1-1)):=by have a:=h.1;have b:=h.2.1;have d:=h.2.2.1;unfold JH;dsimp[O];rw[AY];by_cases c:l.1<=m<;>grind
theorem AFO{L:List EN}{p m:Int}{a:List AS}{E_:List Int}{l:Aa}(h:Src L p a)(w:Dg l)(hm:0<=m/\m<=2199023255552):Ao (Re ((a,(E_,l)),m)) λv=>m-1<=v/\v<=2199023255552/\(∀q,m<=q->q<=v->V4 a l q)/\(v=m-1-> ¬V4 a l m):=by
 have X_:=w.1;have Y_:=w.2.1;have Z:=w.2.2.1;refine AA (P:=λv=>m-1<=v/\v<=2199023255552/\(∀q,m<=q->q<=v->V4 a l q)/\ ∀r∈a,r.1<=m->m<=r.2.1->m<=v) ?_ λv5 K=>?_
 ·refine CQ (λ(s:Int×Int)=>0<=s.2/\s.2<=a.length/\m-1<=s.1/\s.1<=2199023255552/\(∀q,m<=q->q<=s.1->V4 a l q)/\ ∀r∈a.take s.2.toNat,r.1<=m->m<=r.2.1->m<=s.1) (λs=>((a.length:Int)-s.2).toNat) ⟨Ae _,d!,by dsimp only;rw[AY];omega,by dsimp only;rw[AY];omega,λq q1 q2=>by dsimp only at q2;rw[AY]at q2;omega,λr hr=>by simp at hr⟩ ?_;rintro⟨b,k⟩ ⟨y,R,i,j,n,D_⟩;dsimp only at y R i j n D_;have Q:=h.1;unfold Un;dsimp[len];refine AC (λu=>?_) (λu=>Ao.done ⟨i,j,n,by rw[BN o!]at D_;exact D_⟩);rw[AY (x:=k+1)];refine AA (AI y u) λo e=>?_;have W:a.take (k+1).toNat=a.take k.toNat++[o]:=by rw[show(k+1).toNat=k.toNat+1 by omega,Cl,e.1];rfl
  have hr:=(h.2 o e.2).1.1;have keep: ∀t,b<=t->(o.1<=m->m<=o.2.1->m<=t)-> ∀r∈a.take (k+1).toNat,r.1<=m->m<=r.2.1->m<=t:=λt hb C r O q1 q2=>by grind[List.mem_singleton]
  refine AC (λN=>?_) (λB=>Ao.next ⟨d!,d!,i,j,n,keep b (Ae _) λq=>absurd q B⟩ d!);refine AA (AI y u) λF z=>?_;have I:F=o:=by grind[Option.some.inj]
  subst I;refine AA (P:=λv=>m-1<=v/\v<=2199023255552/\(∀q,m<=q->q<=v->V4 a l q)/\b<=v/\(m<=F.2.1->m<=v)) ?_ λV c=>Ao.next ⟨d!,d!,c.1,c.2.1,c.2.2.1,keep V c.2.2.2.1 λ_=>c.2.2.2.2⟩ d!
  refine AC (λg=>AA (AI y u) λH A=>AB ?_) (λg=>AB ⟨i,j,n,Ae _,λq=>absurd q g⟩);have J:H=F:=by grind[Option.some.inj]
  subst J;have G:=hr.2.2.1;split;exact⟨o!,o!,λq q1 q2=>.inl ⟨H,e.2,o!,q2⟩,o!,id⟩;exact⟨i,j,n,Ae _,λq=>o!⟩
 rw[yG w,AD];dsimp[len];have⟨e,z,A,c⟩:=K;refine AA (P:=λv=>m-1<=v/\v<=2199023255552/\(∀q,m<=q->q<=v->V4 a l q)/\(v=m-1-> ¬V4 a l m)) ?_ λv7 M=>AB M;refine AC (λf=>AB ?_) (λf=>AB ⟨e,z,A,λC d=>?_⟩);rw[AY (x:=l.1+l.2.1.length),AY];split;exact⟨o!,o!,λq q1 q2=>.inr o!,λC=>o!⟩;exact⟨e,z,A,λC=>o!⟩;rcases d with⟨r,S,T,U⟩|d;have:=c r S T U;omega;exact f d
def ADI{L}{p i j:V}{a}{c:S V}{l}(h:Src L p a)(n:Dg l)(k:0<=i)(m:j<=1099511627776)(f:i<=j):Ao (Ke ((a,c,l),i,j)) λb=>b=E↔∀q,i<q->q<=j->V4 a l q:=by
 refine AA (P:=λr=>(r=.inl X/\∃q,i<q/\q<=j/\¬V4 a l q)\/(r=.inr ()/\∀q,i<q->q<=j->V4 a l q)) ?_ λr hr=>?_
 ·refine CQ (λs=>i<=s/\s<=2199023255552/\∀q,i<q->q<=s->V4 a l q) (λs=>(j-s).toNat) ⟨Ae _,d!,λq q1 q2=>by dsimp only at q2;omega⟩ (λs d=>?_);have⟨o,t,g⟩:=d;unfold Lj;dsimp only;refine AC (λe=>?_) (λe=>k? (.inr ⟨rfl,λq q1 q2=>g q q1 o!⟩));grind[AY,AA,AFO,AP,k?,y!]
 grind[BF,AB,A0]
def ACN{a:AJ}{l}{d:V}{M:S NE}(h:∀e,e∈M↔e∈DU a/\e.1.2.2.1=d)(m:V):V4 (M.map (·.1)) l m↔bf a l d m:=by constructor;rintro(⟨r,i,j⟩|q);obtain⟨e,g,rfl⟩:=Bp.1 i;have⟨b,c⟩:=(h e).1 g;exact .inr ⟨e,b,c,j⟩;exact .inl q;rintro(q|⟨e,b,c,f⟩);exact .inr q;exact .inl ⟨e.1,Tn ((h e).2 ⟨b,c⟩),f⟩
def AAZ{r:AS}{p:V}(h:VR r):Ao (Pp (r,p)) λv=>v=r.2.2.2.2.2.filter λe=>e.2.2.2.2.2.2.1.1==p:=by have m:=h.1.2.2.2.2.2.2.2.2;refine AA YY λn f=>AO (λa=>absurd (f.2 h) (by simp[a])) (λ_=>AA (P:=λv=>v=r.2.2.2.2.2.filter λe=>e.2.2.2.2.2.2.1.1==p) ?_ λv j=>AB j);refine CQ (λ(s:V×R EN)=>0<=s.1/\s.1<=r.2.2.2.2.2.length/\s.2=(r.2.2.2.2.2.take s.1.toNat).filter λe=>e.2.2.2.2.2.2.1.1==p) (λs=>((r.2.2.2.2.2.length:V)-s.1).toNat) ⟨Ae _,d!,q!⟩ ?_;rintro⟨s,A⟩ ⟨b,k,d⟩;dsimp only at b k d;unfold SS;dsimp[O];refine AC (λa=>?_) (λa=>Ao.done (by rw[d,BN o!]));refine AA (AI b a) λo g=>?_;have i:=mT (p:=λe:EN=>e.2.2.2.2.2.2.1.1==p) b g.1;have c:=pG (l:=r.2.2.2.2.2) (p:=λe:EN=>e.2.2.2.2.2.2.1.1==p) b;rw[<-d]at c;rw[AY];grind[AA,Ao.next,AP,AI,Ac,AB,Option.some.inj]
def AA0{L:List EN}{p i j:Int}{c:List AS}(V:Uq L)(h:Src L p c):Ao (Js (c,(p,(i,j)))) λr=>r.length<=1048576/\ ∀y,y∈r↔ ∃q∈c,y∈q.2.2.2.2.2/\y.2.2.2.2.2.2.1.1=p/\i<y.1/\y.1<=j:=by
 have W:=h.1;refine AA (P:=λr=>r.length<=1048576/\ ∀y,y∈r↔ ∃q∈c,y∈q.2.2.2.2.2/\y.2.2.2.2.2.2.1.1=p/\i<y.1/\y.1<=j) ?_ λr hr=>AB hr;refine CQ (λ(s:List EN×Int)=>0<=s.2/\s.2<=c.length/\s.1.length<=4096*s.2/\ ∀y,y∈s.1↔ ∃q∈c.take s.2.toNat,y∈q.2.2.2.2.2/\y.2.2.2.2.2.2.1.1=p/\i<y.1/\y.1<=j) (λs=>((c.length:Int)-s.2).toNat) ⟨Ae _,d!,q!,λy=>q!⟩ ?_;rintro⟨A,k⟩ ⟨M,X_,Y_,n⟩;dsimp only at M X_ Y_ n;unfold LB;dsimp[len];refine AC (λK=>?_) (λK=>Ao.done ⟨o!,λy=>by rw[n y,BN o!]⟩);refine AA (AI M K) λu I=>?_;have⟨H,S,g3,g4⟩:=h.2 u I.2;have hl:=H.1.2.2.2.2.2.2.2.2;refine AA (AAZ H) λa C=>?_;have G:=EH (λe:EN=>e.2.2.2.2.2.2.1.1==p) u.2.2.2.2.2;rw[<-C]at G;have D_: ∀y∈A,y∈L:=λy f=>by have⟨q,q1,q2,_⟩:=(n y).1 f;exact(((h.2 q (F9 q1)).2.1.mem y).1 q2).1
 have g: ∀y∈a,y∈L:=λy f=>by rw[C]at f;exact((S.mem y).1 (BR.1 f).1).1
 refine AA (P:=λr=>r.length<=A.length+a.length/\ ∀y,y∈r↔y∈A\/(y∈a/\i<y.1/\y.1<=j)) ?_ λr hr=>?_
 ·refine CQ (λ(s:List EN×Int)=>0<=s.2/\s.2<=a.length/\s.1.length<=A.length+s.2/\ ∀y,y∈s.1↔y∈A\/(y∈a.take s.2.toNat/\i<y.1/\y.1<=j)) (λs=>((a.length:Int)-s.2).toNat) ⟨Ae _,d!,d!,λy=>q!⟩ ?_;rintro⟨B,m⟩ ⟨o,Z,j2,t⟩;dsimp only at o Z j2 t;unfold LC;dsimp[len];refine AC (λb=>?_) (λb=>Ao.done ⟨o!,λy=>by rw[t y,BN o!]⟩);refine AA (AI o b) λv l=>?_;rw[AY (x:=m+1)];have z:a.take (m+1).toNat=a.take m.toNat++[v]:=by rw[show(m+1).toNat=m.toNat+1 by omega,Cl,l.1];rfl
  have d: ¬(i<v.1/\v.1<=j)-> ∀y,y∈B↔y∈A\/(y∈a.take (m+1).toNat/\i<y.1/\y.1<=j):=λhn y=>by grind[List.mem_singleton]
  refine AC (λE_=>?_) (λE_=>Ao.next ⟨d!,d!,d!,d λq=>o!⟩ d!);refine AA (AI o b) λN T=>?_;have Q:N=v:=by have:=T.1;rw[l.1]at this;exact(BW this).symm
  subst Q;refine AA (P:=λr=>r.length<=B.length+1/\ ∀y,y∈r↔y∈A\/(y∈a.take (m+1).toNat/\i<y.1/\y.1<=j)) ?_ λr hr=>Ao.next ⟨d!,d!,by have:=hr.1;dsimp only;omega,hr.2⟩ d!
  refine AC (λF=>?_) (λF=>AB ⟨o!,d λq=>o!⟩);refine AA (AI o b) λO U=>?_;have R:O=N:=by have:=U.1;rw[l.1]at this;exact(BW this).symm
  subst R;refine AA (oY V (λy f=>?_) (g O l.2) o!) λv7 J=>AB ⟨J.1,λy=>?_⟩;rcases(t y).1 f with q|q;exact D_ y q;exact g y (F9 q.1);rw[J.2 y,t y,z,Ak,A9];constructor;rintro((q|⟨q1,q2⟩)|q);exact .inl q;exact .inr ⟨.inl q1,q2⟩;exact .inr ⟨.inr q,by rw[q];omega⟩;rintro(q|⟨q1|q1,q2⟩);exact .inl (.inl q);exact .inl (.inr ⟨q1,q2⟩);exact .inr q1
 ·rw[AY];refine Ao.next ⟨d!,d!,by have:=hr.1;dsimp only;omega,λy=>?_⟩ d!
  dsimp only;have z:c.take (k+1).toNat=c.take k.toNat++[u]:=by rw[show(k+1).toNat=k.toNat+1 by omega,Cl,I.1];rfl
  rw[hr.2 y,n y,z,C,BR,beq_iff_eq];constructor;rintro(⟨q,q1,q2⟩|⟨⟨q1,q2⟩,q3⟩);exact⟨q,F8 _ q1,q2⟩;exact⟨u,LU _ (A9.2 rfl),q1,q2,q3⟩;rintro⟨q,q1,q2,q3,q4⟩;rcases Ak.1 q1 with w|w;exact .inl ⟨q,w,q2,q3,q4⟩;rw[A9.1 w]at q2;exact .inr ⟨⟨q2,q3⟩,q4⟩
def z7{l:Aa}{p i j:V}(h:Dg l):Ao (Pr (l,(p,(i,j)))) λr=>r=l.2.1.filter (HW p i j):=by
 have z:=h.2.2.1;refine AA (P:=λr=>r=l.2.1.filter (HW p i j)) ?_ λr hr=>AB hr;refine CQ (λ(q:V×R EN)=>0<=q.1/\q.1<=l.2.1.length/\q.2=(l.2.1.take q.1.toNat).filter (HW p i j)) (λq=>((l.2.1.length:V)-q.1).toNat) ⟨Ae _,d!,q!⟩ (λq v=>?_);have⟨q1,q2,q3⟩:=v;unfold SX;dsimp[O];refine AC (λo=>?_) (λo=>Ao.done (by rw[q3,BN o!]));refine AA (AI q1 o) λs t=>?_;have k:=mT (p:=HW p i j) q1 t.1;have f:=pG (l:=l.2.1) (p:=HW p i j) q1;rw[<-q3]at f;rw[AY (x:=q.1+1)];have m:HW p i j s=false->Ao (some (Step.next (q.1+1,q.2)):Option (Step (V×R EN) (R EN))) (MX (λ(q:V×R EN)=>0<=q.1/\q.1<=l.2.1.length/\q.2=(l.2.1.take q.1.toNat).filter (HW p i j)) (λq=>((l.2.1.length:V)-q.1).toNat) ((l.2.1.length:V)-q.1).toNat λr=>r=l.2.1.filter (HW p i j)):=λw=>Ao.next ⟨d!,d!,by dsimp only;rw[k,w,q3];simp⟩ d!
 refine AA CR λn u=>?_;have e:hZ s=n:=by grind[hZ]
 refine AK (λa=>?_) (λa=>m (by unfold HW;rw[e,a];rfl));refine AP (λc=>?_) (λc=>m (by unfold HW;rw[beq_eq_false_iff_ne.2 c];simp));refine AC (λb=>?_) (λb=>m (by unfold HW;rw[decide_eq_false b];simp));refine AA (P:=λr=>r=(l.2.1.take (q.1+1).toNat).filter (HW p i j)) ?_ λy d=>Ao.next ⟨d!,d!,d⟩ d!
 refine AC (λg=>?_) (λg=>AB ?_);grind[AA,Ac,AB,HW];grind[HW]
def AE4{a:R AS}{m:V}(h:a.length<=256):Ao (LD (a,m)) λ_=>M:=by refine AA (P:=λ_=>M) ?_ λr _=>BG (λu _=>AB trivial) (λu _=>AB trivial);refine CQ (λ(s:V)=>0<=s/\s<=a.length) (λs=>((a.length:V)-s).toNat) ⟨Ae _,o!⟩ (λs d=>?_);have⟨c,e⟩:=d;unfold Mt;dsimp[O];refine AC (λb=>?_) (λ_=>Ao.done trivial);rw[AY];refine AA (AI c b) λf _=>AC (λ_=>AA (AI c b) λg _=>AC (λ_=>Ao.done trivial) (λ_=>Ao.next o! o!)) (λ_=>Ao.next o! o!)
def AIH{l:R EN}{e:EN}(h:l.length<=16777216):Ao (Im (l,e)) λ_=>M:=by refine AA (P:=λ_=>M) ?_ λr _=>BG (λu _=>AB trivial) (λu _=>AB trivial);refine CQ (λ(s:V)=>0<=s/\s<=l.length) (λs=>((l.length:V)-s).toNat) ⟨Ae _,o!⟩ (λs a=>?_);have⟨c,d⟩:=a;unfold Pq;dsimp[O];refine AC (λb=>?_) (λ_=>Ao.done trivial);rw[AY];exact AA (AI c b) λf _=>AK (λ_=>Ao.done trivial) (λ_=>Ao.next o! o!)
def AGZ{L A B:List EN}{m:List AS}{l:Aa}(Q:Uq L)(v:Dg l)(N: ∀y∈A,y∈L)(O: ∀y∈B,y∈L)(q:m.length<=256)(K:A.length<=1048576)(M:B.length<=4096):Ao (MU (m,(l,(A,B)))) λr=>r.2=true->r.1.length<=1052672/\ ∀y,y∈r.1↔y∈A\/y∈B:=by
 refine AA (Ac w!) λz p=>?_;have h:=p.1;rw[B7]at h;dsimp only at h;subst z;refine AA (P:=λr=>(∃u,r= .inl u/\u.2=false)\/ ∃C,r= .inr C/\C.length<=A.length+B.length/\ ∀y,y∈C↔y∈A\/y∈B) ?_ λr hr=>?_
 ·refine CQ (λ(s:List EN×V)=>0<=s.2/\s.2<=B.length/\s.1.length<=A.length+s.2/\ ∀y,y∈s.1↔y∈A\/y∈B.take s.2.toNat) (λs=>((B.length:V)-s.2).toNat) ⟨Ae _,d!,d!,λy=>q!⟩ ?_;rintro⟨C,k⟩ ⟨c,i,w,j⟩;dsimp only at c i w j;unfold N2;dsimp[len];refine AC (λa=>?_) (λa=>Ao.done (.inr ⟨C,rfl,o!,λy=>by rw[j y,BN o!]⟩));refine AA (AI c a) λG o=>AA (AE4 q) λR _=>?_;rw[AY (x:=k+1)];have J:B.take (k+1).toNat=B.take k.toNat++[G]:=by rw[show(k+1).toNat=k.toNat+1 by omega,Cl,o.1];rfl
  have f: ∀d,B[k.toNat]? =some d/\d∈B->Ao (Option.bind (Cg (C,d)) λH=>some (Step.next (H.1,k+1)):Option (Step (List EN×V) ((List EN×Bool)⊕ List EN))) (MX (λ(s:List EN×V)=>0<=s.2/\s.2<=B.length/\s.1.length<=A.length+s.2/\ ∀y,y∈s.1↔y∈A\/y∈B.take s.2.toNat) (λs=>((B.length:V)-s.2).toNat) ((B.length:V)-k).toNat λr=>(∃u,r= .inl u/\u.2=false)\/ ∃C,r= .inr C/\C.length<=A.length+B.length/\ ∀y,y∈C↔y∈A\/y∈B):=λd g=>by grind[Option.some.inj,AA,oY,List.mem_of_mem_take,Ao.next,List.mem_singleton]
  refine AC (λ_=>AA (AI c a) λS _=>AA (AIH o!) λT _=>AO (λ_=>Ao.done (.inl ⟨_,rfl,rfl⟩)) (λ_=>AA (AI c a) λd g=>f d g)) (λ_=>AA (AI c a) λd g=>f d g)
 ·rcases hr with⟨u,rfl,b⟩|⟨C,rfl,I,n⟩;exact BF (AB λe=>by rw[b]at e;cases e)
  ·refine A0 (AA (P:=λr=> ∀u,r= .inl u->u.2=false) ?_ λr hr=>BG (λu b=>AB λe=>by rw[hr u b]at e;cases e) (λu b=>AB λ_=>⟨d!,n⟩));refine CQ (λ(s:V)=>0<=s/\s<=A.length) (λs=>((A.length:V)-s).toNat) ⟨Ae _,o!⟩ (λs t=>?_);have⟨c,i⟩:=t;unfold N3;dsimp[len];refine AC (λa=>?_) (λ_=>Ao.done λu b=>by cases b);rw[AY];refine AA (AI c a) λD_ _=>?_;rw[yG v,AD];exact AC (λ_=>AA (AI c a) λE_ _=>AA (AIH o!) λF _=>AO (λ_=>Ao.done λu b=>by cases b;rfl) (λ_=>Ao.next o! o!)) (λ_=>Ao.next o! o!)
def AIh{L:List EN}{a:AJ}{l:Aa}{p i j:Int}(hN:Gv L)(hA:AR L a)(t:O2 L l)(hj:j<=1099511627776):Ao (Fp (a,(l,(p,(i,j))))) λr=>r.2=0->r.1=L.filter (HW p i j):=by
 have G:=t.sorted;have hU:Uq L:=λx hx y E_ K=>Vk (by refine Hj.2 ((Q8).2 (G.imp λh=>?_));omega) hx E_ K;refine AA AHi λv0 h0=>AL (λH=>AB λo=>absurd o H) (λo=>?_);have⟨p0,p1,i0,ij⟩:=h0 o;refine AA (vW hA ⟨p0,p1⟩) λv1 h1=>?_;obtain⟨M,lo,hh,a0,rfl,ap,hM,z⟩:=h1;dsimp only at z;refine AA (ADI z t.vl i0 hj ij) λv2 h2=>AO (λ_=>AB n!) (λJ=>?_);have al:=h2.1 J;refine AA (AA0 hU z) λv3 X_=>AA (z7 t.vl) λv4 Y_=>?_;have Z: ∀y∈v3,y∈L:=λy E_=>by have⟨q,q1,q2,_⟩:=(X_.2 y).1 E_;exact(((z.2 q q1).2.1.mem y).1 q2).1
 have ad: ∀y∈v4,y∈L:=λy E_=>by rw[Y_]at E_;exact((t.tail y).1 (BR.1 E_).1).1
 have A:v4.length<=4096:=by rw[Y_];exact Cq (EH _ _) t.vl.2.2.1
 refine AA (AGZ hU t.vl Z ad z.1 X_.1 A) λc h5=>AO (λ_=>AB n!) (λht=>?_);have⟨u1,u2⟩:=h5 ht;have w: ∀y,y∈c.1↔y∈L.filter (HW p i j):=λy=>by rw[u2 y,X_.2 y,Y_,BR,BR];constructor;rintro(⟨q,q1,q2,q3,q4,q5⟩|⟨q1,q2⟩);have:=((z.2 q q1).2.1.mem y).1 q2;refine⟨this.1,?_⟩;unfold HW;rw[this.2.1,beq_iff_eq.2 q3,decide_eq_true (show y.1>i from q4),decide_eq_true q5];rfl;exact⟨((t.tail y).1 q1).1,q2⟩;rintro⟨q1,q2⟩;have hw:=q2;unfold HW at hw;simp[BZ,decide_eq_true_eq,beq_iff_eq]at hw;have⟨w1,w2,w3,w4⟩:=hw;rcases al y.1 w3 w4 with⟨r,T,r2,r3⟩|⟨T,r2⟩;have⟨_,g2,g3,g4⟩:=z.2 r T;exact .inl ⟨r,T,(g2.mem y).2 ⟨q1,w1,o!,o!,r2,r3⟩,w2,w3,w4⟩;exact .inr ⟨(t.tail y).2 ⟨q1,T,r2⟩,q2⟩
 refine AA (P:=λr=>(∀u,r= .inl u->u.2=13)/\(r= .inr ()-> ∀(k:Nat) (e f:EN),c.1[k]? =some e->c.1[k+1]? =some f->f.2.2.2.2.1=e.1)) ?_ λr hr=>BG (λu B=>AB λo=>by rw[hr.1 u B]at o;cases o) (λu B=>AB λ_=>?_)
 ·refine CQ (λ(s:Int)=>0<=s/\s<=c.1.length/\ ∀(k:Nat) (e f:EN),(k:Int)+1<s->c.1[k]? =some e->c.1[k+1]? =some f->f.2.2.2.2.1=e.1) (λs=>((c.1.length:Int)-s).toNat) ⟨Ae _,o!,λk e f n=>o!⟩ (λs hI=>?_);have⟨s0,s1,s2⟩:=hI;unfold QX;dsimp[len];have F: ∀u:List EN×Int,u=([],13)->(∀v,(Sum.inl u:(List EN×Int)⊕ Unit)= .inl v->v.2=13)/\((Sum.inl u:(List EN×Int)⊕ Unit)= .inr ()-> ∀(k:Nat) (e f:EN),c.1[k]? =some e->c.1[k+1]? =some f->f.2.2.2.2.1=e.1):=λu B=>⟨λv hv=>by cases hv;rw[B],λh=>by cases h⟩
  refine AC (λH=>?_) (λH=>Ao.done ⟨λu B=>(by cases B),λ_ k e f n g=>s2 k e f (by have:=Cv g;omega) n g⟩);rw[AY (x:=s+1)];have Q:0<s->Ao (Option.bind (ix c.1 s) λR=>Option.bind (ix c.1 (wi (s-1))) λS=>bif (R.2.2.2.2.1 !=S.1)then some (.done (.inl ([],13)))else some (.next (s+1)):Option (Step Int ((List EN×Int)⊕ Unit))) (MX (λ(s:Int)=>0<=s/\s<=c.1.length/\ ∀(k:Nat) (e f:EN),(k:Int)+1<s->c.1[k]? =some e->c.1[k+1]? =some f->f.2.2.2.2.1=e.1) (λs=>((c.1.length:Int)-s).toNat) ((c.1.length:Int)-s).toNat λr=>(∀u,r= .inl u->u.2=13)/\(r= .inr ()-> ∀(k:Nat) (e f:EN),c.1[k]? =some e->c.1[k+1]? =some f->f.2.2.2.2.1=e.1)):=λD_=>by
   rw[AY];refine AA (AI s0 H) λR V=>AA (AI) λS W=>AL (λ_=>Ao.done (F _ rfl)) (λK=>Ao.next ⟨o!,o!,λk e f n N g=>?_⟩ o!);by_cases ao:(k:Int)+1<s;exact s2 k e f ao N g;have ek:k+1=s.toNat:=o!
   have U:(s-1).toNat=k:=o!
   rw[ek,V.1]at g;have:=W.1;rw[U,N]at this;rw[<-BW g,BW this];exact K
  apply AP<;>intro hs
  ·refine AA (AI s0 H) λv7 g7=>AC (λ_=>Ao.done (F _ rfl)) (λ_=>AC (λD_=>absurd D_ o!) (λ_=>Ao.next ⟨o!,o!,λk e f n=>o!⟩ o!))
  exact AC (λD_=>Q D_) (λD_=>absurd D_ o!)
 subst B;dsimp only;have I:=hr.2 rfl;refine Ux ?_ (G.filter _) w;have O: ∀e∈c.1,e.2.2.2.2.1<e.1:=λe K=>by have⟨k,n⟩:=Ed.1 (BR.1 ((w e).1 K)).1;exact(hN k e n).2.2.2.2.2.2.1
 have step: ∀(d k:Nat) (e f:EN),c.1[k]? =some e->c.1[k+1+d]? =some f->e.1<f.1:=by
  intro d;induction d with
  |zero=>intro k e f n C;have:=I k e f n C;have:=O f (BP C);omega
  |succ d ih=>intro k e f n C;have ax:=Cv C;have hg:c.1[k+1+d]? =some (c.1[k+1+d]' o!):=Au o!;have a:=ih k e _ n hg;have b:=I (k+1+d) _ f hg C;have:=O f (BP C);omega
 rw[EI];intro k m n hm ar;obtain⟨d,rfl⟩: ∃d,m=k+1+d:=⟨m-(k+1),o!⟩
 exact step d k _ _ (Au n) (Au hm)
def zB{x:AQ}{a:R AE}(q:OKs x a)(d:a.length<=4096):NO (x,a)=some (a.foldl upd x,0):=by
 suffices t:Ao (NO (x,a)) λr=>r=(a.foldl upd x,0) by obtain⟨r,hr,rfl⟩:=t;exact hr
 generalize v:a.foldl upd x=y;refine AA (P:=λr=> ∃z,r= .inr (y,z)) ?_ λr hr=>?_
 ·refine CQ (λ(s:V×AQ×AQ)=> ∃A B,a=A++B/\s.1=A.length/\OKs s.2.1 B/\B.foldl upd s.2.1=y) (λ(s:V×AQ×AQ)=>((a.length:V)-s.1).toNat) ⟨[],a,rfl,rfl,q,v⟩ ?_;rintro⟨i,x,z⟩ ⟨A,B,rfl,g,h,c⟩;dsimp only at g h c;subst g;unfold Ur;dsimp[O];rw[AZ]at d;refine AC (λb=>?_) (λb=>Ao.done ?_)
  ·obtain _|⟨e,B⟩:=B;simp at b;have u:ix (A++e::B) (A.length:V)=some e:=by unfold ix;rw[if_pos o!,CO,Cn (Al _),G2];rfl
   have⟨⟨j,f,k,l,m,n⟩,o⟩:=h;have p:e.2.2.2.2.1<e.1:=f.2.2.2.2.2.1;rw[u,AD,decide_eq_false o!,cond_false,AD,AB3 j f k l m n,AD,AY (x:=(A.length:V)+1)];refine AL (λb=>absurd rfl b) (λ_=>Ao.next ⟨A++[e],B,q!,q!,o,c⟩ d!)
  obtain _|⟨e,B⟩:=B;exact⟨z,by rw[<-c];rfl⟩;simp at b;omega
 grind[A0,AB]
def AEG{n}{L}{a}{l}{p:V}{j k:U}(t:LI n L)(b:Gv L)(h:AR L a)(f:O2 L l)(e:j<=k)(v:k<=W L)(m:0<=p/\p<a.2.1)(d:p<64):Ao (IA (st (L.take j) p,a,l,(k:V))) λr=>r.2=0->r.1=st (L.take k) p:=by have i:=f.len;have w:=Ry b p j;have u:=YT (b.take j) p;rw[BQ]at u;refine AA O3 λx o=>AO (λc=>O! (o.2 h.vb) (by simp[c])) (λ_=>AA Bb λy q=>AO (λc=>O! (q.2 f.vl) (by simp[c])) (λ_=>?_));rw[Ym ((XY b ⟨m.1,d⟩ (by omega:W L<=1099511627776)) j),AD];refine AL (O! rfl ·) (λ_=>?_);dsimp only;rw[Jf,Se,F! o!,A!];refine AA (AIh b h f o!) λz s=>AL (λc=>AB λg=>O! g c) (λg=>?_);rw[s g,show BY (L.take j) p=(((BY (L.take j) p).toNat:U):V) by omega,tT b o!,iC b (j:=j) o! (Ut b),zB (rK b t ⟨m.1,d⟩ o! j k e) (by have:=EH (aT p) ((L.take k).drop j);rw[C2,BQ]at this;omega),<-ai e,AD];exact AB λ_=>rfl
def AHr{A t:Bd}{b:UInt8}:six (A++b::t) (W A:V)=Y (b.toNat:V):=by grind[six]
def AHf{x}(h:Hg x):Ao (Ag (Gw (IM x)) (0,(x.1,x.2.1,GG.all (X,[])),0,0,GG.all (X,[]))) λr=>∃z,r=.inr (x,z):=by
 have y:=eG h;refine CQ (λs=>0<=s.1/\s.1<=16/\s.2.1.1=x.1/\s.2.1.2.1=x.2.1/\∀j:Fin 16,s.2.1.2.2 j=if(j.val:V)<s.1 then x.2.2 j else(X,[])) (λs=>(16-s.1).toNat) ⟨Ae _,u!,rfl,rfl,λj=>by rw[D! d!];rfl⟩ ?_;rintro⟨i,⟨p,n,a⟩,z⟩ ⟨l,J,C,hn,g⟩;dsimp only at l J C hn g;subst C hn;unfold Gw;dsimp only;refine AC (λk=>?_) (λk=>k? ⟨z,?_⟩)
 ·rw[AY (x:=i*13),AY (x:=12+i*13),AY (x:=12+i*13+1),AY (x:=i+1)];have⟨N,D_⟩:=nL (a:=x.2.2) (i:=i.toNat) o!;have⟨A,r,t,M⟩:=wb h (i:=i.toNat) o!;have b:=h.cl i.toNat
  generalize G:cl x.2.2 i.toNat=c at*;have B:W A+(13+W r)=256:=by have:=y;rw[t,AZ,AZ,eE b.1]at this;exact this
  have f:six (IM x) (12+i*13)=Y (if c.1=E then(W c.2:V)else 255):=by have q:=b.1;have e:XI c=UInt8.ofNat ((if c.1=E then(W c.2:V)else 255)%256).toNat::(c.2++kD (12-W c.2)):=rfl;rw[t,show(12+i*13:V)=(W A:V) by omega,e,ET,AHr,fx];apply E! Y;split<;>omega
  rw[f,AD];have E_:∀m:GG 16 Ck,(∀j:Fin 16,m j=if(j.val:V)<i+1 then x.2.2 j else(X,[]))->Ao (Y (Step.next (i+1,(x.1,x.2.1,m),z)):Z (Step (V×AQ×AQ) ((V×AQ)⊕(AQ×AQ)))) (MX (λs=>0<=s.1/\s.1<=16/\s.2.1.1=x.1/\s.2.1.2.1=x.2.1/\∀j:Fin 16,s.2.1.2.2 j=if(j.val:V)<s.1 then x.2.2 j else(X,[])) (λs=>(16-s.1).toNat) (16-i).toNat λr=>∃z,r=.inr (x,z)):=λm o=>y! ⟨d!,d!,rfl,rfl,o⟩ d!
  by_cases d:c.1=E;have q:=b.1;rw[C! d,AY (x:=(W c.2:V)),beq_eq_false_iff_ne.2 o!,A!,F! o!,A!,AY];have⟨s,I,u⟩:=CW (s:=IM x) (lo:=12+i*13+1) (hi:=12+i*13+1+(W c.2:V)) o! o! (by rw[y];omega);have w:s=c.2:=by
   rw[u.1,t];have K:(12+i*13+1).toNat=W A+1:=o!
   have L:(12+i*13+1+(W c.2:V)).toNat-(12+i*13+1).toNat=W c.2:=o!
   grind[List.drop_drop,List.drop_left,XI,t?,List.drop_left',Ay,List.take_left]
  rw[I,w,AD];have⟨v,F,_⟩:=Dd (a:=a) l k;rw[F,AD,AD];exact E_ _ (ACB g ⟨l,k⟩ λH=>D_.symm.trans (DZ d rfl));rw[D! d,AY,beq_iff_eq.2 rfl,B!];exact E_ _ (zK g ⟨l,k⟩ λH=>D_.symm.trans (DZ (by simpa using d) (b.2.resolve_left d)))
 refine E! Sum.inr (DZ (DZ rfl (DZ rfl (funext λj=>?_))) rfl);exact(g j).trans (C! o!)
def yj{a t:Bd}{n k:V}(h:(W a:V)+W t<=2199023255552)(b:1<=k)(d:k<=8)(e:k<=W t)(g:t.take (ο k)=C6 n (ο k))(hn:0<=n)(f:n<256^ο k)(c:n<9223372036854775808):A1 (a++t,(W a:V),k)=Y (n,0):=by grind[kG,ABk]
theorem ADk{x}(h:Hg x)(hn:x.2.1≠0):El (IM x)=Y (x,0):=by
 have b:=eG h;have p:=h.2.1;have q:=h.2.2.2.1;unfold El;have⟨o,q1,e⟩:=CW (s:=IM x) (lo:=0) (hi:=8) g! g! (by rw[b];decide);have⟨l,q2,f⟩:=CW (s:=IM x) (lo:=248) (hi:=256) g! g! (by rw[b];decide);have⟨m,q3,g⟩:=CW (s:=IM x) (lo:=0) (hi:=244) g! g! (by rw[b];decide);have i:l=C6 x.2.1 8:=by rw[f.1];show List.take 8 (List.drop 248 (IM x))=_;rw[pF h,BN (by rw[Ay];exact Al _)]
 have j:m=LV x:=g.1.trans (by show List.take 244 (IM x)=_;unfold IM;exact Fe (HC h));have c:=aU (LV x);have q4:A1 (IM x,244,4)=Y (P7 (LV x),0):=by have:=yj (a:=LV x) (t:=C6 (P7 (LV x)) 4++C6 x.2.1 8) (n:=P7 (LV x)) (k:=4) (by simp only[AZ,Ay,HC h];decide) g! g! (by simp only[AZ,Ay];decide) (Fe (Ay _ _)) o! (by simp[Int.reduceToNat];omega) o!;rw[HC h]at this;exact this
 have q5:A1 (IM x,8,4)=Y (x.1,0):=by have:=yj (a:=C6 x.2.1 8) (t:=C6 x.1 4++(PV x.2.2 16++(kD 24++(C6 (P7 (LV x)) 4++C6 x.2.1 8)))) (n:=x.1) (k:=4) (by simp only[AZ,Ay,JX h,kD,Hh];omega) g! g! (by simp[AZ,Ay];omega) (by exact Fe (Ay _ _)) h.1 (by simp[Int.reduceToNat];omega) o!;grind[Ay,IM,LV,t?]
 have q6:A1 (IM x,0,8)=Y (x.2.1,0):=yj (a:=[]) (t:=IM x) (n:=x.2.1) (k:=8) (by rw[b];decide) g! g! (by rw[b];decide) VL h.2.2.1 (by simp[Int.reduceToNat];omega) o!;obtain⟨v,d,z,rfl⟩:=AHf h;rw[(by simp[O];omega:O (IM x)=256),H!,A!,tG,AD,beq_eq_false_iff_ne.2 (ACR h hn),A!,q1,AD,q2,AD,e.1.trans VL,i,H!,A!,q4,AD,q3,AD,j,xh (by rw[HC h];decide),AD,show ι .u32 (P7 (LV x))=P7 (LV x) by rw[xX];omega,H!,A!,q6,AD,q5,AD,d,AD,np,Ym h,AD,H!,H!];rfl
theorem AFg{x}(h:Hg x)(a:x.2.1=0->x=(x.1,0,GG.all (X,[]))):Co (eF x,x.1)=Y (x,0):=by have b:=h.1;have c:=h.2.1;unfold Co eF;dsimp only;rw[F! o!,A!,F! o!,A!];by_cases hn:x.2.1=0;rw[C! hn];rw[(by grind[El,kD,List.length_replicate,tG,p?]:El (kD 256)=Y ((0,0,GG.all (X,[])),7)),AD];exact E! (λq=>Y (q,(0:V))) (a hn).symm;grind[ADk,p?]
def rR{L}(h:Gv L)(a:W L<=1099511627776){p:V}(b:0<=p/\p<64){k}:Co (eF (st (L.take k) p),p)=Y (st (L.take k) p,0):=by grind[AFg,XY,ACs,Se]
def AKo{A p R:Bd}(h:(W A:V)+W p+W R<=1099511627776)(a:W p<=8392):Bl (A++(HX p++R),(W A:V))=Y (p,(W A:V)+8+W p,0):=by grind[Tm,n?,EM,kJ]
end Go.Pm
