/- Texts of wip, joined and shortened by wip/tools/pack.py; nothing is assumed. -/
import Derived.Test.YtkgodfhnofpglaaGreatK10
noncomputable section
set_option linter.all false
set_option maxHeartbeats 1000000
set_option maxRecDepth 100000
open Option renaming some->D
open List renaming length->Z
open Go renaming Ψ->E
open Bool renaming false->X
open Bool renaming true->A
open Option renaming none->U
open Go renaming Ω->W
open Option renaming some->δ,none->ε,bind->σ
open Bool renaming true->ζ,false->η
open List renaming length->θ,replicate->ς
open Sum renaming elim->ν
open Int renaming toNat->ο
namespace Go.Pm
open Go Go.Ab
noncomputable section

end
def AGd:JK ()=δ ζ:=by
 suffices D:An (JK ()) λr=>r=ζ by obtain⟨r,hr,rfl⟩:=D;exact hr
 have l:Dc ((1,[],0):Ad):=⟨g!,g!,g!,g!,g!,λi e h=>by simp at h⟩
 have hn:GO ()=δ (1,[],0):=rfl;unfold JK;refine AA (AD9 (L:=[]) (x:=(2,[0])) ⟨g!,g!,g!,g!,rfl,λi a b H j A=>by simp at j A,λa j=>by simp at j;omega⟩) λv h=>?_;obtain⟨z,I,G,J,t,K⟩:=h;rw[hn,AD];obtain⟨r,e,F,o⟩:=ACp (fs:=[]) (p:=1) (m:=2) (k:=0) (d:=0) (LI.nil 0) HS.nil z (Xd l) (AEg (L:=[]) rfl (BS _)) G g! (Ao _) t.symm g! g! (λf B=>by simp at B) ⟨g!,by rw[t];decide⟩;have u:Dz ([],v.1,(1,[],0),1,0)=δ r:=e;have kn:∀p:Int,∀r:AT×D4×Int,Dz ([],v.1,(1,[],0),p,0)=δ r->r.2.2≠49->MA ([],v.1,(1,[],0),p)=δ (bif r.2.2==0 then 0 else-1):=λp r hr g=>by obtain⟨w,n,s⟩:=Oo l;unfold MA;dsimp only;rw[n,AD,s,Df];unfold Nh;dsimp;rw[hr,AD,beq_eq_false_iff_ne.2 g];cases r.2.2==0<;>rfl
 obtain⟨q,C,E⟩:=Gl z.vb;obtain⟨w,n,s⟩:=Il l;rw[u,AD,o,L!,B!,show C0 1=δ r.1 by rw[F];rfl,AD,rA,B!,AD,kn 1 r u (by rw[o];decide),AD,o,L!,B!,AD];have c:∃x y,Dz ([],v.1,(1,[],0),2,0)=δ (x,y,1):=by unfold Dz;dsimp only;rw[C,E,AD,CE,A!,n,s,AD,CE,A!,F! g!,A!,G! (by rw[t];decide),B!];exact⟨_,_,rfl⟩
 obtain⟨x,y,c⟩:=c;rw[kn 2 _ c u!];exact AB rfl
def AAO{x:Ψ Ap}{b}(a:∀f∈x,Z f.2.2≠0/\Z f.2.2<=1099511627775)(h:CX b)(E:Z x<=1000000):An (EF b x) λr=>CX r.2/\Z r.1<=Z x/\∀f∈r.1,f∈x\/∃g∈x,rN g.2.2 f.2.2/\Z f.2.2<=Z g.2.2+1:=by unfold EF;refine AQ (y? ⟨h,BS _,λf a=>by simp at a⟩) (λj=>?_);simp only[len]at j;refine AA (AW h q!) λA_ u=>?_;have⟨s,c,t⟩:=u;simp[len]at t;rw[Aa (x:=A_.1+1)];refine AA (AW s g!) λF l=>AQ (λ_=>?_) (λ_=>?_);refine AA (Bd (Ag _) c) λG m=>AA (Bd o! i! i!) λH n=>?_;have l2:=m.2;have z:=n.2;simp only[len]at z;refine AA (Ac w!) λI d=>AA (Ac (by rw[d.1];simp;omega)) λJ o=>AB ⟨l.1,?_,λf a=>.inl ?_⟩;rw[o.1,d.1];simp;omega;dsimp only at a;rw[o.1,d.1,m.1,n.1]at a;rcases Ah.1 a with q|q;rcases Ah.1 q with q|q;simp at q;exact Nn (EJ q);exact Nn (EJ q);refine AA (Ac w!) λK y=>?_;have k:=y.1;rw[Bt]at k;subst k;refine AA (AI c) λL _=>AA (AI c) λD_ p=>?_;obtain⟨a1,a2⟩:=a _ p.2;refine AA (yh l.1 a1 a2) λM e=>AA (AI c) λB _=>AA (AI c) λC v=>AB ⟨e.1,by simp[Es],λf i=>?_⟩;rcases Ph i with w|w;exact .inl w;rw[w];exact .inr ⟨D_,p.2,e.2.1,e.2.2⟩
def ADi{b}(h:CX b):An (MJ b ()) λr=>1<=r.1/\r.1<=4/\r.2.1.2.1=r.1/\AR r.2.2.2.1.2.1 r.2.1/\RC r.2.1 10/\Ye r.2.2.2.1.2.1 r.2.2.1/\HS r.2.2.2.1.2.1/\r.2.2.1.1+θ r.2.2.1.2.1-1=θ r.2.2.2.1.2.1/\r.2.2.2.1.2.2=θ r.2.2.2.1.2.1/\CX r.2.2.2.2.2/\θ r.2.2.2.2.1<=8/\(∃m:Nat,(m:Int)=r.1/\∀f∈r.2.2.2.2.1,FI r.2.2.2.1.2.1 r.2.2.2.1.2.2 m f\/∃g,FI r.2.2.2.1.2.1 r.2.2.2.1.2.2 m g/\rN g.2.2 f.2.2/\θ f.2.2<=1099511627776)/\Dc r.2.2.2.1/\r.2.2.2.1.1=1/\∃n,LI n r.2.2.2.1.2.1:=by
 unfold MJ;refine AA ((kh h (x:=25) o!).and (AAT h (x:=25) o!)) λa h0=>?_;obtain⟨⟨c0,O,n2,d,n,N⟩,Y,F⟩:=h0;refine AA (AAK (x:=(a.1,a.2.1)) c0 ⟨O,d!⟩ d) λv1 h1=>?_;obtain⟨S,o,Q,⟨kc,hk,ad⟩,R,E,U_,_⟩:=h1;dsimp only at o E U_;have L:=d.2.2.1;have w:=d.num F;obtain⟨x1,x2,x3,x4,x5,x6⟩:=id d;have s:RC v1.1 10:=λlo=>C5 (hk lo) o!;have y3:=o.vb.2.1;have y4:=o.vb.2.2.1;obtain⟨m,M⟩:=Et (show 0<=a.1 by omega);have X_:a.2.1.2.2=θ a.2.1.2.1:=o!
 have D_:(m:Int)=a.1:=M.symm;refine AA (P:=λr=>CX r.2/\θ r.1<=8/\∀f∈r.1,FI a.2.1.2.1 a.2.1.2.2 m f) (by rw[M];exact AD3 S N w o (Xd d) o! o! o!) λv2 h2=>?_;obtain⟨T,i8,z⟩:=h2;refine AA (AW T (x:=2) o!) λv3 I=>AA (P:=λ(r:AL×Ad)=>CX r.1/\Ye a.2.1.2.1 r.2/\r.2.2.2=a.2.1.2.2/\r.2.1+θ r.2.2.1-1=θ a.2.1.2.1) ?_ λv6 B=>?_;refine AQ (λ_=>?_) (y? ⟨I.1,Xd d,rfl,d!⟩);refine AA (AW I.1 o!) λv4 h4=>?_;obtain⟨q1,q2,q3⟩:=h4;rw[Aa (x:=1+v4.1)];refine AA (AJt d Y o! o! o!) λu l=>AB ⟨q1,l.1,l.2.2,?_⟩;have V:=l.1.vl.2.2.2.2.1;have W:=l.2.2;have e3:=l.2.1;have al:u.1.1+θ u.1.2.1-1<=θ a.2.1.2.1:=by by_cases hz:θ u.1.2.1=0;omega;have y:=Au (show θ u.1.2.1-1<θ u.1.2.1 by omega);have A_:=(l.1.vl.2.2.2.2.2 _ _ y).1;obtain⟨i,K⟩:=Dk ((l.1.tail _).1 (BP y)).1;have H:=(w i _ K).1;have Z:=Ce K;omega
 dsimp only;omega;refine AA (AW B.1 (x:=3) o!) λv7 J=>AA (P:=λr=>CX r.1/\AR a.2.1.2.1 r.2/\RC r.2 10/\r.2.2.1=a.1) ?_ λv9 v=>?_;refine AQ (λ_=>?_) (y? ⟨J.1,o,s,E⟩);exact AA (ACj o Q J.1 R) λv8 C=>AB ⟨C.1,C.2.1,C.2.2.1 10 s,E⟩;refine AA (AW v.1 (x:=3) o!) λao p=>?_;have G:∀f∈v2.1,θ f.2.2≠0/\θ f.2.2<=1099511627775:=λf t=>by obtain⟨x,⟨j,hj,V,W,xe⟩,y⟩:=z f t;rw[y,xe];unfold encI;rw[AV,DY,ic,aM (λc hc=>oz w o! o! hc),Ix];omega
 refine AA (P:=λr=>CX r.2/\θ r.1<=8/\∀f∈r.1,FI a.2.1.2.1 a.2.1.2.2 m f\/∃g,FI a.2.1.2.1 a.2.1.2.2 m g/\rN g.2.2 f.2.2/\θ f.2.2<=1099511627776) ?_ λar k=>AB ⟨O,n2,v.2.2.2,v.2.1,v.2.2.1,B.2.1,w,B.2.2.2,X_,k.1,k.2.1,⟨m,D_,k.2.2⟩,d,F,n,N⟩;refine AQ (λ_=>?_) (y? ⟨p.1,i8,λf t=>.inl (z f t)⟩);refine AA (AAO G p.1 o!) λap e=>AB ⟨e.1,by have:=e.2.1;omega,λf t=>?_⟩;rcases e.2.2 f t with q|⟨g,A_,H,Z⟩;exact .inl (z f q);exact .inr ⟨g,z g A_,H,by have:=(G g A_).2;omega⟩
def Wz(P Q:E Bc):frames (P++Q)=frames P++frames Q:=by unfold frames;rw[Kp,List.flatten_append]
def ni:∀(P Q:E Bc),P.map Z=Q.map Z->∀(u w:Bc)(a b:UInt8),frames P=u++a::w->frames Q=u++b::w->a=b
 |[],Q,hl,u,w,a,b,h1,h2=>by have:=E! Z h1;simp[frames]at this
 |p::P,[],hl,u,w,a,b,h1,h2=>by simp at hl
 |p::P,q::Q,hl,u,w,a,b,h1,h2=>by
  rw[Bs,Bs]at hl;injection hl with l1 l2;rw[J0]at h1 h2;have e:(HM p).length=(HM q).length:=by rw[DY,DY,l1]
  rcases lh.1 h1 with⟨x,c,d⟩|⟨x,c,d⟩;subst c;rw[A2]at h2;obtain⟨g,f⟩:=EO h2 e.symm;exact ni P Q l2 x w a b d f;cases x with
  |nil=>rw[DR]at c;rw[Bt]at d;rw[<-c]at h2;obtain⟨g,f⟩:=EO h2 e.symm;exact ni P Q l2 [] w a b d.symm f
  |cons y x=>
   rw[Dx]at d;injection d with j k;subst j;have i:HM q++frames Q=(u++b::x)++frames P:=by rw[h2,k];simp
   have h:(HM q).length=(u++b::x).length:=by rw[<-e,c];simp
   obtain⟨g,f⟩:=EO i h;exact AB7 l1 c g
def vY{s:Bc}(h:θ s<=1099511627776):An (Ex s) λr=>r.2=0->∃(p:Bc)(R:Ψ Bc),s=frames (p::R)/\θ p=12/\∀q∈R,θ q=258:=by
 have l:∀z:Aj,∀k:Int,k≠0->An (D (z,k)) λr:Aj×Int=>r.2=0->∃(p:Bc)(R:Ψ Bc),s=frames (p::R)/\θ p=12/\∀q∈R,θ q=258:=λz k S=>AB λh=>O! h S;have w:=Ru (a:=[]) (t:=s) (by rw[Be];omega);rw[Bt,Be]at w;unfold Ex;rw[show De (s,0)=_ from w,AD];refine AK (l _ _ ·) (λE=>AK (λ_=>l _ _ g!) (λd=>AA WL λv1 _=>AP (λ_=>l _ _ g!) (λ_=>?_)));have d:(UF 0 s).1.length=12:=by simp only[len]at d;omega
 obtain⟨a1,⟨y,a2⟩,a3⟩:=oP E;refine AA (FC d!) λv2 _=>AA (FC d!) λv3 _=>AA (FC d!) λH _=>AC (λ_=>l _ _ g!) (λM=>?_);generalize Z:(UF 0 s).1=p at*;refine AA (P:=λr=>(∃e z,r=.inl (e,z)/\e≠0)\/∃(a:Int)(n:Ψ Ck)(z:Int×Int×Aj),r=.inr (a,n,z)/\θ n<=64/\CD n/\∃R t,s=frames (p::R)++t/\a=(frames (p::R)).length/\∀q∈R,θ q=258) ?_ λr hr=>?_
 ·refine CV (λ(t:Int×Int×List Ck×Int×Int×Aj)=>0<=t.2.1/\t.2.1<=max 0 H.1/\θ t.2.2.1<=t.2.1/\CD t.2.2.1/\∃R o,s=frames (p::R)++o/\t.1=(frames (p::R)).length/\∀q∈R,θ q=258) (λt=>(H.1-t.2.1).toNat) ⟨Ag _,d!,u!,λc u=>by simp at u,[],y,by rw[a2];simp[frames],by rw[a3];simp[frames,DY];omega,λq C=>by simp at C⟩ ?_;rintro⟨I,i,n,z⟩ ⟨U_,V,W,F,R,o,f,A_,B⟩;dsimp only at U_ V W F A_;unfold VW;dsimp only;refine AC (λu=>?_) (λu=>k? (.inr ⟨_,_,_,rfl,o!,F,R,o,f,A_,B⟩));have D_:=E! θ f;rw[AV]at D_;have w:=Ru (a:=frames (p::R)) (t:=o) o!;rw[A_];rw[<-f]at w;rw[w,AD];refine AK (λj=>k? (.inl ⟨_,_,rfl,j⟩)) (λE=>AK (λ_=>k? (.inl ⟨_,_,rfl,g!⟩)) (λd=>?_));have d:(UF (frames (p::R)).length o).1.length=258:=by simp only[len]at d;omega
  obtain⟨X_,⟨m,J⟩,K⟩:=oP E;refine AA (ABN d) λv7 N=>AA (Ac w!) λv8 G=>?_;rw[Aa (x:=i+1)];refine y! ⟨d!,d!,?_,?_,R++[(UF (frames (p::R)).length o).1],m,?_,?_,?_⟩ d!
  rw[G.1];simp;omega;rw[G.1];intro c u;rcases Ah.1 u with q|q;exact F c q;rw[Ax.1 q];exact N;rw[<-Dx,Wz,A2];conv=>lhs;rw[f,J]
  simp[frames];dsimp only;rw[K,<-Dx,Wz,AV];simp[frames,DY];omega;intro q C;rcases Ah.1 C with g|g;exact B q g;rw[Ax.1 g];exact d
 rcases hr with⟨e,z,rfl,Q⟩|⟨a,n,z,rfl,Y,L,R,t,f,A_,B⟩;exact BC (l _ _ Q);refine A3 (AC (λ_=>l _ _ g!) (λv=>?_));dsimp only at v⊢;obtain⟨b,O,_⟩:=AFd (x:=(z.1,z.2.1,n)) d! L;rw[O,AD];refine AP (λ_=>l _ _ g!) (λhv=>AB λ_=>⟨p,R,?_,d,B⟩);have D_:=E! θ f;rw[AV]at D_;simp only[len]at v;have T:t=[]:=fX.1 o!;rw[f,T,DR]
def nv:∀(R:E Bc),(∀q∈R,Z q=258)->(frames R).length=266*Z R
 |[],_=>rfl
 |q::R,h=>by rw[J0,AV,DY,h q (As.2 (.inl rfl)),nv R λx a=>h x (As.2 (.inr a)),BW];omega
def re(x:Aj):encI x=frames (mm x::x.2.2.map nB):=by unfold encI rq;rw[J0];congr 1;unfold frames;rw[Lh];rfl
def nK{L}(h:HS L)(z:θ L<=1099511627776){d}{m:Nat}(hn:m<=64){x}(A_:PI L d m x){s}(t:rN (encI x) s){p:Bc}{R:E Bc}(e:s=frames (p::R))(l1:θ p=12)(l2:∀q∈R,θ q=258):False:=by
 obtain⟨j,_,_,_,C⟩:=A_;have k:∀q∈x.2.2.map nB,θ q=258:=λq r=>by obtain⟨c,k,rfl⟩:=BY.1 r;rw[C]at k;exact oz h z hn k
 have k1:(encI x).length=20+266*(x.2.2.map nB).length:=by rw[re,J0,AV,DY,ic,nv _ k]
 have D_:θ s=20+266*θ R:=by rw[e,J0,AV,DY,l1,nv _ l2]
 rcases t with⟨u,v,b,g,i⟩|⟨u,v,b,g,i⟩|⟨u,v,a,b,o,g,i⟩;have l:=E! θ g;have n:=E! θ i;simp only[AV,BW]at l n;omega;have l:=E! θ g;have n:=E! θ i;simp only[AV,BW]at l n;omega;have l:=E! θ g;have n:=E! θ i;simp only[AV,BW]at l n;rw[re]at g;rw[e]at i;refine o (ni _ _ ?_ u v a b g i);have f:∀Z:E Bc,(∀q∈Z,θ q=258)->Z.map θ=ς (θ Z) 258:=λZ w=>List.eq_replicate_iff.2 ⟨BX _,λy B=>by obtain⟨q,r,rfl⟩:=BY.1 B;exact w q r⟩;rw[Bs,Bs,f _ k,f _ l2,ic,l1,show(x.2.2.map nB).length=θ R by omega]
def ADl{L}(h:HS L)(b:Z L<=1099511627776){d}{m:Nat}(hn:m<=64){x}(f:PI L d m x){s:Bc}(c:Z s<=1099511627776)(a:rN (encI x) s):An (Ex s) λr=>r.2≠0:=by refine(vY c).mono λr hr g=>?_;obtain⟨p,R,e,l1,l2⟩:=hr g;exact nK h b hn f a e l1 l2
def AFt{x:Aj}(j:Z x.2.2<=16777216)(g:CD x.2.2):An (Ds x) λ_=>True:=by unfold Ds;refine AC (y? trivial) (λ_=>AC (y? trivial) (λ_=>AC (y? trivial) (λ_=>AC (y? trivial) (λ_=>AA (P:=λ_=>True) ?_ λr _=>BA (λ_ _=>AB trivial) (λ_ _=>AB trivial)))));refine CV (λ(s:Int)=>0<=s/\s<=Z x.2.2) (λs=>((Z x.2.2:Int)-s).toNat) ⟨Ag _,o!⟩ (λi e=>?_);obtain⟨h,l⟩:=e;unfold OL;dsimp only[len];refine AC (λf=>?_) (λ_=>k? trivial);rw[Aa (x:=i+1)];refine AA (AI h f) λa d=>AC (λ_=>k? trivial) (λ_=>AC (λ_=>k? trivial) (λ_=>?_));have b:An (σ (Ci (a.2.2,a.1)) λc=>bif c.2 !=0 then D (Step.done (.inl X))else bif c.1.2.1 !=a.2.1 then D (Step.done (.inl X))else D (Step.next (i+1)):W (Step Int (Bool⊕Unit))) (Jj (λs=>0<=s/\s<=Z x.2.2) (λs=>((Z x.2.2:Int)-s).toNat) ((Z x.2.2:Int)-i).toNat λ_=>True):=AA (Lu (g _ d.2)) λ_ _=>AK (λ_=>k? trivial) (λ_=>AK (λ_=>k? trivial) (λ_=>y! o! o!));refine AC (λk=>?_) (λ_=>b);rw[Aa (x:=i-1)];exact AA (AI) λm _=>AC (λ_=>k? trivial) (λ_=>b)
def tG{x:Bc×Int×Int}(h:Z x.1<=1099511627776):An (Ba x) λ_=>True:=by unfold Ba;exact AA (Cl h) λ_ _=>AB trivial
def vI{s:Bc}(h:θ s<=1099511627776):An (C9 s) λr=>r.2=0->∃(p:Bc)(R:Ψ Bc),s=frames (p::R)/\θ p=12/\∀q∈R,θ q=258:=by
 have l:∀z:Aj,∀k:Int,k≠0->An (D (z,k)) λr:Aj×Int=>r.2=0->∃(p:Bc)(R:Ψ Bc),s=frames (p::R)/\θ p=12/\∀q∈R,θ q=258:=λz k S=>AB λh=>O! h S;have y:=Pd (a:=[]) (t:=s) (by rw[Be];omega);rw[Bt,Be]at y;unfold C9;rw[show Bg (s,0)=_ from y,AD];refine AK (l _ _ ·) (λF=>AK (λ_=>l _ _ g!) (λd=>?_));have d:(UF 0 s).1.length=12:=by simp only[len]at d;omega
 obtain⟨a1,⟨A_,a2⟩,a3⟩:=oP F;refine AA (Bx g! g! (by rw[d];decide)) λv1 _=>AK (λ_=>l _ _ g!) (λ_=>AA (tG d!) λv2 _=>AA (tG d!) λv3 _=>AA (tG d!) λH _=>AC (λ_=>l _ _ g!) (λM=>?_));generalize hp:(UF 0 s).1=p at*;refine AA (P:=λr=>(∃e z,r=.inl (e,z)/\e≠0)\/∃(a:Int)(o:Ψ Ck)(z:Int×Int×Aj),r=.inr (a,o,z)/\θ o<=64/\CD o/\∃R t,s=frames (p::R)++t/\a=(frames (p::R)).length/\∀q∈R,θ q=258) ?_ λr hr=>?_
 ·refine CV (λ(t:Int×Int×List Ck×Int×Int×Aj)=>0<=t.2.1/\t.2.1<=max 0 H/\θ t.2.2.1<=t.2.1/\CD t.2.2.1/\∃R n,s=frames (p::R)++n/\t.1=(frames (p::R)).length/\∀q∈R,θ q=258) (λt=>(H-t.2.1).toNat) ⟨Ag _,d!,u!,λc v=>by simp at v,[],A_,by rw[a2];simp[frames],by rw[a3];simp[frames,DY];omega,λq D_=>by simp at D_⟩ ?_;rintro⟨I,i,o,z⟩ ⟨U_,V,W,G,R,n,f,B,C⟩;dsimp only at U_ V W G B;unfold M7;dsimp only;refine AC (λv=>?_) (λv=>k? (.inr ⟨_,_,_,rfl,o!,G,R,n,f,B,C⟩));have E:=E! θ f;rw[AV]at E;have y:=Pd (a:=frames (p::R)) (t:=n) o!;rw[B];rw[<-f]at y;rw[y,AD];refine AK (λj=>k? (.inl ⟨_,_,rfl,j⟩)) (λF=>AK (λ_=>k? (.inl ⟨_,_,rfl,g!⟩)) (λd=>?_));have d:(UF (frames (p::R)).length n).1.length=258:=by simp only[len]at d;omega
  obtain⟨Y,⟨m,J⟩,K⟩:=oP F;rw[show len (UF (frames (p::R)).length n).1=258 by simp only[len];omega];refine AA (Bx g! g! (by rw[d];decide)) λv7 N=>?_;have l7:=N.2;refine AA (tG d!) λv8 _=>AA (Lu d!) λv9 _=>AA (Ac w!) λX_ u=>?_;rw[Aa (x:=i+1)];refine y! ⟨d!,d!,?_,?_,R++[(UF (frames (p::R)).length n).1],m,?_,?_,?_⟩ d!
  rw[u.1];simp;omega;rw[u.1];intro c v;rcases Ah.1 v with q|q;exact G c q;rw[Ax.1 q];dsimp only;omega;rw[<-Dx,Wz,A2];conv=>lhs;rw[f,J]
  simp[frames];dsimp only;rw[K,<-Dx,Wz,AV];simp[frames,DY];omega;intro q D_;rcases Ah.1 D_ with g|g;exact C q g;rw[Ax.1 g];exact d
 rcases hr with⟨e,z,rfl,Q⟩|⟨a,o,z,rfl,Z,L,R,t,f,B,C⟩;exact BC (l _ _ Q);refine A3 (AK (λ_=>l _ _ g!) (λw=>?_));dsimp only at w⊢;obtain⟨b,O,_⟩:=AFt (x:=(z.1,z.2.1,o)) d! L;rw[O,AD];refine AP (λ_=>l _ _ g!) (λhv=>AB λ_=>⟨p,R,?_,d,C⟩);have E:=E! θ f;rw[AV]at E;simp only[len]at w;have T:t=[]:=fX.1 o!;rw[f,T,DR]
def ABU{L}(h:HS L)(b:Z L<=1099511627776){d}{m:Nat}(hn:m<=64){x}(f:PI L d m x){s:Bc}(c:Z s<=1099511627776)(a:rN (encI x) s):An (C9 s) λr=>r.2≠0:=by refine(vI c).mono λr hr g=>?_;obtain⟨p,R,e,l1,l2⟩:=hr g;exact nK h b hn f a e l1 l2
def ACR{L}(h:HS L)(c:Z L<=1099511627776){d}{m:Nat}(hn:1<=m/\m<=64){x}(a:PI L d m x):C9 (encI x)=D (x,0):=by have⟨j,b,e,f,g⟩:=a;grind[AAL]
def zh{c:Type}{R:c->c->Prop}(d:∀x y,R x y->R y x->False){s t:E c}(f:s.Pairwise R)(g:t.Pairwise R)(h:∀e,e∈s↔e∈t):s=t:=by have nd:∀{u:E c},u.Pairwise R->u.Nodup:=λk=>F5.2 (k.imp λh e=>by subst e;exact d _ _ h h);exact cX (le:=R) (λa b _ _ i j=>(d a b i j).elim) f g ((WQ (nd f) (nd g)).2 h)
theorem ADS{L:List EN}(h:HS L)(B:L.length<=1099511627776){d:Int}{m:Nat}(hn:1<=m/\m<=64){a:List Ap}(h8:a.length<=8)(Z: ∀f∈a,FB Ex L d m f):An (Hr a) λr=>θ r<=8/\(r.Pairwise λx y=>x.1<y.1)/\∀x,x∈r↔Rx L d m a (θ a) x:=by
 unfold Hr;refine AA (P:=λr=>θ r.2<=8/\(r.2.Pairwise λx y=>x.1≠y.1)/\∀x,x∈r.2↔Rx L d m a (θ a) x) ?_ λv U_=>?_
 ·refine CV (λs=>rM L d m a s/\s.2.2.Pairwise λx y=>x.1≠y.1) (λs=>((θ a:Int)-s.1).toNat) ⟨⟨0,rfl,BS _,Ao _,λid=>⟨λq=>(by cases q),λ⟨k,g,k0,_⟩=>O! k0 (Nat.not_lt_zero _)⟩,λx=>⟨λq=>(by cases q),λ⟨k,g,k0,_⟩=>O! k0 (Nat.not_lt_zero _)⟩⟩,List.Pairwise.nil⟩ ?_;rintro⟨_,t,o⟩ ⟨⟨n,rfl,n1,o1,K,N⟩,J⟩;dsimp only at o1 K N J;unfold T5;dsimp[len];refine AC (λT=>?_) (λT=>k? ⟨d!,J,by rw[show θ a=n by omega];exact N⟩);rw[Aa (x:=(n:Int)+1)];refine AA (AI o! T) λe S=>?_;have l:=S.1;rw[DF]at l;have same:(∀x,¬sV L d m a n e x)->(e.1=2->∃(k:Nat)(g:Ap),k<n/\a[k]?=D g/\g.1=2/\g.2.1=e.2.1)->An (D (Step.next ((n:Int)+1,t,o)):Ω (Step (Int×Ψ (Int×Bool)×Ψ Aj) (Ψ (Int×Bool)×Ψ Aj))) (Jj (λs:Int×Ψ (Int×Bool)×Ψ Aj=>rM L d m a s/\s.2.2.Pairwise λx y=>x.1≠y.1) (λs=>((θ a:Int)-s.1).toNat) ((θ a:Int)-n).toNat λr=>θ r.2<=8/\(r.2.Pairwise λx y=>x.1≠y.1)/\∀x,x∈r.2↔Rx L d m a (θ a) x):=λi ad=>by
   refine y! ⟨⟨n+1,rfl,o!,d!,λid=>?_,λx=>?_⟩,J⟩ d!
   dsimp only;rw[K id];refine⟨λ⟨k,g,k0,k1⟩=>⟨k,g,o!,k1⟩,λ⟨k,g,k0,k1,u,w⟩=>?_⟩;by_cases p:k=n<;>grind;simp_all[Rx.step]
  refine AK (λA_=>same (λx q=>A_ q.1) λq=>O! q A_) (λA_=>AM (λM=>?_) (λM=>?_));have⟨k,g,k0,k1,u,w⟩:=(K e.2.1).1 M;exact same (λx q=>q.2.1 k g k0 k1 u w) λ_=>⟨k,g,k0,k1,u,w⟩
  have c:∀(k:Nat)(g:Ap),k<n->a[k]?=D g->g.1=2->g.2.1≠e.2.1:=λk g k0 k1 u w=>by rw[(K e.2.1).2 ⟨k,g,k0,k1,u,w⟩]at M;cases M
  have V:∀I,θ I<=n+1->(I.Pairwise λx y=>x.1≠y.1)->(∀x,x∈I↔x∈o\/sV L d m a n e x)->An (D (Step.next ((n:Int)+1,PP e.2.1 A t,I)):Ω (Step (Int×Ψ (Int×Bool)×Ψ Aj) (Ψ (Int×Bool)×Ψ Aj))) (Jj (λs:Int×Ψ (Int×Bool)×Ψ Aj=>rM L d m a s/\s.2.2.Pairwise λx y=>x.1≠y.1) (λs=>((θ a:Int)-s.1).toNat) ((θ a:Int)-n).toNat λr=>θ r.2<=8/\(r.2.Pairwise λx y=>x.1≠y.1)/\∀x,x∈r.2↔Rx L d m a (θ a) x):=λI Q R ho=>by
   refine y! ⟨⟨n+1,rfl,o!,Q,λid=>?_,λx=>?_⟩,R⟩ d!
   dsimp only;rw[u5];by_cases b:id=e.2.1;rw[C! b];exact⟨λ_=>⟨n,e,o!,l,A_,b.symm⟩,λ_=>rfl⟩;rw[D! b,K id];refine⟨λ⟨k,g,k0,k1⟩=>⟨k,g,o!,k1⟩,λ⟨k,g,k0,k1,u,w⟩=>?_⟩;by_cases p:k=n<;>grind
   ·dsimp only;rw[Rx.step l,ho x,N x]
  have none:(∀x,¬sV L d m a n e x)->An (some (Step.next ((n:Int)+1,(PP e.2.1 true t,o))):Option (Step (Int×List (Int×Bool)×Ψ Aj) (Ψ (Int×Bool)×Ψ Aj))) (Jj (λs:Int×Ψ (Int×Bool)×Ψ Aj=>rM L d m a s/\s.2.2.Pairwise λx y=>x.1≠y.1) (λs=>((θ a:Int)-s.1).toNat) ((θ a:Int)-n).toNat λr=>θ r.2<=8/\(r.2.Pairwise λx y=>x.1≠y.1)/\∀x,x∈r.2↔Rx L d m a (θ a) x):=λi=>V o o! J λx=>⟨.inl,λq=>q.elim id λq=>absurd q (i x)⟩
  rcases Z _ S.2 with⟨x,E,p⟩|i
  ·have⟨j,hj,x1,x2,xe⟩:=id E;have D_:=ACZ h B (k:=j) ⟨x1,x2⟩ hn;rw[c!,<-xe]at D_;rw[p,pW h B hn E,AD];dsimp only;rw[beq_self_eq_true,cond_true,D_,AD,cond_true];refine AQ (λb=>?_) (λb=>none λy F=>b ?_);refine AA (Ac w!) λv4 O=>V v4 (by rw[O.1];simp;omega) (by rw[O.1,List.pairwise_append];refine⟨J,List.pairwise_singleton _ _,λy F z H G=>?_⟩;obtain⟨k,g,k0,k1,W,g2,g3,g4,X_⟩:=(N y).1 F;rw[Ax.1 H,b]at G;exact c k g k0 k1 W (by rw[<-X_,G])) λy=>?_;rw[O.1,Ah,Ax];refine⟨λq=>q.imp id λq=>by rw[q];exact⟨A_,c,E,p,b⟩,λq=>q.imp id λq=>Yy h B hn q.2.2.1 E (q.2.2.2.1.symm.trans p)⟩
   ·rw[<-Yy h B hn F.2.2.1 E (F.2.2.2.1.symm.trans p)];exact F.2.2.2.2
  ·have C: ∀x,¬sV L d m a n e x:=λx q=>by have⟨r,hr,H⟩:=i;rw[q.2.2.2.1,pW h B hn q.2.2.1]at hr;cases hr;exact H rfl
   exact AA i λv2 Y=>AQ (λH=>absurd H Y) (λ_=>none C)
 ·refine AA (AHq o! U_.2.1) λr hr=>?_;rw[Vp hr.1,B!];exact AB ⟨by have:=hr.1.length_eq;omega,hr.2,λx=>by rw[hr.1.mem_iff];exact U_.2.2 x⟩
theorem AAR{L:List EN}(h:HS L)(X_:L.length<=1099511627776){d:Int}{m:Nat}(hn:1<=m/\m<=64){a:List Ap}(h8:a.length<=8)(hf: ∀f∈a,FB C9 L d m f):An (HA a) λr=>r.length<=8/\(r.Pairwise λx y=>x.1<y.1)/\ ∀x,x∈r↔Rx L d m a a.length x:=by
 unfold HA;refine AA (P:=λr=>r.length<=8/\(r.Pairwise λx y=>x.1<y.1)/\ ∀x,x∈r↔Rx L d m a a.length x) ?_ λr hr=>AB hr;refine CV (λ(s:List Aj×Int)=> ∃n:Nat,s.2=n/\n<=a.length/\s.1.length<=n/\(s.1.Pairwise λx y=>x.1<y.1)/\ ∀x,x∈s.1↔Rx L d m a n x) (λs=>((a.length:Int)-s.2).toNat) ⟨0,rfl,BS _,Ao _,List.Pairwise.nil,λx=>⟨λq=>(by cases q),λ⟨k,g,k0,_⟩=>O! k0 (Nat.not_lt_zero _)⟩⟩ ?_;rintro⟨A_,_⟩ ⟨n,rfl,n1,i2,N,i3⟩;dsimp only at i2 N i3;unfold Sl;dsimp[len];refine AC (λO=>?_) (λO=>k? ⟨o!,N,by rw[show θ a=n by omega];exact i3⟩);rw[Aa (x:=(n:Int)+1)];refine AA (AI o! O) λG h1=>?_;have M:=h1.1;rw[DF]at M;have o:∀v,a[(n:Int).toNat]?=D v/\v∈a->v=G:=λv hv=>by grind[Option.some.inj]
 have B:(∀x,¬sV L d m a n G x)->An (D (Step.next (A_,(n:Int)+1)):Ω (Step (Ψ Aj×Int) (Ψ Aj))) (Jj (λs=>∃n:Nat,s.2=n/\n<=θ a/\θ s.1<=n/\(s.1.Pairwise λx y=>x.1<y.1)/\∀x,x∈s.1↔Rx L d m a n x) (λs=>((θ a:Int)-s.2).toNat) ((θ a:Int)-n).toNat λr=>θ r<=8/\(r.Pairwise λx y=>x.1<y.1)/\∀x,x∈r↔Rx L d m a (θ a) x):=λF=>y! ⟨n+1,rfl,o!,d!,N,λx=>by dsimp only;rw[Rx.step M,i3 x];exact⟨.inl,λq=>q.elim id λq=>O! q (F x)⟩⟩ d!
 refine AA (P:=λb=>b=true↔G.1=2/\ ∀(k:Nat) (g:Ap),k<n->a[k]? =some g->g.1=2->g.2.1≠G.2.1) ?_ λv6 h6=>AP (λhb=>B λx q=>by rw[h6.2 ⟨q.1,q.2.1⟩]at hb;cases hb) (λhb=>?_)
 ·refine CV (λ(t:Bool×Int)=> ∃j:Nat,t.2=j/\j<=n/\(t.1=true↔G.1=2/\ ∀(k:Nat) (g:Ap),k<j->a[k]?=D g->g.1=2->g.2.1≠G.2.1)) (λt=>((n:Int)-t.2).toNat) ⟨0,rfl,BS _,⟨λq=>⟨eq_of_beq q,λk g k0=>O! k0 (Nat.not_lt_zero _)⟩,λq=>beq_iff_eq.2 q.1⟩⟩ ?_;rintro⟨b,_⟩ ⟨j,rfl,j1,jb⟩;dsimp only at jb;unfold Sm;dsimp only;refine AC (λJ=>?_) (λJ=>k? (by rw[show n=j by omega];exact jb));rw[Aa];refine AM (λa2=>?_) (λa1=>y! ⟨j+1,rfl,o!,⟨λq=>(by cases q),λq=>?_⟩⟩ d!)
  ·have⟨q1,q2⟩:=jb.1 a2;refine AA (AI) λv3 h3=>?_;have e3:=h3.1;rw[DF]at e3;refine AK (λW=>y! ⟨j+1,rfl,o!,⟨λ_=>⟨q1,λk g k0 k1 k2=>?_⟩,λ_=>rfl⟩⟩ d!) (λW=>AA (AI) λv4 h4=>AA (AI) λv5 h5=>y! ⟨j+1,rfl,by omega,?_⟩ (by dsimp only;omega))
   ·by_cases C:k=j
    ·subst C;rw[e3]at k1;cases k1;exact absurd k2 W
    ·exact q2 k g (by omega) k1 k2
   ·have e4:v4=v3:=by have:=h4.1;rw[h3.1]at this;exact(BL this).symm
    have e5:v5=G:=o v5 h5;dsimp only;rw[e4,e5,M!];refine⟨λK=>⟨q1,λk g k0 k1 k2=>?_⟩,λq=>q.2 j v3 o! e3 W⟩;by_cases C:k=j;subst C;rw[e3]at k1;cases k1;exact K;exact q2 k g o! k1 k2
  have:=jb.2 ⟨q.1,λk g k0=>q.2 k g o!⟩;rw[a1]at this;cases this
 ·have⟨W,p⟩:=h6.1 hb;refine AA (AI o! O) λv7 h7=>?_;rw[o v7 h7];rcases hf _ h1.2 with⟨x,Z,C⟩|F
  ·have⟨j,j1,x1,x2,xe⟩:=id Z;rw[C,ACR h X_ hn Z,AD];refine AK (O! rfl ·) (λ_=>?_);have hw:=ACb h X_ (k:=j) ⟨x1,x2⟩ hn;rw[c!,<-xe]at hw;dsimp only;rw[hw,AD,CE,cond_false];refine AA (AI (by omega) O) λa5 ar=>?_;rw[o a5 ar];refine AK (λD_=>B λy c=>D_ ?_) (λD_=>?_)
   ·rw[<-Yy h X_ hn c.2.2.1 Z (c.2.2.2.1.symm.trans C)];exact c.2.2.2.2
   refine AA (P:=λr:Int=>0<=r/\r<=A_.length/\(∀y∈A_.drop r.toNat,x.1<y.1)/\(r=0\/ ∃y,A_[(r-1).toNat]? =some y/\ ¬x.1<y.1)) ?_ λl u=>?_
   ·refine CV (λ(t:Int)=>0<=t/\t<=A_.length/\ ∀y∈A_.drop t.toNat,x.1<y.1) (λt=>t.toNat) ⟨o!,o!,λy c=>by rw[LZ o!]at c;cases c⟩ (λt hI=>?_);have⟨t0,t1,t2⟩:=hI;unfold Sn;refine AC (λJ=>?_) (λJ=>k? ⟨t0,t1,t2,.inl o!⟩);rw[Aa];refine AA (AI o! d!) λal S=>AC (λa3=>y! ⟨o!,o!,λy c=>?_⟩ o!) (λa4=>k? ⟨t0,t1,t2,.inr ⟨al,S.1,λq=>a4 q⟩⟩);have E:(t-1).toNat<θ A_:=o!
    have hd:A_.drop (t-1).toNat=al::A_.drop t.toNat:=by rw[KH E,show(t-1).toNat+1=t.toNat by omega];have:=S.1;rw[Au E]at this;rw[BL this]
    rw[hd]at c;rcases As.1 c with q|q;rw[q];exact a3;exact t2 y q
   ·refine AA (Bd (Ag _) u.1 u.2.1) λao T=>AA (Bd u.1) λap U_=>?_;have a7:=T.2;have a8:=U_.2;refine AA (Ac w!) λa9 I=>AA (Ac (by rw[I.1];simp;omega)) λa' V=>AA (Ac (by rw[V.1,I.1];simp;omega)) λa6 ax=>?_;have H:a6=ao++[x]++ap:=by rw[ax.1,V.1,I.1];rfl
    have Q:ao=A_.take l.toNat:=by rw[T.1];rfl
    have R:ap=A_.drop l.toNat:=by rw[U_.1];exact BN (by rw[DO];omega)
    have K:∀y∈A_,y.1≠x.1:=λy c e=>by obtain⟨k,g,k0,k1,g1,g2,g3,g4,g5⟩:=(i3 y).1 c;exact p k g k0 k1 g1 (by rw[<-g5,e,D_])
    refine y! ⟨n+1,rfl,o!,by dsimp only;rw[H];simp[AV,tX];omega,?_,λy=>?_⟩ d!
    dsimp only;rw[H,Q,R,A2,List.pairwise_append];refine⟨N.sublist (ff _ _),List.pairwise_cons.2 ⟨λy c=>u.2.2.1 y c,N.sublist (UH _ _)⟩,λy c z hz=>?_⟩;rcases As.1 hz with q|q;rw[q];have ad:=K y (EJ c);rcases u.2.2.2 with w|⟨w,w1,w2⟩;rw[w]at c;simp at c;obtain⟨i,hi,rfl⟩:=RM.1 c;rw[BU]at hi;rw[fW]at ad⊢;by_cases C:i=(l-1).toNat
    rw[<-C,Au o!]at w1;have:=BL w1;rw[this]at ad⊢;omega;have E:=(FA.1 N) i (l-1).toNat o! o! o!
    rw[Au o!]at w1;rw[BL w1]at E;omega;have:=N;rw[<-C4 l.toNat A_,List.pairwise_append]at this;exact this.2.2 y c z q;dsimp only;rw[Rx.step M,H,Q,R,<-i3 y];have hA:y∈A_↔y∈A_.take l.toNat\/y∈A_.drop l.toNat:=by
     conv=>lhs;rw[<-C4 l.toNat A_]
     exact Ah
    rw[Ah,Ah,Ax,hA];constructor;rintro((q|q)|q);exact .inl (.inl q);rw[q];exact .inr ⟨W,p,Z,C,D_⟩;exact .inl (.inr q);rintro((q|q)|q);exact .inl (.inl q);exact .inr q;exact .inl (.inr (Yy h X_ hn q.2.2.1 Z (q.2.2.2.1.symm.trans C)))
  have Y:∀x,¬sV L d m a n G x:=λx q=>by have⟨r,hr,hz⟩:=F;rw[q.2.2.2.1,ACR h X_ hn q.2.2.1]at hr;cases hr;exact hz rfl
  exact AA F λv8 a0=>AK (λ_=>B Y) (O! · a0)
theorem ADy{L:List EN}(h:HS L)(I:L.length<=1099511627776){d:Int}{m:Nat}(hn:1<=m/\m<=64){A_:List Ap}{V:List Aj}(F:Hr A_=some V)(U_:Z V<=8)(K:V.Pairwise λx y=>x.1<y.1)(E:∀x∈V,PI L d m x){p k:Int}(J:0<=p/\p<m):An (M8 (A_,p,k)) λr=>Z r<=8/\r.Pairwise tS/\∀y,y∈r↔ ∃x∈V,aC x p<=k/\y=(aC x p,(x.1,aC x p)):=by
 unfold M8;dsimp only;rw[F,AD];refine AA (P:=λr=>r.length<=8/\(r.Pairwise λx y=>y.2.1<x.2.1)/\ ∀y,y∈r↔ ∃x∈V,aC x p<=k/\y=(aC x p,(x.1,aC x p))) ?_ λr hr=>?_
 ·dsimp[len];rw[Aa];refine CV (λ(s:Int×List Bb)=> -1<=s.1/\s.1<Z V/\(Z s.2:Int)+s.1+1<=Z V/\(s.2.Pairwise λx y=>y.2.1<x.2.1)/\∀y,y∈s.2↔∃x∈V.drop (s.1+1).toNat,aC x p<=k/\y=(aC x p,x.1,aC x p)) (λs=>(s.1+1).toNat) ⟨d!,d!,k!,List.Pairwise.nil,λy=>by dsimp only;rw[LZ o!];simp⟩ ?_;rintro⟨i,o⟩ ⟨O,C,Q,g,b⟩;dsimp only at O C Q g b;unfold T4;dsimp only;refine AC (λG=>?_) (λ_=>k? ⟨o!,g,by rw[show(i+1).toNat=0 by omega]at b;exact b⟩);rw[Aa];refine AA (AI G C) λc D_=>?_;have⟨j,W,R,S,T⟩:=E c D_.2;have a:=AAN h I (j:=j) ⟨R,S⟩ hn J;rw[c!,<-T]at a;have B:V.drop (i-1+1).toNat=c::V.drop (i+1).toNat:=by grind[Ce,m?,List.drop_eq_getElem_cons,Option.some.inj]
  rw[a,AD];dsimp only;rw[B!,show(Ww (st (L.take j) p)).2.1=aC c p from(KB _ _).trans (by grind[yv]:aC c p=Bn (L.take j) p).symm];refine AC (λn=>?_) (λH=>y! ⟨d!,d!,d!,g,λy=>?_⟩ d!)
  ·refine AA (Ac w!) λX_ l=>y! ⟨d!,d!,by dsimp only;rw[l.1];simp;omega,?_,λy=>?_⟩ d!
   dsimp only;rw[l.1,List.pairwise_append];refine⟨g,List.pairwise_singleton _ _,λy M z N=>?_⟩;obtain⟨w,e,_,rfl⟩:=(b y).1 M;rw[Ax.1 N];have:=K.sublist (UH (i-1+1).toNat V);rw[B]at this;exact(List.pairwise_cons.1 this).1 w e;dsimp only;rw[l.1,B,Ah,Ax,b y];constructor;rintro(⟨w,e,t⟩|q);exact⟨w,CU _ e,t⟩;exact⟨c,Gj,n,q⟩;rintro⟨w,e,t,u⟩;rcases As.1 e with q|q;rw[q]at u;exact .inr u;exact .inl ⟨w,q,t,u⟩
  grind[List.mem_cons_of_mem]
 refine AA (AHt o! hr.2.1) λv f=>?_;rw[Vp f.1,B!];exact AB ⟨by have:=f.1.length_eq;omega,f.2,λy=>by rw[f.1.mem_iff];exact hr.2.2 y⟩
def Stop(A:E Bb)(r n:Int):Prop:=r=0\/∃y,A[(r-1).toNat]?=D y/\¬y.1<n
def ADY{s:Int×List Bb}{v}(h:Z s.2<=8):An (Ak (L9 s v) (len s.2)) λr=>0<=r/\r<=Z s.2/\(∀y∈s.2.drop r.toNat,y.1<v.1.2.1)/\Stop s.2 r v.1.2.1:=by
 refine CV (λ(t:Int)=>0<=t/\t<=Z s.2/\∀y∈s.2.drop t.toNat,y.1<v.1.2.1) (·.toNat) ⟨i!,i!,λy a=>by rw[LZ i!]at a;cases a⟩ (λt j=>?_);have⟨f,g,d⟩:=j;unfold L9;refine AC (λk=>?_) (λk=>k? ⟨f,g,d,.inl o!⟩);rw[Aa];refine AA (AI) λn m=>AA (AI) λi e=>AC (λb=>y! ⟨o!,o!,λy a=>?_⟩ o!) (λc=>k? ⟨f,g,d,.inr ⟨i,e.1,c⟩⟩);have l:s.2.drop (t-1).toNat=i::s.2.drop t.toNat:=by rw[KH o!,show(t-1).toNat+1=t.toNat by omega];have:=e.1;rw[Au o!]at this;rw[BL this]
 rw[l]at a;rcases As.1 a with q|q;rw[q];exact b;exact d y q
def AFr{x:Ψ Ap×AJ×Ad×Int×Int}{L}(h:HS L)(hl:θ L<=1099511627776){d}{m:Nat}(hn:1<=m/\m<=64){V:Ψ Aj}(v8:θ V<=8)(hs:V.Pairwise λx y=>x.1<y.1)(X_:∀z∈V,PI L d m z){p:Int}(S:0<=p/\p<m){t:Int}(P:x.2.2.2.1=p)(ht:x.2.2.2.2=t):An (Ak (L8 x V) (wi (len V-1),[])) λr=>θ r<=8/\r.Pairwise tS/\∀y,y∈r↔∃z∈V,aC z p<=t/\y=(aC z p,z.1,aC z p):=by
 have Y:wi (len V-1)=(θ V:Int)-1:=by simp only[len];rw[Aa]
 rw[Y];refine CV (λs=>∃n:Nat,s.1=(n:Int)-1/\n<=θ V/\θ s.2<=θ V-n/\s.2.Pairwise tS/\∀y,y∈s.2↔∃z∈V.drop n,aC z p<=t/\y=(aC z p,z.1,aC z p)) (λs=>(s.1+1).toNat) ⟨θ V,rfl,Ao _,k!,List.Pairwise.nil,λy=>⟨λq=>(by cases q),λ⟨z,q,_⟩=>(by rw[List.drop_length]at q;cases q)⟩⟩ ?_;rintro⟨_,A_⟩ ⟨n,rfl,n1,n2,F,g⟩;dsimp only at n2 F g;unfold L8;dsimp only;refine AC (λZ=>?_) (λZ=>k? ⟨o!,F,by rw[show n=0 by omega]at g;exact g⟩);obtain⟨k,rfl⟩:∃k:Nat,n=k+1:=⟨n-1,o!⟩
 have N:k<θ V:=n1;have M:ix V (((k+1:Nat):Int)-1)=D V[k]:=by unfold ix;rw[C! o!,show(((k+1:Nat):Int)-1).toNat=k by omega,Au N]
 rw[M,AD,ht,P,Aa];obtain⟨j,hj,x1,x2,T⟩:=X_ _ (KM N);have B:IM (V[k],p)=D (Ww (st (L.take j) p),A):=by rw[T];exact AEo h hl ⟨x1,x2⟩ hn S
 have u:(Ww (st (L.take j) p)).2.1=aC V[k] p:=by rw[T,yv S];exact KB _ _
 have a:V.drop k=V[k]::V.drop (k+1):=KH N;rw[B,AD,CE,A!];dsimp only;rw[u];refine AC (λad=>y! ⟨k,d!,o!,d!,F,λy=>?_⟩ d!) (λal=>?_);dsimp only;rw[g y,a];constructor;rintro⟨z,b,f⟩;exact⟨z,CU _ b,f⟩;rintro⟨z,b,f,H⟩;rcases As.1 b with rfl|b;omega;exact⟨z,b,f,H⟩
 ·refine AA (ADY (s:=(_,A_)) (v:=(Ww (st (L.take j) p),A)) d!) λv C=>?_;dsimp only at C;refine AA (Bd (Ag _) C.1 C.2.1) λ_ _=>?_;rw[AD];refine AA (Bd C.1 i! i!) λ_ _=>?_;have U_:List.take (ο v-ο 0) (List.drop (ο 0) A_)=A_.take v.toNat:=rfl;have W:List.take (ο (len A_)-ο v) (List.drop (ο v) A_)=A_.drop v.toNat:=BN (by rw[DO];simp only[len];omega);rw[U_,W];refine AA (Ac w!) λar o=>AA (Ac (by rw[o.1];simp;omega)) λax D_=>AA (Ac (by rw[D_.1,o.1];simp;omega)) λG I=>?_;have l:G=A_.take v.toNat++[(aC V[k] p,V[k].1,aC V[k] p)]++A_.drop v.toNat:=by rw[I.1,D_.1,o.1];rfl
  have ap:θ G=θ A_+1:=by rw[l];simp;omega
  have K:∀y∈A_,V[k].1<y.2.1:=λy e=>by obtain⟨z,b,_,rfl⟩:=(g y).1 e;have:=hs.sublist (UH k V);rw[a]at this;exact(List.pairwise_cons.1 this).1 z b
  refine AC (λ_=>y! ⟨k,d!,o!,d!,?_,λy=>?_⟩ d!) (O! o! ·);dsimp only;rw[l,A2,List.pairwise_append];have c:=F;rw[<-C4 v.toNat A_,List.pairwise_append]at c;refine⟨c.1,List.pairwise_cons.2 ⟨λy e=>.inl (by have:=C.2.2.1 y e;rw[u]at this;exact this),c.2.1⟩,λy e z hz=>?_⟩;rcases As.1 hz with q|q;rw[q];have ao:=K y (EJ e);have R:aC V[k] p<=y.1:=by
   rcases C.2.2.2 with w|⟨w,Q,w2⟩;rw[w]at e;simp at e;rw[u]at w2;obtain⟨i,hi,rfl⟩:=RM.1 e;rw[BU]at hi;rw[fW];rw[Au o!]at Q;by_cases he:i=(v-1).toNat
   subst he;rw[BL Q];omega;have E:=(FA.1 F) i (v-1).toNat o! o! o!
   rw[BL Q]at E;unfold tS at E;omega
  unfold tS;dsimp only;omega;exact c.2.2 y e z q;dsimp only;rw[l,a];have J:y∈A_↔y∈A_.take v.toNat\/y∈A_.drop v.toNat:=by
   conv=>lhs;rw[<-C4 v.toNat A_]
   exact Ah
  rw[Ah,Ah,Ax];constructor;rintro((q|q)|q);obtain⟨z,b,f⟩:=(g y).1 (J.2 (.inl q));exact⟨z,CU _ b,f⟩;exact⟨_,Gj,o!,q⟩;obtain⟨z,b,f⟩:=(g y).1 (J.2 (.inr q));exact⟨z,CU _ b,f⟩;rintro⟨z,b,f,H⟩;rcases As.1 b with rfl|b;exact .inl (.inr H);rcases J.1 ((g y).2 ⟨z,b,f,H⟩)with q|q;exact .inl (.inl q);exact .inr q
def AC9{x}:An (Ft x) λr=>r=A↔KD x:=by
 unfold Ft KD;refine AC (λi=>AB ⟨λh=>(by cases h),λh=>o!⟩) (λv=>AC (λi=>AB ⟨λh=>(by cases h),λh=>o!⟩) (λw=>AC (λi=>AB ⟨λh=>(by cases h),λh=>by have:=h.2.2.2.2.2.2.2.2;unfold SI at this;omega⟩) (λy=>AC (λi=>AB ⟨λh=>(by cases h),λh=>by have:=h.2.2.2.2.2.2.2.2;unfold SI at this;omega⟩) (λz=>AA G0 λA_ j=>AP (λi=>AB ⟨λh=>(by cases h),λh=>by rw[j.2 ⟨h.2.2.1,h.2.2.2.1⟩]at i;cases i⟩) (λs=>AA G0 λB k=>AP (λi=>AB ⟨λh=>(by cases h),λh=>by rw[k.2 ⟨h.2.2.2.2.1,h.2.2.2.2.2.1⟩]at i;cases i⟩) (λt=>AA G0 λC l=>AP (λi=>AB ⟨λh=>(by cases h),λh=>by rw[l.2 ⟨h.2.2.2.2.2.2.1,h.2.2.2.2.2.2.2.1⟩]at i;cases i⟩) (λu=>?_)))))));have n:=j.1 s;have o:=k.1 t;have p:=l.1 u;refine An.mono (P:=λr=>r=A↔SI x) ?_ λr h=>h.trans ⟨λq=>⟨o!,o!,n.1,n.2,o.1,o.2,p.1,p.2,q⟩,λq=>q.2.2.2.2.2.2.2.2⟩;clear j k l s t u;have⟨a,b,c,d,e,f,g,m⟩:=x;unfold SI;dsimp only at*;refine AC (O! · o!) (λk0=>?_);exact x!
def zT{x}:An (Hu x) λr=>r=A↔Dc x:=by
 by_cases c:Dc x;exact(Il c).mono λr hr=>⟨λ_=>c,λ_=>hr⟩
 have a:An (D X) λr=>r=A↔Dc x:=AB ⟨λq=>(by cases q),λq=>O! q c⟩;unfold Hu;refine AC (λ_=>a) (λa1=>AC (λ_=>a) (λa2=>AC (λ_=>a) (λa3=>?_)));simp only[len]at a3;rw[Aa (x:=x.1-1)];refine AC (λ_=>a) (λa4=>AA Xg λu l=>?_);have k:u=x.1+Z x.2.1-1:=by rw[l];simp only[len];rw[Aa (x:=x.1+Z x.2.1),Aa]
 subst k;refine AC (λ_=>a) (λa5=>?_);refine AA (P:=λr=>r=.inl X) ?_ λr hr=>by rw[hr];exact BC a
 refine CV (λ(s:Int)=>0<=s/\s<=Z x.2.1/\∀(i:Nat)(e:AE),i<s->x.2.1[i]?=D e->e.1=x.1+i/\KD e) (λs=>((Z x.2.1:Int)-s).toNat) ⟨Ag _,o!,λi e o=>o!⟩ (λs n=>?_);have⟨t,v,j⟩:=n;unfold UA;refine AC (λb=>?_) (λb=>O! ⟨o!,o!,o!,o!,o!,λi e d=>j i e (by have:=Ce d;simp only[len]at b;omega) d⟩ c);simp only[len]at b;refine AA (AI t b) λw h=>?_;rw[Aa (x:=x.1+s),Aa (x:=s+1)];refine AK (λ_=>k? rfl) (λd=>AA AC9 λy m=>AP (λ_=>k? rfl) (λf=>y! ⟨o!,o!,λi e o g=>?_⟩ o!));by_cases p:(i:Int)<s;exact j i e p g;rw[show s.toNat=i by omega]at h;rw[h.1]at g;rw[<-BL g];exact⟨o!,m.1 f⟩
def AE5{S T R Q:Type}{f:S->W (Step S R)}{g:T->W (Step T Q)}(I:S->T->Prop)(J:R->Q->Prop)(j:S->Nat)(h:∀s t,I s t->(∃a e,f s=D (.next a)/\g t=D (.next e)/\I a e/\j a<j s)\/∃r q,f s=D (.done r)/\Ak g t=D q/\J r q){s:S}{t:T}(k:I s t):∃r q,Ak f s=D r/\Ak g t=D q/\J r q:=by
 suffices H:∀(m:Nat)(s:S)(t:T),j s<=m->I s t->∃r q,Ak f s=D r/\Ak g t=D q/\J r q from H _ s t (Ao _) k
 intro m;induction m with
 |zero=>intro s t o i;rcases h s t i with⟨a,e,_,_,_,n⟩|⟨r,q,b,c,d⟩;omega;exact⟨r,q,by rw[Df,b],c,d⟩
 |succ m p=>intro s t o i;rcases h s t i with⟨a,e,b,c,l,n⟩|⟨r,q,b,c,d⟩;obtain⟨r,q,u,v,d⟩:=p a e o! l;exact⟨r,q,by rw[Df,b];exact u,by rw[Df,c];exact v,d⟩;exact⟨r,q,by rw[Df,b],c,d⟩
def AD1{a:List Ap}{V:List Aj}{x:Aj}(h:HA a=D V)(k:Z V<=1000)(g:∀x∈V,∀y∈V,x.1=y.1->x=y)(c:x∈V):Ng (a,x.1)=D (x,A):=by
 suffices f:An (Ak (PL (a,x.1) V) (0,0,0,[])) λr=>r=.inl (A,x) by obtain⟨r,hr,rfl⟩:=f;grind[Ng]
 refine CV (λ(s:Int×Aj)=>∃j:Nat,s.1=j/\j<=Z V/\x∉V.take j) (λs=>θ V-s.1.toNat) ⟨0,rfl,BS _,k!⟩ ?_;rintro⟨_,o⟩ ⟨j,rfl,i,hn⟩;unfold PL;dsimp[len];refine AC (λd=>?_) (λd=>O! c (by rwa[BN o!]at hn));rw[Wo o!,AD,AD];refine AQ (λe=>k? ?_) (λe=>?_);rw[g _ (KM _) x c e]
 ·rw[Aa (x:=(j:Int)+1)];refine y! ⟨j+1,rfl,o!,λb=>?_⟩ d!
  rw[Ca,Au o!]at b;rcases Ah.1 b with q|q;exact hn q;exact e (by rw[<-show x=V[j] by simpa using q])
theorem ACn{L:List EN}{a:AJ}{l:Ad}{p k d:Int}{m c:Nat}{C:List Ap}(hU:Uq L)(K:HS L)(J:L.length≤1099511627776)(S:AR L a)(hr:RC a c)(ao:c≤12)(hm:(m:Int)=a.2.1)(hn:1≤m∧m≤64)(h8:C.length≤8)(hf: ∀f∈C,FB Ex L d m f)(hg: ∀f∈C,FB C9 L d m f)(M:k≤9223372036854775807):
  ∃r,Dz (C,(a,(l,(p,k))))=some r/\Fo (C,(a,(l,(p,k))))=some r/\θ r.2.1.2.2.2.2.1<=12/\(Dc l->0<=p->p<a.2.1->0<=k->r.2.2=0\/r.2.2=49)/\(r.2.2≠0->r.1=(0,0,Ge.all (X,[]))/\r.2.1=(0,0,0,0,[],0,0))/\r.1.2.1<=1099511627776:=by
 obtain⟨v,hv,rfl⟩:=Gl S.vb;obtain⟨v',a5,e'⟩:=NC (x:=a);have t':=e'.2 S.vb;subst t';obtain⟨w,hw,O⟩:=zT (x:=l);obtain⟨w',a6,al⟩:=BZ (x:=l);have a7:w=w':=Bool.eq_iff_iff.2 (O.trans al.symm);subst a7;unfold Dz Fo;dsimp only;rw[hv,a5,hw,a6,AD,AD,AD,AD,CE,A!,A!];cases w with
 |false=>rw[pq,B!,B!];exact⟨_,rfl,rfl,BS _,λh=>O! (O.2 h) g!,λ_=>⟨rfl,rfl⟩,g!⟩
 |true=>
 have hl:=O.1 rfl;rw[CE,A!,A!];by_cases Y:p<0;rw[G! Y,B!,B!];exact⟨_,rfl,rfl,BS _,λ_ h=>o!,λ_=>⟨rfl,rfl⟩,g!⟩;rw[F! Y,A!,A!];by_cases ad:p>=a.2.1;rw[G! ad,B!,B!];exact⟨_,rfl,rfl,BS _,λ_ _ h=>o!,λ_=>⟨rfl,rfl⟩,g!⟩;rw[F! ad,A!,A!];by_cases X_:k<0;rw[G! X_,B!,B!];exact⟨_,rfl,rfl,BS _,λ_ _ _ h=>o!,λ_=>⟨rfl,rfl⟩,g!⟩
 rw[decide_eq_false X_,cond_false,cond_false];have hp:0<=p/\p<a.2.1:=⟨by omega,by omega⟩
 have pm:0<=p/\p<m:=⟨by omega,by omega⟩
 obtain⟨V,hV,v8,vs,hS⟩:=ADS K J hn h8 hf;obtain⟨V',T,bm,a',a0⟩:=AAR K J hn h8 hg;have a1:V=V':=zh (λx y h1 h2=>by omega) vs a' λe=>(hS e).trans (a0 e).symm;subst a1;have hP: ∀x∈V,PI L d m x:=λx hx=>by obtain⟨i,f,_,_,q⟩:=(hS x).1 hx;exact q.2.2.1
 have hu: ∀x∈V,∀y∈V,x.1=y.1->x=y:=λx hx w hw e=>Rx.uniq K J hn ((hS x).1 hx) ((hS w).1 hw) e;obtain⟨R,hR,r8,rs,H⟩:=ADy (k:=k) K J hn hV v8 vs hP pm;obtain⟨R',ar,bl,a9,N⟩:=AFr (x:=(C,(a,(l,(p,k))))) K J hn v8 vs hP pm rfl rfl;have ax:R=R':=zh (λx y h1 h2=>by unfold tS at h1 h2;omega) rs a9 λe=>(H e).trans (N e).symm;subst ax;rw[hV,AD,hR,AD,T,AD,ar,AD];obtain⟨Z,hZ,eZ,lZ⟩:=Ac (l:=R) (xs:=([(0,(0,0))]:List Bb)) (by simp;omega);rw[hZ,AD];have bb:Z.length=R.length+1:=by rw[eZ];simp
 have b:C0 p=some (st (L.take 0) p):=rfl;have I: ∀B:AT,∀r:AT×Int,B.1=p->r.2=0->(r.2=0->Eb r.1/\r.1.1=B.1/\Eb B/\B.1<a.2.1/\B.2.1<=k/\ ∃es,EQ (a,(l,(B.1,(B.2.1,k))))=some (es,0)/\EK (a,(l,(B.1,(B.2.1,k))))=some (es,0))-> ∃u,Hi (a,(l,(p,(B.2.1,k))))=some u/\IL (a,(l,(p,(B.2.1,k))))=some u/\u.2.2.2=0/\u.1.length<=12:=λB r h1 h2 h3=>by obtain⟨_,_,hv,_,a3,es,o1,o2⟩:=h3 h2;rw[h1]at o1 o2;exact AIp S hl hv.2.2.1 hv.2.2.2.1 ⟨a3,M⟩ hp hr ao o1 o2
 have s0:(st (L.take 0) p).2.1=0:=KB _ _;obtain⟨y,py,ry,fy⟩:=AEC (x:=st (L.take 0) p) (k:=k) hU S hl M;have key: ∃r q,Ak (HJ (C,(a,(l,(p,k)))) V R) (0,((0,(0,(Ge.all (false,[])))),(0,(0,(0,(0,([],(0,0))))))))=some r/\Ak (D6 (C,(a,(l,(p,k)))) Z) (0,((0,(0,(Ge.all (false,[])))),(0,(0,(0,(0,([],(0,0))))))))=some q/\((∃u:AT×D4,r= .inl (0,u)/\q= .inl (0,u)/\u.2.2.2.2.2.1.length<=12/\u.1.2.1<=1099511627776)\/((∃z,r= .inr z)/\((y.2≠0/\ ∃z,q= .inr z)\/(y.2=0/\ ∃u,Hi (a,(l,(p,(0,k))))=some u/\u.2.2.2=0/\u.1.length<=12/\q= .inl (0,(y.1,(p,(0,(0,(k,(u.1,(u.2.1,u.2.2.1)))))))))))):=by
  refine AE5 (λ(s t:Int×AT×D4)=>s=t/\ ∃i:Nat,s.1=i/\i<=R.length) _ (λ(s:Int×AT×D4)=>R.length-s.1.toNat) ?_ ⟨rfl,0,rfl,BS _⟩;rintro⟨_,z⟩ _ ⟨rfl,i,rfl,hi⟩;have iZ:i<Z.length:=by omega
  by_cases U_:i<R.length
  ·have Q:Z[i]=R[i]:=by simp only[eZ];rw[List.getElem_append_left U_]
   obtain⟨x,xV,xk,xe⟩:=(H _).1 (KM U_);obtain⟨j,hj,x1,x2,ex⟩:=hP x xV;have a2:aC x p=Bn (L.take j) p:=by rw[ex];exact yv pm
   have a4:(st (L.take j) p).2.1=Bn (L.take j) p:=KB _ _;obtain⟨_,G,g,x',rfl,g0,gx,ap⟩:=AIB v8 (y:=R[i]) ⟨x,xV,by rw[xe]⟩;have a8:x'=x:=hu x' (BP gx) x xV (ap.trans (by rw[xe]));subst a8;have W:ix V g=some x':=by unfold ix;rw[if_pos g0,gx]
   have A_:=ABj K J (j:=j) ⟨x1,x2⟩ hn pm;have n:=AFV K J (k:=j) ⟨x1,x2⟩ hn pm;rw[c!,<-ex]at A_ n;have f1:=AD1 T (by omega) hu xV;obtain⟨r,pr,rr,fr⟩:=AEC (x:=st (L.take j) p) (k:=k) hU S hl M;have D_:R[i].2.1=x'.1:=by rw[xe]
   have r1:R[i].1=(st (L.take j) p).2.1:=by rw[xe,a4,<-a2]
   have F:wi ((i:Int)+1)=i+1:=Aa (by omega);by_cases o:r.2=0
   ·obtain⟨u,E,P,u3,u4⟩:=I _ r (Rw _ _) o fr;refine .inr ⟨.inl (0,(r.1,(p,(R[i].2.1,((st (L.take j) p).2.1,(k,(u.1,(u.2.1,u.2.2.1)))))))),.inl (0,(r.1,(p,(R[i].2.1,((st (L.take j) p).2.1,(k,(u.1,(u.2.1,u.2.2.1)))))))),?_,?_,.inl ⟨_,rfl,rfl,u4,(fr o).1.2.2.2.1⟩⟩
    ·unfold HJ;dsimp only[len];rw[decide_eq_true (by omega),cond_true,Wo U_,AD,G,AD];dsimp only[Sum.elim];rw[W,AD,A_,AD];dsimp only;rw[H!,A!,pr,AD,o,H!,A!,E,AD,u3,beq_self_eq_true,cond_true]
    ·rw[Df];unfold D6;dsimp only[len];rw[decide_eq_true (by omega),B!,b,AD,Wo iZ,AD,Q,D_,G! o!,B!];simp only[AD];rw[D_,f1,AD,n,AD,rr,AD,o,H!,cond_false,r1,P];rfl
   ·refine .inl ⟨((i:Int)+1,z),((i:Int)+1,z),?_,?_,⟨rfl,i+1,rfl,U_⟩,by dsimp only;omega⟩
    ·unfold HJ;dsimp only[len];rw[decide_eq_true (by omega),cond_true,Wo U_,AD,G,AD];dsimp only[Sum.elim];rw[W,AD,A_,AD];dsimp only;rw[bne_self_eq_false,cond_false,pr,AD,bne_iff_ne.2 o,cond_true,F]
    ·unfold D6;dsimp only[len];rw[decide_eq_true (by omega),B!,b,AD,Wo iZ,AD,Q,D_,G! o!,B!];simp only[AD];rw[D_,f1,AD,n,AD,rr,AD,bne_iff_ne.2 o,B!,F]
  ·have Q:Z[i]=(0,0,0):=by simp only[eZ];rw[List.getElem_append_right o!];simp
   have F:wi ((i:Int)+1)=i+1:=Aa;have b1:HJ (C,a,l,p,k) V R ((i:Int),z)=D (.done (.inr z)):=by unfold HJ;dsimp only[len];rw[F! o!,A!]
   by_cases o:y.2=0;obtain⟨u,E,P,u3,u4⟩:=I _ y (Rw _ _) o fy;rw[s0]at E P;refine .inr ⟨.inr z,.inl (0,y.1,p,0,0,k,u.1,u.2.1,u.2.2.1),b1,?_,.inr ⟨⟨_,rfl⟩,.inr ⟨o,u,E,u3,u4,rfl⟩⟩⟩;rw[Df];unfold D6;dsimp only[len];rw[G! o!,B!,b,AD,Wo iZ,AD,Q];dsimp only;rw[F! o!,A!,ry,AD,o,H!,A!];simp only[AD];rw[P];rfl
   ·refine .inr ⟨.inr z,.inr z,b1,?_,.inr ⟨⟨_,rfl⟩,.inl ⟨o,_,rfl⟩⟩⟩;rw[Df];have b2:D6 (C,a,l,p,k) Z ((i:Int),z)=D (.next ((i:Int)+1,z)):=by unfold D6;dsimp only[len];rw[G! o!,B!,b,AD,Wo iZ,AD,Q];dsimp only;rw[F! o!,A!,ry,AD,bne_iff_ne.2 o,B!,F]
    rw[b2];dsimp only;rw[Df];unfold D6;dsimp only[len];rw[F! o!,A!]
 obtain⟨r,q,k1,k2,⟨u,rfl,rfl,E⟩|⟨⟨z,rfl⟩,⟨o,z',rfl⟩|⟨o,u,E,P,u3,rfl⟩⟩⟩:=key;rw[k1,k2];exact⟨_,rfl,rfl,E.1,λ_ _ _ _=>.inl rfl,λh=>O! rfl h,E.2⟩;rw[k1,k2];dsimp only[p?,ν];rw[show C0 p=D (st (L.take 0) p)from rfl,AD,py,AD,bne_iff_ne.2 o,B!];exact⟨_,rfl,rfl,BS _,λ_ _ _ _=>.inr rfl,λ_=>⟨rfl,rfl⟩,g!⟩;rw[k1,k2];dsimp only[p?,ν];rw[show C0 p=D (st (L.take 0) p)from rfl,AD,py,AD,o,H!,A!,s0,E,AD,P,L!,B!];exact⟨_,rfl,rfl,u3,λ_ _ _ _=>.inl rfl,λh=>O! rfl h,(fy o).1.2.2.2.1⟩
end Go.Pm
