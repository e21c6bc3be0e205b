/- Texts of wip, joined and shortened by wip/tools/pack.py; nothing is assumed. -/
import Derived.Test.YtdbincbpjobdpaaGreatK13
import Derived.Test.YtdbincbpjobdpaaGreatProg
import Derived.Lib.Builder
import Derived.Lib.FrozenHead
import Derived.Lib.FrozenHead2
import Derived.Lib.AppendStr
import Derived.Lib.UnsafeStr
import Derived.Lib.Repeat
import Derived.Lib.RepeatB
import Derived.Lib.Walk
import Derived.WalkKit
import Derived.Laws.Externs
import Derived.Shelf.RegionOpenPlain
import Derived.Lib.MakeNoZero
import Derived.Laws.IdiomCopy
import Derived.Deep.LoopGhost
import Derived.Deep.DeepCutAuto
import Derived.Deep.DeepFit
import Derived.Deep.CutBlock
noncomputable section
set_option linter.all false
namespace Go.Pm
open Go Go.Ab
set_option maxRecDepth 100000
noncomputable section

end
set_option maxHeartbeats 400000
def AES:IY ()=some true:=by
 suffices D:Aq (IY ()) λr=>r=true by obtain⟨r,hr,rfl⟩:=D;exact hr
 have l:Do ((1,([],0)):Ad):=⟨g!,g!,g!,g!,g!,λi e h=>by simp at h⟩
 have hn:Fw ()=some (1,([],0)):=rfl;unfold IY;refine AA (ACE (L:=[]) (x:=(2,[0])) ⟨g!,g!,g!,g!,rfl,λi a b G j A=>by simp at j A,λa j=>by simp at j;omega⟩) λv h=>?_;obtain⟨z,H,F,I,t,J⟩:=h;rw[hn,AD];obtain⟨r,e,E,o⟩:=AAy (fs:=[]) (p:=1) (m:=2) (k:=0) (d:=0) (LI.nil 0) HF.nil z (WP l) (ACj (L:=[]) rfl (Be _)) F g! (Ap _) t.symm g! g! (λf B=>by simp at B) ⟨g!,by rw[t];decide⟩;have u:FO ([],(v.1,((1,([],0)),(1,0))))=some r:=e;have kn: ∀p:Int,∀r:AU×OQ×Int,FO ([],(v.1,((1,([],0)),(p,0))))=some r->r.2.2≠49->Qn ([],(v.1,((1,([],0)),p)))=some (bif r.2.2==0 then 0 else-1):=λp r hr g=>by obtain⟨w,n,s⟩:=Vg l;unfold Qn;dsimp only;rw[n,AD,s,IB];unfold ZP;dsimp;rw[hr,AD,beq_eq_false_iff_ne.2 g];cases r.2.2==0<;>rfl
 obtain⟨q,C,q1⟩:=Iz z.vb;obtain⟨w,n,s⟩:=ML l;rw[u,AD,o,beq_self_eq_true,cond_true,show D6 1=some r.1 by rw[E];rfl,AD,ABe,cond_true,AD,kn 1 r u (by rw[o];decide),AD,o,beq_self_eq_true,cond_true,AD];have c: ∃x y,FO ([],(v.1,((1,([],0)),(2,0))))=some (x,(y,1)):=by unfold FO;dsimp only;rw[C,q1,AD,Cw,cond_false,n,s,AD,Cw,cond_false,decide_eq_false g!,cond_false,decide_eq_true (by rw[t];decide),cond_true];exact⟨_,_,rfl⟩
 obtain⟨x,y,c⟩:=c;rw[kn 2 _ c u!];exact AB rfl
theorem yP{x:List Au}{b:AT}(a: ∀f∈x,f.2.2.length≠0/\f.2.2.length<=1099511627775)(h:CX b)(E:x.length<=1000000):Aq (Dy b x) λr=>CX r.2/\r.1.length<=x.length/\ ∀f∈r.1,f∈x\/ ∃g∈x,pM g.2.2 f.2.2/\f.2.2.length<=g.2.2.length+1:=by unfold Dy;refine AP (λ_=>AB ⟨h,Be _,λf a=>by simp at a⟩) (λj=>?_);simp only[len]at j;refine AA (Af h q!) λA u=>?_;have⟨s,c,t⟩:=u;simp[len]at t;rw[AY (x:=A.1+1)];refine AA (Af s g!) λF l=>AP (λ_=>?_) (λ_=>?_);refine AA (Bb (Ae _) c) λG m=>AA (Bb o! i! i!) λH n=>?_;have l2:=m.2;have z:=n.2;simp only[len]at z;refine AA (AZ w!) λI d=>AA (AZ (by rw[d.1];simp;omega)) λJ o=>AB ⟨l.1,?_,λf a=>.inl ?_⟩;rw[o.1,d.1];simp;omega;dsimp only at a;rw[o.1,d.1,m.1,n.1]at a;rcases An.1 a with q|q;rcases An.1 q with q|q;simp at q;exact Mm (Fa q);exact Mm (Fa q);refine AA (AZ w!) λK y=>?_;have k:=y.1;rw[Bw]at k;subst k;refine AA (AI c) λL _=>AA (AI c) λD p=>?_;obtain⟨a1,a2⟩:=a _ p.2;refine AA (wZ l.1 a1 a2) λM e=>AA (AI c) λB _=>AA (AI c) λC v=>AB ⟨e.1,by simp[FT],λf i=>?_⟩;rcases OY i with w|w;exact .inl w;rw[w];exact .inr ⟨D,p.2,e.2.1,e.2.2⟩
def ABp{b:AT}(h:CX b):Aq (LB b ()) λr=>1<=r.1/\r.1<=4/\r.2.1.2.1=r.1/\AR r.2.2.2.1.2.1 r.2.1/\RC r.2.1 10/\Wk r.2.2.2.1.2.1 r.2.2.1/\HF r.2.2.2.1.2.1/\r.2.2.1.1+r.2.2.1.2.1.length-1=r.2.2.2.1.2.1.length/\r.2.2.2.1.2.2=r.2.2.2.1.2.1.length/\CX r.2.2.2.2.2/\r.2.2.2.2.1.length<=8/\(∃m:Nat,(m:Int)=r.1/\ ∀f∈r.2.2.2.2.1,FI r.2.2.2.1.2.1 r.2.2.2.1.2.2 m f\/ ∃g,FI r.2.2.2.1.2.1 r.2.2.2.1.2.2 m g/\pM g.2.2 f.2.2/\f.2.2.length<=1099511627776)/\Do r.2.2.2.1/\r.2.2.2.1.1=1/\ ∃n,LI n r.2.2.2.1.2.1:=by
 unfold LB;refine AA ((jH h (x:=25) o!).and (yU h (x:=25) o!)) λa h0=>?_;obtain⟨⟨c0,O,n2,d,n,N⟩,Y,F⟩:=h0;refine AA (yM (x:=(a.1,a.2.1)) c0 ⟨O,d!⟩ d) λv1 h1=>?_;obtain⟨S,o,Q,⟨kc,hk,ad⟩,R,E,U,_⟩:=h1;dsimp only at o E U;have L:=d.2.2.1;have w:=d.num F;obtain⟨x1,x2,x3,x4,x5,x6⟩:=id d;have s:RC v1.1 10:=λlo=>Dh (hk lo) o!;have y3:=o.vb.2.1;have y4:=o.vb.2.2.1;obtain⟨m,M⟩:=EY (show 0<=a.1 by omega);have X:a.2.1.2.2=a.2.1.2.1.length:=o!
 have D:(m:Int)=a.1:=M.symm;refine AA (P:=λr=>CX r.2/\r.1.length<=8/\ ∀f∈r.1,FI a.2.1.2.1 a.2.1.2.2 m f) (by rw[M];exact AB9 S N w o (WP d) o! o! o!) λv2 h2=>?_;obtain⟨T,i8,z⟩:=h2;refine AA (Af T (x:=2) o!) λv3 I=>AA (P:=λ(r:AT×Ad)=>CX r.1/\Wk a.2.1.2.1 r.2/\r.2.2.2=a.2.1.2.2/\r.2.1+r.2.2.1.length-1=a.2.1.2.1.length) ?_ λv6 B=>?_;refine AP (λ_=>?_) (λ_=>AB ⟨I.1,WP d,rfl,d!⟩);refine AA (Af I.1 o!) λv4 h4=>?_;obtain⟨q1,q2,q3⟩:=h4;rw[AY (x:=1+v4.1)];refine AA (AHX d Y o! o! o!) λu l=>AB ⟨q1,l.1,l.2.2,?_⟩;have V:=l.1.vl.2.2.2.2.1;have W:=l.2.2;have e3:=l.2.1;have al:u.1.1+u.1.2.1.length-1<=a.2.1.2.1.length:=by by_cases hz:u.1.2.1.length=0;omega;have y:=Av (show u.1.2.1.length-1<u.1.2.1.length by omega);have A:=(l.1.vl.2.2.2.2.2 _ _ y).1;obtain⟨i,K⟩:=Dn ((l.1.tail _).1 (BN y)).1;have H:=(w i _ K).1;have Z:=Cv K;omega
 dsimp only;omega;refine AA (Af B.1 (x:=3) o!) λv7 J=>AA (P:=λ(r:AT×AK)=>CX r.1/\AR a.2.1.2.1 r.2/\RC r.2 10/\r.2.2.1=a.1) ?_ λv9 v=>?_;refine AP (λ_=>?_) (λ_=>AB ⟨J.1,o,s,E⟩);exact AA (AAv o Q J.1 R) λv8 C=>AB ⟨C.1,C.2.1,C.2.2.1 10 s,E⟩;refine AA (Af v.1 (x:=3) o!) λao p=>?_;have G: ∀f∈v2.1,f.2.2.length≠0/\f.2.2.length<=1099511627775:=λf t=>by obtain⟨x,⟨j,hj,V,W,xe⟩,y⟩:=z f t;rw[y,xe];unfold encI;rw[Ac,C8,ft,ZL (λc hc=>ms w o! o! hc),H9];omega
 refine AA (P:=λr=>CX r.2/\r.1.length<=8/\ ∀f∈r.1,FI a.2.1.2.1 a.2.1.2.2 m f\/ ∃g,FI a.2.1.2.1 a.2.1.2.2 m g/\pM g.2.2 f.2.2/\f.2.2.length<=1099511627776) ?_ λar k=>AB ⟨O,n2,v.2.2.2,v.2.1,v.2.2.1,B.2.1,w,B.2.2.2,X,k.1,k.2.1,⟨m,D,k.2.2⟩,d,F,n,N⟩;refine AP (λ_=>?_) (λ_=>AB ⟨p.1,i8,λf t=>.inl (z f t)⟩);refine AA (yP G p.1 o!) λap e=>AB ⟨e.1,by have:=e.2.1;omega,λf t=>?_⟩;rcases e.2.2 f t with q|⟨g,A,H,Z⟩;exact .inl (z f q);exact .inr ⟨g,z g A,H,by have:=(G g A).2;omega⟩
def Vq(P Q:List BT):frames (P++Q)=frames P++frames Q:=by unfold frames;rw[Ki,List.flatten_append]
def lf: ∀(P Q:List BT),P.map List.length=Q.map List.length-> ∀(u w:BT) (a b:UInt8),frames P=u++a::w->frames Q=u++b::w->a=b
 |[],Q,hl,u,w,a,b,h1,h2=>by have:=congrArg List.length h1;simp[frames]at this
 |p::P,[],hl,u,w,a,b,h1,h2=>by simp at hl
 |p::P,q::Q,hl,u,w,a,b,h1,h2=>by
  rw[Bl,Bl]at hl;injection hl with l1 l2;rw[JL]at h1 h2;have e:(Gp p).length=(Gp q).length:=by rw[C8,C8,l1]
  rcases jh.1 h1 with⟨x,c,d⟩|⟨x,c,d⟩;subst c;rw[A0]at h2;obtain⟨g,f⟩:=D7 h2 e.symm;exact lf P Q l2 x w a b d f;cases x with
  |nil=>rw[C5]at c;rw[Bw]at d;rw[<-c]at h2;obtain⟨g,f⟩:=D7 h2 e.symm;exact lf P Q l2 [] w a b d.symm f
  |cons y x=>
   rw[Di]at d;injection d with j k;subst j;have i:Gp q++frames Q=(u++b::x)++frames P:=by rw[h2,k];simp
   have h:(Gp q).length=(u++b::x).length:=by rw[<-e,c];simp
   obtain⟨g,f⟩:=D7 i h;exact AAP l1 c g
variable {a:List EN}{b:Nat}{c:Int}{d:BT}{e:Ak}
def tP(h:d.length<=1099511627776):Aq (Fq d) λr=>r.2=0-> ∃(p:BT) (R:List BT),d=frames (p::R)/\p.length=12/\ ∀q∈R,q.length=258:=by
 have l: ∀z:Ak,∀k:Int,k≠0->Aq (some (z,k)) λr:Ak×Int=>r.2=0-> ∃(p:BT) (R:List BT),d=frames (p::R)/\p.length=12/\ ∀q∈R,q.length=258:=λz k S=>AB λh=>absurd h S;have w:=Qp (a:=[]) (t:=d) (by rw[BV];omega);rw[Bw,BV]at w;unfold Fq;rw[show DM (d,0)=_ from w,AD];refine AJ (λj=>l _ _ j) (λE=>AJ (λ_=>l _ _ g!) (λs=>AA VP λv1 _=>AO (λ_=>l _ _ g!) (λ_=>?_)));have s:(UF 0 d).1.length=12:=by simp only[len]at s;omega
 obtain⟨a1,⟨y,a2⟩,a3⟩:=mT E;refine AA (Em d!) λv2 _=>AA (Em d!) λv3 _=>AA (Em d!) λH _=>AC (λ_=>l _ _ g!) (λM=>?_);generalize Z:(UF 0 d).1=p at*;refine AA (P:=λr=>(∃e z,r= .inl (e,z)/\e≠0)\/ ∃(a:Int) (n:List Cb) (z:Int×Int×Ak),r= .inr (a,(n,z))/\n.length<=64/\CD n/\ ∃R t,d=frames (p::R)++t/\a=(frames (p::R)).length/\ ∀q∈R,q.length=258) ?_ λr hr=>?_
 ·refine Cn (λ(t:Int×Int×List Cb×Int×Int×Ak)=>0<=t.2.1/\t.2.1<=max 0 H.1/\t.2.2.1.length<=t.2.1/\CD t.2.2.1/\ ∃R o,d=frames (p::R)++o/\t.1=(frames (p::R)).length/\ ∀q∈R,q.length=258) (λt=>(H.1-t.2.1).toNat) ⟨Ae _,d!,u!,λc u=>by simp at u,[],y,by rw[a2];simp[frames],by rw[a3];simp[frames,C8];omega,λq C=>by simp at C⟩ ?_;rintro⟨I,i,n,z⟩ ⟨U,V,W,F,R,o,f,A,B⟩;dsimp only at U V W F A;unfold UU;dsimp only;refine AC (λu=>?_) (λu=>Aq.done (.inr ⟨_,_,_,rfl,o!,F,R,o,f,A,B⟩));have D:=congrArg List.length f;rw[Ac]at D;have w:=Qp (a:=frames (p::R)) (t:=o) o!;rw[A];rw[<-f]at w;rw[w,AD];refine AJ (λj=>Aq.done (.inl ⟨_,_,rfl,j⟩)) (λE=>AJ (λ_=>Aq.done (.inl ⟨_,_,rfl,g!⟩)) (λs=>?_));have s:(UF (frames (p::R)).length o).1.length=258:=by simp only[len]at s;omega
  obtain⟨X,⟨m,J⟩,K⟩:=mT E;refine AA (zV s) λv7 N=>AA (AZ w!) λv8 G=>?_;rw[AY (x:=i+1)];refine Aq.next ⟨d!,d!,?_,?_,R++[(UF (frames (p::R)).length o).1],m,?_,?_,?_⟩ d!
  rw[G.1];simp;omega;rw[G.1];intro c u;rcases An.1 u with q|q;exact F c q;rw[A6.1 q];exact N;rw[<-Di,Vq,A0];conv=>lhs;rw[f,J]
  simp[frames];dsimp only;rw[K,<-Di,Vq,Ac];simp[frames,C8];omega;intro q C;rcases An.1 C with g|g;exact B q g;rw[A6.1 g];exact s
 rcases hr with⟨e,z,rfl,Q⟩|⟨a,n,z,rfl,Y,L,R,t,f,A,B⟩;exact BL (l _ _ Q);refine BA (AC (λ_=>l _ _ g!) (λv=>?_));dsimp only at v⊢;obtain⟨b,O,_⟩:=ADb (x:=(z.1,(z.2.1,n))) d! L;rw[O,AD];refine AO (λ_=>l _ _ g!) (λhv=>AB λ_=>⟨p,R,?_,s,B⟩);have D:=congrArg List.length f;rw[Ac]at D;simp only[len]at v;have T:t=[]:=dU.1 o!;rw[f,T,C5]
def lw: ∀(R:List BT),(∀q∈R,q.length=258)->(frames R).length=266*R.length
 |[],_=>rfl
 |q::R,h=>by rw[JL,Ac,C8,h q (Aw.2 (.inl rfl)),lw R λx a=>h x (Aw.2 (.inr a)),Bn];omega
def pd(x:Ak):encI x=frames (ke x::x.2.2.map ku):=by unfold encI pk;rw[JL];congr 1;unfold frames;rw[Ml];rfl
def lE(h:HF a)(t:a.length<=1099511627776)(hn:b<=64)(w:PI a c b e)(o:pM (encI e) d){p:BT}{R:List BT}(s:d=frames (p::R))(l1:p.length=12)(l2: ∀q∈R,q.length=258):False:=by
 obtain⟨j,_,_,_,A⟩:=w;have k: ∀q∈e.2.2.map ku,q.length=258:=λq n=>by obtain⟨x,k,rfl⟩:=Br.1 n;rw[A]at k;exact ms h t hn k
 have k1:(encI e).length=20+266*(e.2.2.map ku).length:=by rw[pd,JL,Ac,C8,ft,lw _ k]
 have B:d.length=20+266*R.length:=by rw[s,JL,Ac,C8,l1,lw _ l2]
 rcases o with⟨u,v,m,g,i⟩|⟨u,v,m,g,i⟩|⟨u,v,L,m,l,g,i⟩;have q1:=congrArg List.length g;have q2:=congrArg List.length i;simp only[Ac,Bn]at q1 q2;omega;have q1:=congrArg List.length g;have q2:=congrArg List.length i;simp only[Ac,Bn]at q1 q2;omega;have q1:=congrArg List.length g;have q2:=congrArg List.length i;simp only[Ac,Bn]at q1 q2;rw[pd]at g;rw[s]at i;refine l (lf _ _ ?_ u v L m g i);have f: ∀Z:List BT,(∀q∈Z,q.length=258)->Z.map List.length=List.replicate Z.length 258:=λZ r=>List.eq_replicate_iff.2 ⟨CA _,λy z=>by obtain⟨q,n,rfl⟩:=Br.1 z;exact r q n⟩;rw[Bl,Bl,f _ k,f _ l2,ft,l1,show(e.2.2.map ku).length=R.length by omega]
def ABs(h:HF a)(m:a.length<=1099511627776)(hn:b<=64)(f:PI a c b e)(x:d.length<=1099511627776)(L:pM (encI e) d):Aq (Fq d) λr=>r.2≠0:=by refine(tP x).mono λr hr g=>?_;obtain⟨p,R,s,l1,l2⟩:=hr g;exact lE h m hn f L s l1 l2
def ADq{x:Ak}(j:x.2.2.length<=16777216)(g:CD x.2.2):Aq (Dd x) λ_=>True:=by unfold Dd;refine AC (λ_=>AB trivial) (λ_=>AC (λ_=>AB trivial) (λ_=>AC (λ_=>AB trivial) (λ_=>AC (λ_=>AB trivial) (λ_=>AA (P:=λ_=>True) ?_ λr _=>A9 (λ_ _=>AB trivial) (λ_ _=>AB trivial)))));refine Cn (λ(s:Int)=>0<=s/\s<=x.2.2.length) (λs=>((x.2.2.length:Int)-s).toNat) ⟨Ae _,o!⟩ (λi e=>?_);obtain⟨h,l⟩:=e;unfold NJ;dsimp only[len];refine AC (λf=>?_) (λ_=>Aq.done trivial);rw[AY (x:=i+1)];refine AA (AI h f) λa d=>AC (λ_=>Aq.done trivial) (λ_=>AC (λ_=>Aq.done trivial) (λ_=>?_));have b:Aq (Option.bind (CZ (a.2.2,a.1)) λc=>bif c.2 !=0 then some (Step.done (.inl false))else bif c.1.2.1 !=a.2.1 then some (Step.done (.inl false))else some (Step.next (i+1)):Option (Step Int (Bool ⊕ Unit))) (Li (λ(s:Int)=>0<=s/\s<=x.2.2.length) (λs=>((x.2.2.length:Int)-s).toNat) ((x.2.2.length:Int)-i).toNat λ_=>True):=AA (Ks (g _ d.2)) λ_ _=>AJ (λ_=>Aq.done trivial) (λ_=>AJ (λ_=>Aq.done trivial) (λ_=>Aq.next o! o!));refine AC (λk=>?_) (λ_=>b);rw[AY (x:=i-1)];exact AA (AI) λm _=>AC (λ_=>Aq.done trivial) (λ_=>b)
def qe{x:BT×Int×Int}(h:x.1.length<=1099511627776):Aq (BR x) λ_=>True:=by unfold BR;exact AA (Cc h) λ_ _=>AB trivial
def sy(h:d.length<=1099511627776):Aq (DE d) λr=>r.2=0-> ∃(p:BT) (R:List BT),d=frames (p::R)/\p.length=12/\ ∀q∈R,q.length=258:=by
 have l: ∀z:Ak,∀k:Int,k≠0->Aq (some (z,k)) λr:Ak×Int=>r.2=0-> ∃(p:BT) (R:List BT),d=frames (p::R)/\p.length=12/\ ∀q∈R,q.length=258:=λz k S=>AB λh=>absurd h S;have y:=OU (a:=[]) (t:=d) (by rw[BV];omega);rw[Bw,BV]at y;unfold DE;rw[show BZ (d,0)=_ from y,AD];refine AJ (λj=>l _ _ j) (λF=>AJ (λ_=>l _ _ g!) (λs=>?_));have s:(UF 0 d).1.length=12:=by simp only[len]at s;omega
 obtain⟨a1,⟨A,a2⟩,a3⟩:=mT F;refine AA (Bt g! g! (by rw[s];decide)) λv1 _=>AJ (λ_=>l _ _ g!) (λ_=>AA (qe d!) λv2 _=>AA (qe d!) λv3 _=>AA (qe d!) λH _=>AC (λ_=>l _ _ g!) (λM=>?_));generalize hp:(UF 0 d).1=p at*;refine AA (P:=λr=>(∃e z,r= .inl (e,z)/\e≠0)\/ ∃(a:Int) (o:List Cb) (z:Int×Int×Ak),r= .inr (a,(o,z))/\o.length<=64/\CD o/\ ∃R t,d=frames (p::R)++t/\a=(frames (p::R)).length/\ ∀q∈R,q.length=258) ?_ λr hr=>?_
 ·refine Cn (λ(t:Int×Int×List Cb×Int×Int×Ak)=>0<=t.2.1/\t.2.1<=max 0 H/\t.2.2.1.length<=t.2.1/\CD t.2.2.1/\ ∃R n,d=frames (p::R)++n/\t.1=(frames (p::R)).length/\ ∀q∈R,q.length=258) (λt=>(H-t.2.1).toNat) ⟨Ae _,d!,u!,λc v=>by simp at v,[],A,by rw[a2];simp[frames],by rw[a3];simp[frames,C8];omega,λq D=>by simp at D⟩ ?_;rintro⟨I,i,o,z⟩ ⟨U,V,W,G,R,n,f,B,C⟩;dsimp only at U V W G B;unfold MC;dsimp only;refine AC (λv=>?_) (λv=>Aq.done (.inr ⟨_,_,_,rfl,o!,G,R,n,f,B,C⟩));have E:=congrArg List.length f;rw[Ac]at E;have y:=OU (a:=frames (p::R)) (t:=n) o!;rw[B];rw[<-f]at y;rw[y,AD];refine AJ (λj=>Aq.done (.inl ⟨_,_,rfl,j⟩)) (λF=>AJ (λ_=>Aq.done (.inl ⟨_,_,rfl,g!⟩)) (λs=>?_));have s:(UF (frames (p::R)).length n).1.length=258:=by simp only[len]at s;omega
  obtain⟨Y,⟨m,J⟩,K⟩:=mT F;rw[show len (UF (frames (p::R)).length n).1=258 by simp only[len];omega];refine AA (Bt g! g! (by rw[s];decide)) λv7 N=>?_;have l7:=N.2;refine AA (qe d!) λv8 _=>AA (Ks d!) λv9 _=>AA (AZ w!) λX u=>?_;rw[AY (x:=i+1)];refine Aq.next ⟨d!,d!,?_,?_,R++[(UF (frames (p::R)).length n).1],m,?_,?_,?_⟩ d!
  rw[u.1];simp;omega;rw[u.1];intro c v;rcases An.1 v with q|q;exact G c q;rw[A6.1 q];dsimp only;omega;rw[<-Di,Vq,A0];conv=>lhs;rw[f,J]
  simp[frames];dsimp only;rw[K,<-Di,Vq,Ac];simp[frames,C8];omega;intro q D;rcases An.1 D with g|g;exact C q g;rw[A6.1 g];exact s
 rcases hr with⟨e,z,rfl,Q⟩|⟨a,o,z,rfl,Z,L,R,t,f,B,C⟩;exact BL (l _ _ Q);refine BA (AJ (λ_=>l _ _ g!) (λw=>?_));dsimp only at w⊢;obtain⟨b,O,_⟩:=ADq (x:=(z.1,(z.2.1,o))) d! L;rw[O,AD];refine AO (λ_=>l _ _ g!) (λhv=>AB λ_=>⟨p,R,?_,s,C⟩);have E:=congrArg List.length f;rw[Ac]at E;simp only[len]at w;have T:t=[]:=dU.1 o!;rw[f,T,C5]
def zc(h:HF a)(m:a.length<=1099511627776)(hn:b<=64)(f:PI a c b e)(x:d.length<=1099511627776)(L:pM (encI e) d):Aq (DE d) λr=>r.2≠0:=by refine(sy x).mono λr hr g=>?_;obtain⟨p,R,s,l1,l2⟩:=hr g;exact lE h m hn f L s l1 l2
theorem AAh(h:HF a)(m:a.length<=1099511627776)(hn:1<=b/\b<=64)(d:PI a c b e):DE (encI e)=some (e,0):=by have⟨j,x,L,f,g⟩:=d;grind[yN]
theorem yS(h:HF a)(K:a.length<=1099511627776)(hn:1<=b/\b<=64){L:List Au}(h8:L.length<=8)(hf: ∀f∈L,FB DE a c b f):Aq (KT L) λr=>r.length<=8/\ ∀x,x∈r↔Vt a c b L L.length x:=by
 unfold KT;refine AA (P:=λr=>r.length<=8/\ ∀x,x∈r↔Vt a c b L L.length x) ?_ λr hr=>AB hr;refine Cn (λ(s:List Ak×Int)=> ∃n:Nat,s.2=n/\n<=L.length/\s.1.length<=n/\ ∀x,x∈s.1↔Vt a c b L n x) (λs=>((L.length:Int)-s.2).toNat) ⟨0,rfl,Be _,Ap _,λx=>⟨λq=>(by cases q),λ⟨k,g,k0,_⟩=>absurd k0 (Nat.not_lt_zero _)⟩⟩ ?_;rintro⟨A,_⟩ ⟨n,rfl,n1,i2,T⟩;dsimp only at i2 T;unfold Rf;dsimp[len];refine AC (λD=>?_) (λD=>Aq.done ⟨o!,by rw[show L.length=n by omega];exact T⟩);rw[AY (x:=(n:Int)+1)];refine AA (AI o! D) λu h1=>?_;have C:=h1.1;rw[DG]at C;have d: ∀v,L[(n:Int).toNat]? =some v/\v∈L->v=u:=λv hv=>by grind[Option.some.inj]
 have e:(∀x,¬wX a c b L n u x)->Aq (some (Step.next (A,(n:Int)+1)):Option (Step (List Ak×Int) (List Ak))) (Li (λ(s:List Ak×Int)=> ∃n:Nat,s.2=n/\n<=L.length/\s.1.length<=n/\ ∀x,x∈s.1↔Vt a c b L n x) (λs=>((L.length:Int)-s.2).toNat) ((L.length:Int)-n).toNat λr=>r.length<=8/\ ∀x,x∈r↔Vt a c b L L.length x):=λo=>Aq.next ⟨n+1,rfl,o!,d!,λx=>by dsimp only;rw[Vt.step C,T x];exact⟨.inl,λq=>q.elim id λq=>absurd q (o x)⟩⟩ d!
 refine AA (P:=λm=>m=true↔u.1=2/\ ∀(k:Nat) (g:Au),k<n->L[k]? =some g->g.1=2->g.2.1≠u.2.1) ?_ λv6 h6=>AO (λS=>e λx q=>by rw[h6.2 ⟨q.1,q.2.1⟩]at S;cases S) (λS=>?_)
 ·refine Cn (λ(t:Bool×Int)=> ∃j:Nat,t.2=j/\j<=n/\(t.1=true↔u.1=2/\ ∀(k:Nat) (g:Au),k<j->L[k]? =some g->g.1=2->g.2.1≠u.2.1)) (λt=>((n:Int)-t.2).toNat) ⟨0,rfl,Be _,⟨λq=>⟨eq_of_beq q,λk g k0=>absurd k0 (Nat.not_lt_zero _)⟩,λq=>beq_iff_eq.2 q.1⟩⟩ ?_;rintro⟨m,_⟩ ⟨j,rfl,j1,U⟩;dsimp only at U;unfold Rg;dsimp only;refine AC (λI=>?_) (λI=>Aq.done (by rw[show n=j by omega];exact U));rw[AY];refine AL (λao=>?_) (λal=>Aq.next ⟨j+1,rfl,o!,⟨λq=>(by cases q),λq=>?_⟩⟩ d!)
  ·have⟨q1,q2⟩:=U.1 ao;refine AA (AI) λv3 h3=>?_;have R:=h3.1;rw[DG]at R;refine AJ (λJ=>Aq.next ⟨j+1,rfl,o!,⟨λ_=>⟨q1,λk g k0 k1 V=>?_⟩,λ_=>rfl⟩⟩ d!) (λJ=>AA (AI) λv4 h4=>AA (AI) λv5 h5=>Aq.next ⟨j+1,rfl,o!,?_⟩ d!);by_cases p:k=j;subst p;rw[R]at k1;cases k1;exact absurd V J;exact q2 k g o! k1 V;have e4:v4=v3:=by have:=h4.1;rw[h3.1]at this;exact(Bf this).symm
   have e5:v5=u:=d v5 h5;dsimp only;rw[e4,e5,bne_iff_ne];refine⟨λap=>⟨q1,λk g k0 k1 V=>?_⟩,λq=>q.2 j v3 o! R J⟩;by_cases p:k=j;subst p;rw[R]at k1;cases k1;exact ap;exact q2 k g o! k1 V
  have:=U.2 ⟨q.1,λk g k0=>q.2 k g o!⟩;rw[al]at this;cases this
 ·have⟨J,l⟩:=h6.1 S;refine AA (AI o! D) λv7 h7=>?_;rw[d v7 h7];rcases hf _ h1.2 with⟨x,N,p⟩|o
  ·have⟨j,j1,x1,x2,xe⟩:=id N;rw[p,AAh h K hn N,AD];refine AJ (λD=>absurd rfl D) (λ_=>?_);have hw:=AAp h K (k:=j) ⟨x1,x2⟩ hn;rw[<-xe]at hw;dsimp only;rw[hw,AD,Cw,cond_false];refine AA (AI o! D) λar Y=>?_;rw[d ar Y];refine AJ (λB=>e λy hy=>B ?_) (λB=>?_);rw[<-iy h K hn hy.2.2.1 N (hy.2.2.2.1.symm.trans p)];exact hy.2.2.2.2;refine AA (P:=λr:Int=>0<=r/\r<=A.length) ?_ λi w=>?_
   ·refine Cn (λ(t:Int)=>0<=t/\t<=A.length) (λt=>t.toNat) o! (λt hI=>?_);have⟨t0,t1⟩:=hI;unfold Rh;refine AC (λI=>?_) (λ_=>Aq.done ⟨t0,t1⟩);rw[AY];exact AA (AI o! d!) λa2 _=>AC (λ_=>Aq.next o! o!) (λ_=>Aq.done ⟨t0,t1⟩)
   ·refine AA (Bb (Ae _) w.1 w.2) λO F=>AA (Bb w.1) λQ G=>?_;have a0:=F.2;have a1:=G.2;refine AA (AZ w!) λa3 z=>AA (AZ (by rw[z.1];simp;omega)) λa4 H=>AA (AZ (by rw[H.1,z.1];simp;omega)) λax Z=>?_;have E:ax=O++[x]++Q:=by rw[Z.1,H.1,z.1];rfl
    have W:O=A.take i.toNat:=by rw[F.1];rfl
    have X:Q=A.drop i.toNat:=by rw[G.1];exact BO (by rw[EH];omega)
    refine Aq.next ⟨n+1,rfl,o!,by dsimp only;rw[E];simp[Ac,qy];omega,λy=>?_⟩ d!
    dsimp only;rw[Vt.step C,E,W,X,<-T y];have hA:y∈A↔y∈A.take i.toNat\/y∈A.drop i.toNat:=by
     conv=>lhs;rw[<-DN i.toNat A]
     exact An
    rw[An,An,A6,hA];constructor;rintro((q|q)|q);exact .inl (.inl q);rw[q];exact .inr ⟨J,l,N,p,B⟩;exact .inl (.inr q);rintro((q|q)|q);exact .inl (.inl q);exact .inr q;exact .inl (.inr (iy h K hn q.2.2.1 N (q.2.2.2.1.symm.trans p)))
  have M: ∀x,¬wX a c b L n u x:=λx q=>by have⟨r,hr,hz⟩:=o;rw[q.2.2.2.1,AAh h K hn q.2.2.1]at hr;cases hr;exact hz rfl
  exact AA o λv8 ad=>AJ (λ_=>e M) (λhz=>absurd hz ad)
def wy{L:AK}{l:Ad}{i j:Int}(h:AR a L)(k:Wk a l)(m:0<=c/\c<L.2.1)(d:0<=i)(p:i<=j)(t:j<=1099511627776):Aq (Jp (L,(l,(c,(i,j))))) λb=> ∃e d,WI L c e d/\(b=true↔ ∀q,i<q->q<=j->tU L l e q):=by unfold Jp;rw[AFP h.vb k.vl m d p,AD,beq_self_eq_true,cond_true];dsimp only;obtain⟨u,n,M,e,s,f,rfl,_,g,o⟩:=yD (l:=l) h m;rw[n,AD];refine AA (uK o k.vl d t p) λb r=>AB ⟨e,s,f,r.trans ?_⟩;exact⟨λw q q1 q2=>(AAI g q).1 (w q q1 q2),λw q q1 q2=>(AAI g q).2 (w q q1 q2)⟩
def ABV{s:Int×List BX}{v:Cb×Bool}(h:s.2.length<=8):Aq (Ah (Jz s v) (len s.2)) λr=>0<=r/\r<=s.2.length:=by refine Cn (λ(t:Int)=>0<=t/\t<=s.2.length) (λt=>t.toNat) ⟨i!,i!⟩ (λt c=>?_);have⟨a,b⟩:=c;unfold Jz;refine AC (λd=>?_) (λ_=>Aq.done ⟨a,b⟩);rw[AY];exact AA (AI) λ_ _=>AA (AI) λ_ _=>AC (λ_=>Aq.next o! o!) (λ_=>Aq.done ⟨a,b⟩)
def ADN{x:List Int×Int}(h:HF a)(R:a.length<=1099511627776){d:Int}(hn:1<=b/\b<=64){V:List Ak}(v8:V.length<=8)(N: ∀z∈V,PI a d b z){p:Int}(H:0<=p/\p<b){t:Int}(T:Int.tmod (wi x.2) (wi (c+1))=t):Aq (Ah (Jy x c p V) (wi (len V-1),[])) λr=>r.length<=8/\ ∀y,y∈r↔ ∃z∈V,lW z p<=t/\y=(lW z p,(z.1,lW z p)):=by
 have O:wi (len V-1)=(V.length:Int)-1:=by simp only[len];rw[AY]
 rw[O];refine Cn (λ(s:Int×List BX)=> ∃n:Nat,s.1=(n:Int)-1/\n<=V.length/\s.2.length<=V.length-n/\ ∀y,y∈s.2↔ ∃z∈V.drop n,lW z p<=t/\y=(lW z p,(z.1,lW z p))) (λs=>(s.1+1).toNat) ⟨V.length,rfl,Ap _,k!,λy=>⟨λq=>(by cases q),λ⟨z,q,_⟩=>(by rw[List.drop_length]at q;cases q)⟩⟩ ?_;rintro⟨_,A⟩ ⟨n,rfl,W,X,g⟩;dsimp only at X g;unfold Jy;dsimp only;refine AC (λP=>?_) (λP=>Aq.done ⟨o!,by rw[show n=0 by omega]at g;exact g⟩);obtain⟨k,rfl⟩: ∃k:Nat,n=k+1:=⟨n-1,o!⟩
 have F:k<V.length:=W;have E:ix V (((k+1:Nat):Int)-1)=some V[k]:=by unfold ix;rw[if_pos o!,show(((k+1:Nat):Int)-1).toNat=k by omega,Av F]
 rw[E,AD,T,AY];obtain⟨j,hj,x1,x2,J⟩:=N _ (Ng F);have f:HY (V[k],p)=some (WH (st (a.take j) p),true):=by rw[J];exact ACs h R ⟨x1,x2⟩ hn H
 have D:(WH (st (a.take j) p)).2.1=lW V[k] p:=by rw[J,AAA H];exact K5 _ _
 have m:V.drop k=V[k]::V.drop (k+1):=PX F;rw[f,AD,Cw,cond_false];dsimp only;rw[D];refine AC (λQ=>Aq.next ⟨k,d!,o!,d!,λy=>?_⟩ d!) (λS=>?_);dsimp only;rw[g y,m];constructor;rintro⟨z,I,L⟩;exact⟨z,CW _ I,L⟩;rintro⟨z,I,L,w⟩;rcases Aw.1 I with rfl|I;omega;exact⟨z,I,L,w⟩
 ·refine AA (ABV (s:=(_,A)) d!) λv u=>?_;dsimp only at u;refine AA (Bb (Ae _) u.1 u.2) λ_ _=>?_;rw[AD];refine AA (Bb u.1 i! i!) λ_ _=>?_;have K:List.take (Int.toNat v-Int.toNat 0) (List.drop (Int.toNat 0) A)=A.take v.toNat:=rfl;have M:List.take (Int.toNat (len A)-Int.toNat v) (List.drop (Int.toNat v) A)=A.drop v.toNat:=BO (by rw[EH];simp only[len];omega);rw[K,M];refine AA (AZ w!) λY e=>AA (AZ (by rw[e.1];simp;omega)) λZ l=>AA (AZ (by rw[l.1,e.1];simp;omega)) λo B=>?_;have i:o=A.take v.toNat++[(lW V[k] p,(V[k].1,lW V[k] p))]++A.drop v.toNat:=by rw[B.1,l.1,e.1];rfl
  have U:o.length=A.length+1:=by rw[i];simp;omega
  refine AC (λ_=>Aq.next ⟨k,d!,o!,d!,λy=>?_⟩ d!) (λG=>absurd o! G);dsimp only;rw[i,m];have C:y∈A↔y∈A.take v.toNat\/y∈A.drop v.toNat:=by
   conv=>lhs;rw[<-DN v.toNat A]
   exact An
  rw[An,An,A6];constructor;rintro((q|q)|q);obtain⟨z,I,L⟩:=(g y).1 (C.2 (.inl q));exact⟨z,CW _ I,L⟩;exact⟨_,Iv,o!,q⟩;obtain⟨z,I,L⟩:=(g y).1 (C.2 (.inr q));exact⟨z,CW _ I,L⟩;rintro⟨z,I,L,w⟩;rcases Aw.1 I with rfl|I;exact .inl (.inr w);rcases C.1 ((g y).2 ⟨z,I,L,w⟩)with q|q;exact .inl (.inl q);exact .inr q
theorem wW{x:List Int×Int}(h: ∀c∈x.1,0<=c/\c<256)(hx:0<=x.2/\x.2<256):Aq (Ls x) λr=>r=true:=by
 unfold Ls;rw[AES,AD,Cw,cond_false];refine AA (ACc h) λv2 R=>AA (ABp R) λd h3=>?_;obtain⟨s1,s2,s3,s4,s5,s6,v,s8,s9,a3,H,⟨m,hm,I⟩,al,a4,n,li⟩:=h3;have ar:=s6.len;have o:1<=m/\m<=64:=o!
 have B: ∀f∈d.2.2.2.2.1,FB Fq d.2.2.2.1.2.1 d.2.2.2.1.2.2 m f:=λf B=>by rcases I f B with q|⟨g,⟨y,u,Z⟩,O,Q⟩;exact .inl q;exact .inr (ABs v o! o! u Q (by rw[<-Z];exact O))
 have hg: ∀f∈d.2.2.2.2.1,FB DE d.2.2.2.1.2.1 d.2.2.2.1.2.2 m f:=λf B=>by rcases I f B with q|⟨g,⟨y,u,Z⟩,O,Q⟩;exact .inl q;exact .inr (zc v o! o! u Q (by rw[<-Z];exact O))
 refine AA Ff λM h4=>?_;have h4:=h4 al;rw[AY (x:=M+1),beq_eq_false_iff_ne.2 o!,cond_false];refine AA (P:=λr=>r= .inr ()) ?_ λr hr=>by rw[hr];exact BA (AB rfl)
 refine Cn (λ(s:Int)=>0<=s/\s<=d.1) (λs=>(d.1-s).toNat) ⟨Ae _,o!⟩ (λs hI=>?_);obtain⟨i0,i1⟩:=hI;unfold PQ;refine AC (λhc=>?_) (λ_=>Aq.done rfl);obtain⟨k,L⟩: ∃k:Nat,Int.tmod (wi x.2) (wi (M+1))=k:=by rw[AY (x:=x.2)];exact⟨_,(IC (ny _ hx.1)).symm⟩
 have a1:(k:Int)<M+1:=by rw[<-L,AY (x:=M+1)];exact nw _ o!
 have hp:0<=s/\s<d.2.1.2.1:=⟨i0,o!⟩
 obtain⟨V,hV,V8,T⟩:=yS v o! o H hg;have A: ∀z∈V,PI d.2.2.2.1.2.1 d.2.2.2.1.2.2 m z:=λz hz=>by obtain⟨i,f,_,_,q⟩:=(T z).1 hz;exact q.2.2.1
 rw[hV,AD];refine AA (ADN v o! o V8 A ⟨i0,o!⟩ L) λax hr=>AA (AZ w!) λa e=>?_;obtain⟨lo,hi,fl,p1,N,D⟩:=tk li v s4 s6 s5 g! (by omega:k<=d.2.2.2.1.2.1.length) (hm.trans s3.symm) o H B hp;have f0:=N.1;have fk:=N.2.1;have ap:a.length<=9:=by rw[e.1];simp;omega
 have E: ∀y∈a,0<=y.1/\y.1<=k:=λy u=>by rw[e.1,An,A6]at u;rcases u with q|q;obtain⟨z,J,K,rfl⟩:=(hr.2 y).1 q;obtain⟨j,hj,x1,x2,xe⟩:=A z J;refine⟨?_,K⟩;dsimp only;rw[xe,AAA ⟨i0,o!⟩];exact Vs v _ _;rw[q];exact⟨Ae _,d!⟩
 refine AA (P:=λb=>b=true↔ ∃y∈a,fl<=y.1) ?_ λb hb=>?_
 ·refine Cn (λ(t:Bool×Int)=> ∃j:Nat,t.2=j/\j<=a.length/\(t.1=true↔ ∃y∈a.take j,fl<=y.1)) (λt=>((a.length:Int)-t.2).toNat) ⟨0,rfl,Be _,⟨λq=>(by cases q),λ⟨y,q,_⟩=>(by simp at q)⟩⟩ ?_;rintro⟨b,_⟩ ⟨j,rfl,j1,G⟩;dsimp only at G;unfold PR;dsimp[len];refine AC (λX=>?_) (λX=>Aq.done (by rw[BO o!]at G;exact G));have hj:j<a.length:=o!
  have F:a.take (j+1)=a.take j++[a[j]]:=by grind[List.take_add_one,List.getElem?_eq_getElem]
  have ad:ix a (j:Int)=some a[j]:=by unfold ix;rw[if_pos o!,DG,Av hj]
  rw[AY,ad,L];have p:=E _ (Ng hj);refine AL (λW=>Aq.next ⟨j+1,rfl,o!,?_⟩ d!) (λU=>?_);obtain⟨y,w,l⟩:=G.1 W;exact⟨λ_=>⟨y,by rw[F];exact GI _ w,l⟩,λ_=>rfl⟩
  ·rw[AD,AD];refine AA (wy s4 s6 hp p.1 p.2 o!) λc Y=>Aq.next ⟨j+1,rfl,o!,?_⟩ d!
   obtain⟨a2,a0,q1,q2⟩:=Y;have:=p1.uniq s4.vb.1 rfl rfl q1;subst this;dsimp only;rw[q2,AGj N p.1,F];constructor;intro q;exact⟨_,Kj _ (A6.2 rfl),q⟩;rintro⟨y,w,l⟩;rcases An.1 w with q|q;have:=G.2 ⟨y,q,l⟩;rw[U]at this;cases this;rw[<-A6.1 q];exact l
 ·rw[L];refine AA D λao S=>?_;have C:(ao.2.2==0)=b:=by rw[Bool.eq_iff_iff,beq_iff_eq,hb];rcases S with⟨r1,r2,r3⟩|⟨r1,_,_,_,r5⟩;refine⟨λq=>(by rw[r1]at q;cases q),λ⟨y,w,l⟩=>?_⟩;rw[e.1,An,A6]at w;rcases w with q|q;obtain⟨z,J,K,rfl⟩:=(hr.2 y).1 q;exact absurd l (r3 z ((T z).1 J) K);rw[q]at l;dsimp only at l;omega;refine⟨λ_=>?_,λ_=>r1⟩;rcases r5 with q|⟨z,J,K,z3⟩;exact⟨(0,(0,0)),by rw[e.1];exact Kj _ (A6.2 rfl),d!⟩;exact⟨_,by rw[e.1];exact GI _ ((hr.2 _).2 ⟨z,(T z).2 J,K,rfl⟩),z3⟩
  rw[C,beq_self_eq_true,Cw,cond_false,AY];exact Aq.next o! o!
end Go.Pm
namespace Go.Proofs.YtdbincbpjobdpaaGreat
open Go.RowKit Go.Ab Go.Pm
def z7: ∃j,Tryz.prog.info? 301=some j/\j.size=2:=by
 have h:(Tryz.prog.info? 301).map (·.size)=some 2:=by kernel_rfl
 exact Sw.1 h
def AEW:liesAt Tryz.prog Tryz.prog.depth 301 (2/Tryz.prog.cellsOf 301) 0 301 1=true:=by kernel_rfl
set_option maxHeartbeats 1000000 in
set_option maxRecDepth 100000 in
def tR(b:Nat)(w:World)(d:w.cell? ⟨b,0,none⟩=some (.pointer (some ⟨b,0,none⟩))):
  Calls Tryz.prog 276 #[.pointer (some ⟨b,0,none⟩)] w λe c=>e= .returned (.tuple #[])/\c=w:=by
 obtain⟨j,a,_⟩:=z7;go_enter Tryz.func276,Tryz.ntmps276;go_wp2;rw[Lib.run_neq_ptr_same w _ Tryz.underlying299 a];go_wp2;go_end0;exact⟨rfl,rfl⟩
set_option maxHeartbeats 1000000 in
set_option maxRecDepth 100000 in
def iN(b:Nat)(w:World)(h:w.cell? ⟨b,0,none⟩=some (.pointer none))(a:w.shape? b=some (301,2))(f:w.frozen? ⟨b,0,none⟩=false):
  Calls Tryz.prog 276 #[.pointer (some ⟨b,0,none⟩)] w λe g=>e= .returned (.tuple #[])/\g=w.setCell ⟨b,0,none⟩ (.pointer (some ⟨b,0,none⟩)):=by
 obtain⟨j,d,c⟩:=z7;go_enter Tryz.func276,Tryz.ntmps276;go_wp2;rw[Lib.run_to_unsafe w ⟨b,0,none⟩ Tryz.underlying299 Tryz.underlying388 d (by rw[c];decide) a (Nat.zero_lt_succ 1)];simp only[Result.andThen];rw[Oper.upon_value];go_wp2;rw[run_callFunc_extern Tryz.func308 (by kernel_rfl) (by kernel_rfl) (by kernel_rfl) (e:=Extern.AbiNoEscape.same) (by kernel_rfl)];rw[Lib.run_noEscape];simp only[Result.andThen];rw[Oper.upon_value];go_wp2;rw[Lib.run_from_unsafe w ⟨b,0,none⟩ Tryz.underlying388 Tryz.underlying299 d a AEW];simp only[Result.andThen];rw[Oper.upon_value];go_wp2;go_end0;exact⟨rfl,rfl⟩
def wm(B b:Nat)(bs:List Value)(w:World)(h:Lib.IsBuilderF 301 5 B b bs w):
  Calls Tryz.prog 276 #[.pointer (some ⟨b,0,none⟩)] w λe a=>e= .returned (.tuple #[])/\Lib.BuilderAtF 301 5 B b (.pointer (some ⟨b,0,none⟩)) bs a/\Below B w a:=by
 rcases h with h|h;apply (iN b w h.cell0 h.shape h.frozen0).mono;rintro e a ⟨rfl,rfl⟩;exact⟨rfl,h.used _,(Below.refl B w).setCell (p:=⟨b,0,none⟩) h.1 _⟩;apply (tR b w h.cell0).mono;rintro e a ⟨rfl,rfl⟩;exact⟨rfl,h,Below.refl B _⟩
def zz: ∃i,Tryz.prog.info? 5=some i/\i.zero=some (.int .u8 0)/\i.size=1/\i.bytes=1:=by
 have h:(Tryz.prog.info? 5).map (λi=>(i.zero,i.size,i.bytes))=some (some (.int .u8 0),1,1):=by kernel_rfl
 obtain⟨i,b,a⟩:=Sw.1 h;simp only[EX]at a;exact⟨i,b,a.1,a.2.1,a.2.2⟩
variable {b:Nat}
def rG{B:Nat}{p:Value}{bs:List Value}{w:World}(h:Lib.BuilderAtF 301 5 B b p bs w): ∃v,w.heap[b]? =some (.cells #[p,v] 301 (0,0))/\w.cell? ⟨b,1,none⟩=some v/\w.ownsRowF B 5 1 v bs.length bs/\v.ownBlock≠some b:=by obtain⟨e,v,a,c,d⟩:=h;exact⟨v,a,by rw[Lib.cell_of_heap a];rfl,c,d⟩
set_option maxHeartbeats 1000000 in
set_option maxRecDepth 100000 in
def AGY(B b:Nat)(bs:List Value)(w:World)(h:Lib.IsBuilderF 301 5 B b bs w):
  Calls Tryz.prog 219 #[.pointer (some ⟨b,0,none⟩)] w λe l=>e= .returned (.int .i64 bs.length)/\l=w:=by
 obtain⟨p,j⟩: ∃p,Lib.BuilderAtF 301 5 B b p bs w:=h.elim (λh=>⟨_,h⟩) (λh=>⟨_,h⟩);obtain⟨v,k,m,a,_⟩:=rG j;obtain⟨d,cap,rfl⟩: ∃d cap,v= .slice d bs.length cap:=by rcases a.2 with⟨c,i⟩|⟨g,cap,f,n,c,_⟩;exact⟨none,0,by rw[c,i]⟩;exact⟨_,_,c⟩
 go_enter Tryz.func219,Tryz.ntmps219
 go_wp2
 go_ret
 exact⟨rfl,rfl⟩
set_option maxHeartbeats 2000000 in
set_option maxRecDepth 100000 in
def vK(B b:Nat)(bs:List Value)(c:Int)(w:World)(h:Lib.IsBuilderF 301 5 B b bs w)(C:bs.length+1≤140737488355328)(H:B≤w.heap.size):
  Calls Tryz.prog 215 #[.pointer (some ⟨b,0,none⟩),.int .u8 c] w λe E=>e= .returned .nilIface/\Lib.BuilderAtF 301 5 B b (.pointer (some ⟨b,0,none⟩)) (bs++[.int .u8 c]) E/\Below B w E:=by
 obtain⟨M,I,t,x,y⟩:=zz;go_enter Tryz.func215,Tryz.ntmps215;go_wp2_with (go_at_call 276;apply (wm B b bs _ h).mono)
 rintro e F ⟨rfl,m,l⟩;have A:=m.1;have r:=m.lt;have c0:=m.cell0;obtain⟨v,q,z,i,s⟩:=rG m;have K:=l.size;go_wp2_with (at_builtin;apply wpList_append_ownF _ rfl _ _ 22 rfl B 5 M (.int .u8 0) 1 1 Tryz.underlying22 I t x y rfl g! _ _ _ rfl (i.alloc _) ⟨F.heap.size,0,none⟩ 1 1 [.int .u8 c] rfl rfl ?z ?c2 ?c3 ?c4 ?c5)
 case z=>
  intro j u n;match j,n with
  |0,n=>simp at n;subst n;simp[Addr.add]
 case c2=>intro u D;simp at D;subst D;rfl
 case c3=>unfold maxLen;omega
 case c4=>omega
 case c5=>simp;omega
 intro N o d a _;have f:o.heap[b]? =some (.cells #[.pointer (some ⟨b,0,none⟩),v] 301 (0,0)):=by rw[a.block b w! (λe=>s e.symm),Lib.alloc_old F _ b r];exact q
 have O:o.cell? ⟨b,0,none⟩=some (.pointer (some ⟨b,0,none⟩)):=by rw[Lib.cell_of_heap f];rfl
 have P:o.cell? ⟨b,1,none⟩=some v:=by rw[Lib.cell_of_heap f];rfl
 have Q:o.frozen? ⟨b,1,none⟩=false:=Lib.frozen_of_heap f 1;obtain⟨g,cap,rfl⟩: ∃g cap,N= .slice (some ⟨g,0,none⟩) (bs.length+1) cap:=by rcases d.2 with⟨_,S⟩|⟨g,cap,G,R,L,_⟩;omega;exact⟨g,cap,L⟩
 go_wp2
 go_ret
 refine⟨rfl,?_,?_⟩;exact Lib.BuilderAtF.put (T:=301) (e:=5) A f (bs':=bs++[.int .u8 c]) (by simpa using d) g!;exact((l.alloc o! _).grown a w! (λk J=>(i.lt k J).1)).setCell (p:=⟨b,1,none⟩) A _
set_option maxHeartbeats 2000000 in
set_option maxRecDepth 100000 in
def Xr(B b:Nat)(bs:List Value)(s:ByteArray)(w:World)(h:Lib.IsBuilderF 301 5 B b bs w)(z:bs.length+s.size≤140737488355328)(E:B≤w.heap.size):
  Calls Tryz.prog 214 #[.pointer (some ⟨b,0,none⟩),.string s] w λe C=>e= .returned (.tuple #[.int .i64 s.size,.nilIface])/\Lib.BuilderAtF 301 5 B b (.pointer (some ⟨b,0,none⟩)) (bs++Lib.strCells s) C/\Below B w C:=by
 obtain⟨I,F,r,t,u⟩:=zz;go_enter Tryz.func214,Tryz.ntmps214;go_wp2_with (go_at_call 276;apply (wm B b bs _ h).mono)
 rintro e P ⟨rfl,j,i⟩;have y:=j.1;have n:=j.lt;have c0:=j.cell0;obtain⟨v,m,K,f,o⟩:=rG j;have H:=i.size;go_wp2_with (at_builtin;apply Lib.wpList_append_own_stringF _ rfl _ _ 22 9 rfl B 5 I Tryz.underlying22 Tryz.underlying9 F r t u _ _ _ rfl f s rfl ?c3 ?c4 ?c5)
 case c3=>unfold maxLen;omega
 case c4=>omega
 case c5=>omega
 intro J l c a _;have d:l.heap[b]? =some (.cells #[.pointer (some ⟨b,0,none⟩),v] 301 (0,0)):=by rw[a.block b n (λe=>o e.symm)];exact m
 have L:l.cell? ⟨b,0,none⟩=some (.pointer (some ⟨b,0,none⟩)):=by rw[Lib.cell_of_heap d];rfl
 have M:l.cell? ⟨b,1,none⟩=some v:=by rw[Lib.cell_of_heap d];rfl
 have N:l.frozen? ⟨b,1,none⟩=false:=Lib.frozen_of_heap d 1;obtain⟨x,A,cap,rfl⟩: ∃x A cap,J= .slice x A cap:=by rcases c.2 with⟨q,_⟩|⟨g,cap,D,O,q,_⟩;exact⟨_,_,_,q⟩;exact⟨_,_,_,q⟩
 go_wp2
 go_ret2
 refine⟨rfl,?_,?_⟩;exact Lib.BuilderAtF.put (T:=301) (e:=5) y d (bs':=bs++Lib.strCells s) (by simpa[Lib.strCells_length]using c) g!;exact(i.grown a o! (λk G=>(f.lt k G).1)).setCell (p:=⟨b,1,none⟩) y _
set_option maxHeartbeats 1000000 in
set_option maxRecDepth 100000 in
def uG(B b:Nat)(l:List UInt8)(w:World)(h:Lib.IsBuilderF 301 5 B b (Lib.byteCells l) w)(y:l≠ []):
  Calls Tryz.prog 216 #[.pointer (some ⟨b,0,none⟩)] w λe z=>e= .returned (.string ⟨l.toArray⟩)/\Lib.IsBuilderF 301 5 B b (Lib.byteCells l) z/\Below B w z:=by
 obtain⟨p,K,k⟩: ∃p,(p= .pointer none\/p= .pointer (some ⟨b,0,none⟩))/\Lib.BuilderAtF 301 5 B b p (Lib.byteCells l) w:=h.elim (λh=>⟨_,.inl rfl,h⟩) (λh=>⟨_,.inr rfl,h⟩);obtain⟨D,v,i,c,t⟩:=k;have s:l.length≠0:=by simpa using y
 rw[Lib.byteCells_length]at c;obtain⟨g,cap,a,f,rfl,n,I,H,J,o,G,u⟩: ∃g cap a f,v= .slice (some ⟨g,0,none⟩) l.length cap/\B<=g/\w.heap[g]? =some (.cells a 5 f)/\f.2<=l.length*1/\l.length<=cap/\cap<=maxLen/\a.size=cap*1/\a.toList.take (l.length*1)=Lib.byteCells l:=by rcases c.2 with⟨_,N⟩|⟨g,cap,a,f,L,r⟩;exact absurd N s;exact⟨g,cap,a,f,L,r⟩
 have A:w.drew.cell? ⟨b,1,none⟩=some (.slice (some ⟨g,0,none⟩) l.length cap):=by have:w.drew.heap[b]? =some (.cells #[p,.slice (some ⟨g,0,none⟩) l.length cap] 301 (0,0)):=i;rw[Lib.cell_of_heap this];rfl
 have E:(Builtin.unsafeSliceData_ #[22] 358 #[.slice (some ⟨g,0,none⟩) l.length cap]).run Tryz.prog w.drew= .ok (.pointer (some ⟨g,0,none⟩)) w.drew:=Lib.run_unsafeSliceData_row _ _ _ _ _ _ o!;have F:(Builtin.unsafeString_ #[358,3] 9 #[.pointer (some ⟨g,0,none⟩),.int .i64 l.length]).run Tryz.prog w.drew= .ok (.string ⟨l.toArray⟩) (w.drew.freeze ⟨g,0,none⟩ l.length):=by apply Lib.run_unsafeString_row w.drew 358 3 9 5 Tryz.underlying358 (by kernel_rfl) g a.size (by have q:w.drew.heap[g]? =some (.cells a 5 f):=I;simp[World.shape?,q]) l y o! (by unfold maxLen at o;omega);intro j x M;exact c.cells (g:=g) rfl j (.int .u8 x.toNat) (by simp[Lib.byteCells,M])
 have d:Lib.IsBuilderF 301 5 B b (Lib.byteCells l) (w.drew.freeze ⟨g,0,none⟩ l.length):=by
  have C:Lib.BuilderAtF 301 5 B b p (Lib.byteCells l) w.drew:=⟨D,_,i,by rw[Lib.byteCells_length];exact c,t⟩
  have m:=C.froze (g:=g) (cap:=cap) (by rw[Lib.byteCells_length];exact A);rw[Lib.byteCells_length]at m;rcases K with rfl|rfl;exact .inl m;exact .inr m
 go_enter Tryz.func216,Tryz.ntmps216
 go_wp2
 go_region
 all_goals (go_wp2;go_ret;exact⟨rfl,d,Lib.below_freeze (Below.drew (Below.refl B w)) (p:=⟨g,0,none⟩) n _⟩)
set_option maxHeartbeats 2000000 in
set_option maxRecDepth 1000000 in
def ACX(B b n:Nat)(w:World)(p:B≤b)(a:w.heap[b]? =some (.cells #[.pointer (some ⟨b,0,none⟩),.slice none 0 0] 301 (0,0)))(j:B≤w.heap.size)(hn:n≤281474976710656):
  Calls Tryz.prog 279 #[.pointer (some ⟨b,0,none⟩),.int .i64 n] w λe o=>e= .returned (.tuple #[])/\Lib.BuilderAt 301 5 B b (.pointer (some ⟨b,0,none⟩)) [] o/\Below B w o:=by
 obtain⟨c,h,q,g⟩:=Lib.run_makeNoZero (P:=Tryz.prog) w.drew #[3] 22 5 Tryz.underlying22 n hn;have m:IntKind.i64.wrap (IntKind.i64.wrap 0+(n:Int))=n:=by rw[IntKind.wrap_i64,IntKind.wrap_i64];omega
 have k:(callFunc 309 #[.int .i64 (IntKind.i64.wrap (IntKind.i64.wrap 0+(n:Int)))]).run Tryz.prog w.drew= .ok (.value (.slice (some ⟨w.drew.heap.size,0,none⟩) n c.size)) (w.drew.drew.drew.alloc (.cells c 5)):=by rw[m,run_callFunc_extern Tryz.func309 (by kernel_rfl) (by kernel_rfl) (by kernel_rfl) (e:=Extern.BytealgMakeNoZero.makeNoZero #[3] #[22]) (by kernel_rfl),h];rfl
 have f:b<w.heap.size:=by rcases Ay b w.heap.size with i|i;exact i;simp[rD i]at a
 have r:w.drew.cell? ⟨b,1,none⟩=some (.slice none 0 0):=by have:w.drew.heap[b]? =_:=a;rw[Lib.cell_of_heap this];rfl
 have s:(w.alloc (.cells c 5)).cell? ⟨b,1,none⟩=some (.slice none 0 0):=by have:(w.alloc (.cells c 5)).heap[b]? =_:=(Lib.alloc_old w _ b f).trans a;rw[Lib.cell_of_heap this];rfl
 have t:(w.alloc (.cells c 5)).frozen? ⟨b,1,none⟩=false:=Lib.frozen_of_heap ((Lib.alloc_old w _ b f).trans a) 1;have l: ∀W:World,(Builtin.copy_ #[22,22] 3 #[.slice (some ⟨w.heap.size,0,none⟩) 0 c.size,.slice none 0 0]).run Tryz.prog W= .ok (goInt 0) W:=λW=>run_copy_none W 22 22 3 5 _ _ 0 c.size 0 0 Tryz.underlying22 (by kernel_rfl) rfl;clear m;have d:=Lib.grown_fresh (T:=301) (e:=5) (cs:=c) p a j (g (by unfold maxLen;omega)) g!;rw[World.setCell_alloc_past _ _ _ _ f]at d;go_enter Tryz.func279,Tryz.ntmps279;go_wp2;go_region;all_goals (go_wp2;go_end0;exact⟨rfl,d⟩)
set_option maxHeartbeats 2000000 in
set_option maxRecDepth 1000000 in
def AEV(B b n:Nat)(w:World)(g:B≤b)(c:w.heap[b]? =some (.cells #[.pointer none,.slice none 0 0] 301 (0,0)))(h:B≤w.heap.size)(hn:n≤281474976710656):
  Calls Tryz.prog 218 #[.pointer (some ⟨b,0,none⟩),.int .i64 n] w λe f=>e= .returned (.tuple #[])/\Lib.BuilderAt 301 5 B b (.pointer (some ⟨b,0,none⟩)) [] f/\Below B w f:=by
 have a:(w.setCell ⟨b,0,none⟩ (.pointer (some ⟨b,0,none⟩))).heap[b]? =some (.cells #[.pointer (some ⟨b,0,none⟩),.slice none 0 0] 301 (0,0)):=by simp[World.setCell,ay,c]
 have i:(w.setCell ⟨b,0,none⟩ (.pointer (some ⟨b,0,none⟩))).cell? ⟨b,1,none⟩=some (.slice none 0 0):=by rw[Lib.cell_of_heap a];rfl
 have d:Below B w (w.setCell ⟨b,0,none⟩ (.pointer (some ⟨b,0,none⟩))):=(Below.refl B w).setCell (p:=⟨b,0,none⟩) g _;have m:Lib.BuilderAt 301 5 B b (.pointer (some ⟨b,0,none⟩)) [] (w.setCell ⟨b,0,none⟩ (.pointer (some ⟨b,0,none⟩))):=⟨g,.slice none 0 0,a,World.ownsRow_nil _ _ _ _,by simp[Value.ownBlock]⟩
 have j:(w.setCell ⟨b,0,none⟩ (.pointer (some ⟨b,0,none⟩))).drew.cell? ⟨b,1,none⟩=some (.slice none 0 0):=i;go_enter Tryz.func218,Tryz.ntmps218;go_wp2_with (go_at_call 276;apply (iN b w (by rw[Lib.cell_of_heap c];rfl) (by simp[World.shape?,c]) (Lib.frozen_of_heap c 0)).mono;rintro e f ⟨rfl,rfl⟩)
 go_region
 all_goals go_wp2_with (go_at_call 279;apply (ACX B b n (w.setCell ⟨b,0,none⟩ (.pointer (some ⟨b,0,none⟩))).drew g a (by simpa[World.setCell,World.drew,-World.drew_eq]using h) hn).mono;rintro e f ⟨rfl,k,l⟩)
 all_goals first
  |(go_end0;exact⟨rfl,k,d.drew.trans l⟩)
  |(go_end0;exact⟨rfl,m.drew,d.drew⟩)
end Go.Proofs.YtdbincbpjobdpaaGreat
