/- Texts of wip, joined and shortened by wip/tools/pack.py; nothing is assumed. -/
import Derived.Test.YtkgodfhnofpglaaGreatK7
import Derived.KernelRfl
noncomputable section
set_option linter.all false
set_option maxHeartbeats 1000000
open Option renaming some->D
open List renaming length->Z
open Go renaming Ψ->E
open Bool renaming false->X
open Bool renaming true->A
open Option renaming none->U
open Go renaming Ω->W
open Option renaming some->δ,none->ε,bind->σ
open Bool renaming true->ζ,false->η
open List renaming length->θ
open Go.IntKind renaming wrap->ι
open BitVec renaming ofInt->κ,toNat->π
open Nat renaming beq->ξ
open Int renaming toNat->ο
open Decidable renaming decide->τ
open _root_ renaming Int->Y,Nat->V,Array->T,True->R,Bool->O
open Go.Ab renaming len->S
namespace Go.Pm
open Go Go.Ab
def runN{S R:Type}(f:S->W (Step S R)):V->S->W R
 |0,_=>U
 |n+1,s=>
  match f s with
  |some (.next s')=>runN f n s'
  |some (.done r)=>D r
  |none=>U
def yP{S R:Type}{f:S->W (Step S R)}{r:R}:∀{n}{s},runN f n s=D r->Ak f s=D r
 |0,s,h=>by cases h
 |n+1,s,h=>by simp only[runN]at h;rw[Df];split at h;rename_i b e;rw[e];exact yP h;rename_i a e;rw[e];exact h;cases h
def Uy:Bc:=[80,77,76,71,1,0,0,0,0,0,0,0]
def AHY:Aq (([80,77,76,71]:E UInt8),1,8)=D Uy:=by rw[(by kernel_rfl:Aq (([80,77,76,71]:E UInt8),1,8)=σ (Ak (G3 (([80,77,76,71]:E UInt8),1,8)) (([80,77,76,71]:E UInt8),0)) λa=>D a),yP (n:=10) (r:=Uy) h!];rfl
def AG8:A4 (Uy,4,8)=D (1,0):=by rw[(by kernel_rfl:A4 (Uy,4,8)=σ (Ak (G2 (Uy,4,8)) (0,0)) λa=>D (wi a,0)),yP (n:=10) (r:=1) h!];rfl
def nw(a b:E AE):K5 (a++b)=K5 a++K5 b:=by grind[K5]
def AI9:NM 1=D (HM Uy):=by unfold NM;rw[AHY,AD,cM g!,AD]
def AG6{e}(h:KD e):JO e=D (HM (B6 e)):=by grind[JO,rK,cM,TE]
def Dc.ent{l}(h:Dc l){e:AE}(a:e∈l.2.1):KD e:=by have⟨k,b⟩:=Eo.1 a;exact(h.2.2.2.2.2 k e b).2
def AGq{l}{a:Y}(h:Dc l)(D_:l.1=1):An (HY (l,a)) λr=>∃m:V,r=HM Uy++(K5 (l.2.1.take l.2.2.toNat)++(K5 (l.2.1.drop l.2.2.toNat)).take m):=by
 have O:=h.2.2.1;have Q:=h.2.2.2.1;have R:=h.2.2.2.2.1;have b:∀k:Ψ AE,(∀e∈k,e∈l.2.1)->(K5 k).length<=8400*Z k:=λk w=>tB λe d=>h.ent (w e d);have⟨v,H,g⟩:=BZ (x:=l);have g:=g.2 h;subst g;unfold HY;dsimp only;rw[H,AD,CE,A!,D_,AI9,AD];refine AA (P:=λr=>r=(HM Uy++K5 (l.2.1.take l.2.2.toNat),K5 (l.2.1.drop l.2.2.toNat))) ?_ λK o=>?_
 ·refine CV (λs=>∃k:V,k<=Z l.2.1/\s=(HM Uy++K5 ((l.2.1.take k).take l.2.2.toNat),K5 ((l.2.1.take k).drop l.2.2.toNat),(k:Y))) (Z l.2.1-·.2.2.toNat) ⟨0,BS _,by simp[K5]⟩ ?_;rintro s ⟨k,w,rfl⟩;unfold TM;dsimp[len];refine AC (λB=>?_) (λB=>k? (by rw[BN (l:=l.2.1) (i:=k) o!]));have f:k<Z l.2.1:=o!
  have I:ix l.2.1 (k:Y)=D l.2.1[k]:=by unfold ix;rw[C! o!,s?,m? f]
  have j:=h.2.2.2.2.2 k _ (Au f);have t:l.2.1.take (k+1)=l.2.1.take k++[l.2.1[k]]:=t!
  have E:(l.2.1.take k).length=k:=q!
  have y:(HM Uy++K5 ((l.2.1.take k).take l.2.2.toNat)).length<=40000000:=by
   have:=b ((l.2.1.take k).take l.2.2.toNat) λe d=>EJ (EJ d);have c:(HM Uy).length=20:=by rw[DY];rfl
   grind[n?,r?]
  have z:(K5 ((l.2.1.take k).drop l.2.2.toNat)).length<=40000000:=q!
  have C:=TE j.2;rw[I,AD,AD,AD,AG6 j.2,AD,AD,Aa (x:=(k:Y)+1)];refine AA (P:=λr=>r=(HM Uy++K5 ((l.2.1.take (k+1)).take l.2.2.toNat),K5 ((l.2.1.take (k+1)).drop l.2.2.toNat))) ?_ λJ n=>?_;apply AC<;>intro S;have q:k+1<=l.2.2.toNat:=o!
  refine AA (CR (by rw[DY];omega)) λN u=>AB ?_;grind[List.drop_of_length_le,r?,List.take_of_length_le,TG,t?];have q:l.2.2.toNat<=k:=o!
  refine AA (CR (by rw[DY];omega)) λN u=>AB ?_;rw[u.1,t,fe o!,pz o!,TG]
  ·rw[n];exact y! ⟨k+1,f,by rw[show(k:Y)+1=((k+1:V):Y) by omega]⟩ d!
 subst o;dsimp[len];have A_:∃m:V,(if(((K5 (l.2.1.drop l.2.2.toNat)).length:Y)<(if(0>a)then 0 else a))then((K5 (l.2.1.drop l.2.2.toNat)).length:Y)else(if(0>a)then 0 else a))=(m:Y)/\m<=(K5 (l.2.1.drop l.2.2.toNat)).length:=by refine⟨(if(((K5 (l.2.1.drop l.2.2.toNat)).length:Y)<(if(0>a)then 0 else a))then((K5 (l.2.1.drop l.2.2.toNat)).length:Y)else(if(0>a)then 0 else a)).toNat,?_,?_⟩;split<;>split<;>omega;split<;>split<;>omega
 have⟨m,F,G⟩:=A_;rw[F];refine AA (Bx (Ag _)) λL c=>?_;have y:(HM Uy++K5 (l.2.1.take l.2.2.toNat)).length<=40000000:=by
  have:=b (l.2.1.take l.2.2.toNat) λe d=>EJ d;have c:(HM Uy).length=20:=by rw[DY];rfl
  rw[AV];rw[BU]at this;omega
 have z:(K5 (l.2.1.drop l.2.2.toNat)).length<=40000000:=by have:=b (l.2.1.drop l.2.2.toNat) λe d=>Nn d;rw[DO]at this;omega
 refine AA (CR (by have:=c.2;omega)) λM p=>AB ⟨m,?_⟩;rw[p.1,c.1,A2];simp
def AJw{n:V}(h:n<=8392):cN 4 (n:Y):=⟨λ_=>q!,o!⟩
def AG7{p q s t:Bc}(d:Z p<=8392)(e:Z q<=8392)(h:HM p++s=HM q++t):p=q/\s=t:=by
 have c:Z p=Z q:=by have a:=h;unfold HM at a;simp at a;have:=(EO a (by rw[A0,A0])).1;have:=YM g! (AJw d) (AJw e) this;omega
 have⟨b,f⟩:=EO h (by rw[DY,DY,c]);have g:=(EO b q!).2;grind[List.append_inj]
def AJL{b:Ψ AE}{t y z:Bc}{d}(hn:θ b<=4096)(D_:∀(i:Nat)(e:AE),b[i]?=D e->e.1=1+i/\KD e)(G:t++y=K5 b)(M:t=K5 (b.take d)++z):An (J3 (HM Uy++t)) λr=>r.2=0->∃k:Nat,k<=θ b/\min d (θ b)<=k/\r.1=(1,b.take k,(k:Int)):=by
 have S:=tB (l:=b) λe A_=>by obtain⟨k,m⟩:=Eo.1 A_;exact(D_ k e m).2
 have U_:θ t<=40000000:=by have:=E! θ G;rw[AV]at this;omega
 have C:(HM Uy).length=20:=by rw[DY];rfl
 have W:(HM Uy++t).length<=50000000:=by rw[AV];omega
 unfold J3;have o:Bg (HM Uy++t,0)=D (Uy,20,0):=by refine(Pd (a:=[]) (t:=HM Uy++t) w!).trans (E! D ?_);rw[jy g!];rfl
 rw[o,AD];dsimp only;rw[show((0:Int) !=0)=X by decide,A!,show(len Uy !=12)=X by decide,A!,show SH Uy 0 4=D [80,77,76,71]from rfl,AD,H!,A!,AG8,AD];dsimp only;rw[F! g!,A!,F! g!,A!,show wi ((1:Int)-1)=0 from rfl];refine AA (P:=λr=>∃k:Nat,k<=θ b/\min d (θ b)<=k/\((∃u,r=.inl u/\u.2=(1,b.take k,(k:Int)))\/∃u,r=.inr u/\(u.2.1,u.1,u.2.2.1)=(1,b.take k,(k:Int)))) ?_ λr hr=>?_
 ·refine CV (λs=>∃(k:Nat)(z:Ad)(c:Bc),k<=θ b/\s=(((HM Uy++K5 (b.take k)).length:Int),b.take k,1,(k:Int),z)/\t=K5 (b.take k)++c) (θ b-θ ·.2.1) ⟨0,(0,[],0),t,BS _,by simp[K5,C],by simp[K5]⟩ ?_;rintro s ⟨k,z,c,m,rfl,hr⟩;have E:(b.take k).length=k:=by rw[BU];omega
  have H:k<min d (θ b)->∃p R,θ p<=8392/\c=HM p++R:=λn=>by
   have g:k<θ b:=o!
   have N:b.take d=b.take (k+1)++(b.take d).drop (k+1):=by
    conv=>lhs;rw[<-C4 (k+1) (b.take d)]
    rw[Li,RQ o!]
   have O:b.take (k+1)=b.take k++[b[k]]:=by rw[Ca,Au g];rfl
   rw[N,O,nw,TG,A2,A2]at M;exact⟨_,_,TE (D_ k _ (Au g)).2,(EO (hr.symm.trans M) rfl).2⟩
  unfold Ub;dsimp only[len];refine AC (λQ=>?_) (λQ=>k? ⟨k,m,Nat.le_of_not_lt λn=>?_,.inr ⟨_,rfl,rfl⟩⟩);rotate_left 1;omega;have w:HM Uy++t=(HM Uy++K5 (b.take k))++c:=by rw[hr,A2]
  have F:=E! θ w;rw[@AV _ (HM Uy++K5 (b.take k)) _]at F;have o:Bg (HM Uy++t,((HM Uy++K5 (b.take k)).length:Int))=D (UF (HM Uy++K5 (b.take k)).length c):=by
   conv=>lhs;arg 1;rw[w]
   exact Pd o!
  rw[o,AD];refine AK (λB=>k? ⟨k,m,Nat.le_of_not_lt λn=>?_,.inl ⟨_,rfl,rfl⟩⟩) (λB=>?_);obtain⟨p,R,T,V⟩:=H n;rw[V,jy T]at B;exact B rfl;obtain⟨X_,⟨q,J⟩,Y⟩:=oP B;have j:K5 b=K5 (b.take k)++K5 (b.drop k):=by rw[<-nw,C4]
  have f:c++y=K5 (b.drop k):=by rw[hr,A2,j]at G;exact(EO G rfl).2
  by_cases g:k<θ b
  ·have h:=D_ k _ (Au g);rw[KH g,pF,J,A2]at f;obtain⟨I,Z⟩:=AG7 X_ (TE h.2) f;rw[I,AFh h.2,AD];dsimp only;rw[show((0:Int) !=0)=X by decide,A!,Aa (x:=(k:Int)+1),show(b[k].1 !=(k:Int)+1)=X by rw[h.1];exact bne_eq_false_iff_eq.2 o!,A!];have v:b.take (k+1)=b.take k++[b[k]]:=by rw[Ca,Au g];rfl
   refine AA (Ac (by rw[BW,Be];omega)) λv6 L=>y! ⟨k+1,z,q,g,?_,?_⟩ ?_
   rw[L.1,Y,I,v,TG,<-A2,AV (bs:=HM (B6 b[k])),DY];refine Di ?_ (Di rfl (Di rfl (Di ?_ rfl)));dsimp only;omega;dsimp only;rw[h.1];omega;rw[hr,v,TG,A2,<-I,<-J];dsimp only;rw[L.2.1,E];simp only[BW,Be];omega
  exfalso;rw[LZ o!]at f;have K:=E! θ f;rw[J,AV,AV,DY]at K;simp[K5]at K
 obtain⟨k,m,A_,⟨u,rfl,o⟩|⟨u,rfl,o⟩⟩:=hr;exact BC (AB λ_=>⟨k,m,A_,o⟩);exact A3 (AB λ_=>⟨k,m,A_,o⟩)
variable {B:Int->Prop}
def CB(n:Y)(P:E AE)(s:Bc):Prop:=∃es t y z,∃d:V,s=HM Uy++t/\t++y=K5 es/\Z es<=4096/\HS es/\LI n es/\P=es.take d/\t=K5 (es.take d)++z
def yz{n a:Y}{l}(h:Dc l)(b:l.1=1)(c:LI n l.2.1):An (HY (l,a)) (CB n (dl l)):=by
 refine(AGq h b).mono λr ⟨m,hr⟩=>⟨l.2.1,_,(K5 (l.2.1.drop l.2.2.toNat)).drop m,_,l.2.2.toNat,hr,?_,h.2.2.1,h.num b,c,rfl,rfl⟩
 rw[A2,C4,<-nw,C4]
def CB.open_{n}{P}{s}(h:CB n P s):An (J3 s) λr=>r.2=0->Dc r.1/\r.1.1=1/\LI n r.1.2.1/\∃m,P=(dl r.1).take m:=by
 obtain⟨b,t,y,z,d,rfl,p,hn,c,g,rfl,j⟩:=h;refine(AJL hn c p j).mono λr hr u=>?_;obtain⟨k,v,o,e⟩:=hr u;rw[e];have w:(b.take k).length=k:=q!
 refine⟨⟨Ag _,q!,q!,q!,d!,λi f l=>?_⟩,rfl,?_,min d (Z b),?_⟩;have:=c.take k i f l;exact this;rw[<-C4 k b]at g;exact g.pre;unfold dl;dsimp only;rw[DF,Li,Li,RQ (a:=min d (Z b)) o!,RQ o];rcases Nat.le_total d (Z b)with q|q;rw[RQ q];rw[Nat.min_eq_right q,BN q,If]
def SQB(B:Y->Prop)(n:Y)(s:AZ):Prop:=s.1.1=n/\SK B s.1/\Dc s.1.2.2.1/\DJ B s.1.2.2.1 s.2
def SQ(n:Y)(s:AZ):Prop:=∃B,SQB B n s
def SQB.sr{n}{s r}(h:SQB B n s)(g:SR B s r):SQ n r:=⟨B,g.1.1.trans h.1,g.1.2.2.1,g.1.2.2.2,g.2⟩
def iS{P}{x:Bv×Bc×Y×Y}(n:CB x.2.2.1 P x.2.1)(o:DP B P x.1):An (Rn x) λr=>r.2=0->SQ x.2.2.1 r.1:=by refine AA n.open_ λu j=>AK (λa=>AB λb=>O! b a) (λc=>?_);obtain⟨f,g,h,m,i⟩:=j c;refine AA (Z4 f g h) λv k=>AK (λa=>AB λb=>O! b a) (λd=>?_);obtain⟨a1,a2,a3,a4,a5⟩:=k d;refine AA (fD (B:=B) f ⟨a2,a3,a4⟩ q! q!) λw l=>AK (λa=>AB λb=>O! b a) (λe=>AB λ_=>?_);obtain⟨p,q,s,t⟩:=l e;exact⟨B,p.trans a1,q,s,DJ.up ⟨g,o.up i⟩ t⟩
def iT{P}{x:Bv×Bc×Y×Y}(b:CB x.2.2.1 P x.2.1)(c:DP B P x.1):An (Ro x) λr=>r.2=0->SQ x.2.2.1 r.1:=by exact AA (iS b c) λd a=>AB a
def AJg{n o:Bc}{c}(hn:Z n=256)(p:Z o=256)(h:n.take 8=n.drop 248)(d:o.take 8=o.drop 248)(j:n.take 8=o.take 8->n=o)(b:(n.take c++o.drop c).take 8=(n.take c++o.drop c).drop 248):n.take c++o.drop c=n\/n.take c++o.drop c=o:=by
 have g:∀i:V,(n.take c++o.drop c)[i]?=if i<c then n[i]? else o[i]? :=λi=>q!
 have q:∀{l:Bc},l.take 8=l.drop 248->∀i:V,i<8->l[i]?=l[248+i]? :=λ{l} e i a=>by have:=E! (λl:Bc=>l[i]?) e;rw[KK a,KJ]at this;exact this
 by_cases m:c<8;refine .inr (Jc λi=>?_);rw[g i];split;rename_i a;have:=q b i o!;rw[g,g,C! a,D! o!,<-q d i o!]at this;exact this;rfl
 ·refine .inl ?_;by_cases k:c<=248
  ·have e:n=o:=j (Jc λi=>by
    by_cases a:i<8;have:=q b i a;rw[g,g,C! o!,D! o!,<-q d i a]at this;rw[KK a,KK a];exact this
    ·rw[Cz (by rw[BU];omega),Cz (by rw[BU];omega)]);rw[e,C4]
  ·refine Jc λi=>?_;rw[g i];split;rfl;rename_i a;by_cases f:i<256;have:=q b (i-248) o!;rw[g,g,C! o!,D! o!,show 248+(i-248)=i by omega,q h (i-248) o!,show 248+(i-248)=i by omega]at this;exact this.symm;rw[Cz o!,Cz o!]
def AGC:(jt 256).take 8=(jt 256).drop 248:=g!
def DP.tear{P:Ψ AE}{d t:Bv}{p:Y}{o n m:Bc}{c:V}(h:DP B P d)(z:0≤p)(f:B p)(G:DI t)(K:d.1[ο p]?=D o)(J:m=n.take c++o.drop c)(H:t.1=Es d.1 p m){x:AT}(r:Eb x)(hn:n=Ij x)(D_:AIh P p n)(Q:1≤x.2.1)
  (O:∀j,(st (P.take j) p).2.1=x.2.1->st (P.take j) p=x) (M:∀j,Eb (st (P.take j) p)):∃A_,DP A_ P t:=by
 have g:=(h.2 _ _ K).1 (by rw[Iz z];exact f);rw[Iz z]at g;have y:∀(i:V)(s:Bc),i≠ο p->t.1[i]?=D s->d.1[i]?=D s:=λi s l a=>by rw[H]at a;unfold Es at a;rwa[Dl o!]at a
 have w:∀s:Bc,t.1[ο p]?=D s->s=m:=λs a=>by rw[H]at a;unfold Es at a;grind
 by_cases b:dead m;refine⟨λj=>B j/\j≠p,G,λi s a=>?_⟩;by_cases l:i=ο p
 subst l;rw[w s a];exact⟨λf=>O! (Iz z) f.2,.inr b⟩;have:=h.2 i s (y i s l a);exact⟨λf=>this.1 f.1,this.2.imp_left λf=>⟨f,o!⟩⟩;have C:m.take 8=m.drop 248:=by by_cases N:m=jt 256;rw[N];exact AGC;by_cases L:∃q,Eb q/\m=Ij q;obtain⟨q,E,F⟩:=L;rw[F,VN,o8 E];exact O! ⟨N,λq E F=>L ⟨q,E,F⟩⟩ b
 have v:o.take 8=o.drop 248/\(n.take 8=o.take 8->n=o):=by rcases g with rfl|⟨j,rfl⟩;refine⟨AGC,λe=>?_⟩;rw[hn,VN]at e;have:=YM (k:=8) (n:=x.2.1) (m:=0) g! ⟨n!,by have:=r.2.2.1;omega,by have:=r.2.2.2.1;omega⟩ ⟨n!,g!,g!⟩ e;omega;refine⟨VN.trans (o8 (M j)).symm,λe=>?_⟩;rw[hn,VN,VN]at e;have I:=M j;have:=YM (k:=8) g! ⟨n!,by have:=r.2.2.1;omega,by have:=r.2.2.2.1;omega⟩ ⟨n!,by have:=I.2.2.1;omega,by have:=I.2.2.2.1;omega⟩ e;rw[hn,O j this.symm]
 have u:=AJg (c:=c) (by rw[hn];exact Yz r) (h.1.2.1 _ _ K) (by rw[hn,VN,o8 r]) v.1 v.2 (by rw[<-J];exact C);rw[<-J]at u;refine⟨B,G,λi s a=>?_⟩;by_cases l:i=ο p
 subst l;rw[w s a,Iz z];refine⟨λ_=>?_,.inl f⟩;rcases u with e|e<;>rw[e];exact D_;exact g;exact h.2 i s (y i s l a)
def fF{x:AZ×Int×Int×Int}(h:SK B x.1.1)(D_:Dc x.1.1.2.2.1)(v:DJ B x.1.1.2.2.1 x.1.2):An (Mg x) λr=>∃A_ P,DP A_ P r.1/\CB x.1.1.1 P r.2:=by
 unfold Mg;refine AA GB λi Q=>AC (λO=>?_) (λ_=>AA (yz D_ v.1 h.ki.1) λL E=>AB (⟨B,dl x.1.1.2.2.1,v.2,E⟩:∃A_ P,DP A_ P x.1.2/\CB x.1.1.1 P L));have⟨J,f,G,m⟩:=Q.2.2.1 O;obtain⟨g,M,Y,c⟩:=AI O Q.2.1;have e:=BL (Y.symm.trans G);subst e;dsimp only at M m c;rw[M];refine BJ (AA (P:=λr:AU×Bv=>(∃A_,DP A_ (dl r.1.2.2.1) r.2)/\Dc r.1.2.2.1/\r.1.2.2.1.1=1/\LI x.1.1.1 r.1.2.2.1.2.1) ?_ λv8 W=>?_);rotate_left 1;obtain⟨⟨A_,R⟩,S,T,N⟩:=W;refine AA (yz S T N) λv9 X_=>AB ?_;exact⟨A_,dl v8.1.2.2.1,R,X_⟩;refine AM (λF=>?_) (λ_=>?_);rotate_left 1;apply AB;exact⟨⟨B,v.2⟩,D_,v.1,h.ki.1⟩;have⟨t,n,_⟩:=J.2.2.2.2.2.1 i.toNat g (by have:=Ce G;omega) G;have n:=n F;apply BJ;rw[Yc t];refine BJ (BJ (AA (Kc h D_) λu a=>AA (hY v.2.1) λv6 U_=>?_));have b:=v.up a.1.2.1;have q:=h.ki.2.2 g c;have K:=a.1.2.2.1.num b.1;have N:=a.1.2.2.1.2.2.1;have C:=a.1.2.2.2.2.2.ki;have s:g.1=st u.2.2.1.2.1 x.2.2.1:=by have:=(C.2.1 x.2.2.1 o! (by rw[a.1.1];dsimp only;omega)).1 g (by rw[a.2.1];exact c) m;exact this
 have I:=X2 K (p:=x.2.2.1) ⟨o!,by rw[<-m];exact t.2.1⟩ o!;have y:Bn u.2.2.1.2.1 x.2.2.1=g.1.2.1:=by rw[<-KB,<-s]
 have w:=a.2.2 (by have:=mI D_ g.1.1;have:=E! (·.2.1) ((h.ki.2.1 g.1.1 q.1 q.2.1).1 g c rfl);rw[KB]at this;dsimp only;omega);refine AA (P:=λd=>∃A_,DP A_ (dl u.2.2.1) d) (AQ (λZ=>AB ?_) (y? ⟨B,b.2⟩)) λv7 V=>AB ⟨V,a.1.2.2.1,b.1,by have:=C.1;rw[a.1.1]at this;exact this⟩;obtain⟨t1,o,t2,t3,t4⟩:=U_ Z;refine b.2.tear t2 (by rw[<-m];exact q.2.2.2) t1 t3 rfl t4 t rfl ?_ o! (λj H=>?_) λj=>?_;refine .inr ⟨(dl u.2.2.1).length,?_⟩;rw[If];unfold dl;dsimp only at w⊢;rw[AF1 K o!,<-s];unfold dl at H⊢;rw[Li]at H⊢;rw[s,<-If (l:=u.2.2.1.2.1)];rw[If];have:=mP K (p:=x.2.2.1) (j:=min j u.2.2.1.2.2.toNat) (k:=θ u.2.2.1.2.1) (by rw[If,y,<-H,KB]);rwa[If]at this;unfold dl;rw[Li];exact I _
def FG{x}:An (ES x) λr=>R:=by exact AK (λ_=>AA B9 λ_ _=>AB trivial) (y? trivial)
end Go.Pm
namespace Go.Pm
open Go Go.Ab
def bu{m:V}{c:AZ×O}{s:Y×List Y×AZ×O}(i:m<=16777216)(h:0<=s.1/\s.1<=m/\Z s.2.1=m/\s.2.2=c):An (Ak QC s) λr=>Z r.1=m/\r.2=c:=by refine AY (λ(s:Int×List Int×AZ×Bool)=>0<=s.1/\s.1<=m/\Z s.2.1=m/\s.2.2=c) (λs=>((m:Y)-s.1).toNat) h (λs g=>?_);obtain⟨b,j,d,f⟩:=g;unfold QC;have e:=Aa (x:=s.1+1);rw[e];refine AC (λa=>?_) (y? ⟨d,f⟩);simp only[S]at a;refine AA (AI b a) λ_ _=>AA (AI b a) λ_ _=>AB ⟨⟨d!,d!,by simp[Es,d],f⟩,d!⟩
def js{n}{x:AZ×List Le}(h:SQ n x.1):An (OZ x) λr=>SQ n r.1:=by
 unfold OZ;refine AA (P:=λr=>SQ n r.2.2.2.1) ?_ λr hr=>AB hr;refine AY (λ(s:Int×List Bh×List Int×List Ja×AZ×Bool)=>0<=s.1/\s.1<=1000/\θ s.2.1<=s.1/\θ s.2.2.1<=s.1/\θ s.2.2.2.1<=s.1/\SQ n s.2.2.2.2.1) (λs=>(1000-s.1).toNat) ⟨Ag _,d!,k!,k!,k!,h⟩ (λs hI=>?_);obtain⟨i1,i2,i3,i4,i5,o⟩:=hI;obtain⟨B,i⟩:=id o;obtain⟨W,q,E,y⟩:=id i;unfold Vh;refine AC (λV=>?_) (y? o);refine AC (λad=>?_) (y? o);refine AP (λ_=>?_) (y? o);simp only[len]at V;have e:=Aa (x:=s.1+1);have b:∀(v:Bh)(t:Ψ Int×Ψ Ja×AZ×Bool),θ t.1<=s.1+1->θ t.2.1<=s.1+1->SQ n t.2.2.1->∀Q:Step (Int×(Ψ Bh×(Ψ Int×(Ψ Ja×(AZ×Bool))))) (Ψ Bh×(Ψ Int×(Ψ Ja×(AZ×Bool))))->Prop,(∀a:Int×Ψ Bh×Ψ Int×Ψ Ja×AZ×Bool,(0<=a.1/\a.1<=1000/\θ a.2.1<=a.1/\θ a.2.2.1<=a.1/\θ a.2.2.2.1<=a.1/\SQ n a.2.2.2.2.1)/\(1000-a.1).toNat<(1000-s.1).toNat->Q (.next a))->An (σ (app s.2.1 ([v]:Ψ (Int×(Int×(Int×((Bool×Bc)×Int)))))) λG=>D (.next (wi (s.1+1),G,t))) Q:=by intro v t h1 T J Q L;refine AA (Ac w!) λG h7=>AB (L _ ?_);have l7:=h7.2.1;simp only[BW,Be]at l7;rw[e];exact⟨⟨d!,d!,d!,d!,d!,J⟩,d!⟩
 have same:∀(v:Bh)(Q:Step (Int×(Ψ Bh×(Ψ Int×(Ψ Ja×(AZ×Bool))))) (Ψ Bh×(Ψ Int×(Ψ Ja×(AZ×Bool))))->Prop),(∀a:Int×Ψ Bh×Ψ Int×Ψ Ja×AZ×Bool,(0<=a.1/\a.1<=1000/\θ a.2.1<=a.1/\θ a.2.2.1<=a.1/\θ a.2.2.2.1<=a.1/\SQ n a.2.2.2.2.1)/\(1000-a.1).toNat<(1000-s.1).toNat->Q (.next a))->An (σ (app s.2.1 ([v]:Ψ (Int×(Int×(Int×((Bool×Bc)×Int)))))) λG=>D (.next (wi (s.1+1),G,s.2.2))) Q:=λv Q L=>b v s.2.2 o! o! o Q L;refine AA (AI i1 V) λv1 _=>AQ (λ_=>?_) (λ_=>?_);refine AA (fE q E y) λv2 T=>AA (P:=λr=>θ r.1<=s.1+1/\r.2=s.2.2.2.2) ?_ λv4 U_=>?_;refine AQ (λ_=>?_) (y? ⟨d!,rfl⟩);refine AA (Ac w!) λv3 J=>AB ⟨?_,rfl⟩;have:=J.2.1;simp at this;dsimp only;omega;refine AA (P:=λr=>SQ n r.1) ?_ λv5 Z=>?_;refine AQ (λf=>AB (i.sr (T f))) (y? (by rw[U_.2];exact o));refine AA FG λv6 _=>b _ (v4.1,s.2.2.2.1,v5) U_.1 d! Z _ (λ_ h=>h);refine AQ (λ_=>?_) (λ_=>?_);refine AC (λ_=>AA B9 λS _=>same _ _ (λ_ h=>h)) (λc1=>AC (λ_=>AA B9 λS _=>same _ _ (λ_ h=>h)) (λX_=>?_));simp only[len]at X_;have Y:=Aa (x:=v1.2.1-1);rw[Y];refine AA (AI) λal _=>AA (AI) λao _=>AQ (λ_=>AA B9 λS _=>same _ _ (λ_ h=>h)) (λ_=>AA (AI) λap _=>AA (AI) λar _=>AA (ku q E y) λM H=>?_);have w:=i.sr H;refine AQ (λ_=>same _ _ (λ_ h=>h)) (λ_=>AQ (λ_=>?_) (λ_=>?_));refine AA (P:=λr=>θ r.1<=s.1+1/\SQ n r.2.1) ?_ λN C=>b _ (s.2.2.1,N) d! C.1 C.2 _ (λ_ h=>h);refine AQ (λ_=>?_) (y? ⟨d!,w⟩);refine AA F9 λax _=>AA (Ac w!) λa0 I=>AB ⟨?_,w⟩;have:=I.2.1;simp at this;dsimp only;omega;exact b _ (s.2.2.1,s.2.2.2.1,M.1,s.2.2.2.2.2) d! d! w _ (λ_ h=>h);refine AQ (λ_=>?_) (λ_=>?_);refine AA (fG q E y) λF j=>AA (P:=λr=>SQ n r.1) (AQ (λf=>AB (i.sr (j f))) (y? o)) λg d=>AA FG λz _=>b _ (s.2.2.1,s.2.2.2.1,g) d! d! d _ (λ_ h=>h);refine AQ (λ_=>?_) (λ_=>?_);refine AA (Xp q y) λF j=>AA (P:=λr=>SQ n r.1) (AQ (λf=>AB (i.sr (j f))) (y? o)) λg d=>AA FG λz _=>b _ (s.2.2.1,s.2.2.2.1,g) d! d! d _ (λ_ h=>h);refine AQ (λ_=>?_) (λ_=>?_);refine AA F9 λa1 _=>AA KZ λa2 k=>AA (P:=λr=>SQ n r.1) (AQ (λf=>AB ⟨B,W,SB.sk q.sb (q.ki.of rfl (k f).2.1 rfl rfl),(k f).1,y.up (LX.of (k f).2.2.1 (k f).2.1 (k f).2.2.2.1)⟩) (y? o)) λg d=>AA FG λz _=>b _ (s.2.2.1,s.2.2.2.1,g) d! d! d _ (λ_ h=>h);refine AQ (λ_=>?_) (λ_=>?_);refine AA (fF q E y) λa3 ⟨A_,P,D_⟩=>AA (iT D_.2 D_.1) λO K=>AA (bu (m:=θ s.2.2.1) (c:=s.2.2.2.2) o! ⟨Ag _,d!,rfl,rfl⟩) λp u=>AK (λ_=>?_) (λf=>?_);refine AA FG λR _=>b _ (p.1,s.2.2.2.1,p.2.1,A) (by have:=u.1;dsimp only;omega) d! (by dsimp only;rw[u.2];exact o) _ (λ_ h=>h);refine AA FG λR _=>?_;have l:=K f;dsimp only at l;rw[W]at l;exact b _ (p.1,s.2.2.2.1,O.1,p.2.2) (by have:=u.1;dsimp only;omega) d! l _ (λ_ h=>h);refine AQ (λ_=>?_) (λ_=>?_);refine AA (iU q E y) λF j=>AA (P:=λr=>SQ n r.1) (AQ (λf=>AB (i.sr (j f))) (y? o)) λg d=>AA FG λz _=>b _ (s.2.2.1,s.2.2.2.1,g) d! d! d _ (λ_ h=>h);exact AA B9 λS _=>same _ _ (λ_ h=>h)
def CX(b:AL):Prop:=0<=b.2/\Z b.1<=16777216/\∀x∈b.1,0<=x/\x<256
def CX.step{b}(h:CX b)(a:b.2<Z b.1):CX (b.1,wi (b.2+1)):=by have⟨a1,a2,a3⟩:=h;rw[(Aa (x:=b.2+1))];exact⟨d!,a2,a3⟩
def Wj{b}(h:CX b):An (Hw b 256) λr=>CX r.2/\0<=r.1/\r.1<256:=by unfold Hw;refine AC (y? ⟨h,Ag _,by show(0:Y)<256;decide⟩) (λa=>?_);simp[S]at a;refine AC n! (λ_=>AA (AI h.1) λc d=>?_);have⟨f,g⟩:=h.2.2 c d.2;have e:=Aa (x:=c);refine AC n! (λ_=>AQ n! (y? ⟨h.step o!,?_,?_⟩));grind[Int.tmod_nonneg];grind[Int.tmod_lt_of_pos]
theorem AW{b}{x:Y}(h:CX b)(j:x<=4611686018427387904):An (Ae b x) λr=>CX r.2/\0<=r.1/\(r.1=0\/r.1<x):=by unfold Ae;refine AC (y? ⟨h,Ag _,.inl rfl⟩) (λa=>?_);simp[S]at a;refine AC (y? ⟨h,Ag _,.inl rfl⟩) (λf=>AA (AI h.1) λc e=>?_);have⟨d,g⟩:=h.2.2 c e.2;rw[(Aa (x:=c))];refine AC (λ_=>?_) (λ_=>?_);refine AA (Wj (h.step o!)) λk i=>?_;grind[AQ,AB,Aa,Int.tmod_nonneg,Int.tmod_lt_of_pos];refine AQ (O! · o!) (y? ⟨h.step o!,Int.tmod_nonneg _ d,.inr (Int.tmod_lt_of_pos _ o!)⟩)
def IT{b}{x}(h:CX b):An (Er b x) λr=>CX r.2:=by unfold Er;refine AA (AW h g!) λt e=>AA (AW e.1 g!) λu m=>AA (P:=λr=>CX r.2/\0<=r.1/\r.1<=14) ?_ λc f=>?_;grind[AQ,AB,AA,AW];have⟨d,a,k⟩:=f;refine AA (P:=λl:E Y=>Z l=0) ⟨_,C! ⟨Ag _,a,o!⟩,k!⟩ λv n=>AA (P:=λr=>CX r.2) ?_ λw g=>AB g;refine AY (λ(s:Int×List Int×AL)=>0<=s.1/\s.1<=c.1/\Z s.2.1<=s.1/\CX s.2.2) (λs=>(c.1-s.1).toNat) ⟨Ag _,a,d!,d⟩ (λs i=>?_);have⟨o,p,q,j⟩:=i;unfold QX;rw[(Aa (x:=s.1+1))];refine AC (λ_=>?_) (y? j);grind[AA,AW,Ac,AB,List.length_cons,List.length_nil]
theorem Cs{b}{x}(h:CX b):An (Bl b x) λr=>CX r.2:=by unfold Bl;refine AA (AW h g!) λf a=>AQ (λ_=>AA (AW a.1 g!) λe c=>AB c.1) (λ_=>AQ (λ_=>?_) (λ_=>AA (AW a.1 g!) λe c=>AB c.1));refine AA (AW a.1 g!) λg d=>?_;have:=d.2.2;refine AA (AI d.2.1 w!) λ_ _=>?_;grind[AA,AI,AB]
theorem XI{b}{x:Y}(h:CX b)(u:x<=1099511627776):An (IR b x) λr=>CX r.2:=by
 unfold IR;refine AA (AW h g!) λv a=>?_;have l:=a.2.2;refine AA (AI a.2.1 w!) λ_ _=>AA (AI a.2.1 w!) λw _=>AA (P:=λ_=>R) (AM (y? trivial) (λ_=>AA (P:=λ_=>R) (AM (y? trivial) (y? trivial)) λ_ _=>AB trivial)) λy _=>AA (P:=λr=>CX r.1) ?_ λp e=>?_;refine AM (λ_=>?_) (λ_=>?_);refine AA (AW a.1 o!) λz m=>AA (AW m.1 g!) λA j=>AA (P:=λr=>CX r.1) ?_ λt i=>AB i;refine AM (λ_=>?_) (y? j.1);refine AA (IT j.1) λc n=>?_;have k:0<=(if(12<(S c.1))then 12 else(S c.1))/\(if(12<(S c.1))then 12 else(S c.1))<=Z c.1:=by simp[S];split<;>omega
 exact AA (Bx (Ag _) k.1 k.2) λB _=>AB n;refine AA (P:=λr=>CX r.1) ?_ λt i=>AB i;exact AM (λ_=>AA (AW a.1 g!) λo d=>AB d.1) (y? a.1);refine AA (AW e g!) λq f=>AA (P:=λr=>CX r.1) ?_ λs g=>AB g;refine AM (λ_=>?_) (y? f.1);grind[AA,Cs,AB]
theorem X7{b}{x:Y×Y×O}(h:CX b)(f:0<=x.1/\x.1<=64/\x.2.1<=64):An (JA b x) λr=>CX r.2:=by unfold JA;rw[(Aa (x:=x.1+1))];refine AA (AW h g!) λg a=>AA (P:=λ_=>R) (AM (y? trivial) (y? trivial)) λi _=>AM (y? a.1) (λ_=>AM (λ_=>AA (AW a.1 o!) λj c=>AB c.1) (λ_=>AM (y? a.1) (λ_=>AM (y? a.1) (λ_=>AA (P:=λs=>(∃u,s=.inl u/\CX u.1)\/∃u,s=.inr u/\CX u.1) ?_ λs e=>?_))));refine AM (λ_=>?_) (λ_=>AM (y? (.inl ⟨_,rfl,a.1⟩)) (y? (.inr ⟨_,rfl,a.1⟩)));refine AM (λ_=>?_) (y? (.inr ⟨_,rfl,a.1⟩));refine AA (AW a.1 g!) λk d=>?_;grind[AA,AW,AB];grind[BC,AB,A3,AA,AW,XI]
def Vv{b}{x:Y×Y×O}(h:CX b)(g:0<=x.1/\x.1<=64/\x.2.1<=1000/\ -1000<=x.2.1):An (HP b x) λr=>CX r.2:=by unfold HP;rw[(Aa (x:=x.2.1+1))];refine AA (AW h o!) λk a=>?_;have c:=a.2.2;refine AA (P:=λr=>CX r.2) ?_ λl d=>AB d;refine AY (λ(s:Int×List Le×AL)=>0<=s.1/\s.1+Z s.2.1<=1010/\CX s.2.2) (·.1.toNat) ⟨a.2.1,w!,a.1⟩ (λs e=>?_);have⟨i,j,f⟩:=e;unfold NJ;rw[(Aa (x:=s.1-1))];refine AC (λ_=>?_) (y? f);grind[AA,X7,Ac,AB,List.length_cons,List.length_nil]
variable {B:Int->Prop}
def vq:Dc (1,[],0):=⟨g!,g!,k!,g!,k!,λi e h=>by simp at h⟩
def jk{x}:An (GO x) λr=>r=(1,[],0):=by unfold GO;exact AB rfl
def jq{x:Y×Y}(h:1<=x.1/\x.1<=64/\1<=x.2/\x.2<=64):An (OX x) λr=>r.2=0/\r.1.1=x.1/\SK (λ_=>R) r.1/\Dc r.1.2.2.1/\r.1.2.2.1.1=1:=by unfold OX;refine AC (O! · o!) (λ_=>AC (O! · o!) (λ_=>AC (O! · o!) (λ_=>AC (O! · o!) (λ_=>AA WC λf c=>AA WD λg d=>AA jk λi b=>AB ⟨rfl,rfl,⟨⟨k!,k!⟩,k!,k!,?_⟩,?_⟩))));unfold KI FD;dsimp only;rw[c,b];refine⟨LI.nil _,λp _ _=>⟨k!,k!,λw e=>?_⟩,k!⟩;have:=d w (BP e);exact⟨by rw[this];exact Ag _,λ_ _=>this⟩;dsimp only;rw[b];exact⟨vq,rfl⟩
def AG0{x:Y}(h:1<=x/\x<=64):An (Kx x) λr=>r.2=0:=by unfold Kx;refine AC (O! · o!) (λ_=>AC (O! · o!) (λ_=>AA (TL o!) λb _=>AB rfl))
def jr{x:Y×Y}(h:1<=x.1/\x.1<=64/\1<=x.2/\x.2<=64):An (OY x) λr=>SQ x.1 r.1:=by unfold OY;refine AA (jq h) λe a=>AK (O! a.1 ·) (λ_=>AA ((jg).and (AG0 ⟨h.1,h.2.1⟩)) λf b=>AK (O! b.2 ·) (y? ?_));exact⟨_,a.2.1,a.2.2.1,a.2.2.2.1,a.2.2.2.2,(b.1 b.2).1,λi s d=>⟨λ_=>.inl (((b.1 b.2).2.2 i s d).trans (mw _)),.inl trivial⟩⟩
def Wk{b}{x:Y×O}(h:CX b)(c:x.1<=1000/\ -1000<=x.1):An (Hy b x) λr=>CX r.2/\∃n,1<=n/\n<=4/\SQ n r.1:=by unfold Hy;refine AA (AW h g!) λl a=>AA (AW a.1 g!) λm g=>?_;obtain⟨a1,a2,a3⟩:=a;obtain⟨d,o,p⟩:=g;have e:=Aa (x:=1+l.1);have f:=Aa (x:=1+m.1);rw[e,f];refine AA (jr d!) λq i=>AA (Vv d ⟨d!,d!,c.1,c.2⟩) λs j=>AA (js i) λt k=>AB ⟨j,_,d!,d!,k⟩
def PS{b}{x:Y×O}(h:CX b)(d:x.1<=1000/\ -1000<=x.1):An (IU b x) λr=>CX r.2/\1<=r.1.1/\r.1.1<=4/\LI r.1.1 r.1.2.2.1.2.1/\Dc r.1.2.2.1/\r.1.2.2.1.1=1:=by unfold IU;refine AA (Wk h d) λl a=>AB ?_;obtain⟨c,n,i,j,_,k,e,f,g⟩:=a;exact⟨c,d!,d!,e.ki.1,f,g.1⟩
def kh{b}{x:Y}(h:CX b)(i:x<=1000/\ -1000<=x):An (Ls b x) λr=>CX r.2.2/\1<=r.1/\r.1<=4/\Dc r.2.1/\∃n,LI n r.2.1.2.1:=by unfold Ls;refine AA (PS h i) λo f=>?_;obtain⟨c,j,k,l,d,m⟩:=f;refine AA F9 λp g=>?_;have e:=g d;refine AA (KZ.and (tP d d!)) λq a=>AB ⟨c,j,k,(a.1 a.2).1,_,by have:=l;rw[<-(a.1 a.2).2.1]at this;exact this⟩
end Go.Pm
namespace Go.Pm
open Go Go.Ab
def JI{x}:An (IK x) λr=>r=A↔1<=x.1/\x.1<=x.2.1/\x.2.1<=1099511627776/\0<=x.2.2.1/\x.2.2.1<=x.2.2.2.1/\x.2.2.2.1<64/\0<=x.2.2.2.2/\x.2.2.2.2<=8:=by
 unfold IK;exact x!
theorem M3{x}:An (DH x) λr=>R:=by
 unfold DH;exact x!
def Q4{x:List AE×AE}{s:Y}(h:0<=s/\s<=Z x.1/\(Z x.1:Y)<=16777216):An (Ak (JH x) s) λr=>0<=r/\r<=Z x.1:=by
 refine AY (λ(s:Int)=>0<=s/\s<=Z x.1/\(Z x.1:Y)<=16777216) (λs=>((Z x.1:Y)-s).toNat) h (λs a=>?_);unfold JH;exact x!
theorem bx{x:E AE×AE}(h:Z x.1<=16777215):An (Cc x) λr=>Z r.1<=Z x.1+1:=by
 refine AA (Q4 ⟨Ag _,o!⟩) λp a=>?_;have main:An (σ (Wp x.1 0 p) λb=>
  σ (Wp x.1 p (S x.1)) λc=>
  σ (app [] b) λd=>
  σ (app d ([x.2]:E (Y×(Y×(Y×(Y×(Y×(Y×((Y×(Y×((O×Bc)×(O×Bc))))×Bc))))))))) λe=>
  σ (app e c) λf=>
  D (f,A)) λr=>Z r.1<=Z x.1+1:=by
  refine AA (Bd (Ag _) a.1 a.2) λj g=>AA (Bd a.1 q! q!) λk i=>?_;grind[AA,Ac,AB]
 refine AC (λl=>?_) (λ_=>main);grind[AA,AI,M3,AQ,AB]
def ZM{x:AS}{s:Y}(h:0<=s/\s<=Z x.2.2.2.2.2/\(Z x.2.2.2.2.2:Y)<=16777216):An (Ak (Hj x) s) λr=>r≠.inl A:=by
 refine AY (λ(s:Int)=>0<=s/\s<=Z x.2.2.2.2.2/\(Z x.2.2.2.2.2:Y)<=16777216) (λs=>((Z x.2.2.2.2.2:Y)-s).toNat) h (λs b=>?_);unfold Hj;exact x!
def cO(x:AS):Prop:=1<=x.1/\x.1<=x.2.1/\x.2.1<=1099511627776/\0<=x.2.2.1/\x.2.2.1<=x.2.2.2.1/\x.2.2.2.1<64/\0<=x.2.2.2.2.1/\x.2.2.2.2.1<=8/\Z x.2.2.2.2.2<=4096
def PD{x}:An (Ef x) λr=>r=A->cO x:=by refine AA JI λe b=>AP (y? λa=>by cases a) (λc=>?_);have hn:=b.1 c;refine AC (y? λa=>by cases a) (λd=>?_);simp[S]at d;refine AA (ZM ⟨Ag _,o!⟩) λr hr=>?_;grind[cO,BA,AB]
def Se{x:List AE×Y×Y×Y×Y×Y}{s:Y×AS}(h:0<=s.1/\s.1<=Z x.1/\Z x.1<=16777215):An (Ak (PB x) s) λr=>∀u,r=.inl u->u.1≠0:=by
 refine AY (λ(s:Int×AS)=>0<=s.1/\s.1<=Z x.1/\Z x.1<=16777215) (λs=>((Z x.1:Y)-s.1).toNat) h (λs b=>?_);unfold PB;exact x!
def Sf{a:O×Y×AS}{b}{s:O×Y}(h:0<=s.2/\s.2<=Z a.2.2.2.2.2.2.2/\Z a.2.2.2.2.2.2.2<=16777215):An (Ak (PC a b) s) λr=>R:=by
 refine AY (λ(s:Bool×Int)=>0<=s.2/\s.2<=Z a.2.2.2.2.2.2.2/\Z a.2.2.2.2.2.2.2<=16777215) (λs=>((Z a.2.2.2.2.2.2.2:Y)-s.2).toNat) h (λs c=>?_);unfold PC;exact x!
def iX{x:List AE×Y×Y×Y×Y×Y}(h:Z x.1<=16777215):An (J6 x) λr=>r.2=0->cO r.1:=by
 refine AA JI λp _=>AP (y? n!) (λ_=>AA (Se ⟨Ag _,q!,h⟩) λq g=>BA (λu e=>AB λa=>O! a (g u e)) (λu e=>AA (P:=λr=>Z r.2.2.2.2.2.2<=16777215) ?_ λl f=>?_));refine AY (λ(s:Bool×Int×AS)=>0<=s.2.1/\s.2.1<=Z x.1/\Z s.2.2.2.2.2.2.2<=s.2.1) (λs=>((Z x.1:Y)-s.2.1).toNat) ⟨Ag _,q!,k!⟩ (λs i=>?_);have⟨j,n,o⟩:=i;unfold Kk;rw[(Aa (x:=s.2.1+1))];refine AC (λc=>?_) (y? q!);simp[S]at c;have b:((0<=s.2.1+1/\s.2.1+1<=Z x.1/\Z s.2.2.2.2.2.2.2<=s.2.1+1)/\((Z x.1:Y)-(s.2.1+1)).toNat<((Z x.1:Y)-s.2.1).toNat):=⟨o!,o!⟩
 refine AA (AI j c) λt _=>AA CA λv _=>AP (y? b) (λ_=>AC (y? b) (λ_=>AC (y? b) (λ_=>AC (y? b) (λ_=>AC (y? b) (λ_=>AA (Sf ⟨Ag _,q!,o!⟩) λk _=>?_)))));grind[AA,bx,AB];refine AM (y? n!) (λ_=>AC (y? n!) (λ_=>AA PD λm d=>AP (y? n!) (λc=>AB λ_=>d c)))
def iW{x}:An (IJ x) λr=>R:=by
 unfold IJ;exact x!
def bw{x}:An (G9 x) λr=>Z r.1<=1099511627776:=by refine AA PD λk b=>AP (y? k!) (λa=>?_);have h:=(b a).2.2.2.2.2.2.2.2;refine AA iW λl _=>AA UZ λm g=>AA (P:=λr:Bc=>Z r<=1099511627776) ?_ λo c=>AB c;refine AY (λ(s:Bc×Int)=>0<=s.2/\s.2<=Z x.2.2.2.2.2/\Z s.1<=8408*s.2+8408) (λs=>((Z x.2.2.2.2.2:Y)-s.2).toNat) ⟨Ag _,q!,q!⟩ (λs d=>?_);have⟨f,i,j⟩:=d;have e:=Aa (x:=s.2+1);refine AC (λa=>?_) (y? o!);refine AA (AI f a) λn _=>?_;grind[AA,bZ,UZ,CR,AB]
def cC{x:Bc×Y×Y}(h:Z x.1<=1099511627776):An (Ba x) λr=>R:=by exact AA (Cl h) λ_ _=>AB trivial
def bv{x:Bc}(h:Z x<=1099511627776):An (GD x) λr=>r.2=0->cO r.1:=by refine AA (SU h) λk n=>AK (λb=>AB λa=>O! a b) (λj=>AK (y? n!) (λg=>?_));simp[S]at g;refine AA (Bx (Ag _) g!) λp _=>AK (y? n!) (λ_=>?_);have hn:∀y,An (Ba (k.1,y)) λ_=>R:=λy=>cC q!;refine AA (hn _) λq _=>AA (hn _) λt _=>AA (hn _) λv _=>AA (hn _) λw _=>AA (hn _) λz _=>AA (hn _) λA_ _=>AC (y? n!) (λi=>AA (P:=λr=>∀u,r=.inl u->u.1≠0) ?_ λl d=>?_);refine AY (λ(s:Int×Int×List AE×Int×Int×Int×Int×Int×AS)=>0<=s.2.1/\s.2.1<=4096/\Z s.2.2.1<=s.2.1) (λs=>(4096-s.2.1).toNat) ⟨Ag _,q!,k!⟩ (λs o=>?_);have e:=Aa (x:=s.2.1+1);refine AC (λb=>?_) (y? λu c=>by cases c);grind[AA,SU,AK,AB,bY,Ac,List.length_cons,List.length_nil];refine BA (λu c=>AB λa=>O! a (d u c)) (λu c=>AK (y? n!) (λ_=>AA PD λm f=>AP (y? n!) (λb=>AB λ_=>f b)))
def SA(a:AJ):Prop:=Z a.1<=16/\Z a.2.2.1<=16777216/\∀f∈a.2.2.1,Z f.2.2<=1099511627776
def VA(a:AJ):Prop:=1<=a.2.1/\a.2.1<=64/\1<=Z a.1/\Z a.1<=16/\1<=a.2.2.2.1/\a.2.2.2.1<=1099511627777/\1<=a.2.2.2.2/\a.2.2.2.2<=1073741825/\Z a.2.2.1<=256
def cE{x:Int×List Int}:An (GF x) λr=>r=A->1<=x.1/\x.1<=64/\1<=Z x.2/\Z x.2<=16:=by unfold GF;refine AC (y? λa=>by cases a) (λh=>AC (y? λa=>by cases a) (λi=>AC (y? λa=>by cases a) (λb=>AC (y? λa=>by cases a) (λc=>?_))));simp only[S]at b c;refine AA (AI (Ag _)) λk _=>AK (y? λa=>by cases a) (λ_=>AA (P:=λ_=>R) ?_ λr _=>?_);refine AY (λ(s:Int)=>1<=s/\s<=Z x.2) (λs=>((Z x.2:Y)-s).toNat) ⟨Ag _,o!⟩ (λs j=>?_);unfold M5;have d:=Aa (x:=s-1);have f:=Aa (x:=s+1);rw[d,f];refine AC (λg=>?_) (y? trivial);simp only[S]at g;refine AA (AI) λ_ _=>AA (AI) λ_ _=>AC (y? trivial) (y? ⟨o!,o!⟩);refine BA (λu _=>AB λ_=>o!) (λu _=>?_);have e:=Aa (x:=S x.2-1) i!;rw[e];exact AA (AI i! i!) λl _=>AB λ_=>o!
def ZN{x:AJ}{s:Y×Y}(h:0<=s.2/\s.2<=Z x.2.2.1/\Z x.2.2.1<=256):An (Ak (Jt x) s) λr=>r≠.inl A:=by
 refine AY (λ(s:Int×Int)=>0<=s.2/\s.2<=Z x.2.2.1/\Z x.2.2.1<=256) (λs=>((Z x.2.2.1:Y)-s.2).toNat) h (λs b=>?_);unfold Jt;exact x!
def Kl{x}:An (Cv x) λr=>r=A->VA x:=by
 unfold Cv;refine AA cE λi c=>AP (y? λa=>by cases a) (λd=>?_);obtain⟨a1,a2,a3,a4⟩:=c d;refine AC (y? λa=>by cases a) (λe=>AC (y? λa=>by cases a) (λf=>AC (y? λa=>by cases a) (λg=>AC (y? λa=>by cases a) (λh=>AC (y? λa=>by cases a) (λb=>?_)))));simp only[S]at b;refine AA (ZN ⟨Ag _,d!,o!⟩) λr hr=>?_;have q:VA x:=⟨a1,a2,a3,a4,o!⟩
 exact BA (λu _=>AB λ_=>q) (λu _=>AB λ_=>q)
def Ul{x:AJ×Y}(h:Z x.1.1<=16)(a:0<=x.2/\x.2<Z x.1.1):An (FQ x) λr=>R:=by unfold FQ;have e:=Aa (x:=x.2+1);rw[e];refine AA (P:=λ_=>R) ?_ λd _=>AA (AI a.1 a.2) λf _=>AB trivial;refine AC (λb=>?_) (y? trivial);simp only[S]at b;exact AA (AI o! b) λc _=>AB trivial
def YK{x:AJ×AS}(h:Z x.1.1<=16):An (Fz x) λr=> -1<=r/\r<16:=by
 unfold Fz;refine AA (P:=λr=>∀u,r=.inl u->0<=u/\u<16) ?_ λr hr=>BA (λu a=>AB (by have:=hr u a;omega)) (λ_ _=>AB g!);refine AY (λ(s:Int)=>0<=s/\s<=Z x.1.1) (λs=>((Z x.1.1:Y)-s).toNat) ⟨Ag _,o!⟩ (λs d=>?_);unfold Hz;have e:=Aa (x:=s+1);rw[e];refine AC (λb=>?_) (y? λu a=>by cases a);simp only[S]at b;have c:((0<=s+1/\s+1<=Z x.1.1)/\((Z x.1.1:Y)-(s+1)).toNat<((Z x.1.1:Y)-s).toNat):=⟨o!,o!⟩
 refine AA (Ul h ⟨d.1,b⟩) λf _=>AQ (λ_=>?_) (y? c);exact AQ (y? λu a=>by cases a;omega) (y? c)
def cD{x:AJ×Ap}(h:Z x.1.1<=16)(c:Z x.2.2.2<=1099511627776):An (Da x) λr=>0<=r.2->cO r.1:=by unfold Da;refine AK (y? n!) (λ_=>AA (bv c) λd b=>AK (y? n!) (λa=>AA (YK h) λe _=>AB λ_=>b a))
def Xq{x:AS×Y}{s:Y×List AE×Y×Y×Y×Y×Y}(h:0<=s.1/\s.1<=Z x.1.2.2.2.2.2/\Z x.1.2.2.2.2.2<=4096/\Z s.2.1<=s.1):An (Ak (L6 x) s) λr=>Z r.1<=4096:=by
 refine AY (λ(s:Int×List AE×Int×Int×Int×Int×Int)=>0<=s.1/\s.1<=Z x.1.2.2.2.2.2/\Z x.1.2.2.2.2.2<=4096/\Z s.2.1<=s.1) (λs=>((Z x.1.2.2.2.2.2:Y)-s.1).toNat) h (λs c=>?_);unfold L6;exact x!
def Si{x:AS×Y}(h:Z x.1.2.2.2.2.2<=4096):An (Fm x) λr=>Z r.2.2.2.2.2<=4096:=by unfold Fm;refine AC (y? h) (λ_=>AA (Xq ⟨Ag _,d!,h,k!⟩) λb a=>AB a)
def Sh{x}{a:List AE}{s:Y×AJ}(h:0<=s.1/\s.1<=Z a/\Z a<=4096):An (Ak (PF x a) s) λr=>∀u,r=.inl u->u.1≠0:=by
 refine AY (λ(s:Int×AJ)=>0<=s.1/\s.1<=Z a/\Z a<=4096) (λs=>((Z a:Y)-s.1).toNat) h (λs c=>?_);unfold PF;exact x!
def RL(l:E AS):Prop:=∀r∈l,Z r.2.2.2.2.2<=4096
def Rr{a:List AS×List Y×Y}{c}{s:Y}(h:0<=s/\s<=Z a.1/\Z a.1<=16777215):An (Ak (Hk a c) s) λr=>0<=r/\r<=Z a.1:=by refine AY (λ(s:Int)=>0<=s/\s<=Z a.1) (·.toNat) ⟨h.1,h.2.1⟩ (λs b=>?_);unfold Hk;have d:=h.2.2;have e:=Aa (x:=s-1);rw[e];refine AC (λf=>?_) (y? b);refine AA (AI) λg _=>AC (y? ⟨o!,o!⟩) (y? b)
def ZO{x}{B:Int×List AS×List Int×List Bool}(h:VA x)(G:SA x)(V:0<=B.1):An (Ak (FH x B) ([],[],0)) λr=>θ r.2=θ r.1/\θ r.1<=256/\RL r.1:=by have a4:=h.2.2.2.1;have a9:=h.2.2.2.2.2.2.2.2;refine AY (λ(s:List AS×List Int×Int)=>0<=s.2.2/\s.2.2<=θ x.2.2.1/\θ s.2.1=θ s.1/\θ s.1<=s.2.2/\RL s.1) (λs=>((θ x.2.2.1:Int)-s.2.2).toNat) ⟨Ag _,d!,rfl,k!,λr hr=>by simp at hr⟩ (λs E=>?_);obtain⟨z,W,A_,X_,f⟩:=E;unfold FH;have e:=Aa (x:=s.2.2+1);rw[e];refine AC (λm=>?_) (y? ⟨A_,d!,f⟩);simp only[len]at m;refine AA (AI z m) λU_ C=>AA (cD a4 (G.2.2 U_ C.2)) λZ D_=>AK (y? ⟨⟨d!,d!,A_,d!,f⟩,d!⟩) (λF=>?_);have n:=D_ o!;refine AA (Rr ⟨i!,i!,o!⟩) λv7 d=>AA (Bd (Ag _) d.1 d.2) λv8 v=>AA (Bd d.1 i! i!) λv9 y=>?_;have Y:=v.2;have K:=y.2;simp only[len]at K;refine AA (Ac w!) λL a=>?_;have o:=a.2.1;simp only[Be]at o;refine AA (Ac w!) λM b=>?_;have p:=b.2.1;simp only[Be,BW]at p;refine AA (Ac o!) λN c=>?_;have H:=c.2.1;refine AA (Bd (Ag _) d.1) λO g=>?_;have I:=g.2;refine AA (AI z m) λP _=>AA (Bd d.1 i! i!) λQ i=>?_;have q:=i.2;simp only[len]at q;refine AA (Ac w!) λR j=>?_;have t:=j.2.1;simp only[Be]at t;refine AA (Ac w!) λS k=>?_;have u:=k.2.1;simp only[Be,BW]at u;refine AA (Ac o!) λT l=>AB ?_;have J:=l.2.1;refine⟨⟨d!,d!,d!,d!,λr hr=>?_⟩,d!⟩;dsimp only at hr;rw[c.1,b.1,a.1,v.1,y.1]at hr;rcases Ah.1 hr with w|w;rcases Ah.1 w with w|w;rw[Bt]at w;exact f r (Nn (EJ w));simp at w;rw[w];exact n.2.2.2.2.2.2.2.2;exact f r (Nn (EJ w))
def T3(n:Y)(t:E AS×E Y×E O):Prop:=Z t.2.1=Z t.1/\Z t.2.2=Z t.1/\Z t.1<=n/\RL t.1
def ZP{a:List AS×List Y}{n:Y}{t:List AS×List Int×List Bool}(h:Z a.2=Z a.1/\Z a.1<=256/\RL a.1)(hn:n<=100000)(z:T3 n t):An (Ak (FJ a) (0,0,t)) λr=>T3 (n+256) r:=by refine AY (λ(s:Int×Int×List AS×List Int×List Bool)=>0<=s.2.1/\s.2.1<=Z a.1/\T3 (n+s.2.1) s.2.2) (λs=>((Z a.1:Y)-s.2.1).toNat) ⟨Ag _,d!,by simpa using z⟩ (λs y=>?_);obtain⟨d,K,q,u,L,k⟩:=y;obtain⟨I,J,v⟩:=h;unfold FJ;have e:=Aa (x:=s.2.1+1);rw[e];refine AC (λc=>?_) (y? ⟨q,u,o!,k⟩);simp only[S]at c;refine AA (AI d c) λA_ _=>AC (y? ⟨⟨d!,d!,q,u,d!,k⟩,d!⟩) (λ_=>AA (AI d c) λp f=>AA (AI d) λB _=>AA (AI d c) λC _=>AA (Si (v p f.2)) λD_ g=>AA (Ac w!) λE b=>?_);have l:=b.2.1;simp only[Be,BW]at l;refine AA (Ac w!) λF i=>?_;have m:=i.2.1;simp only[Be,BW]at m;refine AA (Ac w!) λG j=>?_;have o:=j.2.1;simp only[Be,BW]at o;refine AA (AI d c) λH _=>AB ?_;refine⟨⟨d!,d!,d!,d!,d!,λr hr=>?_⟩,d!⟩;dsimp only at hr;rw[b.1]at hr;rcases Ah.1 hr with w|w;exact k r w;simp at w;rw[w];exact g
def XJ{b}{x:Bc}(h:CX b)(I:Z x<=1099511627776):An (GY b x) λr=>CX r.2/\Z r.1<=Z x+1:=by
 refine AQ (λ_=>?_) (λg=>?_);refine AA (AW h g!) λJ m=>AB ⟨m.1,?_⟩;rw[ND];simp;simp only[S]at g;refine AA (AW h i!) λw n=>?_;obtain⟨k,a,l⟩:=n;simp only[S]at l;have e:=Aa (x:=w.1+1);refine AA (AW k g!) λK f=>AQ (λ_=>?_) (λ_=>?_);refine AA (Bx (Ag _) a) λL E=>AA (Bx o! i! i!) λM q=>?_;have u:=q.2;simp only[S]at u;refine AA (CR o!) λN F=>AB ⟨f.1,?_⟩;grind;refine AQ (λ_=>?_) (λ_=>?_);refine AA (AW f.1 g!) λC s=>?_;have v:(Ew ([(ι .u8 C.1)]:Ψ Y)).length=1:=by rw[ND];rfl
 refine AA (CR o!) λO G=>AB ⟨s.1,?_⟩;grind;refine AA (Bx (Ag _) a) λP H=>AA (R7 a o!) λD _=>AA (Bx o! i! i!) λy c=>AA (AW f.1 g!) λj d=>?_;have i:=c.2;simp only[S]at i;generalize t:Ew ([(ι .u8 (((π ((κ 8 D)^^^(κ 8 (ι .u8 (wi (1+j.1)))))):V):Y))]:Ψ Y)=B;have v:Z B=1:=by rw[<-t,ND];rfl
 refine AA (CR o!) λz o=>AA (CR o!) λA p=>AB ⟨d.1,?_⟩;grind
def ACi{x:Ad×Y}(h:Dc x.1)(c:x.2=x.1.1+Z x.1.2.1-1):An (Ee x) λr=>r.1.2.2=r.1.1+Z r.1.2.1-1/\r.1.1=x.1.1:=by refine AA BZ λv e=>AP (λa=>?_) (λ_=>?_);grind;refine AA E2 λf b=>?_;rw[h.last]at b;have d:=h.2.2.2.2.1;refine AC (O! · o!) (y? ⟨?_,rfl⟩);grind
def AAT{b}{x:Y}(h:CX b)(g:x<=1000/\ -1000<=x):An (Ls b x) λr=>r.2.1.2.2=r.2.1.1+Z r.2.1.2.1-1/\r.2.1.1=1:=by refine AA (PS h g) λm e=>?_;obtain⟨c,j,k,l,d,i⟩:=e;refine AA F9 λn f=>AA (ACi d (f d)) λo a=>AB ⟨a.1,a.2.trans i⟩
def jj{x:Ad×Y}(h:Dc x.1)(p:x.1.2.2=x.1.1+Z x.1.2.1-1)(l:x.1.1<=x.2)(m:x.2<=x.1.2.2+1)(n:x.2<=1099511627776):An (Ky x) λr=>r.2=0/\Dc r.1/\r.1.1=x.2:=by obtain⟨a1,a2,a3,a4,a5,a6⟩:=id h;refine AA BZ λv q=>AP (λa=>?_) (λ_=>?_);grind;refine AC (O! · o!) (λ_=>AA E2 λf d=>?_);rw[h.last]at d;have g:=Aa (x:=f+1);have j:=Aa (x:=x.1.2.2+1);have k:=Aa (x:=x.2-x.1.1);refine AC (O! · o!) (λ_=>AC (O! · o!) (λ_=>AC (O! · o!) (λ_=>AA (Bd o! q! q!) λs b=>?_)));have l2:=b.2;simp only[S]at l2;refine AA (Ac w!) λt c=>AB ⟨rfl,?_,rfl⟩;refine⟨q!,q!,q!,q!,q!,λi e o=>?_⟩;grind
def Ris(l:E Y)(n:Y):Prop:=∀(i:V)(a b:Y),(i:Y)+1<n->l[i]?=D a->l[i+1]?=D b->a<b
def BD(n:Y)(l:E Y):Prop:=1<=n/\n<=64/\1<=Z l/\Z l<=16/\l[0]?=D 0/\Ris l (Z l)/\∀a,l[Z l-1]?=D a->a<n
def na{x:Int×List Int}:An (GF x) λr=>r=A↔BD x.1 x.2:=by
 unfold GF;refine AC (λc=>AB ⟨λd=>(by cases d),λh=>(by have:=h.1;omega)⟩) (λL=>AC (λc=>AB ⟨λd=>(by cases d),λh=>(by have:=h.2.1;omega)⟩) (λM=>AC (λc=>AB ⟨λd=>(by cases d),λh=>(by have:=h.2.2.1;simp only[S]at c;omega)⟩) (λy=>AC (λc=>AB ⟨λd=>(by cases d),λh=>(by have:=h.2.2.2.1;simp only[S]at c;omega)⟩) (λz=>?_))));simp only[S]at y z;refine AA (AI (Ag _)) λQ E=>?_;have f:=E.1;refine AK (λc=>AB ⟨λd=>(by cases d),λh=>?_⟩) (λo=>?_);have:=h.2.2.2.2.1;simp only[Int.toNat_zero]at f;rw[f]at this;exact O! (BL this) c;rw[o]at f;refine AA (P:=λr=>(r=.inl X/\¬Ris x.2 (Z x.2))\/(r=.inr ()/\Ris x.2 (Z x.2))) ?_ λr hr=>?_;refine AY (λ(s:Int)=>1<=s/\s<=Z x.2/\Ris x.2 s) (λs=>((Z x.2:Y)-s).toNat) ⟨Ag _,o!,λi a b v=>O! v o!⟩ (λs G=>?_);obtain⟨N,O,w⟩:=G;unfold M5;have A_:=Aa (x:=s-1);have B:=Aa (x:=s+1);rw[A_,B];refine AC (λk=>?_) (λk=>AB (.inr ⟨rfl,?_⟩));simp only[S]at k;refine AA (AI) λa j=>AA (AI o! k) λb u=>?_;have t:(s-1).toNat+1=s.toNat:=o!
 refine AC (λJ=>AB (.inl ⟨rfl,λH=>?_⟩)) (λm=>AB ⟨⟨o!,o!,λi p q v n l=>?_⟩,o!⟩);have:=H (s-1).toNat a b o! j.1 (by rw[t];exact u.1);omega;by_cases I:(i:Y)+1<s;exact w i p q I n l;have C:i=(s-1).toNat:=o!
 subst C;rw[t]at l;rw[j.1]at n;rw[u.1]at l;have:=BL n;have:=BL l;omega;simp only[S]at k;have:s=Z x.2:=o!
 rw[<-this];exact w;rcases hr with⟨rfl,hr⟩|⟨rfl,hr⟩;exact BC (AB ⟨λd=>(by cases d),λh=>O! h.2.2.2.2.2.1 hr⟩);apply A3;have e:=Aa (x:=S x.2-1) i!;rw[e];refine AA (AI i! i!) λK F=>AB ?_;have g:=F.1;have D_:(S x.2-1).toNat=Z x.2-1:=i!
 rw[D_]at g;rw[K!];refine⟨λm=>⟨o!,o!,o!,o!,f,hr,λa j=>?_⟩,λh=>h.2.2.2.2.2.2 K g⟩;rw[g]at j;have:=BL j;omega
def BI(i:Y)(l:E Y):Prop:=1<=Z l/\Z l<=16/\l[0]?=D 0/\Ris l (Z l)/\∀a,l[Z l-1]?=D a->a<i
def BI.mono{i}{l}(h:BI i l):BI (i+1) l:=⟨h.1,h.2.1,h.2.2.1,h.2.2.2.1,λa b=>by have:=h.2.2.2.2 a b;omega⟩
def BI.push{i}{l m:E Y}(h:BI i l)(u:Z l<16)(r:m=l++[i]):BI (i+1) m:=by
 subst r;obtain⟨s,t,n,o,p⟩:=h;have g:(l++[i]).length=Z l+1:=k!
 refine⟨o!,o!,?_,λk a b q c d=>?_,λa c=>?_⟩;rw[Cb o!];exact n;rw[g]at q;rw[Cb o!]at c;by_cases f:k+1<Z l;rw[Cb f]at d;exact o k a b o! c d;have j:k=Z l-1:=o!
 subst j;rw[Cu o!]at d;have e:Z l-1+1-Z l=0:=o!
 rw[e]at d;simp at d;have:=p a c;omega;rw[g]at c;rw[Cu o!]at c;have e:Z l+1-1-Z l=0:=o!
 rw[e]at c;simp at c;omega
def ACg{b}{x:Y}(h:CX b)(d:1<=x/\x<=64):An (MK b x) λr=>CX r.2/\BD x r.1:=by
 unfold MK;refine AA (P:=λr=>CX r.2/\BD x r.1) ?_ λr hr=>AB hr;refine AY (λs=>1<=s.1/\s.1<=x/\BI s.1 s.2.1/\CX s.2.2) (λs=>(x-s.1).toNat) ⟨Ag _,d.1,⟨k!,k!,k!,λi a b q=>O! q w!,λa o=>by simp at o;omega⟩,h⟩ (λs n=>?_);obtain⟨u,v,c,g⟩:=n;unfold TI;have e:=Aa (x:=s.1+1);rw[e];refine AC (λp=>?_) (λp=>AB ⟨g,?_⟩);refine AA (AW g g!) λw f=>AQ (λ_=>?_) (y? ⟨⟨d!,d!,c.mono,f.1⟩,d!⟩);refine AA (P:=λl=>BI (s.1+1) l) ?_ λz m=>AB ⟨⟨d!,d!,m,f.1⟩,d!⟩;refine AC (λt=>?_) (y? c.mono);simp only[S]at t;exact AA (Ac w!) λy k=>AB (c.push o! k.1);have j:s.1=x:=o!
 rw[j]at c;exact⟨d.1,d.2,c.1,c.2.1,c.2.2.1,c.2.2.2.1,c.2.2.2.2⟩
def FR(l:E Ap)(m n:Y):Prop:=(∀(i:V)(f:Ap),(i:Y)<n->l[i]?=D f->0<f.2.1/\f.2.1<m)/\∀(i:V)(f g:Ap),(i:Y)+1<n->l[i]?=D f->l[i+1]?=D g->f.2.1<g.2.1
def VB(a:AJ):Prop:=BD a.2.1 a.1/\1<=a.2.2.2.1/\a.2.2.2.1<=1099511627777/\1<=a.2.2.2.2/\a.2.2.2.2<=1073741825/\Z a.2.2.1<=256/\FR a.2.2.1 a.2.2.2.2 (Z a.2.2.1)
theorem NC{x}:An (Cv x) λr=>r=A↔VB x:=by
 unfold Cv;refine AA na λU_ w=>AP (λj=>AB ⟨λb=>(by cases b),λh=>(by rw[w.2 h.1]at j;cases j)⟩) (λj=>?_);have H:=w.1 j;refine AC (λc=>AB ⟨λb=>(by cases b),λh=>(by have:=h.2.1;omega)⟩) (λN=>AC (λc=>AB ⟨λb=>(by cases b),λh=>(by have:=h.2.2.1;omega)⟩) (λO=>AC (λc=>AB ⟨λb=>(by cases b),λh=>(by have:=h.2.2.2.1;omega)⟩) (λQ=>AC (λc=>AB ⟨λb=>(by cases b),λh=>(by have:=h.2.2.2.2.1;omega)⟩) (λR=>AC (λc=>AB ⟨λb=>(by cases b),λh=>(by have:=h.2.2.2.2.2.1;simp only[len]at c;omega)⟩) (λA_=>?_)))));simp only[len]at A_;refine AA (P:=λr=>(r=.inl X/\¬FR x.2.2.1 x.2.2.2.2 (Z x.2.2.1))\/(r=.inr ()/\FR x.2.2.1 x.2.2.2.2 (Z x.2.2.1))) ?_ λr hr=>?_;refine AY (λ(s:Int×Int)=>0<=s.2/\s.2<=Z x.2.2.1/\FR x.2.2.1 x.2.2.2.2 s.2/\0<=s.1/\(s.2=0->s.1=0)/\∀f,0<s.2->x.2.2.1[(s.2-1).toNat]?=D f->f.2.1=s.1) (λs=>((Z x.2.2.1:Y)-s.2).toNat) ⟨Ag _,d!,⟨λi f k=>O! k d!,λi f g k=>O! k d!⟩,Ag _,λ_=>rfl,λf d=>O! d d!⟩ (λs G=>?_);obtain⟨q,S,t,T,L,z⟩:=G;unfold Jt;have e:=Aa (x:=s.2+1);rw[e];refine AC (λj=>?_) (λj=>AB (.inr ⟨rfl,?_⟩));simp only[len]at j;refine AA (AI q j) λu D_=>?_;have a:=D_.1;refine AC (λJ=>AB (.inl ⟨rfl,λn=>?_⟩)) (λK=>?_);by_cases b:s.2=0;have:=(n.1 s.2.toNat u o! a).1;have:=L b;omega;obtain⟨f,d⟩:∃f,x.2.2.1[(s.2-1).toNat]?=D f:=⟨_,Au o!⟩
 have m:(s.2-1).toNat+1=s.2.toNat:=o!
 have:=n.2 (s.2-1).toNat f u o! d (by rw[m];exact a);have:=z f o! d;omega;refine AA (AI q j) λv E=>?_;have B:v=u:=by have:=E.1;rw[a]at this;exact(BL this).symm
 subst B;refine AC (λI=>AB (.inl ⟨rfl,λn=>?_⟩)) (λy=>?_);have:=(n.1 s.2.toNat v o! a).2;omega;refine AA (AI q j) λM F=>AB ?_;have C:M=v:=by have:=F.1;rw[a]at this;exact(BL this).symm
 subst C;refine⟨⟨d!,d!,⟨λi f k d=>?_,λi f g k d p=>?_⟩,d!,λb=>O! b d!,λf _ d=>?_⟩,d!⟩;dsimp only at k;by_cases l:(i:Y)<s.2;exact t.1 i f l d;have o:i=s.2.toNat:=o!
 subst o;rw[a]at d;have:=BL d;subst this;exact o!;dsimp only at k;by_cases l:(i:Y)+1<s.2;exact t.2 i f g l d p;have o:i=(s.2-1).toNat:=o!
 have m:i+1=s.2.toNat:=o!
 rw[m,a]at p;have:=BL p;subst this;rw[o]at d;have:=z f o! d;omega;dsimp only at d⊢;have m:(s.2+1-1).toNat=s.2.toNat:=o!
 rw[m,a]at d;have:=BL d;rw[this];simp only[len]at j;have:s.2=Z x.2.2.1:=o!
 rw[<-this];exact t;rcases hr with⟨rfl,hr⟩|⟨rfl,hr⟩;exact BC (AB ⟨λb=>(by cases b),λh=>O! h.2.2.2.2.2.2 hr⟩);exact A3 (AB ⟨λ_=>⟨H,o!,o!,o!,o!,o!,hr⟩,λ_=>rfl⟩)
def qa{x}:An (GJ x) λr=>r=A↔0<=x/\x<64:=by
 unfold GJ;exact x!
theorem Ol{x}:An (Oj x) λr=>r=A↔Pe x:=by
 unfold Oj Pe
 exact x!
def G0{x}:An (Om x) λr=>r=A↔0<=x.1/\x.1<x.2.1:=by
 unfold Om;exact x!
def kg{x}:An (NI x) λr=>r=A↔x=Qu:=by grind[NI,Qu,AB,Prod.ext_iff]
def aP{x}:An (Gt x) λr=>r=A:=by grind[Gt,AB]
def aQ{x}:An (Ti x) λr=>r=A↔1<=x.2.2.2.2.2.1/\x.2.2.2.2.2.1<=x.2.2.2.1:=by
 unfold Ti;exact x!
def aR{x}:An (Tj x) λr=>r=A↔0<=x.1/\x.1<64/\x.2=Qu.2:=by
 unfold Tj Qu;have⟨a,b,⟨c,d⟩,e,f⟩:=x;refine AM (λg=>?_) (λg=>AB ?_);refine AC (λh=>AB ?_) (λh=>AB ?_);simp at g;simp[g,h];try omega
 simp;try omega
 grind[Prod.ext_iff]
theorem Hs{x}:An (Ft x) λr=>KD x->r=A:=by
 unfold Ft;refine AC (λi=>AB λh=>?_) (λs=>?_);have:=h.1;omega;refine AC (λi=>AB λh=>?_) (λt=>?_);have:=h.2.1;omega;refine AC (λi=>AB λh=>?_) (λu=>?_);have:=h.2.2.2.2.2.2.2.2;unfold SI at this;omega;refine AC (λi=>AB λh=>?_) (λv=>?_);have:=h.2.2.2.2.2.2.2.2;unfold SI at this;omega;refine AA G0 λw j=>AP (λi=>AB λh=>?_) (λn=>?_);rw[j.2 ⟨h.2.2.1,h.2.2.2.1⟩]at i;cases i;refine AA G0 λy k=>AP (λi=>AB λh=>?_) (λo=>?_);rw[k.2 ⟨h.2.2.2.2.1,h.2.2.2.2.2.1⟩]at i;cases i;refine AA G0 λz l=>AP (λi=>AB λh=>?_) (λp=>?_);rw[l.2 ⟨h.2.2.2.2.2.2.1,h.2.2.2.2.2.2.2.1⟩]at i;cases i;refine An.mono (P:=λr=>SI x->r=A) ?_ λr h q=>h q.2.2.2.2.2.2.2.2;clear j k l n o p;have⟨a,b,c,d,e,f,g,m⟩:=x;unfold SI;dsimp only at*;refine AC (O! · o!) (λk0=>?_);exact x!
def Xg{x}:An (Ct x) λr=>r=wi (wi (x.1+S x.2.1)-1):=by grind[Ct,AB]
def Il{x}(h:Dc x):An (Hu x) λr=>r=A:=by have⟨a1,a2,a3,a4,a5,a6⟩:=id h;unfold Hu;refine AC (O! · o!) (λ_=>AC (O! · o!) (λ_=>AC (λa=>O! a b!) (λ_=>?_)));rw[(Aa (x:=x.1-1))];refine AC (O! · o!) (λ_=>AA Xg λf b=>?_);rw[h.last]at b;refine AC (O! · o!) (λ_=>AA (P:=λr=>∃u,r=.inr u) ?_ λr hr=>?_);refine AY (λ(s:Int)=>0<=s/\s<=Z x.2.1) (λs=>((Z x.2.1:Y)-s).toNat) ⟨Ag _,o!⟩ (λs c=>?_);have⟨d,e⟩:=c;unfold UA;refine AC (λa=>?_) (y? ⟨_,rfl⟩);grind[AA,AI,Aa,AK,Hs,AP,AB];grind[A3,AB]
def Oo{x}(h:Dc x):An (On x) λr=>r=x.1+Z x.2.1-1:=by unfold On;refine AA (Il h) λv c=>AP (λb=>?_) (λ_=>?_);rw[c]at b;cases b;refine AA Xg λd a=>AB ?_;rw[h.last]at a;exact a
def Gl{x}(h:VB x):An (IC x) λr=>r=A:=by
 obtain⟨⟨M,N,O,Q,t,v,w⟩,a1,a2,a3,a4,a5,a6⟩:=id h;unfold IC;refine AC (O! · o!) (λ_=>AC (O! · o!) (λ_=>AC (O! · i!) (λ_=>AC (O! · i!) (λ_=>AA (AI (Ag _)) λS C=>?_))));have b:=C.1;rw[show((0:Y).toNat)=0 from rfl,t]at b;injection b with b;refine AK (O! b.symm ·) (λ_=>?_);have y:=Aa (x:=len x.1-1) i!;rw[y];refine AA (AI i! i!) λJ D_=>?_;have c:=D_.1;have z:(len x.1-1).toNat=Z x.1-1:=i!
 rw[z]at c;refine AC (λa=>O! a (by have:=w J c;omega)) (λ_=>?_);refine AA (P:=λr=> ∃u,r= .inr u) ?_ λr hr=>?_;refine AY (λ(s:Int)=>1<=s/\s<=x.1.length) (λ(s:Int)=>((x.1.length:Int)-s).toNat) ⟨Ag _,o!⟩ (λs i=>?_);obtain⟨o,G⟩:=i;unfold X0;refine AC (λa=>?_) (y? ⟨_,rfl⟩);simp only[len]at a;have A_:=Aa (x:=s-1);have e:=Aa (x:=s+1);rw[A_,e];refine AA (AI) λK E=>AA (AI (by omega) a) λL F=>?_
 have q:=v (s-1).toNat K L (by omega) E.1 (by have:(s-1).toNat+1=s.toNat:=by omega
                                              rw[this];exact F.1)
 refine AC (O! · o!) (λ_=>AB ⟨by omega,by omega⟩);obtain⟨u,rfl⟩:=hr;apply A3;refine AC (λa=>absurd a (by omega)) (λ_=>?_);refine AC (O! · o!) (λ_=>?_);refine AC (λa=>absurd a (by omega)) (λ_=>?_);refine AC (λa=>absurd a (by omega)) (λ_=>?_);refine AC (O! · i!) (λ_=>?_);refine AA (P:=λr=> ∃u,r= .inr u) ?_ λr hr=>?_;refine AY (λ(s:Int×Int)=>0<=s.2/\s.2<=x.2.2.1.length/\(s.2=0->s.1=0)/\ ∀f:Ap,0<s.2->x.2.2.1[(s.2-1).toNat]?=D f->s.1=f.2.1) (λs=>((Z x.2.2.1:Y)-s.2).toNat) ⟨Ag _,d!,λ_=>rfl,λf m=>by dsimp only at m;omega⟩ (λs i=>?_);obtain⟨o,G,H,I⟩:=i;unfold X1;refine AC (λa=>?_) (y? ⟨_,rfl⟩);simp only[len]at a;have e:=Aa (x:=s.2+1);rw[e];refine AA (AI o a) λl g=>?_;have p:=a6.1 s.2.toNat l o! g.1;have R:s.1<l.2.1:=by
  by_cases k:s.2=0;rw[H k];exact p.1;have j:(s.2-1).toNat<Z x.2.2.1:=by omega
  have n:x.2.2.1[(s.2-1).toNat]? =some x.2.2.1[(s.2-1).toNat]:=Au j
  have:=a6.2 (s.2-1).toNat _ l (by omega) n (by have:(s.2-1).toNat+1=s.2.toNat:=o!
                                                rw[this];exact g.1)
  rw[I _ o! n];exact this
 refine AC (O! · o!) (λ_=>AC (λa=>O! a (by have:=p.2;omega)) (y? ⟨⟨d!,d!,λk=>?_,λf m d=>?_⟩,d!⟩));dsimp only at k;omega;dsimp only at d⊢;have B:(s.2+1-1).toNat=s.2.toNat:=o!
 rw[B,g.1]at d;injection d with d;rw[d];obtain⟨u,rfl⟩:=hr;exact A3 (AB rfl)
def VU{x:AJ×Ad×Y×Y}(h:VB x.1)(c:Dc x.2.1)(e:0<=x.2.2.1/\x.2.2.1<x.1.2.1/\0<=x.2.2.2):An (M9 x) λr=>r=0:=by unfold M9;refine AA (Gl h) λv d=>AP (λa=>?_) (λ_=>?_);rw[d]at a;cases a;refine AA (Il c) λf b=>AP (λa=>?_) (λ_=>?_);rw[b]at a;cases a;refine AC (O! · o!) (λ_=>AC (O! · o!) (λ_=>AC (O! · o!) (y? rfl)))
def ABD{a v i:Y}(f:0≤i)(c:i<8)(e:0≤a)(b:a<2^(8*ο i))(g:0≤v)(d:v<256):
  0<=ι .u64 (((π ((κ 64 a)|||(κ 64 (ι .u64 ((ι .u64 v)*(2^(min (ο (wi (8*i))) 64))))))):V):Y)/\
  ι .u64 (((π ((κ 64 a)|||(κ 64 (ι .u64 ((ι .u64 v)*(2^(min (ο (wi (8*i))) 64))))))):V):Y)<2^(8*(wi (i+1)).toNat):=by
 have h:=zJ f c e b g d;rw[(by rw[(Aa),XW];omega:ι .u64 (wi (8*i))=wi (8*i))]at h;exact h
def AHR{n:Y}(h:n<=1):(2:Y)^(8*ο n)<=256:=by
 have:ο n=0\/ο n=1:=o!
 rcases this with h|h<;>rw[h]<;>decide
def FC{x:Bc×Y×Y}(h:Z x.1<=2199023255552):An (B5 x) λr=>(r.2=0->0<=x.2.1/\x.2.1+x.2.2<=Z x.1/\(x.2.2<=4->0<=r.1/\r.1<4294967296)/\(x.2.2<=1->r.1<256))/\(r.2≠0->r.1=0):=by
 unfold B5;refine AC (y? ⟨n!,λ_=>rfl⟩) (λo=>AC (y? ⟨n!,λ_=>rfl⟩) (λp=>AC (y? ⟨n!,λ_=>rfl⟩) (λq=>AC (y? ⟨n!,λ_=>rfl⟩) (λf=>?_))));simp[S]at f⊢;rw[(Aa (x:=(Z x.1:Y)-x.2.1))];refine AC (y? ⟨n!,λ_=>rfl⟩) (λt=>AA (P:=λr=>0<=r/\r<2^(8*x.2.2.toNat)) ?_ λA_ y=>AB ⟨λ_=>⟨o!,o!,λg=>?_,λc=>?_⟩,λb=>O! rfl b⟩);refine AY (λs=>0<=s.2/\s.2<=x.2.2/\0<=s.1/\s.1<2^(8*s.2.toNat)) (λs=>(x.2.2-s.2).toNat) ⟨Ag _,d!,Ag _,u!⟩ (λs j=>?_);have⟨m,z,d,e⟩:=j;unfold VS;refine AC (λk=>?_) (λk=>AB ⟨d,?_⟩);rw[(Aa (x:=x.2.1+s.2))];refine AA (R7 o! o!) λn c=>AC (λl=>?_) (y? ?_);grind[Aa];have⟨u,w⟩:=ABD (a:=s.1) (v:=n) (i:=s.2) m o! d e c.1 c.2;grind[Aa];have:s.2=x.2.2:=o!
 rw[<-this];exact e;have:=ACN g;grind[Aa];have:=AHR c;grind[Aa]
def rP(a:BitVec 32):0<=ι .u32 (((π (a&&&κ 32 15):V)):Y)/\ι .u32 (((π (a&&&κ 32 15):V)):Y)<16:=by grind[xH,BitVec.toNat_and,κ,Nat.and_le_right]
def kf{x}:An (Lr x) λr=>R:=by unfold Lr;refine AA (P:=λ_=>R) ?_ λv _=>AB trivial;refine AY (λs=>0<=s.1/\s.1<=16) (λs=>(16-s.1).toNat) ⟨Ag _,g!⟩ (λs a=>?_);have⟨c,d⟩:=a;unfold V9;refine AC (λb=>?_) (y? trivial);refine AA (P:=λ_=>R) ?_ λg _=>?_;refine AY (λs=>0<=s.2/\s.2<=4) (λs=>(4-s.2).toNat) ⟨Ag _,d!⟩ (λs a=>?_);have⟨e,f⟩:=a;unfold MI;rw[(Aa (x:=s.2+1))];refine AC (λb=>?_) (y? trivial);refine AA (P:=λ_=>R) (AM (y? trivial) (y? trivial)) λv _=>AB ⟨d!,d!⟩;rw[(Aa (x:=s.1+1))];refine AA (Ch c b) λh _=>AA (Ch c b) λi _=>AB ⟨d!,d!⟩
theorem nE{x:Bc}(h:Z x<=2199023255552):An (PR x) λr=>R:=by unfold PR;refine AA kf λe _=>AA (P:=λ_=>R) ?_ λv _=>AB trivial;refine AY (λ(s:Int×Int)=>0<=s.2/\s.2<=Z x) (λs=>((Z x:Y)-s.2).toNat) ⟨Ag _,d!⟩ (λs b=>?_);have⟨c,d⟩:=b;unfold VT;rw[(Aa (x:=s.2+1))];refine AC (λa=>?_) (y? trivial);simp[S]at a;refine AA (R7 c a) λf _=>AA (Ch (rP _).1 (rP _).2) λg _=>AA (Ch (rP _).1 (rP _).2) λi _=>AA (Ch (rP _).1 (rP _).2) λj _=>AA (Ch (rP _).1 (rP _).2) λk _=>AB ⟨d!,d!⟩
theorem aN{x:Bc×Y}(h:Z x.1<=2199023255552):An (De x) λr=>r.2.2=0->Z r.1<=8392/\x.2+8+Z r.1=r.2.1/\0<=x.2/\r.2.1<=Z x.1:=by unfold De;refine AC (y? n!) (λg=>AC (y? n!) (λe=>?_));simp[S]at e;refine AA (FC h) λd f=>AK (λb=>AB λa=>O! a b) (λc=>?_);have⟨a1,a2,a3,_⟩:=f.1 c;have a5:=a3 d!;dsimp only at a2;refine AC (y? n!) (λi=>?_);rw[(Aa (x:=x.2+4)),Aa (x:=x.2+4+d.1),(Aa (x:=x.2+4+d.1+4))];refine AA (FC h) λk j=>?_;grind[AK,AB,AA,Bx,nE]
def WL{x}:An (FZ x) λr=>R:=by unfold FZ Ey;refine AA (P:=λ_=>R) ?_ λv _=>AB trivial;refine AC (λa=>?_) (y? trivial);simp[S]at a;exact AA (Bx (Ag _) i! b!) λv _=>AB trivial
def RB(b:GH):Prop:=Z b.1<=2199023255552/\0<=b.2.1/\b.2.1<=Z b.1
def Dm{b}{x:Y}(h:RB b)(j:1<=x/\x<=8):An (CG b x) λr=>RB r.2/\(x<=4->0<=r.1/\r.1<4294967296):=by have⟨a1,a2,a3⟩:=id h;unfold CG;refine AK (y? ⟨h,λ_=>d!⟩) (λ_=>AA (FC (by exact a1)) λf a=>?_);dsimp only at a;refine AA (P:=λr=>RB r) ?_ λk d=>AB ⟨d,λe=>?_⟩;refine AQ (λc=>AB ?_) (y? ⟨a1,a2,a3⟩);have⟨g,i,_⟩:=a.1 c;rw[Aa];exact⟨a1,d!⟩;by_cases c:f.2=0<;>grind
theorem WB{b}{x:Y}(h:RB b)(n:0<=x/\x<4294967296):An (FW b x) λr=>RB r.2:=by have⟨a1,a2,a3⟩:=id h;unfold FW;refine AQ (λd=>?_) (λl=>?_);rw[(Aa (x:=S b.1-b.2.1) b!)];refine AA (P:=λr=>RB r/\(r.2.2=0->r.2.1+x<=Z r.1)) ?_ λe j=>?_;refine AC (y? ⟨⟨a1,a2,a3⟩,λd=>O! d u!⟩) (λk=>AB ⟨h,λ_=>?_⟩);simp[S]at k;omega;have⟨⟨c,f,g⟩,i⟩:=j;refine AK (y? ⟨c,f,g⟩) (λa=>?_);have m:=i a;rw[(Aa (x:=e.2.1+x)),(Aa (x:=e.2.1+x-x))];exact AA (Bx) λo _=>AB ⟨c,d!⟩;grind[AK,AB]
def WA{b}{x}(h:RB b):An (FV b x) λr=>RB r.2:=by unfold FV;refine AA (Dm h g!) λc a=>AK (y? a.1) (λ_=>AQ (y? a.1) (λ_=>?_));have q:=a.2 g!;refine AC (y? a.1) (λ_=>?_);grind[AA,WB,AB]
theorem qb{x:Bc}(h:Z x<=2199023255552):An (J1 x) λr=>R:=by unfold J1;refine AA (Dm (b:=(x,0,0)) ⟨h,Ag _,d!⟩ g!) λs c=>AA (Dm c.1 g!) λt d=>AA (Dm d.1 g!) λu f=>AA (Dm f.1 g!) λv g=>AA (Dm g.1 g!) λw i=>AA (Dm i.1 g!) λy j=>AA (Dm j.1 g!) λz k=>AA (Dm k.1 g!) λA l=>AA (WA l.1) λB m=>AA (WA m) λC n=>AA (Dm n g!) λo a=>AA (WB a.1 (a.2 g!)) λp e=>AK (y? trivial) (λ_=>AK (y? trivial) (λ_=>AA Hs λq _=>AP (y? trivial) (y? trivial)))
theorem Sv{x}:An (Du x) λr=>R:=by unfold Du Fb;refine BJ (BJ ?_);refine AM (λ_=>AM (y? trivial) (y? trivial)) (λ_=>AM (y? trivial) (λ_=>AC (y? trivial) (λ_=>AC (y? trivial) (y? trivial))))
theorem uZ{x:List Y}(h:Z x<=16777216):An (K6 x) λr=>R:=by unfold K6;refine AA (P:=λ_=>R) ?_ λv _=>BA (λ_ _=>AB trivial) (λ_ _=>AB trivial);refine AY (λ(s:Int)=>0<=s/\s<=Z x) (λs=>((Z x:Y)-s).toNat) ⟨Ag _,o!⟩ (λs a=>?_);have⟨c,d⟩:=a;unfold Kt;rw[(Aa (x:=s+1))];refine AC (λb=>?_) (y? trivial);grind[AA,AI,AK,AB]
def pK{x}:An (NA x) λr=>r=A->1<=x.1/\x.1<=x.2.1/\x.2.1<=1099511627776/\0<=x.2.2.1/\x.2.2.1<=x.2.2.2.1/\x.2.2.2.1<64/\0<=x.2.2.2.2.1/\x.2.2.2.2.1<=8:=by
 unfold NA;exact x!
def aO{x}:An (BO x) λr=>R:=by grind[BO,AQ,AB]
def sm{x}:An (Qh x) λr=>R:=by unfold Qh;refine AA aO λv _=>AM (λ_=>?_) (y? trivial);refine AC (λ_=>?_) (y? trivial);refine AC (λ_=>?_) (y? trivial);exact AC (y? trivial) (y? trivial)
def qd{x}:An (PM x) λr=>R:=by unfold PM;grind[AA,Sv,uZ,AB]
def ua{x}:An (Vk x) λr=>r=A->cO x:=by
 unfold Vk;refine AA pK λj d=>AP (y? λb=>by cases b) (λa=>?_);have hn:=d a;refine AC (y? λb=>by cases b) (λf=>?_);simp[S]at f;have q:cO x:=⟨hn.1,hn.2.1,hn.2.2.1,hn.2.2.2.1,hn.2.2.2.2.1,hn.2.2.2.2.2.1,hn.2.2.2.2.2.2.1,hn.2.2.2.2.2.2.2,o!⟩
 refine AA (P:=λ_=>R) ?_ λv _=>BA (λ_ _=>AB λ_=>q) (λ_ _=>AB λ_=>q);refine AY (λ(s:Int)=>0<=s/\s<=Z x.2.2.2.2.2) (λs=>((Z x.2.2.2.2.2:Y)-s).toNat) ⟨Ag _,o!⟩ (λs e=>?_);have⟨h,i⟩:=e;unfold Tl;rw[(Aa (x:=s+1)),(Aa (x:=s-1))];refine AC (λa=>?_) (y? trivial);simp[S]at a;have c:((0<=s+1/\s+1<=Z x.2.2.2.2.2)/\((Z x.2.2.2.2.2:Y)-(s+1)).toNat<((Z x.2.2.2.2.2:Y)-s).toNat):=⟨o!,o!⟩
 refine AA (AI h a) λk _=>AA Hs λl _=>AP (y? trivial) (λ_=>AA sm λm _=>AP (y? trivial) (λ_=>AQ (λ_=>AC (y? trivial) (y? c)) (λg=>AA (AI) λn _=>AC (λ_=>AC (y? trivial) (y? c)) (λ_=>AA (AI) λo _=>AA qd λp _=>AC (y? trivial) (λ_=>AK (y? trivial) (y? c))))))
def sj{x:Bc}(h:Z x<=2199023255552):An (LW x) λr=>r.2=0->cO r.1:=by
 unfold LW;refine AA (aN (by exact h)) λp k=>AK (λf=>AB λa=>O! a f) (λg=>?_);have⟨a1,a2,a3,a4⟩:=k g;dsimp only at a1 a2 a3 a4;refine AK (y? n!) (λl=>AA WL λy _=>AP (y? n!) (λ_=>?_));have b:Z p.1<=2199023255552:=o!
 refine AA (FC b) λz _=>AA (FC b) λA_ _=>AA (FC b) λB _=>AA (FC b) λC _=>AA (FC b) λD_ _=>AA (FC b) λi _=>AP (y? n!) (λm=>?_);have n:i.1<=4096:=by simpa using m
 refine AA (P:=λr=>∀u,r=.inl u->u.1≠0) ?_ λr hr=>BA (λu c=>AB λa=>O! a (hr u c)) (λu c=>?_);refine AY (λ(s:Int×(Int×(List AE×(Int×(Int×(Int×(Int×(Int×AS))))))))=>0<=s.2.1/\(s.2.1<=i.1\/s.2.1=0)/\Z s.2.2.1<=s.2.1) (λs=>(i.1-s.2.1).toNat) ⟨Ag _,.inr rfl,k!⟩ (λs o=>?_);have⟨t,v,w⟩:=o;unfold Lb;refine AC (λj=>?_) (y? λu c=>by cases c);have e:=Aa (x:=s.2.1+1);grind[AA,aN,AK,AB,qb,Ac,List.length_cons,List.length_nil];refine AC (y? n!) (λ_=>AA ua λq d=>AP (y? n!) (λj=>AB λ_=>d j))
def pJ{x:AJ×Y}(h:Z x.1.1<=16)(a:0<=x.2/\x.2<Z x.1.1):An (Ks x) λr=>R:=by unfold Ks;have e:=Aa (x:=x.2+1);rw[e];refine AC (λb=>?_) (λ_=>?_);simp only[S]at b;refine AA (AI a.1 a.2) λc _=>AA (AI o! b) λd _=>AB trivial;exact AA (AI a.1 a.2) λf _=>AB trivial
def ml{x:AJ×AS}(h:Z x.1.1<=16):An (NG x) λr=>R:=by
 unfold NG;refine AA (P:=λ_=>R) ?_ λv _=>BA (λ_ _=>AB trivial) (λ_ _=>AB trivial);refine AY (λ(s:Int)=>0<=s/\s<=Z x.1.1) (λs=>((Z x.1.1:Y)-s).toNat) ⟨Ag _,o!⟩ (λs c=>?_);unfold RX;have e:=Aa (x:=s+1);rw[e];refine AC (λa=>?_) (y? trivial);simp only[S]at a;have b:((0<=s+1/\s+1<=Z x.1.1)/\((Z x.1.1:Y)-(s+1)).toNat<((Z x.1.1:Y)-s).toNat):=⟨o!,o!⟩
 refine AA (pJ h ⟨c.1,a⟩) λd _=>AQ (λ_=>?_) (y? b);exact AQ (y? trivial) (y? b)
def mj{x:AJ×Ap}(h:Z x.1.1<=16)(c:Z x.2.2.2<=2199023255552):An (HN x) λr=>r.2=A->cO r.1:=by unfold HN;refine AK (y? n!) (λ_=>AA (sj c) λd b=>AQ (λa=>?_) (y? λa=>by cases a));exact AA (ml h) λe _=>AB λ_=>b a
def AA3{a b:Y}(f:0<=a:=by omega)(g:0<=b:=by omega)(h:a+b<=1099511627776:=by omega):wi (Int.fdiv (ι .u64 (wi (a+b))) (2^(min (ο 1) 64)))=(a+b)/2:=by
 have c:wi (a+b)=a+b:=Aa;have d:ι .u64 (a+b)=a+b:=by rw[XW];omega
 have e:(2:Y)^(min (ο 1) 64)=2:=g!
 rw[c,d,e,lX _ g!];exact Aa
def Wg{x}:An (RY x) λr=>r=A↔x.1<x.2:=by unfold RY Fb;apply BJ;refine AM (λa=>?_) (y? k!);simp at a
def MT{α:Type}(b:O)(o:W α)(Q:α->Prop):Prop:=(b=A->∃r,o=D r)/\∀r,o=D r->Q r
section
variable {α β:Type}{b:Bool}
def MT.some{r:α}{Q:α->Prop}(h:Q r):MT b (.some r) Q:=⟨λ_=>⟨r,rfl⟩,λs e=>by injection e with e;rw[<-e];exact h⟩
def ka{o}{Q:α->Prop}(h:An o Q):MT b o Q:=⟨λ_=>by have⟨r,e,_⟩:=h;exact⟨r,e⟩,λr e=>h.get e⟩
def MT.bind{o}{k:α->W β}{P:α->Prop}{Q:β->Prop}(h:MT b o P)(d:∀r,P r->MT b (k r) Q):MT b (σ o k) Q:=by refine⟨λc=>?_,λr e=>?_⟩;have⟨r,e⟩:=h.1 c;have⟨s,a⟩:=(d r (h.2 r e)).1 c;exact⟨s,by rw[e];exact a⟩;have⟨s,f,a⟩:=Dh.1 e;exact(d s (h.2 s f)).2 r a
def MT.cond{c:O}{x y}{Q:α->Prop}(a:c=A->MT b x Q)(d:c=X->MT b y Q):MT b (bif c then x else y) Q:=by cases c<;>grind
def MT.dec{p:Prop}{_:Decidable p}{x y}{Q:α->Prop}(a:p->MT b x Q)(c:¬p->MT b y Q):MT b (bif decide p then x else y) Q:=by simp_all[MT.cond]
end
def pT{a:Type}{l}{i}{x:a}:(Es l i x).length=Z l:=by simp[Es]
abbrev NL:=E A5
def DS(a:AJ):Prop:=∀f∈a.2.2.1,Z f.2.2<=2199023255552
def SpL(l:E Fc):Prop:=Z l<=16777216/\∀s∈l,1<=s.1
theorem fJ{n:Y}{v:EN}:∀{m:E (Y×EN)},(m.map (·.1)).Nodup->∀q,q∈PP n v m↔q=(n,v)\/(q∈m/\q.1≠n)
 |[],_,q=>by simp[PP]
 |p::r,h,q=>by
  rw[Bs,Gk]at h;unfold PP;by_cases b:p.1=n;grind[List.mem_cons_of_mem,List.mem_map_of_mem];have:(p.1==n)=X:=by simp[b]
  rw[this,A!];constructor;intro a;rcases As.1 a with a|a;grind;rcases(fJ h.2 q).1 a with a|⟨a,hn⟩;exact .inl a;grind[List.mem_cons_of_mem];rintro(a|⟨a,hn⟩);exact CU _ ((fJ h.2 q).2 (.inl a));rcases As.1 a with a|a;grind;exact CU _ ((fJ h.2 q).2 (.inr ⟨a,hn⟩))
def wo{n}{v}:∀{m:E (Y×EN)},(m.map (·.1)).Nodup->((PP n v m).map (·.1)).Nodup
 |[],_=>by simp[PP]
 |p::r,h=>by
  have b:=h;rw[Bs,Gk]at h;unfold PP;by_cases a:p.1=n;grind[List.nodup_cons];have:(p.1==n)=X:=by simp[a]
  rw[this,A!,Bs,Gk];refine⟨λc=>?_,wo h.2⟩;grind[fJ,List.mem_map_of_mem]
def qu{n}{e:EN}:∀{m},LR n m=D e->(n,e)∈m
 |[],h=>by cases h
 |p::r,h=>by
  unfold LR at h;by_cases a:p.1=n;grind;have:(p.1==n)=X:=by simp[a]
  rw[this,A!]at h;exact CU _ (qu h)
def wm{n}:∀{m:List (Int×EN)},LR n m=U->∀q∈m,q.1≠n
 |[],_,q,a=>by cases a
 |p::r,h,q,a=>by
  unfold LR at h;by_cases b:p.1=n;have:(p.1==n)=A:=by simp[b]
  rw[this,B!]at h;cases h;have:(p.1==n)=X:=by simp[b]
  rw[this,A!]at h;rcases As.1 a with a|a;rw[a];exact b;exact wm h q a
def LU(m:E (Y×EN))(P:EN->Prop):Prop:=(m.map (·.1)).Nodup/\(∀q∈m,q.1=q.2.1)/\∀e,(e.1,e)∈m↔P e
def LU.nil:LU [] λ_=>False:=⟨RO,k!,k!⟩
def LU.put{m}{P:EN->Prop}{v:EN}(h:LU m P):LU (PP v.1 v m) λe=>e=v\/(P e/\e.1≠v.1):=by refine⟨wo h.1,λq a=>?_,λe=>?_⟩;rcases(fJ h.1 q).1 a with a|⟨a,_⟩;rw[a];exact h.2.1 q a;rw[fJ h.1];constructor;rintro(a|⟨a,hn⟩);injection a with _ a;exact .inl a;exact .inr ⟨(h.2.2 e).1 a,hn⟩;rintro(rfl|⟨a,hn⟩);exact .inl rfl;exact .inr ⟨(h.2.2 e).2 a,hn⟩
def LU.congr{m}{P Q:EN->Prop}(h:LU m P)(a:∀e,P e↔Q e):LU m Q:=⟨h.1,h.2.1,λe=>(h.2.2 e).trans (a e)⟩
def LU.get{m}{P:EN->Prop}(h:LU m P){e:EN}(g:P e):LR e.1 m=D e:=by
 have d:=(h.2.2 e).2 g;cases c:LR e.1 m with
 |none=>exact O! rfl (wm c _ d)
 |some f=>
  have i:∀{l:E (Y×EN)},(l.map (·.1)).Nodup->∀{n:Y}{a b:EN},(n,a)∈l->(n,b)∈l->a=b:=by intro l;induction l<;>grind
  rw[i h.1 d (qu c)]
def fU(e:EN):O:=(e.2.1==1)||(e.2.1==2)
def Yv(e:EN):BO e=D (fU e):=by grind[BO,fU]
def GG(p i j:Y)(e:EN):O:=fU e&&((e.2.2.2.2.2.2.1.1==p)&&(τ (e.1>i)&&τ (e.1<=j)))
def Fq(s:Y×Y)(n:Y):O:=τ (n>=s.1)&&τ (n<=s.2)
def has_eq(s:Y×Y)(n:Y):Je (s,n)=D (Fq s n):=by grind[Je,Fq]
def AKN{e:EN}{l:List (Y×Y)}(j:Z l<=16777216):An (Ak (Xf e l) 0) λr=>(∀u,r=.inl u->0<=u/\(l.any λs=>Fq s e.1)=A)/\(∀u,r=.inr u->(l.any λs=>Fq s e.1)=X):=by refine AY (λ(s:Int)=>0<=s/\s<=Z l/\∀x∈l.take s.toNat,Fq x e.1=X) (λs=>((Z l:Y)-s).toNat) ⟨Ag _,o!,k!⟩ (λs d=>?_);have⟨g,m,h⟩:=d;unfold Xf;refine AC (λa=>?_) (λa=>AB ⟨λu b=>(by cases b),λu _=>?_⟩);simp[S]at a;rw[(Aa (x:=s+1))];refine AA (AI g a) λn c=>?_;rw[has_eq,AD];refine AM (λk=>AB ⟨λu b=>?_,λu b=>(by cases b)⟩) (λi=>AB ⟨⟨o!,o!,λx f=>?_⟩,o!⟩);grind[List.any_eq_true];rw[show(s+1).toNat=s.toNat+1 by omega,Ca,c.1]at f;grind[Option.toList_some,a!];simp[S]at a;rw[BN o!]at h;rw[lV];grind[List.any_eq_true]
def AIH{a:AJ}{l}{p i j:Int}{d:List (Int×Int)}(R:Dc l)(hv:1≤θ d)(S:θ d≤16777216):
  An (Ak (Xe (a,l,p,i,j) d) (0,0,[])) λr=>r.1=((l.2.1.filter λe=>GG p i j e&&(d.tail.any λs=>Fq s e.1)).length:Int)/\LU r.2 λe=>e∈l.2.1/\GG p i j e=A:=by
 obtain⟨l1,l2,l3,l4,l5,K⟩:=R;refine AY (λ(s:Int×(Int×List (Int×EN)))=>0<=s.1/\s.1<=θ l.2.1/\s.2.1=(((l.2.1.take s.1.toNat).filter λe=>GG p i j e&&(d.tail.any λs=>Fq s e.1)).length:Int)/\LU s.2.2 λe=>e∈l.2.1.take s.1.toNat/\GG p i j e=A) (λs=>((θ l.2.1:Int)-s.1).toNat)
  ⟨Ag _,d!,k!,LU.nil.congr λe=>k!⟩ (λs O=>?_)
 obtain⟨T,i2,A_,B⟩:=O;unfold Xe;dsimp only;refine AC (λy=>?_) (λy=>AB ?_);simp only[len]at y;have L:=Aa (x:=s.1+1);rw[L];refine AA (AI T y) λq I=>?_;rw[Yv,AD];have g:l.2.1.take (s.1+1).toNat=l.2.1.take s.1.toNat++[q]:=by rw[show(s.1+1).toNat=s.1.toNat+1 by omega,Ca,I.1];rfl
 have f:GG p i j q=X->(0<=s.1+1/\s.1+1<=θ l.2.1/\s.2.1=(((l.2.1.take (s.1+1).toNat).filter λe=>GG p i j e&&(d.tail.any λs=>Fq s e.1)).length:Int)/\LU s.2.2 λe=>e∈l.2.1.take (s.1+1).toNat/\GG p i j e=A)/\((θ l.2.1:Int)-(s.1+1)).toNat<((θ l.2.1:Int)-s.1).toNat:=λw=>by
  refine⟨⟨o!,o!,?_,?_⟩,o!⟩;rw[g,Gx,A_];simp[w];rw[g];refine B.congr λe=>⟨λh=>⟨Ah.2 (.inl h.1),h.2⟩,λh=>⟨?_,h.2⟩⟩
  rcases Ah.1 h.1 with m|m;exact m;rw[Ax.1 m,w]at h;cases h.2
 refine AM (λC=>?_) (λC=>AB (f (by simp[GG,C])));refine AM (λD_=>?_) (λD_=>AB (f (by simp[GG,D_])));refine AM (λE=>?_) (λE=>AB (f (by unfold GG;rw[E];simp)));refine AM (λF=>?_) (λF=>AB (f (by unfold GG;rw[F];simp)));have w:GG p i j q=A:=by unfold GG;rw[C,D_,E,F];rfl
 refine AA (Bd (lo:=1) (hi:=(θ d:Int))) λV N=>?_;have H:V=d.tail:=by
  rw[N.1,BN (by rw[DO];omega)];cases d with
  |nil=>rfl
  |cons a r=>rfl
 subst H;refine AA (AKN (by rw[List.length_tail];omega)) λU_ o=>?_;have M:=K s.1.toNat q I.1;have n:LU (PP q.1 q s.2.2) λe=>e∈l.2.1.take (s.1+1).toNat/\GG p i j e=A:=by
  rw[g];refine B.put.congr λe=>⟨?_,λh=>?_⟩
  rintro(rfl|⟨h,_⟩);exact⟨Ah.2 (.inr (Ax.2 rfl)),w⟩;exact⟨Ah.2 (.inl h.1),h.2⟩;rcases Ah.1 h.1 with m|m;refine .inr ⟨⟨m,h.2⟩,λZ=>?_⟩;obtain⟨k,Q,v⟩:=RM.1 m;rw[BU]at Q;rw[fW]at v;have:=(K k e (by rw[<-v];exact Au o!)).1;omega;exact .inl (Ax.1 m)
 have t:∀b:Bool,(d.tail.any λs=>Fq s q.1)=b->((((l.2.1.take (s.1+1).toNat).filter λe=>GG p i j e&&(d.tail.any λs=>Fq s e.1)).length:Nat):Int)=s.2.1+(if b=A then 1 else 0):=λb P=>by rw[g,Gx,AV,A_];cases b<;>simp[w,P]
 have J:(((l.2.1.take s.1.toNat).filter λe=>GG p i j e&&(d.tail.any λs=>Fq s e.1)).length:Int)<=4096:=by have W:=EP (λe=>GG p i j e&&(d.tail.any λs=>Fq s e.1)) (l.2.1.take s.1.toNat);have X_:=WP s.1.toNat l.2.1;have Y:=fY s.1.toNat l.2.1;omega
 have G:=Aa (x:=s.2.1+1);rw[G];refine BA (λu z=>?_) (λu z=>AB ⟨⟨d!,d!,?_,n⟩,d!⟩);refine AC (y? ⟨⟨d!,d!,?_,n⟩,d!⟩) (O! (o.1 u z).1 ·);rw[t A (o.1 u z).2];rfl;rw[t X (o.2 u z)];simp;simp only[len]at y;rw[BN o!]at A_ B;exact⟨A_,B⟩
def AKQ{a:AJ}{l:Ad}{p i j:Int}{Q:List (Int×Int)}{d:Int×Int}{r:AS}{W:List (Int×EN)}{u:Int}{P:EN→Prop}(hr:θ r.2.2.2.2.2≤4096)(Y:Q[0]?=D d)(hm:LU W P)(hn:0≤u∧u≤1099511627776)
  (S:∀v∈r.2.2.2.2.2,GG p i j v=A->(Fq d v.1=A->P v)/\∀e,(P e\/(e∈r.2.2.2.2.2/\GG p i j e=A))->e.1=v.1->e=v):
  An (Ak (QU (a,l,p,i,j) Q r) (0,W,u,[],0)) λq=>∃m n,q=.inl (m,n,[],0)/\LU m (λe=>P e\/(e∈r.2.2.2.2.2/\GG p i j e=A))/\n=u+((r.2.2.2.2.2.filter λe=>GG p i j e&&Fq d e.1).length:Int):=by
 generalize hL:r.2.2.2.2.2=L at hr S⊢;refine AY (λ(s:Int×(List (Int×EN)×(Int×(List EN×Int))))=>0<=s.1/\s.1<=θ L/\s.2.2.2=([],0)/\s.2.2.1=u+(((L.take s.1.toNat).filter λe=>GG p i j e&&Fq d e.1).length:Int)/\LU s.2.1 λe=>P e\/(e∈L.take s.1.toNat/\GG p i j e=A)) (λs=>((θ L:Int)-s.1).toNat)
  ⟨Ag _,d!,rfl,k!,hm.congr λe=>k!⟩ (λs Z=>?_)
 obtain⟨c,E,F,s4⟩:=s;obtain⟨U_,i2,V,C,z⟩:=Z;dsimp only at U_ i2 V C z;subst V;unfold QU;dsimp only;rw[hL];refine AC (λf=>?_) (λf=>AB ?_);simp only[len]at f;have X_:=Aa (x:=c+1);rw[X_];refine AA (AI U_ f) λv R=>?_;rw[Yv,AD];have o:L.take (c+1).toNat=L.take c.toNat++[v]:=by rw[show(c+1).toNat=c.toNat+1 by omega,Ca,R.1];rfl
 have k:GG p i j v=X->(0<=c+1/\c+1<=θ L/\(([],0):Ψ EN×Int)=([],0)/\F=u+(((L.take (c+1).toNat).filter λe=>GG p i j e&&Fq d e.1).length:Int)/\LU E λe=>P e\/(e∈L.take (c+1).toNat/\GG p i j e=A))/\((θ L:Int)-(c+1)).toNat<((θ L:Int)-c).toNat:=λy=>by
  refine⟨⟨o!,o!,rfl,?_,?_⟩,o!⟩;rw[o,Gx,C];simp[y];rw[o];refine z.congr λe=>⟨?_,?_⟩
  rintro(h|h);exact .inl h;exact .inr ⟨Ah.2 (.inl h.1),h.2⟩;rintro(h|⟨h,w⟩);exact .inl h;rcases Ah.1 h with h|h;exact .inr ⟨h,w⟩;rw[Ax.1 h,y]at w;cases w
 refine AM (λG=>?_) (λG=>AB (k (by simp[GG,G])));refine AM (λH=>?_) (λH=>AB (k (by simp[GG,H])));refine AM (λI=>?_) (λI=>AB (k (by unfold GG;rw[I];simp)));refine AP (λJ=>AB (k (by unfold GG;rw[J];simp))) (λJ=>?_);have y:GG p i j v=A:=by unfold GG;rw[G,H,I,J];rfl
 have O:ix Q 0=D d:=by unfold ix;rw[C! (Ag _)];exact Y
 rw[O,AD,has_eq,AD];obtain⟨M,A_⟩:=S v R.2 y;have t:LU (PP v.1 v E) λe=>P e\/(e∈L.take (c+1).toNat/\GG p i j e=A):=by
  rw[o];refine z.put.congr λe=>⟨?_,λh=>?_⟩
  rintro(rfl|⟨h|h,_⟩);exact .inr ⟨Ah.2 (.inr (Ax.2 rfl)),y⟩;exact .inl h;exact .inr ⟨Ah.2 (.inl h.1),h.2⟩;by_cases g:e=v;exact .inl g;rcases h with h|⟨h,w⟩;exact .inr ⟨.inl h,λN=>g (A_ e (.inl h) N)⟩;rcases Ah.1 h with h|h;exact .inr ⟨.inr ⟨h,w⟩,λN=>g (A_ e (.inr ⟨EJ h,w⟩) N)⟩;exact O! (Ax.1 h) g
 have T:(((L.take c.toNat).filter λe=>GG p i j e&&Fq d e.1).length:Int)<=4096:=by have h1:=EP (λe=>GG p i j e&&Fq d e.1) (L.take c.toNat);have h3:=fY c.toNat L;omega
 have K:=Aa (x:=F+1);rw[K];have B:∀b:Bool,Fq d v.1=b->u+((((L.take (c+1).toNat).filter λe=>GG p i j e&&Fq d e.1).length:Nat):Int)=F+(if b=A then 1 else 0):=λb hb=>by rw[o,Gx,AV,C];cases b<;>simp[y,hb]<;>omega
 refine AM (λD_=>?_) (λD_=>AB ⟨⟨d!,d!,rfl,?_,t⟩,d!⟩);have hg:LR v.1 E=D v:=z.get (.inl (M D_));rw[hg];simp only[fk,CE,A!,Yo,L!,WV];refine AB ⟨⟨d!,d!,rfl,?_,t⟩,d!⟩;rw[B A D_];rfl;rw[B X D_];simp;simp only[len]at f;rw[BN o!]at C z;exact⟨E,F,rfl,z,C⟩
def D1(low:Y)(rs:E AS):E EN:=(rs.filter λr=>r.2.2.1==low).flatMap λr=>r.2.2.2.2.2
def AKP{a:AJ}{l:Ad}{p i j:Int}{X_:List (Int×Int)}{sp:Int×Int}{b:Int×(Int×Bool)}{c:List AS}{E:List Int}{W:List (Int×EN)}{P:EN→Prop}(Z:X_[0]?=D sp)(hm:LU W P)
  (U_:θ c=θ E) (T:θ c<=256) (hr:∀r∈c,θ r.2.2.2.2.2<=4096)
  (hc:∀v∈D1 b.1 c,GG p i j v=A->(Fq sp v.1=A->P v)/\∀e,(P e\/(e∈D1 b.1 c/\GG p i j e=A))->e.1=v.1->e=v):
  An (Ak (QT (a,l,p,i,j) X_ b (c,E)) (0,W,0,[],0)) λq=>∃m n,q=.inl (m,n,[],0)/\LU m (λe=>P e\/(e∈D1 b.1 c/\GG p i j e=A))/\n=(((D1 b.1 c).filter λe=>GG p i j e&&Fq sp e.1).length:Int):=by
 have B:∀k:Nat,(D1 b.1 (c.take k)).length<=k*4096:=by
  intro k;induction k with
  |zero=>simp[D1]
  |succ k ih=>rw[Ca];grind[D1,n?,Nat.succ_mul,Nat.add_le_add]
 refine AY (λ(s:Int×(List (Int×EN)×(Int×(List EN×Int))))=>0<=s.1/\s.1<=θ c/\s.2.2.2=([],0)/\s.2.2.1=(((D1 b.1 (c.take s.1.toNat)).filter λe=>GG p i j e&&Fq sp e.1).length:Int)/\LU s.2.1 λe=>P e\/(e∈D1 b.1 (c.take s.1.toNat)/\GG p i j e=A)) (λs=>((θ c:Int)-s.1).toNat)
  ⟨Ag _,d!,rfl,by simp[D1],hm.congr λe=>by simp[D1]⟩ (λs hI=>?_)
 have⟨d,s2,S,s4⟩:=s;have⟨R,i2,V,C,D_⟩:=hI;dsimp only at R i2 V C D_;subst V;unfold QT;dsimp only;refine AC (λo=>?_) (λo=>AB ?_);simp[len]at o;have Y:=Aa (x:=d+1);rw[Y];refine AA (AI R o) λv G=>?_;have t:c.take (d+1).toNat=c.take d.toNat++[v]:=by rw[show(d+1).toNat=d.toNat+1 by omega,Ca,G.1];rfl
 refine AM (λF=>?_) (λF=>AB ⟨⟨d!,d!,rfl,?_,?_⟩,d!⟩);refine AA (AI R) λad _=>?_;have u:∀e∈v.2.2.2.2.2,e∈D1 b.1 c:=λe g=>En.2 ⟨v,BG.2 ⟨G.2,F⟩,g⟩;have z:∀e∈D1 b.1 (c.take d.toNat),e∈D1 b.1 c:=λe g=>by have⟨r,L,M⟩:=En.1 g;have⟨N,O⟩:=BG.1 L;exact En.2 ⟨r,BG.2 ⟨EJ N,O⟩,M⟩
 have K:0<=S/\S<=1099511627776:=by
  have h1:=EP (λe=>GG p i j e&&Fq sp e.1) (D1 b.1 (c.take d.toNat));have h2:=B d.toNat
  omega
 have f:D1 b.1 (c.take d.toNat++[v])=D1 b.1 (c.take d.toNat)++v.2.2.2.2.2:=by grind[D1]
 refine AA (AKQ (hr v G.2) Z D_ K λw hw Q=>?_) ?_;have⟨q1,q2⟩:=hc w (u w hw) Q;refine⟨λh=>.inl (q1 h),λe g H=>q2 e ?_ H⟩;rcases g with(g|⟨g,y⟩)|⟨g,y⟩;exact .inl g;exact .inr ⟨z e g,y⟩;exact .inr ⟨u e g,y⟩;rintro q ⟨m,n,rfl,I,J⟩;refine BC (AB ⟨⟨d!,d!,rfl,?_,?_⟩,d!⟩);dsimp only;rw[t,f,J,C,Gx,AV];omega;dsimp only;rw[t,f];refine I.congr λe=>?_;rw[Ah];constructor;rintro((h|⟨h,A_⟩)|⟨h,A_⟩);exact .inl h;exact .inr ⟨.inl h,A_⟩;exact .inr ⟨.inr h,A_⟩;rintro(h|⟨h|h,A_⟩);exact .inl (.inl h);exact .inl (.inr ⟨h,A_⟩);exact .inr ⟨h,A_⟩;have f:D1 b.1 (c.take d.toNat++[v])=D1 b.1 (c.take d.toNat):=by unfold D1;rw[Gx,WY];simp[F]
 dsimp only;rw[t,f];exact C;have f:D1 b.1 (c.take d.toNat++[v])=D1 b.1 (c.take d.toNat):=by unfold D1;rw[Gx,WY];simp[F]
 dsimp only;rw[t,f];exact D_;simp[len]at o;rw[BN o!]at C D_;exact⟨s2,S,rfl,D_,C⟩
def Nk{l:E EN}:(l.map (·.1)).Nodup->∀{a b:EN},a∈l->b∈l->a.1=b.1->a=b:=by
 induction l with
 |nil=>intro _ a b d;cases d
 |cons p r f=>intro e a b d c h;rw[Bs,Gk]at e;rcases As.1 d with d|d;rcases As.1 c with c|c;rw[d,c];exact O! (by rw[<-d,h];exact Kr c) e.1;rcases As.1 c with c|c;exact O! (by rw[<-c,<-h];exact Kr d) e.1;exact f e.2 d c h
def ACM{B}(j:CP B){l:E EN}(h:Z l<=B)(k:Z l<=16777216)(hn:(l.map (·.1)).Nodup):An (vH DT l) λr=>r.Perm l/\r.Pairwise λa b=>a.1<b.1:=by
 have n:=List.pairwise_mergeSort (le:=λa b:EN=>decide (a.1<=b.1)) (λa b c o p=>by simp only[K!]at*;omega) (λa b=>by simp only[WX,K!];omega) l;have i:(l.mergeSort λa b:EN=>decide (a.1<=b.1)).Perm l:=List.mergeSort_perm _ _;have g:(l.mergeSort λa b:EN=>decide (a.1<=b.1)).Pairwise λa b=>a.1<=b.1:=n.imp λh=>N! h;have key:∀m,l.Perm m->DT m ()=D (l.mergeSort λa b:EN=>decide (a.1<=b.1)):=λm f=>by have d:(m.map (·.1)).Nodup:=(f.map (·.1)).nodup_iff.1 hn;unfold DT ACV;rw[C! ⟨d,by rw[<-f.length_eq];exact k⟩,<-ABa (key:=λe:EN=>e.1) d (i.trans f) g]
 refine⟨_,?_,i,?_⟩;unfold vH;rw[C!];exact key l (lf l);intro m f;rw[key m f,key l (lf l)];have d:=(i.map (·.1)).nodup_iff.2 hn;rw[F5,Pj]at d;exact(g.and d).imp λh=>o!
def wt:∀(n:V)(i:Y)(l:E Y),l.Nodup->(∀x∈l,i<x/\x<=i+n)->Z l<=n
 |0,i,l,_,h=>by
  cases l with
  |nil=>exact Ao _
  |cons a r=>have:=h a (As.2 (.inl rfl));omega
 |n+1,i,l,hl,h=>by
  have d:=wt n i (l.erase (i+(n+1:V))) (hl.erase _) λx c=>by have b:=(hl.mem_erase_iff).1 c;have:=h x b.2;have:=b.1;omega
  have e:Z l<=(l.erase (i+(n+1:V))).length+1:=by rw[List.length_erase];split<;>omega
  omega
def Uz(i:Y)(s:E EN):Prop:=∀(k:V)(e:EN),s[k]?=D e->(k=0->e.2.2.2.2.1<=i)/\∀f,0<k->s[k-1]?=D f->e.2.2.2.2.1=f.1
def AKO{a:AJ}{l:Ad}{p i j:Y}{s:List EN}(O:Z s≤16777216):
  An (Ak (QS (a,l,p,i,j) s) (0,[],0)) λr=>(r=.inl ([],0)/\Uz i s)\/(r=.inr ([],13)/\¬Uz i s):=by
 refine AY (λ(t:Int×(List EN×Int))=>0<=t.1/\t.1<=Z s/\t.2=([],0)/\∀(k:V)(e:EN),k<t.1->s[k]?=D e->(k=0->e.2.2.2.2.1<=i)/\∀f,0<k->s[k-1]?=D f->e.2.2.2.2.1=f.1) (λt=>((Z s:Y)-t.1).toNat)
  ⟨Ag _,d!,rfl,λk e F=>(by dsimp only at F;omega)⟩ (λt K=>?_)
 obtain⟨b,P⟩:=t;obtain⟨C,L,G,D_⟩:=K;dsimp only at C L G D_;subst G;unfold QS;dsimp only;refine AC (λn=>?_) (λn=>AB (.inl ⟨rfl,λk e d=>D_ k e ?_ d⟩));simp only[S]at n;have I:=Aa (x:=b+1);rw[I];refine AA (AI C n) λM _=>AA (AI C n) λv h=>?_;have o:((b=0->v.2.2.2.2.1<=i)/\∀f,0<b->s[b.toNat-1]?=D f->v.2.2.2.2.1=f.1)->(0<=b+1/\b+1<=Z s/\(([],0):Ψ EN×Y)=([],0)/\∀(k:V)(e:EN),k<b+1->s[k]?=D e->(k=0->e.2.2.2.2.1<=i)/\∀f,0<k->s[k-1]?=D f->e.2.2.2.2.1=f.1)/\((Z s:Y)-(b+1)).toNat<((Z s:Y)-b).toNat:=λE=>by
  refine⟨⟨o!,o!,rfl,λk e F d=>?_⟩,o!⟩;by_cases B:(k:Y)<b;exact D_ k e B d;have H:k=b.toNat:=o!
  subst H;rw[h.1]at d;injection d with d;subst d;exact⟨λy=>E.1 o!,λf y g=>E.2 f o! g⟩
 apply AQ<;>intro y;refine AC (λu=>AB (.inr ⟨rfl,λA_=>?_⟩)) (λu=>?_);have:=(A_ b.toNat v h.1).1 o!;omega;refine AC (O! · o!) (y? (o ⟨λ_=>o!,λf g=>O! g o!⟩));refine AC (λu=>?_) (O! · o!);have w:=Aa (x:=b-1);rw[w];refine AA (AI) λN _=>AA (AI) λq z=>?_;have c:s[b.toNat-1]?=D q:=by rw[show b.toNat-1=(b-1).toNat by omega];exact z.1
 refine AK (λm=>AB (.inr ⟨rfl,λA_=>m ((A_ b.toNat v h.1).2 q o! c)⟩)) (λm=>AB (o ⟨λJ=>O! J y,λf _ g=>?_⟩));rw[c]at g;injection g with g;rw[<-g];exact m;simp only[S]at n;have:=(Gb.1 d).1;omega
def AII{a:AJ}{l:Ad}{p i j:Y}{s:E EN}(b:Z s≤16777216):
  An (Ak (QS (a,l,p,i,j) s) (0,[],0)) λr=>(r=.inl ([],0)/\Uz i s)\/(r=.inr ([],13)/\¬Uz i s):=AKO b
def KA(l:Ad)(low:Y)(rs:E AS):E (Y×Y):=(l.1,l.1+Z l.2.1-1)::(rs.filter λr=>r.2.2.1==low).map λr=>(r.1,r.2.1)
def vQ{a:AJ}{l}{p:Y}{e:Y×(Y×O)}{b:List AS}{d:List Y}(A_:Dc l)(k:GI (a,p)=D e)(B:e.2.2=A)(m:Hq a=D (b,d))(s:Z b=Z d)(o:Z b≤256):
  QV (a,l,p)=D (KA l e.1 b):=by
 obtain⟨H,w,y⟩:=Oo A_;unfold QV;dsimp only;rw[w,AD,k,AD,B,CE,A!,m,AD,y];have main:An (Ak (T9 e (b,d)) (0,([(l.1,l.1+Z l.2.1-1)]:Ψ (Y×Y)))) λr=>r=KA l e.1 b:=by
  refine AY (λ(t:Int×List (Int×Int))=>0<=t.1/\t.1<=Z b/\Z t.2<=t.1.toNat+1/\t.2=KA l e.1 (b.take t.1.toNat)) (λt=>((Z b:Y)-t.1).toNat) ⟨Ag _,d!,k!,rfl⟩ (λt z=>?_);obtain⟨g,G⟩:=t;obtain⟨n,C,D_,j⟩:=z;dsimp only at n C D_ j;unfold T9;dsimp only;refine AC (λi=>?_) (λi=>AB ?_);simp only[S]at i;have u:=Aa (x:=g+1);rw[u];refine AA (AI n i) λv h=>?_;have f:b.take (g+1).toNat=b.take g.toNat++[v]:=by rw[show(g+1).toNat=g.toNat+1 by omega,Ca,h.1];rfl
  refine AM (λc=>?_) (λc=>AB ⟨⟨d!,d!,d!,?_⟩,d!⟩);refine AA (AI n) λI _=>AA (Ac (by simp only[BW,Be];omega)) λJ q=>AB ⟨⟨d!,d!,?_,?_⟩,d!⟩;have:=q.2.1;simp only[BW,Be]at this;dsimp only;omega;dsimp only;rw[q.1,j,f];unfold KA;rw[Gx,Kp,wE (by exact c)];rfl;dsimp only;rw[j,f];unfold KA;rw[Gx,wD (by rw[c];decide)];simp;simp only[S]at i;rw[j,BN o!]
 obtain⟨r,E,F⟩:=main;rw[E,AD,F]
def Vn{l:E EN}:(l.map (·.1)).Nodup->l.Nodup:=by
 induction l with
 |nil=>intro _;exact RO
 |cons p r b=>intro a;rw[Bs,Gk]at a;exact Gk.2 ⟨λh=>a.1 (Kr h),b a.2⟩
def Dc.nodup{l}(h:Dc l):(l.2.1.map (·.1)).Nodup:=by obtain⟨l1,l2,i,j,k,a⟩:=h;rw[F5,Pj,FA];intro x y b d c g;have e:=(a x _ (Au b)).1;have f:=(a y _ (Au d)).1;omega
def Dc.has{l}(h:Dc l){e:EN}(a:e∈l.2.1):Fq (l.1,l.1+Z l.2.1-1) e.1=A:=by obtain⟨k,b,a⟩:=RM.1 a;have c:=(h.2.2.2.2.2 k e (by rw[<-a];exact Au b)).1;unfold Fq;simp only[BQ,K!];omega
structure AH1(l:Ad)(low p i j:Int)(rs:List AS):Prop where
 fromLog:∀f∈D1 low rs,GG p i j f=true->Fq (l.1,l.1+l.2.1.length-1) f.1=true->f∈l.2.1
 inRuns:∀e∈l.2.1,GG p i j e=true->((rs.filter λr=>r.2.2.1==low).any λr=>Fq (r.1,r.2.1) e.1)=true->e∈D1 low rs
 own:∀r∈rs,∀f∈r.2.2.2.2.2,Fq (r.1,r.2.1) f.1=true
 once:((D1 low rs).map (·.1)).Nodup
def AKu{B:Nat}{a:AJ}{l:Ad}{p i j R:Int}{c:Int×(Int×Bool)}{b:Ψ AS}{P:Ψ Int}(V:CP B)(hB:B≤16777216)(ao:j-i≤B)(hi:0≤i)(hj:i≤j)
  (h:VB a) (D_:Dc l) (hp:0<=p/\p<a.2.1) (L:GI (a,p)=D c) (ht:c.2.2=A) (N:Hq a=D (b,P)) (w:θ b=θ P) (t:θ b<=256)
  (hr:∀r∈b,θ r.2.2.2.2.2<=4096) (W:Ht (KA l c.1 b,j)=D R) (z:AH1 l c.1 p i j b):
  An (EQ (a,l,p,i,j)) λr=>(R>i/\r=([],42))\/(R<=i/\∃s:Ψ EN,(s.Pairwise λx y=>x.1<y.1)/\(∀e,e∈s↔(e∈l.2.1\/e∈D1 c.1 b)/\GG p i j e=A)/\((Uz i s/\r=(s,0))\/(¬Uz i s/\r=([],13)))):=by
 have K:=D_.nodup;unfold EQ;dsimp only;refine AA (VU (x:=(a,l,p,i)) h D_ ⟨hp.1,hp.2,hi⟩) λv0 h0=>AK (O! h0 ·) (λ_=>AC (O! · o!) (λ_=>?_));rw[vQ D_ L ht N w t,AD,W,AD];refine AC (λhf=>AB (.inl ⟨hf,rfl⟩)) (λhf=>AA (AIH D_ (by simp[KA]) (by have:=EP (λr:AS=>r.2.2.1==c.1) b;simp only[KA,BW,BX];omega)) λal H=>?_);rw[L,AD,ht,CE,A!,N,AD];have hP:∀v∈D1 c.1 b,GG p i j v=A->(Fq (l.1,l.1+θ l.2.1-1) v.1=A->(v∈l.2.1/\GG p i j v=A))/\∀e,((e∈l.2.1/\GG p i j e=A)\/(e∈D1 c.1 b/\GG p i j e=A))->e.1=v.1->e=v:=λv hv E=>by refine⟨λk=>⟨z.fromLog v hv E k,E⟩,λe u A_=>?_⟩;rcases u with⟨u,_⟩|⟨u,_⟩;have ad:=z.fromLog v hv E (by rw[<-A_];exact D_.has u);exact Nk K u ad A_;exact Nk z.once u hv A_
 apply AA (AKP (sp:=(l.1,l.1+θ l.2.1-1)) rfl H.2 w t hr hP);rintro q ⟨m,n,rfl,o,hn⟩;apply BC;dsimp only;have f:al.1=n:=by
  rw[H.1,hn];refine E! Int.ofNat (List.Perm.length_eq ?_)
  refine(WQ ((Vn K).filter _) ((Vn z.once).filter _)).2 λe=>?_;rw[BG,BG];simp only[BQ];have I:((KA l c.1 b).tail.any λs=>Fq s e.1)=((b.filter λr=>r.2.2.1==c.1).any λr=>Fq (r.1,r.2.1) e.1):=by unfold KA;rw[List.tail_cons,List.any_map];rfl
  rw[I];constructor;rintro⟨F,G,S⟩;exact⟨z.inRuns e F G S,G,D_.has F⟩;rintro⟨F,G,S⟩;obtain⟨r,M,Y⟩:=En.1 F;exact⟨z.fromLog e F G S,G,YS.2 ⟨r,M,z.own r (BG.1 M).1 e Y⟩⟩
 refine AK (O! f ·) (λ_=>?_);have J:∀q∈m,GG p i j q.2=A:=λq d=>by
  have:(q.2.1,q.2)∈m:=by rw[<-o.2.1 q d];exact d
  rcases(o.2.2 q.2).1 this with g|g;exact g.2;exact g.2
 have X_:θ m<=B:=by
  have:=wt (j-i).toNat i (m.map (·.1)) o.1 λx hx=>by obtain⟨q,d,rfl⟩:=BY.1 hx;have E:=J q d;have hk:=o.2.1 q d;unfold GG at E;simp only[BQ,K!]at E;omega
  rw[BX]at this;omega
 refine AC (λ_=>?_) (λk=>O! k (by show¬ ¬((θ m:Int)<=16777216);omega));have C:((m.map (·.2)).map (·.1))=m.map (·.1):=by rw[Lh];exact Lg λq d=>(o.2.1 q d).symm
 refine AA (ACM V (l:=m.map (·.2)) (by rw[BX];exact X_) (by rw[BX];omega) (by rw[C];exact o.1)) λs Q=>?_;have Z:θ s=θ m:=by rw[Q.1.length_eq,BX]
 have U_:ξ (θ s) (θ m)=A:=by rw[Z];exact H6 _
 rw[U_,B!];have O:∀e,e∈s↔(e∈l.2.1\/e∈D1 c.1 b)/\GG p i j e=A:=λe=>by
  rw[Q.1.mem_iff];constructor;intro u;obtain⟨q,d,rfl⟩:=BY.1 u;have:(q.2.1,q.2)∈m:=by rw[<-o.2.1 q d];exact d
  rcases(o.2.2 q.2).1 this with g|g;exact⟨.inl g.1,g.2⟩;exact⟨.inr g.1,g.2⟩;rintro⟨g,g'⟩;exact BY.2 ⟨(e.1,e),(o.2.2 e).2 (g.imp (λg=>⟨g,g'⟩) (λg=>⟨g,g'⟩)),rfl⟩
 refine AA (AII o!) λr hr=>?_;rcases hr with⟨rfl,T⟩|⟨rfl,T⟩;exact BC (AB (.inr ⟨o!,s,Q.2,O,.inl ⟨T,rfl⟩⟩));exact A3 (AB (.inr ⟨o!,s,Q.2,O,.inr ⟨T,rfl⟩⟩))
def lO{s t:E EN}(c:s.Pairwise λx y=>x.1<y.1)(d:t.Pairwise λx y=>x.1<y.1)(h:∀e,e∈s↔e∈t):s=t:=by have nd:∀{u:E EN},(u.Pairwise λx y=>x.1<y.1)->u.Nodup:=λg=>F5.2 (g.imp λh e=>by rw[e]at h;omega);have f:=(WQ (nd c) (nd d)).2 h;exact cX (le:=λa b=>a.1<b.1) (λa b _ _ i j=>o!) c d f
def qx{b:Type} [BEq b] [LawfulBEq b]:∀{A_ B:E b},A_.Nodup->(∀x∈A_,x∈B)->Z A_<=Z B
 |[],_,_,_=>BS _
 |a::A_,B,h,hs=>by have c:=Gk.1 h;have:=qx (B:=B.erase a) c.2 λx d=>(List.mem_erase_of_ne λe=>c.1 (by rw[<-e];exact d)).2 (hs x (CU _ d));have f:=List.length_erase_of_mem (hs a (Gj ..));have:=tW (hs a (Gj ..));rw[BW];omega
def AJJ{a:AJ}{l:Ad}{p i j:Int}{S:List (Int×Int)}{c:Int×Int}{r:AS}{m0:List (Int×EN)}{y:Int}{P:EN→Prop}(hr:θ r.2.2.2.2.2≤4096)(h0:S[0]?=δ c)(hm:LU m0 P)(hn:0≤y∧y≤1099511627776)
  (hc:∀v∈r.2.2.2.2.2,GG p i j v=A->∀e,(P e\/(e∈r.2.2.2.2.2/\GG p i j e=A))->e.1=v.1->e=v\/(Fq c v.1=A/\¬P v)):
  An (Ak (QU (a,l,p,i,j) S r) (0,m0,y,[],0)) λq=>(∃m n,q=.inl (m,n,[],0)/\LU m (λe=>P e\/(e∈r.2.2.2.2.2/\GG p i j e=A))/\n=y+((r.2.2.2.2.2.filter λe=>GG p i j e&&Fq c e.1).length:Int)/\∀v∈r.2.2.2.2.2,GG p i j v=A->Fq c v.1=A->P v)\/(∃m n,q=.inr (m,n,[],41)/\∃v∈r.2.2.2.2.2,GG p i j v=A/\Fq c v.1=A/\¬P v):=by
 generalize hL:r.2.2.2.2.2=L at hr hc⊢;refine CV (λ(s:Int×(List (Int×EN)×(Int×(List EN×Int))))=>0<=s.1/\s.1<=θ L/\s.2.2.2=([],0)/\s.2.2.1=y+(((L.take s.1.toNat).filter λe=>GG p i j e&&Fq c e.1).length:Int)/\(LU s.2.1 λe=>P e\/(e∈L.take s.1.toNat/\GG p i j e=A))/\∀v∈L.take s.1.toNat,GG p i j v=A->Fq c v.1=A->P v) (λs=>((θ L:Int)-s.1).toNat)
  ⟨Ag _,d!,rfl,k!,hm.congr λe=>k!,λv hv=>by simp at hv⟩ (λs hI=>?_)
 obtain⟨d,D_,O,s4⟩:=s;obtain⟨i1,i2,i3,M,B,N⟩:=hI;dsimp only at i1 i2 i3 M B N;subst i3;unfold QU;dsimp only;rw[hL];refine AC (λo=>?_) (λo=>k? (.inl ?_))
 ·simp only[len]at o;have ew:=Aa (x:=d+1);rw[ew];refine AA (AI i1 o) λv W=>?_;rw[Yv,AD];have g:L.take (d+1).toNat=L.take d.toNat++[v]:=by rw[show(d+1).toNat=d.toNat+1 by omega,Ca,W.1];rfl
  have f:GG p i j v=X->(0<=d+1/\d+1<=θ L/\(([],0):Ψ EN×Int)=([],0)/\O=y+(((L.take (d+1).toNat).filter λe=>GG p i j e&&Fq c e.1).length:Int)/\(LU D_ λe=>P e\/(e∈L.take (d+1).toNat/\GG p i j e=A))/\∀v∈L.take (d+1).toNat,GG p i j v=A->Fq c v.1=A->P v)/\((θ L:Int)-(d+1)).toNat<((θ L:Int)-d).toNat:=λC=>by refine⟨⟨o!,o!,rfl,?_,?_,?_⟩,o!⟩;rw[g,Gx,M];simp[C];rw[g];refine B.congr λe=>?_;grind[a!];rw[g];intro w A_ g1 g2;grind[a!]
  refine AM (λQ=>?_) (λQ=>y! (f (by simp[GG,Q])).1 (f (by simp[GG,Q])).2);refine AM (λR=>?_) (λR=>y! (f (by simp[GG,R])).1 (f (by simp[GG,R])).2);refine AM (λT=>?_) (λT=>have q:=f (by unfold GG;rw[T];simp);y! q.1 q.2);refine AP (λU_=>have q:=f (by unfold GG;rw[U_];simp);y! q.1 q.2) (λU_=>?_);have C:GG p i j v=A:=by unfold GG;rw[Q,R,T,U_];rfl
  have Z:ix S 0=D c:=by unfold ix;rw[C! (Ag _)];exact h0
  rw[Z,AD,has_eq,AD];have ao:(((L.take d.toNat).filter λe=>GG p i j e&&Fq c e.1).length:Int)<=4096:=by have h1:=EP (λe=>GG p i j e&&Fq c e.1) (L.take d.toNat);have h3:=fY d.toNat L;omega
  have V:=Aa (x:=O+1);rw[V];have K:∀b:Bool,Fq c v.1=b->y+((((L.take (d+1).toNat).filter λe=>GG p i j e&&Fq c e.1).length:Nat):Int)=O+(if b=A then 1 else 0):=λb hb=>by rw[g,Gx,AV,M];cases b<;>simp[C,hb]<;>omega
  have u:(Fq c v.1=A->P v)->LU (PP v.1 v D_) λe=>P e\/(e∈L.take (d+1).toNat/\GG p i j e=A):=λhp=>by
   rw[g];refine B.put.congr λe=>⟨?_,λh=>?_⟩
   rintro(rfl|⟨h|h,_⟩);exact .inr ⟨Ah.2 (.inr (Ax.2 rfl)),C⟩;exact .inl h;exact .inr ⟨Ah.2 (.inl h.1),h.2⟩;by_cases t:e=v;exact .inl t;have hu:∀e,(P e\/(e∈L/\GG p i j e=A))->e.1=v.1->e=v:=λe G X_=>(hc v W.2 C e G X_).elim id λq=>O! (hp q.1) q.2;rcases h with h|⟨h,h'⟩;exact .inr ⟨.inl h,λG=>t (hu e (.inl h) G)⟩;rcases Ah.1 h with h|h;exact .inr ⟨.inr ⟨h,h'⟩,λG=>t (hu e (.inr ⟨EJ h,h'⟩) G)⟩;exact O! (Ax.1 h) t
  have J:(Fq c v.1=A->P v)->∀w∈L.take (d+1).toNat,GG p i j w=A->Fq c w.1=A->P w:=λhp w A_=>by rw[g]at A_;rcases Ah.1 A_ with q|q;exact N w q;rw[Ax.1 q];exact λ_=>hp
  refine AM (λz=>?_) (λz=>y! ⟨d!,d!,rfl,?_,u λq=>(by rw[z]at q;cases q),J λq=>(by rw[z]at q;cases q)⟩ d!)
  ·by_cases H:LR v.1 D_=D v
   ·have F:P v:=by rcases(B.2.2 v).1 (qu H)with q|q;exact q;exact N v q.1 q.2 z
    rw[H];simp only[fk,CE,A!,Yo,L!,WV];refine y! ⟨d!,d!,rfl,?_,u λ_=>F,J λ_=>F⟩ d!
    rw[K A z];rfl
   ·have ad:¬P v:=λq=>H (B.get (.inl q));have E:∀{I:(Int×(List (Int×EN)×(Int×(List EN×Int))))->Prop}{μ}{k},An (D (Step.done (.inr (D_,O+1,[],41)))) (Jj I μ k λq:((Ψ (Int×AE)×(Int×(Ψ AE×Int)))⊕(Ψ (Int×AE)×(Int×(Ψ AE×Int))))=>(∃m n,q=.inl (m,n,[],0)/\LU m (λe=>P e\/(e∈L/\GG p i j e=A))/\n=y+((L.filter λe=>GG p i j e&&Fq c e.1).length:Int)/\∀v∈L,GG p i j v=A->Fq c v.1=A->P v)\/(∃m n,q=.inr (m,n,[],41)/\∃v∈L,GG p i j v=A/\Fq c v.1=A/\¬P v)):=k? (.inr ⟨_,_,rfl,v,W.2,C,z,ad⟩);cases Y:LR v.1 D_ with
    |none=>exact E
    |some x=>rw[Y]at H;have al:x≠v:=λe=>H (by rw[e]);simp only[fk,CE,A!,Yo];refine AP (λ_=>E) (λhq=>O! ?_ al);obtain⟨x1,x2,x3,x4,x5,x6,⟨y1,y2,⟨z1,z2⟩,z3,z4⟩,x8⟩:=x;obtain⟨S,v2,v3,v4,v5,v6,⟨w1,w2,⟨u1,u2⟩,u3,u4⟩,v8⟩:=v;simp only[BQ,J!]at hq;obtain⟨rfl,rfl,rfl,rfl,rfl,rfl,rfl,rfl,rfl,rfl,rfl,rfl,rfl,_⟩:=hq;rfl
  rw[K X z];simp
 simp only[len]at o;rw[BN o!]at M B N;exact⟨D_,O,rfl,B,M,N⟩
def zD{low}{rs:E AS}(hr:∀r∈rs,Z r.2.2.2.2.2<=4096):(D1 low rs).length<=Z rs*4096:=by
 induction rs with
 |nil=>simp[D1]
 |cons r rs d=>have a:=d λq c=>hr q (CU _ c);have b:=hr r (Gj ..);unfold D1 at a⊢;rw[UI,BW];split;rw[H8,AV,nV];exact C5 (Nat.add_le_add b a) (Nat.le_of_eq (WT _ _));exact C5 a (Lj _ (Nat.le_succ _))
def AJI{a:AJ}{l:Ad}{p i j:Int}{v1:List (Int×Int)}{sp:Int×Int}{b:Int×(Int×Bool)}{c:List AS}{E:List Int}{Z:List (Int×EN)}{P:EN→Prop}(h0:v1[0]?=D sp)(hm:LU Z P)
  (X_:θ c=θ E) (W:θ c<=256) (hr:∀r∈c,θ r.2.2.2.2.2<=4096)
  (hc:∀v∈D1 b.1 c,GG p i j v=A->∀e,(P e\/(e∈D1 b.1 c/\GG p i j e=A))->e.1=v.1->e=v\/(Fq sp v.1=A/\¬P v)):
  An (Ak (QT (a,l,p,i,j) v1 b (c,E)) (0,Z,0,[],0)) λq=>(∃m n,q=.inl (m,n,[],0)/\LU m (λe=>P e\/(e∈D1 b.1 c/\GG p i j e=A))/\n=(((D1 b.1 c).filter λe=>GG p i j e&&Fq sp e.1).length:Int)/\∀v∈D1 b.1 c,GG p i j v=A->Fq sp v.1=A->P v)\/(∃m n,q=.inr (m,n,[],41)/\∃v∈D1 b.1 c,GG p i j v=A/\Fq sp v.1=A/\¬P v):=by
 refine AY (λ(s:Int×(List (Int×EN)×(Int×(List EN×Int))))=>0<=s.1/\s.1<=θ c/\s.2.2.2=([],0)/\s.2.2.1=(((D1 b.1 (c.take s.1.toNat)).filter λe=>GG p i j e&&Fq sp e.1).length:Int)/\(LU s.2.1 λe=>P e\/(e∈D1 b.1 (c.take s.1.toNat)/\GG p i j e=A))/\∀v∈D1 b.1 (c.take s.1.toNat),GG p i j v=A->Fq sp v.1=A->P v) (λs=>((θ c:Int)-s.1).toNat)
  ⟨Ag _,d!,rfl,by simp[D1],hm.congr λe=>by simp[D1],λv hv=>by simp[D1]at hv⟩ (λs hI=>?_)
 have⟨d,s2,U_,s4⟩:=s;have⟨T,i2,Y,C,D_,A_⟩:=hI;dsimp only at T i2 Y C D_ A_;subst Y;unfold QT;dsimp only;refine AC (λo=>?_) (λo=>AB (.inl ?_));simp[len]at o;have ew:=Aa (x:=d+1);rw[ew];refine AA (AI T o) λv H=>?_;have t:c.take (d+1).toNat=c.take d.toNat++[v]:=by rw[show(d+1).toNat=d.toNat+1 by omega,Ca,H.1];rfl
 refine AM (λF=>?_) (λF=>AB ?_);refine AA (AI T) λad _=>?_;have k:∀e∈v.2.2.2.2.2,e∈D1 b.1 c:=λe f=>En.2 ⟨v,BG.2 ⟨H.2,F⟩,f⟩;have y:∀e∈D1 b.1 (c.take d.toNat),e∈D1 b.1 c:=λe f=>by have⟨r,N,O⟩:=En.1 f;have⟨Q,R⟩:=BG.1 N;exact En.2 ⟨r,BG.2 ⟨EJ Q,R⟩,O⟩
 have M:0<=U_/\U_<=1099511627776:=by have h1:=EP (λe=>GG p i j e&&Fq sp e.1) (D1 b.1 (c.take d.toNat));have h2:=zD (low:=b.1) (rs:=c.take d.toNat) λr hq=>hr r (EJ hq);have h3:=fY d.toNat c;omega
 have g:D1 b.1 (c.take d.toNat++[v])=D1 b.1 (c.take d.toNat)++v.2.2.2.2.2:=by grind[D1]
 have back:∀w,Fq sp w.1=A->(P w\/(w∈D1 b.1 (c.take d.toNat)/\GG p i j w=A))->P w:=λw hh B=>B.elim id λq=>A_ w q.1 q.2 hh;refine AA (AJJ (hr v H.2) h0 D_ M λw B S e f J=>?_) ?_;rcases hc w (k w B) S e (by rcases f with(f|⟨f,u⟩)|⟨f,u⟩;exact .inl f;exact .inr ⟨y e f,u⟩;exact .inr ⟨k e f,u⟩) J with q|⟨q1,q2⟩;exact .inl q;exact .inr ⟨q1,λq=>q2 (back w q1 q)⟩;rintro q (⟨m,n,rfl,K,L,I⟩|⟨m,n,rfl,w,w1,w2,w3,w4⟩);refine BC (AB ⟨⟨d!,d!,rfl,?_,?_,?_⟩,d!⟩);dsimp only;rw[t,g,L,C,Gx,AV];omega;dsimp only;rw[t,g];refine K.congr λe=>?_;rw[Ah];constructor;rintro((h|⟨h,z⟩)|⟨h,z⟩);exact .inl h;exact .inr ⟨.inl h,z⟩;exact .inr ⟨.inr h,z⟩;rintro(h|⟨h|h,z⟩);exact .inl (.inl h);exact .inl (.inr ⟨h,z⟩);exact .inr ⟨h,z⟩;dsimp only;rw[t,g];intro w B V G;rcases Ah.1 B with q|q;exact A_ w q V G;exact back w G (I w q V G);exact A3 (AB (.inr ⟨_,_,rfl,w,k w w1,w2,w3,λq=>w4 (.inl q)⟩));have g:D1 b.1 (c.take d.toNat++[v])=D1 b.1 (c.take d.toNat):=by unfold D1;rw[Gx,WY];simp[F]
 refine⟨⟨d!,d!,rfl,?_,?_,?_⟩,d!⟩<;>dsimp only<;>rw[t,g];exact C;exact D_;exact A_;simp[len]at o;rw[BN o!]at C D_ A_;exact⟨s2,U_,rfl,D_,C,A_⟩
def AGJ(l:Ad)(low p i j:Y)(rs:E AS):Prop:=(∀f∈D1 low rs,GG p i j f=A->Fq (l.1,l.1+Z l.2.1-1) f.1=A->f∈l.2.1)/\∀e∈l.2.1,GG p i j e=A->((rs.filter λr=>r.2.2.1==low).any λr=>Fq (r.1,r.2.1) e.1)=A->e∈D1 low rs
def AKt{a:AJ}{l:Ad}{p i j W:Int}{c:Int×(Int×Bool)}{b:Ψ AS}{V:Ψ Int}(hi:0≤i)(hj:i≤j)
  (h:VB a) (L:Dc l) (hp:0<=p/\p<a.2.1) (Q:GI (a,p)=D c) (ht:c.2.2=A) (S:Hq a=D (b,V)) (C:θ b=θ V) (z:θ b<=256)
  (hr:∀r∈b,θ r.2.2.2.2.2<=4096) (al:Ht (KA l c.1 b,j)=D W) (own:∀r∈b,∀f∈r.2.2.2.2.2,Fq (r.1,r.2.1) f.1=A) (once:((D1 c.1 b).map (·.1)).Nodup):
  An (EQ (a,l,p,i,j)) λr=>(W>i/\r=([],42))\/(W<=i/\¬AGJ l c.1 p i j b/\r=([],41))\/(W<=i/\AGJ l c.1 p i j b/\∃s:Ψ EN,θ s<=1052672/\(s.Pairwise λx y=>x.1<y.1)/\(∀e,e∈s↔(e∈l.2.1\/e∈D1 c.1 b)/\GG p i j e=A)/\((Uz i s/\r=(s,0))\/(¬Uz i s/\r=([],13)))):=by
 have P:=L.nodup;have ax:=zD (low:=c.1) hr;have a0:=L.2.2.1;unfold EQ;dsimp only;refine AA (VU (x:=(a,l,p,i)) h L ⟨hp.1,hp.2,hi⟩) λv0 h0=>AK (O! h0 ·) (λ_=>AC (O! · o!) (λ_=>?_));rw[vQ L Q ht S C z,AD,al,AD];refine AC (λhf=>AB (.inl ⟨hf,rfl⟩)) (λhf=>AA (AIH L (by simp[KA]) (by have:=EP (λr:AS=>r.2.2.1==c.1) b;simp only[KA,BW,BX];omega)) λa2 H=>?_);rw[Q,AD,ht,CE,A!,S,AD];have hP:∀v∈D1 c.1 b,GG p i j v=A->∀e,((e∈l.2.1/\GG p i j e=A)\/(e∈D1 c.1 b/\GG p i j e=A))->e.1=v.1->e=v\/(Fq (l.1,l.1+θ l.2.1-1) v.1=A/\¬(v∈l.2.1/\GG p i j v=A)):=λv hv hw e k I=>by rcases k with⟨k,_⟩|⟨k,_⟩;by_cases U_:v∈l.2.1;exact .inl (Nk P k U_ I);exact .inr ⟨by rw[<-I];exact L.has k,λq=>U_ q.1⟩;exact .inl (Nk once k hv I)
 apply AA (AJI (sp:=(l.1,l.1+θ l.2.1-1)) rfl H.2 C z hr hP);rintro q (⟨m,n,rfl,D_,hn,J⟩|⟨m,n,rfl,w,w1,w2,w3,w4⟩);apply BC;dsimp only;have o:∀e:EN,((KA l c.1 b).tail.any λs=>Fq s e.1)=((b.filter λr=>r.2.2.1==c.1).any λr=>Fq (r.1,r.2.1) e.1):=λe=>by unfold KA;rw[List.tail_cons,List.any_map];rfl
 have O:∀f∈D1 c.1 b,GG p i j f=A->Fq (l.1,l.1+θ l.2.1-1) f.1=A->f∈l.2.1:=λf f1 f2 f3=>(J f f1 f2 f3).1;have n1:=(Vn once).filter (λe=>GG p i j e&&Fq (l.1,l.1+θ l.2.1-1) e.1);have n2:=(Vn P).filter (λe=>GG p i j e&&((KA l c.1 b).tail.any λs=>Fq s e.1));have F:∀e∈(D1 c.1 b).filter (λe=>GG p i j e&&Fq (l.1,l.1+θ l.2.1-1) e.1),e∈l.2.1.filter (λe=>GG p i j e&&((KA l c.1 b).tail.any λs=>Fq s e.1)):=λe k=>by obtain⟨G,d⟩:=BG.1 k;simp only[BQ]at d;obtain⟨r,R,ap⟩:=En.1 G;refine BG.2 ⟨O e G d.1 d.2,?_⟩;rw[o];simp only[BQ];exact⟨d.1,YS.2 ⟨r,R,own r (BG.1 R).1 e ap⟩⟩
 refine AK (λK=>AB (.inr (.inl ⟨o!,λN=>K ?_,rfl⟩))) (λu=>?_);rw[H.1,hn];refine E! Int.ofNat (List.Perm.length_eq ?_)
 refine(WQ n2 n1).2 λe=>⟨λk=>?_,F e⟩
 obtain⟨G,d⟩:=BG.1 k;rw[o]at d;simp only[BQ]at d;refine BG.2 ⟨N.2 e G d.1 d.2,?_⟩;simp only[BQ];exact⟨d.1,L.has G⟩;have N:AGJ l c.1 p i j b:=by refine⟨O,λe G d g3=>Qe λao=>?_⟩;have E:e∈l.2.1.filter (λe=>GG p i j e&&((KA l c.1 b).tail.any λs=>Fq s e.1)):=BG.2 ⟨G,by rw[o];simp only[BQ];exact⟨d,g3⟩⟩;have h1:=qx (B:=(l.2.1.filter (λe=>GG p i j e&&((KA l c.1 b).tail.any λs=>Fq s e.1))).erase e) n1 λx Y=>(List.mem_erase_of_ne λq=>ao (by rw[<-q];exact(BG.1 Y).1)).2 (F x Y);rw[List.length_erase_of_mem E]at h1;have:=tW E;rw[H.1,hn]at u;omega
 have t:((m.map (·.2)).map (·.1))=m.map (·.1):=by rw[Lh];exact Lg λq M=>(D_.2.1 q M).symm
 have a1:θ m<=1052672:=by
  have:=qx (A_:=m.map (·.2)) (B:=l.2.1++D1 c.1 b) (Vn (by rw[t];exact D_.1)) λx Y=>by
   obtain⟨q,M,rfl⟩:=BY.1 Y;have:(q.2.1,q.2)∈m:=by rw[<-D_.2.1 q M];exact M
   exact Ah.2 (((D_.2.2 q.2).1 this).imp (·.1) (·.1))
  rw[BX,AV]at this;omega
 refine AC (λ_=>?_) (λK=>O! K (by show¬ ¬((θ m:Int)<=16777216);omega));refine AA (ACM (CPa 16777216) (l:=m.map (·.2)) (by rw[BX];omega) (by rw[BX];omega) (by rw[t];exact D_.1)) λs X_=>?_;have ar:θ s=θ m:=by rw[X_.1.length_eq,BX]
 have ad:ξ (θ s) (θ m)=A:=by rw[ar];exact H6 _
 rw[ad,B!];have T:∀e,e∈s↔(e∈l.2.1\/e∈D1 c.1 b)/\GG p i j e=A:=λe=>by
  rw[X_.1.mem_iff];constructor;intro k;obtain⟨q,M,rfl⟩:=BY.1 k;have:(q.2.1,q.2)∈m:=by rw[<-D_.2.1 q M];exact M
  rcases(D_.2.2 q.2).1 this with g|g;exact⟨.inl g.1,g.2⟩;exact⟨.inr g.1,g.2⟩;rintro⟨g,g'⟩;exact BY.2 ⟨(e.1,e),(D_.2.2 e).2 (g.imp (λg=>⟨g,g'⟩) (λg=>⟨g,g'⟩)),rfl⟩
 refine AA (AII o!) λr hr=>?_;rcases hr with⟨rfl,Z⟩|⟨rfl,Z⟩;exact BC (AB (.inr (.inr ⟨o!,N,s,o!,X_.2,T,.inl ⟨Z,rfl⟩⟩)));exact A3 (AB (.inr (.inr ⟨o!,N,s,o!,X_.2,T,.inr ⟨Z,rfl⟩⟩)));exact A3 (AB (.inr (.inl ⟨o!,λN=>w4 ⟨N.1 w w1 w2 w3,w2⟩,rfl⟩)))
def cI{x p}{c}{k:V}(h:CS x p c)(o:Z x<=1099511627776)(u:1<=k)(m:k<=8):An (CG c (k:Y)) λr=>CS x (p++DB r.1 k) r.2/\(r.2.2.2=0->cN k r.1)/\(c.2.2≠0->r=(0,c)):=by obtain⟨s,i,e⟩:=c;obtain⟨j,l⟩:=h;subst j;refine AK (λd=>AB ⟨⟨rfl,λb=>O! b d⟩,λb=>O! b d,λ_=>rfl⟩) (λd=>?_);subst d;obtain⟨a,hr,n⟩:=l rfl;subst hr n;rw[AV]at o;rw[YN o! o! o!];by_cases g:(k:Y)<=Z a;rw[C! g,AD,DF];obtain⟨q,v⟩:=tQ (t:=a) (k:=k) o! m;refine AB ⟨⟨rfl,λ_=>⟨a.drop k,?_,?_⟩⟩,λ_=>q,λf=>O! rfl f⟩;simp_all;dsimp only;rw[Aa,AV,A0];omega;rw[D! g,AD];exact AB ⟨⟨rfl,λb=>O! (show(5:Y)=0 from b) g!⟩,λb=>O! (show(5:Y)=0 from b) g!,λf=>O! rfl f⟩
def AFU{x p}{c}{n:Y}(h:CS x p c)(l:Z x<=1099511627776)(hn:c.2.2=0->0<=n/\n<4294967296):An (FW c n) λr=>CS x (p++r.1) r.2/\(r.2.2.2=0->(Z r.1:Y)=n/\c.2.2=0):=by
 obtain⟨s,f,e⟩:=c;obtain⟨g,i⟩:=h;subst g;unfold FW;by_cases d:e=0;subst d;obtain⟨a,hr,j⟩:=i rfl;obtain⟨o,t⟩:=hn rfl;subst hr j;obtain⟨m,rfl⟩:=Et o;rw[AV]at l;rw[show wi (((p++a).length:Y)-(Z p:Y))=Z a by rw[AV,Aa];omega];by_cases q:(m:Y)<=Z a;rw[F! o!,A!,AD,show((0:Y) !=0)=X by decide,A!];have k:SH (p++a) (wi (wi ((Z p:Y)+(m:Y))-(m:Y))) (wi ((Z p:Y)+(m:Y)))=D (a.take m):=by rw[Aa (x:=(Z p:Y)+(m:Y)),Aa];unfold SH;rw[C! q!,show((Z p:Y)+(m:Y)-(m:Y)).toNat=Z p by omega,Rz,show((Z p:Y)+(m:Y)).toNat-Z p=m by omega]
 rw[k,AD];refine AB ⟨⟨rfl,λ_=>⟨a.drop m,?_,?_⟩⟩,λ_=>⟨?_,q!⟩⟩;simp_all;dsimp only;rw[Aa,AV,BU];omega;grind;rw[G! o!,B!,AD,show((5:Y) !=0)=A by decide,B!];exact AB ⟨⟨rfl,λb=>O! (show(5:Y)=0 from b) g!⟩,λb=>O! (show(5:Y)=0 from b) g!⟩;rw[beq_false_of_ne d,A!,bne_iff_ne.2 d,B!];exact AB ⟨⟨rfl,λb=>O! b d⟩,λb=>O! b d⟩
def AFS{x p}{c}(h:CS x p c)(j:Z x<=1099511627776):An (FV c ()) λr=>CS x (p++VL r.1) r.2/\(r.2.2.2=0->Fs r.1):=by
 refine AA (cI (k:=1) h j g! g!) λv o=>?_;obtain⟨⟨g,l⟩,s,z⟩:=o;refine AK (λd=>AB ⟨⟨g,λa=>O! a d⟩,λa=>O! a d⟩) (λd=>?_);obtain⟨f,hr,i⟩:=l d;have y:=(s d).1 g!;refine AQ (λb=>AB ⟨⟨g,λ_=>⟨f,?_,?_⟩⟩,λ_=>⟨BS _,.inr rfl⟩⟩) (λb=>?_);dsimp only;rw[b]at hr;exact hr;dsimp only;rw[b]at i;exact i;refine AC (y? ⟨⟨g,λa=>O! (show(4:Y)=0 from a) g!⟩,λa=>O! (show(4:Y)=0 from a) g!⟩) (λn=>AA (AFU (x:=x) (p:=p++DB v.1 1) ⟨g,l⟩ j (λ_=>o!)) λw q=>AB ?_);obtain⟨⟨t,A⟩,u⟩:=q;refine⟨⟨t,λa=>?_⟩,λa=>?_⟩;dsimp only at a⊢;obtain⟨m,_⟩:=u a;have e:VL (ζ,w.1)=DB v.1 1++w.1:=by unfold VL;rw[B!,m]
 grind;dsimp only at a⊢;exact⟨q!,.inl rfl⟩
def ZT{x p a:Bc}{n}{k}(c:x=p++(DB n k++a))(f:Z x<=1099511627776)(e:1<=k)(d:k<=8)(hn:cN k n):CG (x,(Z p:Y),0) (k:Y)=D (n,x,((p++DB n k).length:Y),0):=by
 have b:=E! Z c;simp only[AV,A0]at b;unfold CG;dsimp only;rw[show((0:Y) !=0)=X by decide,A!];conv=>lhs;arg 1;rw[c]
 rw[YN q! o! o!,C! q!,AD,DF,F6 (A0 _ _),rE d hn];rw[AV,A0];rw[Aa];rfl
def AFT{x p w a:Bc}(c:x=p++(w++a))(e:Z x<=1099511627776):FW (x,(Z p:Y),0) (Z w:Y)=D (w,x,((p++w).length:Y),0):=by
 have b:=E! Z c;simp at b;unfold FW;rw[show τ (wi ((Z x:Y)-(Z p:Y))<(Z w:Y))=X from F! (by rw[Aa];omega),A!];rw[AD,show((0:Y) !=0)=X by decide,A!];dsimp only;have d:SH x (wi (wi ((Z p:Y)+(Z w:Y))-(Z w:Y))) (wi ((Z p:Y)+(Z w:Y)))=D w:=by rw[Aa (x:=(Z p:Y)+(Z w:Y)),Aa];unfold SH;rw[C! o!,c,show((Z p:Y)+(Z w:Y)-(Z w:Y)).toNat=Z p by omega,Rz,show((Z p:Y)+(Z w:Y)).toNat-Z p=Z w by omega,Yl]
 rw[d,AD,Aa,AV];rfl
def AFR{x p a:Bc}{c}(e:x=p++(VL c++a))(f:Z x<=1099511627776)(j:Fs c):FV (x,(Z p:Y),0) ()=D (c,x,((p++VL c).length:Y),0):=by
 obtain⟨b,d⟩:=c;obtain⟨h,i⟩:=j;dsimp only at h i;unfold FV;cases b with
 |false=>
  have k:d=[]:=q!
  subst k;rw[show(1:Y)=((1:V):Y)from rfl,ZT e f g! g! ⟨λ_=>g!,g!,g!⟩];rfl
 |true=>have g:VL (A,d)=DB (Z d:Y) 1++d:=rfl;rw[g,A2]at e;rw[g];rw[show(1:Y)=((1:V):Y)from rfl,ZT e f g! g! ⟨λ_=>q!,o!⟩,AD];rw[show((0:Y) !=0)=X by decide,A!,show((Z d:Y)==255)=X by grind,A!,F! o!,A!];rw[AFT (by rw[e,A2]) f,AD,A2]
def AJQ{x:Bc}(a:Z x<=1099511627776):An (J1 x) λr=>r.2=0->x=B6 r.1/\Fs r.1.2.2.2.2.2.2.1.2.2.1/\Fs r.1.2.2.2.2.2.2.1.2.2.2/\cN 4 (Z r.1.2.2.2.2.2.2.2:Y)/\Ft r.1=δ ζ:=by
 unfold J1;have J:CS x [] (x,0,0):=⟨rfl,λ_=>⟨x,rfl,rfl⟩⟩
 refine AA (cI (k:=8) J a g! g!) λP z=>AA (cI (k:=1) z.1 a g! g!) λQ A=>AA (cI (k:=4) A.1 a g! g!) λR B=>AA (cI (k:=8) B.1 a g! g!) λS C=>AA (cI (k:=8) C.1 a g! g!) λT D=>AA (cI (k:=8) D.1 a g! g!) λU E=>AA (cI (k:=4) E.1 a g! g!) λV F=>AA (cI (k:=1) F.1 a g! g!) λW G=>EM (AFS G.1 a) λs N p=>EM (AFS p.1 a) λt y q=>AA (cI (k:=4) q.1 a g! g!) λl b=>AA (AFU (n:=l.1) b.1 a (λc=>?_)) λK f=>?_;have:=(b.2.1 c).1 g!;rw[show(256:Y)^4=4294967296 by decide]at this;exact this;refine AK (λi=>AB λc=>O! c i) (λi=>AK (y? n!) (λH=>EM (Hs) λL j _=>AP (y? n!) (λI=>AB λ_=>?_)));subst I;obtain⟨g,d⟩:=f.2 i;have m:t.2.2.2=0:=Qe λe=>by have:=b.2.2 e;rw[this]at d;exact e d
 have v:=q.2 m;have M:s.2.2.2=0:=Qe λe=>by
  have:t=((X,[]),s.2):=by have:=y;unfold FV CG at this;rw[bne_iff_ne.2 e,B!,AD,bne_iff_ne.2 e,B!]at this;injection this with this;exact this.symm
  rw[this]at m;exact e m
 have u:=p.2 M;obtain⟨h,o,O⟩:=f.1.2 i;have hr:h=[]:=by simp only[len]at H;have w:=E! Z o;rw[AV]at w;exact Eu o!
 subst hr;refine⟨?_,u,v,?_,j⟩;rw[o];unfold B6;dsimp only;rw[g];simp only[A2,Bt,DR];dsimp only;rw[g];exact b.2.1 d
def AJP{e}(h:KD e):J1 (B6 e)=δ (e,0):=by
 obtain⟨s,t,H,w,y,z,A,B,C,D,E⟩:=h.cells;have I:=TE h;have g:cN 4 (Z e.2.2.2.2.2.2.2:Y):=⟨λ_=>by rw[show(256:Y)^4=4294967296 by decide];omega,o!⟩
 have a:B6 e=[]++(DB e.1 8++(DB e.2.1 1++(DB e.2.2.1 4++(DB e.2.2.2.1 8++(DB e.2.2.2.2.1 8++(DB e.2.2.2.2.2.1 8++(DB e.2.2.2.2.2.2.1.1 4++(DB e.2.2.2.2.2.2.1.2.1 1++
 (VL e.2.2.2.2.2.2.1.2.2.1++(VL e.2.2.2.2.2.2.1.2.2.2++(DB (Z e.2.2.2.2.2.2.2:Y) 4++(e.2.2.2.2.2.2.2++[])))))))))))):=by rw[DR];rfl
 generalize B6 e=x at*;have i:CG (x,((0:Y)),0) 8=_:=ZT (p:=[]) (k:=8) a o! g! g! w;rw[Bt]at i;rw[Bt]at a;have j:=ZT (k:=1) a o! g! g! y;rw[<-A2]at a;have l:=ZT (k:=4) a o! g! g! z;rw[<-A2]at a;have m:=ZT (k:=8) a o! g! g! A;rw[<-A2]at a;have n:=ZT (k:=8) a o! g! g! B;rw[<-A2]at a;have o:=ZT (k:=8) a o! g! g! C;rw[<-A2]at a;have q:=ZT (k:=4) a o! g! g! D;rw[<-A2]at a;have r:=ZT (k:=1) a o! g! g! E;rw[<-A2]at a;have F:=AFR a o! s;rw[<-A2]at a;have G:=AFR a o! t;rw[<-A2]at a;have c:=ZT (k:=4) a o! g! g! g;rw[<-A2]at a;have d:=AFT a o!;rw[DR]at a;rw[<-a]at d;unfold J1;rw[i,AD];rw[show((1:V):Y)=1 from rfl]at j r;rw[show((4:V):Y)=4 from rfl]at l q c;rw[show((8:V):Y)=8 from rfl]at m n o;rw[j,AD,l,AD,m,AD,n,AD,o,AD,q,AD,r,AD,F,AD,G,AD,c,AD,d,AD];obtain⟨b,u,v⟩:=Hs (x:=e);have f:b=ζ:=v h;subst f;dsimp only[S];rw[show((0:Y) !=0)=X by decide,A!,H!,A!];rw[show(e.1,e.2.1,e.2.2.1,e.2.2.2.1,e.2.2.2.2.1,e.2.2.2.2.2.1,(e.2.2.2.2.2.2.1.1,e.2.2.2.2.2.2.1.2.1,e.2.2.2.2.2.2.1.2.2.1,e.2.2.2.2.2.2.1.2.2.2),e.2.2.2.2.2.2.2)=e from rfl,u,AD,CE,A!]
def ltC(f e:EN):Prop:=f.2.2.2.2.2.2.1.1<e.2.2.2.2.2.2.1.1\/(f.2.2.2.2.2.2.1.1=e.2.2.2.2.2.2.1.1/\f.1<e.1)
theorem AA2(e:EN):¬ltC e e:=by unfold ltC;omega
def ADM{a b c}(h:ltC a b)(g:ltC b c):ltC a c:=by unfold ltC at*;omega
def AH6(f e:EN):∃c:Y,DH (f,e)=D c/\(c<0↔ltC f e)/\(c=0↔f.2.2.2.2.2.2.1.1=e.2.2.2.2.2.2.1.1/\f.1=e.1):=by
 have:An (DH (f,e)) λc=>(c<0↔ltC f e)/\(c=0↔f.2.2.2.2.2.2.1.1=e.2.2.2.2.2.2.1.1/\f.1=e.1):=by
  unfold DH;unfold ltC;dsimp only;repeat' with_reducible first|intro a|apply AC|apply AQ|apply AM|apply AB
  all_goals omega
 exact this
def yY(x:AS)(i:V):Prop:=∀e,x.2.2.2.2.2[i]?=D e->
 (KD e/\fU e=A/\x.1<=e.1/\e.1<=x.2.1/\x.2.2.1<=e.2.2.2.2.2.2.1.1/\e.2.2.2.2.2.2.1.1<=x.2.2.2.1)/\(i=0->e.2.2.2.2.1<x.1)/\
 ∀f,0<i->x.2.2.2.2.2[i-1]?=D f->ltC f e/\(f.2.2.2.2.2.2.1.1=e.2.2.2.2.2.2.1.1->e.2.2.2.2.1=f.1)/\(f.2.2.2.2.2.2.1.1≠e.2.2.2.2.2.2.1.1->e.2.2.2.2.1<x.1)
def VR(x:AS):Prop:=cO x/\∀i,yY x i
def VR.ent{x}(h:VR x){e:EN}(a:e∈x.2.2.2.2.2):KD e/\fU e=A/\x.1<=e.1/\e.1<=x.2.1/\x.2.2.1<=e.2.2.2.2.2.2.1.1/\e.2.2.2.2.2.2.1.1<=x.2.2.2.1:=by obtain⟨i,b,rfl⟩:=RM.1 a;exact(h.2 i _ (Au b)).1
def AAW{x:AS}(U_:θ x.2.2.2.2.2<=4096):An (Ak (Hj x) 0) λr=>(r=.inl X/\¬ ∀i,yY x i)\/(r=.inr ()/\∀i,yY x i):=by
 refine CV (λ(s:Int)=>0<=s/\s<=θ x.2.2.2.2.2/\∀i:Nat,(i:Int)<s->yY x i) (λs=>((θ x.2.2.2.2.2:Int)-s).toNat) ⟨Ag _,o!,λi z=>o!⟩ (λs L=>?_);obtain⟨H,V,I⟩:=L;unfold Hj;simp only[len];refine AC (λF=>?_) (λF=>k? (.inr ⟨rfl,λi=>?_⟩))
 case refine_2=>by_cases z:(i:Int)<s;exact I i z;intro e m;rw[Cz o!]at m;cases m
 obtain⟨k,rfl⟩:=Et H;refine AA (AI H F) λv d=>?_;have d:=d.1;rw[DF]at d;have a:(yY x k->False)->An (D (Step.done (.inl X)):Ω (Step Int (Bool⊕Unit))) (Jj (λs=>0<=s/\s<=θ x.2.2.2.2.2/\∀i:Nat,(i:Int)<s->yY x i) (λs=>((θ x.2.2.2.2.2:Int)-s).toNat) ((θ x.2.2.2.2.2:Int)-(k:Int)).toNat λr=>(r=.inl X/\¬ ∀i,yY x i)\/(r=.inr ()/\∀i,yY x i)):=λh=>k? (.inl ⟨rfl,λu=>h (u k)⟩);have j:yY x k->An (D (Step.next (wi ((k:Int)+1))):Ω (Step Int (Bool⊕Unit))) (Jj (λs=>0<=s/\s<=θ x.2.2.2.2.2/\∀i:Nat,(i:Int)<s->yY x i) (λs=>((θ x.2.2.2.2.2:Int)-s).toNat) ((θ x.2.2.2.2.2:Int)-(k:Int)).toNat λr=>(r=.inl X/\¬ ∀i,yY x i)\/(r=.inr ()/\∀i,yY x i)):=λh=>by
  rw[Aa];refine y! ⟨o!,o!,λi z=>?_⟩ o!
  by_cases A_:i=k;rw[A_];exact h;exact I i o!
 refine AA CY λS D_=>AP (λl=>a λok=>?_) (λl=>?_);have:=D_.2 (ok v d).1.1;rw[l]at this;cases this;have Q:=D_.1 l;refine AA CA λT E=>?_;have q:fU v=A↔v.2.1=1\/v.2.1=2:=by unfold fU;simp
 refine AP (λl=>a λok=>?_) (λl=>?_);have:=E.2 (q.1 (ok v d).1.2.1);rw[l]at this;cases this;have R:=q.2 (E.1 l);refine AC (λt=>a λok=>?_) (λW=>?_);have:=(ok v d).1.2.2;omega;refine AC (λt=>a λok=>?_) (λX_=>?_);have:=(ok v d).1.2.2;omega;refine AC (λt=>a λok=>?_) (λY=>?_);have:=(ok v d).1.2.2;omega;refine AC (λt=>a λok=>?_) (λZ=>?_);have:=(ok v d).1.2.2;omega;have C:KD v/\fU v=A/\x.1<=v.1/\v.1<=x.2.1/\x.2.2.1<=v.2.2.2.2.2.2.1.1/\v.2.2.2.2.2.2.1.1<=x.2.2.2.1:=⟨Q,R,o!⟩
 apply AC<;>intro N;have O:wi ((k:Int)-1)=((k-1:Nat):Int):=by rw[Aa];omega
 have G:k-1<θ x.2.2.2.2.2:=o!
 have w:ix x.2.2.2.2.2 (wi ((k:Int)-1))=D (x.2.2.2.2.2[k-1]):=by rw[O];unfold ix;rw[C! o!,DF,Au G]
 have n:x.2.2.2.2.2[k-1]?=D (x.2.2.2.2.2[k-1]):=Au G;generalize x.2.2.2.2.2[k-1]=f at w n;obtain⟨c,y,p,M⟩:=AH6 f v;rw[w,AD,y,AD];refine AC (λt=>a λok=>?_) (λt=>?_);have:=p.2 ((ok v d).2.2 f o! n).1;omega;have J:=p.1 o!;rw[G! o!,B!,AD];refine AA (P:=λr:Bool⊕Unit=>(r=.inl X/\¬yY x k)\/(r=.inr ()/\yY x k)) ?_ λr hr=>?_;apply AQ<;>intro m;rw[AD];refine AK (λhn=>AB (.inl ⟨rfl,λok=>hn (((ok v d).2.2 f o! n).2.1 m)⟩)) (λhn=>AB (.inr ⟨rfl,λe g=>?_⟩));rw[d]at g;injection g with g;subst g;refine⟨C,λo=>O! o o!,λK _ b=>?_⟩;rw[n]at b;injection b with b;subst b;exact⟨J,λ_=>hn,λu=>O! m u⟩;refine AC (λhn=>AB (.inl ⟨rfl,λok=>?_⟩)) (λhn=>AB (.inr ⟨rfl,λe g=>?_⟩));have:=((ok v d).2.2 f o! n).2.2 m;omega;rw[d]at g;injection g with g;subst g;refine⟨C,λo=>O! o o!,λK _ b=>?_⟩;rw[n]at b;injection b with b;subst b;exact⟨J,λu=>O! u m,λ_=>o!⟩;rcases hr with⟨rfl,hr⟩|⟨rfl,hr⟩;exact BC (a hr);exact A3 (j hr);rw[F! N,A!];have B:k=0:=o!
 apply Bk;apply AC<;>intro hn;rw[AD];refine BC (a λok=>?_);have:=(ok v d).2.1 B;omega;rw[AD];refine A3 (j λe g=>?_);rw[d]at g;injection g with g;subst g;exact⟨C,λ_=>o!,λf o=>O! o o!⟩
def YR{x}:An (Ef x) λr=>r=A↔VR x:=by unfold Ef;refine AA JI λf c=>AP (λb=>AB ⟨λa=>(by cases a),λa=>?_⟩) (λb=>?_);obtain⟨⟨a1,a2,a3,a4,a5,a6,a7,a8,a9⟩,_⟩:=a;have:=c.2 ⟨a1,a2,a3,a4,a5,a6,a7,a8⟩;rw[b]at this;cases this;have hn:=c.1 b;dsimp only at hn;refine AC (λd=>AB ⟨λa=>(by cases a),λa=>?_⟩) (λe=>?_);have:=a.1.2.2.2.2.2.2.2.2;simp only[S]at d;omega;simp only[S]at e;refine AA (AAW o!) λr hr=>?_;rcases hr with⟨rfl,hr⟩|⟨rfl,hr⟩;exact BC (AB ⟨λa=>(by cases a),λa=>O! a.2 hr⟩);exact A3 (AB ⟨λ_=>⟨⟨hn.1,hn.2.1,hn.2.2.1,hn.2.2.2.1,hn.2.2.2.2.1,hn.2.2.2.2.2.1,hn.2.2.2.2.2.2.1,hn.2.2.2.2.2.2.2,o!⟩,hr⟩,λ_=>rfl⟩)
abbrev NE:=A5
def lN(x y:NE):O:=τ (x.1.2.2.1<y.1.2.2.1\/(x.1.2.2.1=y.1.2.2.1/\(x.1.1<y.1.1\/(x.1.1=y.1.1/\x.2<y.2))))
def vS:Sort.SWO lN where
 irrefl x:=by simp[lN]
 trans x y z h1 h2:=by simp[lN,K!]at*;omega
 ntrans x y z h1 h2:=by simp[lN,decide_eq_false_iff_not]at*;omega
def pV{l:E Y}{k:V}{v:Y}(h:l[k]?=D v)(b:k<1000)(c:Z l<1000):Ak (Kt l) (k:Y)=if v=0 then Ak (Kt l) ((k+1:V):Y)else D (.inl v):=by
 rw[Df];have a:=(Gb.1 h).1;have d:τ ((k:Y)<S l)=A:=w!
 have e:ix l (k:Y)=D v:=by unfold ix;rw[C! o!];simpa using h
 grind[wip,Kt]
def AKR(a b c:Y):K6 [a,b,c]=D (if a≠0 then a else if b≠0 then b else c):=by unfold K6;rw[show(0:Y)=((0:V):Y)from rfl,pV (k:=0) (v:=a) rfl o! k!];by_cases d:a=0;rw[C! d,pV (k:=1) (v:=b) rfl o! k!];by_cases e:b=0;rw[C! e,pV (k:=2) (v:=c) rfl o! k!];grind[Df,Kt];rw[D! e];simp[d,e];rw[D! d];simp[d]
def AHh(x y:NE):∃v,Ik (x,y)=D v/\τ (v<0)=lN x y:=by
 unfold Ik;dsimp only;simp only[AAj,AD,AKR];refine⟨_,rfl,?_⟩;unfold lN;apply decide_eq_decide.2;repeat' split
 all_goals omega
section
variable {α:Type} [Inhabited α]
theorem ixG{d:T α}{i:Y}{k:V}(a:i=k)(b:k<d.size:=by omega):ix d.toList i=D d[k]! :=by subst a;unfold ix;rw[C! o!];simp[b]
omit [Inhabited α] in
theorem AJW{d:T α}{i:Y}{k:V}(a:i=k)(x:α):Es d.toList i x=(d.setIfInBounds k x).toList:=by subst a;unfold Es;simp
def AHv{d:T α}{i j:Y}{a b:V}(c:i=a)(e:j=b):Es (Es d.toList i d[b]!) j d[a]! =(Sort.swp d a b).toList:=by rw[AJW c,AJW e];rfl
def AHC{d:T α}{i j:Y}{a b:V}{x}(e:i=a)(f:j=b)(c:b<d.size:=by omega):ix (Es d.toList i x) j=D (d.setIfInBounds a x)[b]! :=by grind[AJW,ixG]
theorem lD(lt:α->α->O)(k:V):∀j d,(Sort.insInner lt k j d).size=d.size
 |0,_=>rfl
 |j+1,d=>by unfold Sort.insInner;split;rw[lD lt k j,Sort.size_swp];rfl
end
theorem ACD{a b:Y}{k:V}(g:a=k):∀(j:V)(d:T NE),j<d.size->d.size<=16777216->Ak (Dw (a,b)) ((j:Y),d.toList)=D (Sort.insInner lN k j d).toList
 |0,d,hj,hd=>by
  rw[Df];have:τ (((0:V):Y)>a)=X:=w!
  simp only[Dw,this,A!];rfl
 |j+1,d,hj,hd=>by
  rw[Df];have⟨v,e,f⟩:=AHh d[j+1]! d[j]!;simp only[Dw,(by grind[oK]:wi (((j+1:V):Y)-1)=(j:Y)),ixG rfl hj,(ixG rfl:ix d.toList (j:Y)=D d[j]!),(AHC rfl rfl:ix (Es d.toList ((j+1:V):Y) d[j]!) (j:Y)=D (d.setIfInBounds (j+1) d[j]!)[j]!),AD,e,f,AHv (d:=d) (a:=j+1) (b:=j) rfl rfl];unfold Sort.insInner;by_cases c:j+1>k;have:τ (((j+1:V):Y)>a)=A:=w!
  rw[this];cases h:lN d[j+1]! d[j]! with
  |true=>simp[B!,c,decide_true,WV,if_true];exact ACD g j _ (by rw[Sort.size_swp];omega) (by rw[Sort.size_swp];omega)
  |false=>simp[c]
  have:τ (((j+1:V):Y)>a)=X:=w!
  rw[this];simp[c]
def AEy{a b:Y}{k m:V}(g:a=k)(h:b=m):∀(n i:V)(d:T NE),m-i<=n->m<=d.size->d.size<=16777216->Ak (Dv (a,b)) ((i:Y),d.toList)=D (Sort.insOuter lN k m i d).toList:=by
 intro n;induction n with
 |zero=>grind[Df,Sort.insOuter,Dv]
 |succ n j=>intro i d c e f;rw[Df,Sort.insOuter];grind[oK,lD,Dv,ACD]
def ACC{d:T NE}{a b:Y}{k m:V}(c:a=k)(e:b=m)(g:m<=d.size)(h:k<=m)(f:d.size<=16777216):DM d.toList (a,b)=D (Sort.insertionSort lN d k m).toList:=by unfold DM;dsimp only;rw[(by grind[oK]:wi (a+1)=((k+1:V):Y)),AEy c e (m-(k+1)) (k+1) d o! g f];rfl
def swR(a b n:V)(d:T NE)(k:V):NE:=if a<=k/\k<a+n then d[b+(k-a)]! else if b<=k/\k<b+n then d[a+(k-b)]! else d[k]!
def yU{d:T NE}{a b n:V}(m:a+n≤b)(q:b+n≤d.size)(u:d.size≤16777216):
  An (C2 d.toList ((a:Y),(b:Y),(n:Y))) λr=>∃e:T NE,r=e.toList/\e.size=d.size/\∀k,k<d.size->e[k]! =swR a b n d k:=by
 unfold C2;refine AA (P:=λr=>∃e:T NE,r=e.toList/\e.size=d.size/\∀k,k<d.size->e[k]! =swR a b n d k) ?_ λr h=>AB h;refine AY (λ(s:Int×List NE)=>∃(t:V)(e:T NE),s.1=t/\s.2=e.toList/\t<=n/\e.size=d.size/\∀k,k<d.size->e[k]! =swR a b t d k) (n-·.1.toNat) ⟨0,d,rfl,rfl,BS _,rfl,λk _=>by unfold swR;rw[D! o!,D! o!]⟩ ?_;rintro⟨y,A_⟩ ⟨t,e,g,j,x,l,c⟩;dsimp only at g j;subst g j;unfold IZ;dsimp only;refine AC (λo=>?_) (λo=>AB ⟨e,rfl,l,?_⟩);have v:t<n:=o!
 simp only[(by grind[oK]:wi ((b:Y)+(t:Y))=((b+t:V):Y)),(by grind[oK]:wi ((a:Y)+(t:Y))=((a+t:V):Y)),(ixG rfl:ix e.toList ((b+t:V):Y)=D e[b+t]!),(ixG rfl:ix e.toList ((a+t:V):Y)=D e[a+t]!),(AHC rfl rfl:ix (Es e.toList ((a+t:V):Y) e[b+t]!) ((b+t:V):Y)=D (e.setIfInBounds (a+t) e[b+t]!)[b+t]!),AD,wip (i:=t),AHv (d:=e) (a:=a+t) (b:=b+t) rfl rfl];refine AB ⟨⟨t+1,_,rfl,rfl,o!,by rw[Sort.size_swp,l],λk p=>?_⟩,?_⟩;rw[Sort.swp_get e o! o!];rw[(c (a+t) o!),c (b+t) o!,(c k p)];unfold swR;by_cases k1:k=a+t;subst k1;rw[D! o!,C! rfl,D! o!,D! o!,C! o!];exact E! (λz=>d[z]!) o!;by_cases f:k=b+t;subst f;rw[C! rfl,D! o!,D! o!,D! o!,C! o!];exact E! (λz=>d[z]!) o!;rw[D! f,D! k1];by_cases w:a<=k/\k<a+t<;>grind;show n-((t+1:V):Y).toNat<n-((t:V):Y).toNat
 omega;have:t=n:=o!
 rw[<-this];exact c
def fV(x:AS):Bc:=[80,77,82,78]++(DB x.1 8++(DB x.2.1 8++(DB x.2.2.1 4++(DB x.2.2.2.1 4++(DB x.2.2.2.2.1 1++DB (Z x.2.2.2.2.2:Y) 4)))))
def Ns(x:AS):Bc:=HM (fV x)++K5 x.2.2.2.2.2
theorem aS(x:AS):(fV x).length=33:=rfl
def cO.inr{x}(h:cO x):cN 8 x.1/\cN 8 x.2.1/\cN 4 x.2.2.1/\cN 4 x.2.2.2.1/\cN 1 x.2.2.2.2.1/\cN 4 (Z x.2.2.2.2.2:Y):=by have⟨a1,a2,a3,a4,a5,a6,a7,a8,a9⟩:=h;grind[cN]
def VR.len{x}(h:VR x):(Ns x).length<=34406441:=by have b:=tB (l:=x.2.2.2.2.2) λe a=>(h.ent a).1;have c:=h.1.2.2.2.2.2.2.2.2;grind[Ns,n?,DY,aS]
def AGP{x}(h:cO x):IJ x=D (fV x):=by unfold IJ;rw[IW k! g! g!,AD];rw[IW (by simp only[AV,A0];simp) g! g!,AD];rw[IW (by simp only[AV,A0];simp) g! g!,AD];rw[IW (by simp only[AV,A0];simp) g! g!,AD];rw[IW (by simp only[AV,A0];simp) g! g!,AD];rw[IW (by simp only[AV,A0];simp) g! g!,AD];rfl
def rL{x}(h:VR x):G9 x=D (Ns x,0):=by
 have q:=h.1.2.2.2.2.2.2.2.2;have⟨b,g,d⟩:=YR (x:=x);have c:=d.2 h;subst c;unfold G9;rw[g,AD,CE,A!,AGP h.1,AD,cM (by rw[aS];decide),AD];have key:An (Ak (M4 x) (HM (fV x),0)) λr=>r=Ns x:=by
  refine CV (λ(s:Bc×Int)=>∃k:V,s.2=k/\k<=Z x.2.2.2.2.2/\s.1=HM (fV x)++K5 (x.2.2.2.2.2.take k)) (λs=>θ x.2.2.2.2.2-s.2.toNat) ⟨0,rfl,BS _,by simp[K5]⟩ ?_;rintro⟨y,z⟩ ⟨k,o,u,p⟩;subst o p;unfold M4;simp only[S];refine AC (λf=>?_) (λf=>k? (by rw[BN o!];rfl));refine AA (AI o! f) λv d=>?_;have a:=(h.ent d.2).1;have m:=TE a;have j:=tB (l:=x.2.2.2.2.2.take k) λe i=>(h.ent (EJ i)).1;have n:(x.2.2.2.2.2.take k).length<=4096:=q!
  rw[rK a,AD,cM m,AD];refine AA (CR (by rw[AV,DY,DY,aS];omega)) λw t=>?_;rw[Aa];refine y! ⟨k+1,q!,o!,?_⟩ q!
  grind[s?,List.take_add_one,Option.toList_some,TG,t?]
 obtain⟨r,hr,rfl⟩:=key;rw[hr];rfl
def WR(x:AS):Prop:=cO x/\∀e∈x.2.2.2.2.2,Fs e.2.2.2.2.2.2.1.2.2.1/\Fs e.2.2.2.2.2.2.1.2.2.2/\e.2.2.2.2.2.2.2=[]
def AEW{e}(h:KD e)(b:fU e=A):e.2.2.2.2.2.2.2=[]:=by
 have a:e.2.1=1\/e.2.1=2:=by grind[fU]
 have⟨_,_,_,_,_,_,_,_,c⟩:=h;grind[SI]
def VR.wr{x}(h:VR x):WR x:=⟨h.1,λe b=>by have a:=h.ent b;exact⟨a.1.cells.1,a.1.cells.2.1,AEW a.1 a.2.1⟩⟩
def ADU{e}(h:Ft e=D A)(f:fU e=A):e.2.2.2.2.2.2.2=[]:=by
 have d:e.2.1=1\/e.2.1=2:=by unfold fU at f;simpa using f
 have key:∀r,Ft e=D r->r=A->e.2.2.2.2.2.2.2=[]:=by
  have main:MT X (Ft e) λr=>r=A->e.2.2.2.2.2.2.2=[]:=by
   have o:∀{Q:O->Prop},(∀r,r=X->Q r)->MT X (D X) Q:=λm=>MT.some (m _ rfl);have a:MT X (D X) λr=>r=A->e.2.2.2.2.2.2.2=[]:=MT.some λb=>by cases b
   unfold Ft;refine MT.dec (λ_=>a) λ_=>MT.dec (λ_=>a) λ_=>MT.dec (λ_=>a) λ_=>MT.dec (λ_=>a) λ_=>MT.bind (ka G0) λp _=>MT.cond (λ_=>a) λ_=>MT.bind (ka G0) λq _=>MT.cond (λ_=>a) λ_=>MT.bind (ka G0) λs _=>MT.cond (λ_=>a) λ_=>MT.dec (O! · o!) λ_=>MT.dec (λi=>?_) λi=>?_;refine MT.dec (λ_=>a) λ_=>MT.bind (P:=λ_=>R) (MT.dec (λ_=>MT.some trivial) λ_=>MT.some trivial) λn _=>MT.cond (λ_=>a) λ_=>MT.bind (P:=λr=>r=X->e.2.2.2.2.2.2.2=[]) ?_ λt k=>?_;refine MT.cond (λl=>MT.some λb=>?_) λ_=>MT.some λb=>?_;rw[l]at b;cases b;simpa using b;refine MT.cond (λ_=>a) λb=>?_;exact⟨λc=>(by cases c),λr _ _=>k b⟩;refine MT.dec (λj=>?_) λj=>O! d o!;refine MT.dec (λ_=>a) λ_=>MT.bind (P:=λ_=>R) (MT.dec (λ_=>MT.some trivial) λ_=>MT.some trivial) λn _=>MT.cond (λ_=>a) λ_=>MT.cond (λ_=>a) λb=>?_;exact⟨λc=>(by cases c),λr _ _=>by simpa using b⟩
  exact main.2
 exact key A h rfl
def ABB{e}:BO e=D (fU e):=by unfold BO fU;grind
def zl{x}:An (NA x) λr=>r=A↔1<=x.1/\x.1<=x.2.1/\x.2.1<=1099511627776/\0<=x.2.2.1/\x.2.2.1<=x.2.2.2.1/\x.2.2.2.1<64/\0<=x.2.2.2.2.1/\x.2.2.2.2.1<=8:=by
 unfold NA;exact x!
def ADW{x:AS}{e:EN}:An (Qh (x,e)) λr=>r=A↔fU e=A/\x.2.2.1<=e.2.2.2.2.2.2.1.1/\e.2.2.2.2.2.2.1.1<=x.2.2.2.1/\x.1<=e.1/\e.1<=x.2.1:=by
 unfold Qh;rw[ABB,AD];refine AM (λa=>?_) (λa=>AB ⟨λb=>(by cases b),λb=>q!⟩);exact x!
def AJM(a b:Y):K6 [a,b]=D (if a≠0 then a else b):=by unfold K6;rw[show(0:Y)=((0:V):Y)from rfl,pV (k:=0) (v:=a) rfl o! k!];by_cases c:a=0;rw[C! c,pV (k:=1) (v:=b) rfl o! k!];grind[Df,Kt];grind
def ABC(f e:EN):∃c:Y,PM (f,e)=D c/\(c<0↔ltC f e):=by unfold PM;rw[AAj,AAj,AD,AD,AJM,AD];unfold ltC;grind
def ADV{x:AS}(I:Z x.2.2.2.2.2<=4096):An (Ak (Tl x) 0) λr=>(r=.inl X/\¬ ∀i,yY x i)\/(r=.inr ()/\∀e∈x.2.2.2.2.2,fU e=A/\e.2.2.2.2.2.2.2=[]):=by
 refine CV (λ(s:Int)=>0<=s/\s<=Z x.2.2.2.2.2/\∀e∈x.2.2.2.2.2.take s.toNat,fU e=A/\e.2.2.2.2.2.2.2=[]) (λs=>((Z x.2.2.2.2.2:Y)-s).toNat) ⟨Ag _,o!,λe p=>by simp at p⟩ (λs C=>?_);have⟨w,J,y⟩:=C;unfold Tl;simp only[S];refine AC (λu=>?_) (λu=>k? (.inr ⟨rfl,by rw[BN o!]at y;exact y⟩));obtain⟨k,rfl⟩:=Et w;refine AA (AI w u) λv d=>?_;have d:=d.1;rw[DF]at d;have a:(yY x k->False)->An (D (Step.done (.inl X)):W (Step Y (O⊕Unit))) (Jj (λs=>0<=s/\s<=Z x.2.2.2.2.2/\∀e∈x.2.2.2.2.2.take s.toNat,fU e=A/\e.2.2.2.2.2.2.2=[]) (λs=>((Z x.2.2.2.2.2:Y)-s).toNat) ((Z x.2.2.2.2.2:Y)-(k:Y)).toNat λr=>(r=.inl X/\¬ ∀i,yY x i)\/(r=.inr ()/\∀e∈x.2.2.2.2.2,fU e=A/\e.2.2.2.2.2.2.2=[])):=λh=>k? (.inl ⟨rfl,λD_=>h (D_ k)⟩);refine EM Hs λG z B=>AP (λj=>a λok=>?_) (λj=>?_);have:=B (ok v d).1.1;rw[j]at this;cases this;refine AA ADW λH t=>AP (λj=>a λok=>?_) (λm=>?_);have q:=(ok v d).1;have:=t.2 ⟨q.2.1,q.2.2.2.2.1,q.2.2.2.2.2,q.2.2.1,q.2.2.2.1⟩;rw[j]at this;cases this;have K:=ADU (by rw[z,j]) ((t.1 m).1);have b:An (D (Step.next (wi ((k:Y)+1))):W (Step Y (O⊕Unit))) (Jj (λs=>0<=s/\s<=Z x.2.2.2.2.2/\∀e∈x.2.2.2.2.2.take s.toNat,fU e=A/\e.2.2.2.2.2.2.2=[]) (λs=>((Z x.2.2.2.2.2:Y)-s).toNat) ((Z x.2.2.2.2.2:Y)-(k:Y)).toNat λr=>(r=.inl X/\¬ ∀i,yY x i)\/(r=.inr ()/\∀e∈x.2.2.2.2.2,fU e=A/\e.2.2.2.2.2.2.2=[])):=by
  rw[Aa];refine y! ⟨o!,o!,λe p=>?_⟩ o!
  rw[show((k:Y)+1).toNat=k+1 by omega,Ca,d]at p;grind[Option.toList_some,a!]
 have F:∀f,0<k->x.2.2.2.2.2[k-1]?=D f->ix x.2.2.2.2.2 (wi ((k:Y)-1))=D f:=λf A_ g=>by rw[show wi ((k:Y)-1)=((k-1:V):Y) by rw[Aa];omega];unfold ix;grind[s?]
 apply AQ<;>intro A_;refine AC (λo=>a λok=>?_) (λ_=>b);have:=(ok v d).2.1 o!;omega;have g:x.2.2.2.2.2[k-1]?=D (x.2.2.2.2.2[k-1]):=Au o!;generalize x.2.2.2.2.2[k-1]=f at g;rw[F f o! g,AD];apply AC<;>intro E;refine AC (λo=>a λok=>?_) (λ_=>b);have:=((ok v d).2.2 f o! g).2.2 o!;omega;have⟨c,n,l⟩:=ABC f v;rw[AD,n,AD];refine AC (λo=>a λok=>?_) (λo=>?_);have:=l.2 ((ok v d).2.2 f o! g).1;omega;refine AK (λhn=>a λok=>hn ?_) (λ_=>b);have:=l.1 o!;unfold ltC at this;exact((ok v d).2.2 f o! g).2.1 o!
def zm{x}:An (Vk x) λr=>(VR x->r=A)/\(r=A->cO x/\∀e∈x.2.2.2.2.2,fU e=A/\e.2.2.2.2.2.2.2=[]):=by refine AA zl λg c=>AP (λb=>AB ⟨λa=>?_,λa=>(by cases a)⟩) (λb=>?_);have⟨⟨a1,a2,a3,a4,a5,a6,a7,a8,a9⟩,_⟩:=a;grind;have hn:=c.1 b;refine AC (λf=>AB ⟨λa=>?_,λa=>(by cases a)⟩) (λd=>?_);have:=a.1.2.2.2.2.2.2.2.2;grind;simp[S]at d;refine AA (ADV o!) λr hr=>?_;rcases hr with⟨rfl,hr⟩|⟨rfl,hr⟩;exact BC (AB ⟨λa=>O! a.2 hr,λa=>(by cases a)⟩);exact A3 (AB ⟨λ_=>rfl,λ_=>⟨⟨hn.1,hn.2.1,hn.2.2.1,hn.2.2.2.1,hn.2.2.2.2.1,hn.2.2.2.2.2.1,hn.2.2.2.2.2.2.1,hn.2.2.2.2.2.2.2,o!⟩,hr⟩⟩)
def zr{p:Bc}(h:Z p=33):FZ (p,([80,77,82,78]:E UInt8))=D (p.take 4==[80,77,82,78]):=by grind[FZ,Ey,SH,σ]
abbrev ZR:=Y×(Y×(Y×(Y×(Y×AS))))
def wZ{p:Bc}(x:Z p=33)(t:p.take 4=[80,77,82,78]):∃b c d e f a:Y,(A4 (p,4,8)=D (b,0)∧A4 (p,12,8)=D (c,0)∧A4 (p,20,4)=D (d,0)∧A4 (p,24,4)=D (e,0)∧A4 (p,28,1)=D (f,0)∧A4 (p,29,4)=D (a,0))∧
  (B5 (p,4,8)=D (b,0)/\B5 (p,12,8)=D (c,0)/\B5 (p,20,4)=D (d,0)/\B5 (p,24,4)=D (e,0)/\B5 (p,28,1)=D (f,0)/\B5 (p,29,4)=D (a,0))/\
  p=[80,77,82,78]++(DB b 8++(DB c 8++(DB d 4++(DB e 4++(DB f 1++DB a 4)))))/\0<=a:=by
 have D_:(p.drop 4).length=29:=by rw[DO];omega
 have⟨b,J,a2,g,n,y,l2⟩:=ADD (k:=8) (at_:=4) (by rw[<-t,C4]:p=[80,77,82,78]++p.drop 4) g! o! g! g! o!;have⟨c,K,a3,h,o,z,E⟩:=ADD (k:=8) (at_:=12) n (by simp only[AV,A0];decide) o! g! g! o!;have⟨d,L,a4,i,q,A_,F⟩:=ADD (k:=4) (at_:=20) o (by simp only[AV,A0];decide) o! g! g! o!;have⟨e,M,a5,j,r,B,G⟩:=ADD (k:=4) (at_:=24) q (by simp only[AV,A0];decide) o! g! g! o!;have⟨f,N,a6,l,s,C,H⟩:=ADD (k:=1) (at_:=28) r (by simp only[AV,A0];decide) o! g! g! o!;have⟨a,v,a7,m,w,u,I⟩:=ADD (k:=4) (at_:=29) s (by simp only[AV,A0];decide) o! g! g! o!;have:v=[]:=Eu o!;subst this;refine⟨b,c,d,e,f,a,⟨a2,a3,a4,a5,a6,a7⟩,⟨g,h,i,j,l,m⟩,?_,(u.1 g!).1⟩;grind[t?]
def zM{x}(h:cO x):(A4 (fV x,4,8)=D (x.1,0)∧A4 (fV x,12,8)=D (x.2.1,0)∧A4 (fV x,20,4)=D (x.2.2.1,0)∧A4 (fV x,24,4)=D (x.2.2.2.1,0)∧A4 (fV x,28,1)=D (x.2.2.2.2.1,0)∧A4 (fV x,29,4)=D ((Z x.2.2.2.2.2:Y),0))∧
  (B5 (fV x,4,8)=D (x.1,0)/\B5 (fV x,12,8)=D (x.2.1,0)/\B5 (fV x,20,4)=D (x.2.2.1,0)/\B5 (fV x,24,4)=D (x.2.2.2.1,0)/\B5 (fV x,28,1)=D (x.2.2.2.2.1,0)/\B5 (fV x,29,4)=D ((Z x.2.2.2.2.2:Y),0)):=by
 have⟨i,j,l,m,n,o⟩:=h.inr;have q:=aS x;have a:fV x=[80,77,82,78]++(DB x.1 8++(DB x.2.1 8++(DB x.2.2.1 4++(DB x.2.2.2.1 4++(DB x.2.2.2.2.1 1++(DB (Z x.2.2.2.2.2:Y) 4++[])))))):=by rw[DR];rfl
 generalize fV x=p at*;have b:=kv (k:=8) (at_:=4) a g! o! g! g! i;rw[<-A2]at a;have c:=kv (k:=8) (at_:=12) a (by simp only[AV,A0];decide) o! g! g! j;rw[<-A2]at a;have d:=kv (k:=4) (at_:=20) a (by simp only[AV,A0];decide) o! g! g! l;rw[<-A2]at a;have e:=kv (k:=4) (at_:=24) a (by simp only[AV,A0];decide) o! g! g! m;rw[<-A2]at a;have f:=kv (k:=1) (at_:=28) a (by simp only[AV,A0];decide) o! g! g! n;rw[<-A2]at a;have g:=kv (k:=4) (at_:=29) a (by simp only[AV,A0];decide) o! g! g! o;exact⟨⟨b.1,c.1,d.1,e.1,f.1,g.1⟩,b.2,c.2,d.2,e.2,f.2,g.2⟩
def AKV{x p:Bc}{n:Y}{z:ZR}{j:Bc}(D_:Z x≤1099511627776)(l:x=HM p++j)(hn:0≤n)(o:n≤4096):An (Ak (HE x n) (((HM p).length:Y),0,[],z)) λr=>(∃u,r=.inl u∧u.1≠0)∨
  ∃a b,r=.inr (((HM p++K5 a).length:Y),a,z)/\(Z a:Y)=n/\x=(HM p++K5 a)++b/\∀e∈a,Fs e.2.2.2.2.2.2.1.2.2.1/\Fs e.2.2.2.2.2.2.1.2.2.2:=by
 refine CV (λs=>∃a b,s=(((HM p++K5 a).length:Y),(Z a:Y),a,z)/\(Z a:Y)<=n/\x=(HM p++K5 a)++b/\∀e∈a,Fs e.2.2.2.2.2.2.1.2.2.1/\Fs e.2.2.2.2.2.2.1.2.2.2) (λs=>(n-s.2.1).toNat)
  ⟨[],j,by simp[K5],by simpa using hn,by simpa[K5]using l,λe c=>by cases c⟩ ?_
 rintro s ⟨a,b,rfl,E,h,i⟩;unfold HE;dsimp only;refine AC (λm=>?_) (λm=>k? (.inr ⟨a,b,rfl,o!,h,i⟩));have g:=E! Z h;rw[AV]at g;rw[(by grind[Pd]:Bg (x,((HM p++K5 a).length:Y))=D (UF (HM p++K5 a).length b)),AD];refine AK (λc=>k? (.inl ⟨_,rfl,c⟩)) (λc=>?_);have⟨H,⟨d,t⟩,I⟩:=oP c;refine AA (AJZ o!) λv q=>AK (λc=>k? (.inl ⟨_,rfl,c⟩)) (λf=>?_);have⟨y,A_,B,J,K⟩:=q f;refine AA (Ac w!) λw C=>?_;have k:HM p++K5 (a++[v.1])=(HM p++K5 a)++HM (B6 v.1):=by rw[TG,A2]
 rw[Aa];refine y! ⟨a++[v.1],d,?_,by rw[AV,BW,Be];omega,?_,λe c=>?_⟩ d!
 have F:((HM p++K5 (a++[v.1])).length:Y)=((HM p++K5 a).length:Y)+8+((UF (HM p++K5 a).length b).1.length:Y):=by grind[n?,HM,K5,DY]
 have G:((a++[v.1]).length:Y)=(Z a:Y)+1:=by grind[n?,List.length_cons,List.length_nil]
 grind[Prod.ext];rw[k,<-y,A2,<-t];exact h;rcases Ah.1 c with c|c;exact i e c;rw[Ax.1 c];exact⟨A_,B⟩
def AJa{x:Bc}(w:Z x<=1099511627776):An (GD x) λr=>r.2=0->x=Ns r.1/\VR r.1:=by unfold GD;have q:Bg (x,0)=D (UF 0 x):=Pd (a:=[]) (t:=x) w!;rw[q,AD];refine AK (λh=>AB λb=>O! b h) (λh=>?_);have⟨Q,⟨P,z⟩,A_⟩:=oP h;generalize UF 0 x=v0 at*;refine AK (y? λb=>O! (show(4:Y)=0 from b) g!) (λg=>?_);simp[S]at g;rw[(by grind[SH]:SH v0.1 0 4=D (v0.1.take 4)),AD];refine AK (y? λb=>O! (show(4:Y)=0 from b) g!) (λm=>?_);have⟨K,L,M,N,O,y,⟨a2,a3,a4,a5,a6,a7⟩,⟨C,D_,E,F,G,H⟩,J,j⟩:=wZ (by omega:Z v0.1=33) (by simpa using m);unfold Ba;rw[a2,a3,a4,a5,a6,a7];simp only[AD];refine AC (y? λb=>O! (show(4:Y)=0 from b) g!) (λo=>?_);rw[(by rw[A_,DY];omega:v0.2.1=((HM v0.1).length:Y))];refine AA (AKV (n:=y) w z j (by first|omega|(dsimp only;omega))) λr hr=>?_;rcases hr with⟨u,rfl,s⟩|⟨I,e,rfl,i,k,p⟩;grind[BC,AB];apply A3;dsimp only at i⊢;have l:=E! Z k;rw[AV]at l;refine AK (y? λb=>O! (show(4:Y)=0 from b) g!) (λd=>?_);have c:e=[]:=Eu (by simp only[S]at d;omega);subst c;refine AA (YR) λB f=>AP (y? λb=>O! (show(40:Y)=0 from b) g!) (λv=>AB λ_=>⟨?_,f.1 v⟩);grind[Ns,fV]
def yM{x}(h:VR x):GD (Ns x)=D (x,0):=by
 have D_:=h.1.2.2.2.2.2.2.2.2;have j:=h.len;have o:=aS x;have⟨⟨a2,a3,a4,a5,a6,a7⟩,v,y,z,A_,B,C⟩:=zM h.1;unfold GD;have p:Bg (Ns x,0)=D (fV x,((HM (fV x)).length:Y),0):=by refine(Pd (a:=[]) (t:=Ns x) w!).trans (E! D ?_);grind[Ns,jy,DY,Prod.ext,List.length_nil]
 have l:(fV x).take 4=[80,77,82,78]:=rfl;rw[p,AD];dsimp only[S];rw[show((0:Y) !=0)=X by decide,A!,o,show(((33:V):Y) !=33)=X by decide,A!];rw[(by grind[SH]:SH (fV x) 0 4=D ((fV x).take 4)),AD,l,H!,A!];unfold Ba;rw[a2,a3,a4,a5,a6,a7];simp only[AD];rw[F! o!,A!];have key:An (Ak (HE (Ns x) (Z x.2.2.2.2.2:Y)) (((HM (fV x)).length:Y),0,[],x.1,x.2.1,x.2.2.1,x.2.2.2.1,x.2.2.2.2.1,0,0,0,0,0,[])) λr=>r=.inr (((Ns x).length:Y),x.2.2.2.2.2,x.1,x.2.1,x.2.2.1,x.2.2.2.1,x.2.2.2.2.1,0,0,0,0,0,[]):=by
  refine CV (λs=>∃k:V,k<=Z x.2.2.2.2.2/\s=(((HM (fV x)++K5 (x.2.2.2.2.2.take k)).length:Y),(k:Y),x.2.2.2.2.2.take k,x.1,x.2.1,x.2.2.1,x.2.2.2.1,x.2.2.2.2.1,0,0,0,0,0,[])) (Z x.2.2.2.2.2-·.2.1.toNat)
   ⟨0,BS _,by simp[K5]⟩ ?_
  rintro s ⟨k,F,rfl⟩;unfold HE;dsimp only;refine AC (λn=>?_) (λn=>k? ?_)
  ·have i:k<Z x.2.2.2.2.2:=o!
   have c:=(h.ent (KM i)).1;have e:K5 x.2.2.2.2.2=K5 (x.2.2.2.2.2.take k)++(HM (B6 x.2.2.2.2.2[k])++K5 (x.2.2.2.2.2.drop (k+1))):=by grind[pF,List.drop_eq_getElem_cons,K5,List.flatten_append,List.take_append_drop]
   have d:Ns x=(HM (fV x)++K5 (x.2.2.2.2.2.take k))++(HM (B6 x.2.2.2.2.2[k])++K5 (x.2.2.2.2.2.drop (k+1))):=by grind[Ns,t?]
   have g:=E! Z d;rw[AV]at g;have f:Bg (Ns x,((HM (fV x)++K5 (x.2.2.2.2.2.take k)).length:Y))=D (B6 x.2.2.2.2.2[k],((HM (fV x)++K5 (x.2.2.2.2.2.take k)).length:Y)+8+((B6 x.2.2.2.2.2[k]).length:Y),0):=by
    conv=>lhs;arg 1;rw[d]
    rw[Pd o!,jy (TE c)]
   rw[f,AD];dsimp only;rw[show((0:Y) !=0)=X by decide,A!,AFh c,AD];dsimp only;rw[show((0:Y) !=0)=X by decide,A!];refine AA (Ac (by rw[BU];simp;omega)) λw u=>?_;rw[Aa];refine y! ⟨k+1,o!,?_⟩ d!
   rw[u.1,Ca,Au i,nX,TG,<-A2,AV (bs:=HM (B6 x.2.2.2.2.2[k])),DY];grind[Prod.ext]
  rw[BN o!];rfl
 obtain⟨r,hr,rfl⟩:=key;rw[hr,AD,nY];dsimp only;rw[show(((Ns x).length:Y) !=S (Ns x))=X from H! _,A!];obtain⟨b,E,q⟩:=(YR)
 have m:b=A:=q.2 h;grind[Bool.not_true]
def AKS{x p:Bc}{n:(Y×Y)}{z:ZR}{j:Bc}(D_:Z x≤1099511627776)(l:x=HM p++j)(hn:0≤n.1)(o:n.1≤4096):An (Ak (Lb x n) (((HM p).length:Y),0,[],z)) λr=>(∃u,r=.inl u∧u.1≠0)∨
  ∃a b,r=.inr (((HM p++K5 a).length:Y),a,z)/\(Z a:Y)=n.1/\x=(HM p++K5 a)++b/\∀e∈a,Fs e.2.2.2.2.2.2.1.2.2.1/\Fs e.2.2.2.2.2.2.1.2.2.2:=by
 refine CV (λs=>∃a b,s=(((HM p++K5 a).length:Y),(Z a:Y),a,z)/\(Z a:Y)<=n.1/\x=(HM p++K5 a)++b/\∀e∈a,Fs e.2.2.2.2.2.2.1.2.2.1/\Fs e.2.2.2.2.2.2.1.2.2.2) (λs=>(n.1-s.2.1).toNat)
  ⟨[],j,by simp[K5],by simpa using hn,by simpa[K5]using l,λe c=>by cases c⟩ ?_
 rintro s ⟨a,b,rfl,E,h,i⟩;unfold Lb;dsimp only;refine AC (λm=>?_) (λm=>k? (.inr ⟨a,b,rfl,o!,h,i⟩));have g:=E! Z h;rw[AV]at g;rw[(by grind[Ru]:De (x,((HM p++K5 a).length:Y))=D (UF (HM p++K5 a).length b)),AD];refine AK (λc=>k? (.inl ⟨_,rfl,c⟩)) (λc=>?_);have⟨H,⟨d,t⟩,I⟩:=oP c;refine AA (AJQ o!) λv q=>AK (λc=>k? (.inl ⟨_,rfl,c⟩)) (λf=>?_);have⟨y,A_,B,J,K⟩:=q f;refine AA (Ac w!) λw C=>?_;have k:HM p++K5 (a++[v.1])=(HM p++K5 a)++HM (B6 v.1):=by rw[TG,A2]
 rw[Aa];refine y! ⟨a++[v.1],d,?_,by rw[AV,BW,Be];omega,?_,λe c=>?_⟩ d!
 have F:((HM p++K5 (a++[v.1])).length:Y)=((HM p++K5 a).length:Y)+8+((UF (HM p++K5 a).length b).1.length:Y):=by grind[n?,HM,K5,DY]
 have G:((a++[v.1]).length:Y)=(Z a:Y)+1:=by grind[n?,List.length_cons,List.length_nil]
 grind[Prod.ext];rw[k,<-y,A2,<-t];exact h;rcases Ah.1 c with c|c;exact i e c;rw[Ax.1 c];exact⟨A_,B⟩
def AJS{x:Bc}(H:Z x<=1099511627776):An (LW x) λr=>r.2=0->x=Ns r.1/\WR r.1:=by
 unfold LW;have E:De (x,0)=D (UF 0 x):=Ru (a:=[]) (t:=x) w!;rw[E,AD];refine AK (λc=>AB λb=>O! b c) (λc=>?_);have⟨U_,⟨T,J⟩,K⟩:=oP c;generalize UF 0 x=v0 at*;refine AK (y? λb=>O! (show(4:Y)=0 from b) g!) (λk=>?_);simp[len]at k;have q:Z v0.1=33:=o!
 rw[zr q,AD];refine AP (y? λb=>O! (show(4:Y)=0 from b) g!) (λD_=>?_);have⟨O,P,Q,R,S,I,⟨a2,a3,a4,a5,a6,a7⟩,⟨s,v,w,y,z,A_⟩,N,m⟩:=wZ q (by simpa using D_);rw[show wi (4+8)=12 from rfl,show wi (12+8)=20 from rfl,show wi (20+4)=24 from rfl,show wi (24+4)=28 from rfl,show wi (28+1)=29 from rfl];rw[s,v,w,y,z,A_];simp only[AD];refine AP (y? λb=>O! (show(4:Y)=0 from b) g!) (λf=>?_);have f:=N! f;rw[(by rw[K,DY];omega:v0.2.1=((HM v0.1).length:Y))];refine AA (AKS (n:=(I,0)) H J m (by first|omega|(dsimp only;omega))) λr hr=>?_;rcases hr with⟨u,rfl,F⟩|⟨M,i,rfl,l,o,g⟩;grind[BC,AB];apply A3;dsimp only at l⊢;have p:=E! Z o;rw[AV]at p;refine AC (y? λb=>O! (show(4:Y)=0 from b) g!) (λh=>?_);have d:i=[]:=Eu (by simp only[len]at h;omega);subst d;refine AA (zm) λL j=>AP (y? λb=>O! (show(40:Y)=0 from b) g!) (λG=>AB λ_=>⟨?_,?_⟩);grind[Ns,fV];have⟨B,C⟩:=j.2 G;exact⟨B,λe c=>⟨(g e c).1,(g e c).2,(C e c).2⟩⟩
def AJR{x}(h:VR x):LW (Ns x)=D (x,0):=by
 have E:=h.1.2.2.2.2.2.2.2.2;have j:=h.len;have l:=aS x;have⟨⟨a2,a3,a4,a5,a6,a7⟩,m,n,o,p,q,u⟩:=zM h.1;unfold LW;have B:De (Ns x,0)=D (fV x,((HM (fV x)).length:Y),0):=by refine(Ru (a:=[]) (t:=Ns x) w!).trans (E! D ?_);grind[Ns,jy,DY,Prod.ext,List.length_nil]
 have v:(fV x).take 4=[80,77,82,78]:=rfl;rw[B,AD];dsimp only[S];rw[show((0:Y) !=0)=X by decide,A!,l,show(((33:V):Y) !=33)=X by decide,A!];rw[zr l,AD,v,L!,CE,A!];rw[show wi (4+8)=12 from rfl,show wi (12+8)=20 from rfl,show wi (20+4)=24 from rfl,show wi (24+4)=28 from rfl,show wi (28+1)=29 from rfl];rw[m,n,o,p,q,u];simp only[AD];rw[G! o!,CE,A!];have key:An (Ak (Lb (Ns x) ((Z x.2.2.2.2.2:Y),0)) (((HM (fV x)).length:Y),0,[],x.1,x.2.1,x.2.2.1,x.2.2.2.1,x.2.2.2.2.1,0,0,0,0,0,[])) λr=>r=.inr (((Ns x).length:Y),x.2.2.2.2.2,x.1,x.2.1,x.2.2.1,x.2.2.2.1,x.2.2.2.2.1,0,0,0,0,0,[]):=by
  refine CV (λs=>∃k:V,k<=Z x.2.2.2.2.2/\s=(((HM (fV x)++K5 (x.2.2.2.2.2.take k)).length:Y),(k:Y),x.2.2.2.2.2.take k,x.1,x.2.1,x.2.2.1,x.2.2.2.1,x.2.2.2.2.1,0,0,0,0,0,[])) (Z x.2.2.2.2.2-·.2.1.toNat)
   ⟨0,BS _,by simp[K5]⟩ ?_
  rintro s ⟨k,F,rfl⟩;unfold Lb;dsimp only;refine AC (λz=>?_) (λz=>k? ?_)
  ·have i:k<Z x.2.2.2.2.2:=o!
   have c:=(h.ent (KM i)).1;have A_:=TE c;have d:K5 x.2.2.2.2.2=K5 (x.2.2.2.2.2.take k)++(HM (B6 x.2.2.2.2.2[k])++K5 (x.2.2.2.2.2.drop (k+1))):=by grind[pF,List.drop_eq_getElem_cons,K5,List.flatten_append,List.take_append_drop]
   have g:Ns x=(HM (fV x)++K5 (x.2.2.2.2.2.take k))++(HM (B6 x.2.2.2.2.2[k])++K5 (x.2.2.2.2.2.drop (k+1))):=by grind[Ns,t?]
   have f:=E! Z g;rw[AV]at f;rw[(by grind[Ru,jy]:De (Ns x,((HM (fV x)++K5 (x.2.2.2.2.2.take k)).length:Y))=D (B6 x.2.2.2.2.2[k],((HM (fV x)++K5 (x.2.2.2.2.2.take k)).length:Y)+8+((B6 x.2.2.2.2.2[k]).length:Y),0)),AD];dsimp only;rw[show((0:Y) !=0)=X by decide,A!,AJP c,AD];dsimp only;rw[show((0:Y) !=0)=X by decide,A!];refine AA (Ac (by rw[BU];simp;omega)) λw D_=>?_;rw[Aa];refine y! ⟨k+1,o!,?_⟩ d!
   rw[D_.1,Ca,Au i,nX,TG,<-A2,AV (bs:=HM (B6 x.2.2.2.2.2[k])),DY];grind[Prod.ext]
  rw[BN o!];rfl
 obtain⟨r,hr,rfl⟩:=key;rw[hr,AD,nY];dsimp only;rw[F! (by first|omega|(simp[S];omega)),A!];obtain⟨b,y,C⟩:=(zm)
 have e:b=A:=C.1 h;subst e;rw[y,AD,CE,A!]
def frames(P:E Bc):Bc:=(P.map HM).flatten
def Sml(P:E Bc):Prop:=∀p∈P,33<=Z p/\Z p<=255
def J0(p:Bc)(P:E Bc):frames (p::P)=HM p++frames P:=rfl
def TF{p:Bc}(h:Z p<=255):HM p=UInt8.ofNat (Z p)::0::0::0::(p++DB (QR (DB (Z p:Y) 4++p)) 4):=by
 have e:DB (Z p:Y) 4=[UInt8.ofNat (Z p),0,0,0]:=by simp only[DB];rw[show((Z p:Y)%256).toNat=Z p by omega,show((Z p:Y)/256%256).toNat=0 by omega,show((Z p:Y)/256/256%256).toNat=0 by omega,show((Z p:Y)/256/256/256%256).toNat=0 by omega];rfl
 unfold HM;grind
theorem qy{m n:V}(a:m<=255)(hn:n<=255)(h:UInt8.ofNat m=UInt8.ofNat n):m=n:=by grind[UInt8.toNat,UInt8.toNat_ofNat']
def zg{n:V}(h:33<=n)(hn:n<=255)(e:UInt8.ofNat n=0):False:=by have:=E! UInt8.toNat e;rw[fm]at this;grind
def xw:∀P Q,Sml P->Sml Q->∀(u v:Bc)(b:UInt8),frames P=u++v->frames Q=u++b::v->False
 |P,[],hP,hQ,u,v,b,h1,d=>by have:=E! Z d;simp[frames]at this
 |[],q::Q,hP,hQ,u,v,b,h1,d=>by have C:=E! Z h1;have z:=E! Z d;rw[J0,AV,DY]at z;simp only[frames,H5,List.flatten_nil,Be,AV,BW]at C z;have:=hQ q (As.2 (.inl rfl));omega
 |p::P,q::Q,hP,hQ,u,v,b,h1,d=>by
  obtain⟨J,n⟩:=hP p (As.2 (.inl rfl));obtain⟨N,y⟩:=hQ q (As.2 (.inl rfl));have f:Sml P:=λx w=>hP x (As.2 (.inr w));have g:Sml Q:=λx w=>hQ x (As.2 (.inr w));rw[J0]at h1 d;cases u with
  |nil=>rw[Bt]at h1 d;rw[<-h1,TF n,TF y,Dx,Dx]at d;injection d with _ d;injection d with d _;exact zg J n d.symm
  |cons a u=>
   have i:=h1;have j:=d;rw[TF n,Dx,Dx]at i;rw[TF y,Dx,Dx]at j;injection i with D_ _;injection j with E _;have o:Z p=Z q:=qy n y (D_.trans E.symm);have h:(HM p).length=(HM q).length:=by rw[DY,DY,o]
   rcases lh.1 h1 with⟨t,l,m⟩|⟨t,l,m⟩;rw[l,A2]at d;obtain⟨H,e⟩:=EO d h.symm;exact xw P Q f g t v b m e
   
   cases A_:t.reverse with
   |nil=>
    have s:t=[]:=by simpa using A_
    subst s;rw[DR]at l;rw[Bt]at m;rw[<-l,m]at d;obtain⟨H,e⟩:=EO d h.symm;exact xw P Q f g [] (frames P) b (by rw[Bt]) (by rw[Bt];exact e)
   |cons c r=>
    have k:t=r.reverse++[c]:=by have:=E! List.reverse A_;rwa[List.reverse_reverse,List.reverse_cons]at this
    have F:HM q++frames Q=((a::u)++b::r.reverse)++(c::frames P):=by rw[d,m,k];simp only[A2,Dx,Bt]
    have G:(HM q).length=((a::u)++b::r.reverse).length:=by have:=E! Z l;rw[k]at this;simp only[AV,BW,Be]at this⊢;omega
    obtain⟨_,e⟩:=EO F G;cases Q with
    |nil=>exact O! (E! Z e) (by simp[frames])
    |cons K Q=>
     obtain⟨O,L⟩:=g K (As.2 (.inl rfl));rw[J0,TF L,Dx,Dx]at e;injection e with _ e;cases P with
     |nil=>exact O! (E! Z e) (by simp[frames])
     |cons I P=>obtain⟨M,B⟩:=f I (As.2 (.inl rfl));rw[J0,TF B,Dx]at e;injection e with e _;exact zg M B e.symm
def AB7{p q u w:Bc}{a b:UInt8}(m:Z p=Z q)(g:HM p=u++a::w)(d:HM q=u++b::w):a=b:=by
 have r:HM p=(DB (Z p:Y) 4++p)++DB (QR (DB (Z p:Y) 4++p)) 4:=by unfold HM;rw[t?]
 have v:HM q=(DB (Z p:Y) 4++q)++DB (QR (DB (Z p:Y) 4++q)) 4:=by unfold HM;rw[t?,m]
 rw[r]at g;rw[v]at d;have h:(DB (Z p:Y) 4++p).length=(DB (Z p:Y) 4++q).length:=by rw[AV,AV,m]
 generalize DB (Z p:Y) 4++p=A_ at*;generalize DB (Z p:Y) 4++q=B at*;have l:∀s,cN 4 (QR s):=λs=>by have:=aJ s;exact⟨λ_=>by rw[show(256:Y)^4=4294967296 by decide];omega,o!⟩
 have C:=A0 4 (QR A_);have D_:=A0 4 (QR B);rcases lh.1 g with⟨t,f,j⟩|⟨t,f,j⟩
 
 have:B=A_:=by rw[f,A2]at d;exact(EO d h.symm).1
 subst this;have:=g.symm.trans d;have:=(EO this rfl).2;injection this;cases t with
 |nil=>
  rw[DR]at f;rw[f]at h;have i:=(EO d o!)
  have:B=A_:=by rw[i.1,f]
  rw[this]at d;rw[d]at g;have:=(EO g rfl).2;injection this with e _;exact e.symm
 |cons c t=>
  rw[Dx]at j;injection j with n o;subst n o;have z:B++DB (QR B) 4=(u++b::t)++DB (QR A_) 4:=by rw[d,A2,Dx]
  obtain⟨x,y⟩:=EO z (by rw[<-h,f,AV,AV,BW,BW]);have k:=YM g! (l B) (l A_) y;rw[x,f]at k;exact(AGs k).symm
def AA8:∀P Q,Sml P→Sml Q→(∀(i:V)(p q s t:Bc),P[i]?=D p→Q[i]?=D q→p++s=q++t→Z p=Z q)→
  ∀(u v:Bc)(a b:UInt8),frames P=u++a::v->frames Q=u++b::v->a=b
 |[],Q,hP,hQ,hf,u,v,a,b,f,e=>by have:=E! Z f;simp[frames]at this
 |P,[],hP,hQ,hf,u,v,a,b,f,e=>by have:=E! Z e;simp[frames]at this
 |p::P,q::Q,hP,hQ,hf,u,v,a,b,f,e=>by
  obtain⟨H,E⟩:=hP p (As.2 (.inl rfl));obtain⟨I,F⟩:=hQ q (As.2 (.inl rfl));have k:Sml P:=λx C=>hP x (As.2 (.inr C));have l:Sml Q:=λx C=>hQ x (As.2 (.inr C));have m:∀(i:V)(p q s t:Bc),P[i]?=D p->Q[i]?=D q->p++s=q++t->Z p=Z q:=λi p q s t A_ B=>hf (i+1) p q s t (by simpa using A_) (by simpa using B);rw[J0]at f e;cases u with
  |nil=>rw[Bt]at f e;rw[TF E,Dx]at f;rw[TF F,Dx]at e;injection f with y f;injection e with z e;rw[<-f]at e;simp only[Dx,A2]at e;injection e with _ e;injection e with _ e;injection e with _ e;have:=hf 0 p q _ _ rfl rfl e.symm;rw[<-y,<-z,this]
  |cons c u=>
   have n:=f;have o:=e;rw[TF E,Dx,Dx]at n;rw[TF F,Dx,Dx]at o;injection n with A_ _;injection o with B _;have r:Z p=Z q:=qy E F (A_.trans B.symm);have g:(HM p).length=(HM q).length:=by rw[DY,DY,r]
   rcases lh.1 f with⟨t,h,j⟩|⟨t,h,j⟩;rw[h,A2]at e;obtain⟨D_,w⟩:=EO e g.symm;exact AA8 P Q k l m t v a b j w;cases t with
   |nil=>rw[DR]at h;rw[Bt]at j;rw[<-h]at e;obtain⟨D_,w⟩:=EO e g.symm;exact AA8 P Q k l m [] v a b (by rw[Bt];exact j.symm) (by rw[Bt];exact w)
   |cons d t=>
    rw[Dx]at j;injection j with y z;subst y z;have G:HM q++frames Q=((c::u)++b::t)++frames P:=by rw[e];simp only[A2,Dx]
    obtain⟨D_,w⟩:=EO G (by rw[<-g,h];simp only[AV,BW]);exact AB7 r h D_
def wO{c d}(e:Fs c)(f:Fs d){s t:Bc}(h:VL c++s=VL d++t):(VL c).length=(VL d).length:=by
 have g:∀{c},Fs c->∃(n:Nat)(r:Bc),VL c=UInt8.ofNat n::r/\n<=255/\(VL c).length=if n=255 then 1 else n+1:=λ{c} e=>by
  have⟨b,w⟩:=c;have a:=e.1;dsimp only at a;unfold VL;cases b with
  |false=>exact⟨255,[],rfl,Ao _,rfl⟩
  |true=>refine⟨Z w,w,?_,o!,?_⟩;grind[DB];grind[n?,A0]
 grind[qy]
def AC8{e f:EN}(d:Fs e.2.2.2.2.2.2.1.2.2.1/\Fs e.2.2.2.2.2.2.1.2.2.2/\e.2.2.2.2.2.2.2=[])(g:Fs f.2.2.2.2.2.2.1.2.2.1/\Fs f.2.2.2.2.2.2.1.2.2.2/\f.2.2.2.2.2.2.2=[]){s t:Bc}(h:B6 e++s=B6 f++t):(B6 e).length=(B6 f).length:=by have⟨a1,a2,a3⟩:=d;have⟨a,b,c⟩:=g;unfold B6 at*;rw[a3,c]at*;simp at h;have st:∀{n m}{k}{x y:Bc},DB n k++x=DB m k++y->x=y:=λi=>(EO i (by rw[A0,A0])).2;have h:=st (st (st (st (st (st (st (st h)))))));have l1:=wO a1 a h;simp[AV,A0,l1,(wO a2 b ((EO h l1).2))]
def AFW(x:AS):E Bc:=fV x::x.2.2.2.2.2.map B6
def rf(x:AS):Ns x=frames (AFW x):=by unfold Ns AFW;rw[J0];unfold K5 frames;rw[Lh];rfl
def WR.sml{x}(h:WR x):Sml (AFW x):=λp a=>by rcases As.1 a with rfl|a;rw[aS];decide;obtain⟨e,f,rfl⟩:=BY.1 a;have⟨b,c,d⟩:=h.2 e f;have l1:=kT b;have l2:=kT c;unfold B6;rw[d];simp[AV,A0,Be];omega
inductive rN(s t:Bc):Prop where
 |more (u v:Bc) (b:UInt8) (h1:s=u++v) (h2:t=u++b::v)
 |less (u v:Bc) (b:UInt8) (h1:s=u++b::v) (h2:t=u++v)
 |other (u v:Bc) (a b:UInt8) (h:a≠b) (h1:s=u++a::v) (h2:t=u++b::v)
def AFK{x y}(g:WR x)(j:WR y)(h:rN (Ns x) (Ns y)):False:=by
 rw[rf,rf]at h;rcases h with⟨u,v,b,c,d⟩|⟨u,v,b,c,d⟩|⟨u,v,a,b,h,c,d⟩;exact xw _ _ g.sml j.sml u v b c d;exact xw _ _ j.sml g.sml u v b d c;refine h (AA8 _ _ g.sml j.sml (λi p q s t k l o=>?_) u v a b c d);cases i with
 |zero=>grind[AFW,List.getElem?_cons_zero,Option.some.injEq,aS]
 |succ i=>simp only[AFW,lu,CO,Tt]at k l;obtain⟨e,m,rfl⟩:=k;obtain⟨f,n,rfl⟩:=l;exact AC8 (g.2 e (BP m)) (j.2 f (BP n)) o
def AF4{a b n k:V}{d}(h:a<=k:=by omega)(c:k<a+n:=by omega):swR a b n d k=d[b+(k-a)]! :=C! ⟨h,c⟩
def AF5{a b n k:V}{d}(e:a+n<=b)(h:b<=k:=by omega)(c:k<b+n:=by omega):swR a b n d k=d[a+(k-b)]! :=by unfold swR;rw[D! o!,C! ⟨h,c⟩]
def sU{a b n k:V}{d}(h:k<a\/a+n<=k:=by omega)(c:k<b\/b+n<=k:=by omega):swR a b n d k=d[k]! :=by unfold swR;rw[D! o!,D! o!]
def yO(s m e:V)(d:T NE)(k:V):NE:=if s<=k/\k<s+(e-m)then d[m+(k-s)]! else if s+(e-m)<=k/\k<e then d[s+(k-(s+(e-m)))]! else d[k]!
def lK{s m e k:V}{d}(h:s<=k:=by omega)(a:k<s+(e-m):=by omega):yO s m e d k=d[m+(k-s)]! :=C! ⟨h,a⟩
def pZ{s m e k:V}{d}(h:s+(e-m)<=k:=by omega)(a:k<e:=by omega):yO s m e d k=d[s+(k-(s+(e-m)))]! :=by unfold yO;rw[D! o!,C! ⟨h,a⟩]
theorem Vo{s m e k:V}{d}(a:s<=m:=by omega)(b:m<=e:=by omega)(h:k<s\/e<=k:=by omega):yO s m e d k=d[k]! :=by unfold yO;rw[D! o!,D! o!]
def rR{d:T NE}{x y:V}(h:x=y):d[x]! =d[y]! :=by rw[h]
def AFn{m i j k:V}{d e:T NE}(o:i<=m)(p:1<=j)(l:j<i)(n:m+j<=d.size)(a:∀k,k<d.size->e[k]! =swR (m-i) m j d k)(b:k<d.size):yO (m-(i-j)) m (m+j) e k=yO (m-i) m (m+j) d k:=by rcases A1 k (m-i)with c|c;rw[Vo,Vo,a k b,sU];rcases A1 k (m-i+j)with f|f;rw[Vo,lK,a k b,AF4];rcases A1 k (m-(i-j)+j)with g|g;rw[lK,pZ,a _ o!,AF5 o!];exact rR o!;rcases A1 k (m+j)with h|h;rw[pZ,pZ,a _ o!,sU];exact rR o!;rw[Vo,Vo,a k b,sU]
def AFo{m i j k:V}{d e:T NE}(p:i<=m)(n:1<=i)(l:i<j)(o:m+j<=d.size)(a:∀k,k<d.size->e[k]! =swR (m-i) (m+j-i) i d k)(b:k<d.size):yO (m-i) m (m+(j-i)) e k=yO (m-i) m (m+j) d k:=by rcases A1 k (m-i)with c|c;rw[Vo,Vo,a k b,sU];rcases A1 k (m-i+(j-i))with f|f;rw[lK,lK,a _ o!,sU];rcases A1 k (m+(j-i))with g|g;rw[pZ,lK,a _ o!,AF4];exact rR o!;rcases A1 k (m+j)with h|h;rw[Vo,pZ,a _ o!,AF5 o!];exact rR o!;rw[Vo,Vo,a k b,sU]
def ADg{d:Array NE}{a m b:Nat}(L:a<m)(M:m<b)(N:b≤d.size)(Q:d.size≤16777216):
  An (FL d.toList ((a:Y),(m:Y),(b:Y))) λr=>∃e:Array NE,r=e.toList/\e.size=d.size/\∀k,k<d.size->e[k]! =yO a m b d k:=by
 unfold FL;have C:wi ((m:Y)-(a:Y))=((m-a:Nat):Y):=by rw[oK];omega
 have D_:wi ((b:Y)-(m:Y))=((b-m:Nat):Y):=by rw[oK];omega
 dsimp only;rw[C,D_];refine AA (P:=λ(r:Int×List NE)=>∃(i:Nat)(e:Array NE),r.1=i/\r.2=e.toList/\1<=i/\i<=m-a/\m+i<=b/\e.size=d.size/\∀k,k<d.size->yO (m-i) m (m+i) e k=yO a m b d k) ?_ ?_;refine AY (λ(s:Int×(Int×List NE))=>∃(i j:Nat)(e:Array NE),s.1=i/\s.2.1=j/\s.2.2=e.toList/\1<=i/\1<=j/\i<=m-a/\m+j<=b/\e.size=d.size/\∀k,k<d.size->yO (m-i) m (m+j) e k=yO a m b d k) (λs=>(s.1+s.2.1).toNat)
  ⟨m-a,b-m,d,rfl,rfl,rfl,o!,o!,Ao _,o!,rfl,λk _=>by rw[show m-(m-a)=a by omega,show m+(b-m)=b by omega]⟩ ?_
 rintro⟨R,S,T⟩ ⟨i,j,e,o,p,w,q,y,z,A_,K,B⟩;dsimp only at o p w;subst o p w;unfold JV;dsimp only;have t:wi ((m:Y)-(i:Y))=((m-i:Nat):Y):=by rw[oK];omega
 rw[t];refine AK (λJ=>?_) (λI=>AB ⟨i,e,rfl,rfl,q,z,o!,K,λk g=>?_⟩);apply AC<;>intro O;apply AA (yU (d:=e) (a:=m-i) (b:=m) (n:=j) o! o! o!);rintro v ⟨f,rfl,h,l⟩;have c:ξ (Z f.toList) (Z e.toList)=A:=by rw[EA,EA,h];exact H6 _
 have u:wi ((i:Y)-(j:Y))=((i-j:Nat):Y):=by rw[oK];omega
 rw[c,B!,u];refine AB ⟨⟨i-j,j,f,rfl,rfl,rfl,o!,y,o!,A_,o!,λk g=>?_⟩,?_⟩;rw[AFn o! y o! o! l o!,B k g];show(((i-j:Nat):Y)+(j:Y)).toNat<((i:Y)+(j:Y)).toNat
 omega;have E:wi (wi ((m:Y)+(j:Y))-(i:Y))=((m+j-i:Nat):Y):=by rw[oK (x:=(m:Y)+(j:Y)),oK];omega
 rw[E];apply AA (yU (d:=e) (a:=m-i) (b:=m+j-i) (n:=i) o! o! o!);rintro v ⟨f,rfl,h,l⟩;have c:ξ (Z f.toList) (Z e.toList)=A:=by rw[EA,EA,h];exact H6 _
 have u:wi ((j:Y)-(i:Y))=((j-i:Nat):Y):=by rw[oK];omega
 rw[c,B!,u];refine AB ⟨⟨i,j-i,f,rfl,rfl,rfl,q,o!,z,o!,o!,λk g=>?_⟩,?_⟩;rw[AFo o! q o! o! l o!,B k g];show((i:Y)+((j-i:Nat):Y)).toNat<((i:Y)+(j:Y)).toNat
 omega;have:j=i:=o!
 subst this;exact B k g;rintro⟨U_,V⟩ ⟨i,e,o,p,w,q,y,z,A_⟩;dsimp only at o p;subst o p;dsimp only;have t:wi ((m:Y)-(i:Y))=((m-i:Nat):Y):=by rw[oK];omega
 rw[t];apply AA (yU (d:=e) (a:=m-i) (b:=m) (n:=i) o! o! o!);rintro v ⟨f,rfl,h,l⟩;have c:ξ (Z f.toList) (Z e.toList)=A:=by rw[EA,EA,h];exact H6 _
 rw[c,B!];refine AB ⟨f,rfl,o!,λk g=>?_⟩;rw[<-A_ k g,l k o!];rcases A1 k (m-i)with F|F;rw[sU,Vo];rcases A1 k m with G|G;rw[AF4,lK];rcases A1 k (m+i)with H|H;rw[AF5 o!,pZ];exact rR o!;rw[sU,Vo]
def ze{i j:V}(h:i+j<=1099511627776):wi (Int.fdiv (ι .u64 (wi ((i:Y)+(j:Y)))) (2^(min (ο 1) 64)))=(((i+j)/2:V):Y):=by rw[AA3];omega
def bs{body:Y×Y→W (Step (Y×Y) Y)}{P:V→O}{b a:V}(m:∀i:V,body ((i:Y),(i:Y))=D (.done (i:Y)))
  (s:∀i j:V,b<=i->i<j->j<=a->body ((i:Y),(j:Y))=D (.next (if P ((i+j)/2)=A then((((i+j)/2+1:V):Y),(j:Y))else((i:Y),(((i+j)/2:V):Y))))) (l:b<=a):
  ∃r:V,Ak body ((b:Y),(a:Y))=D (r:Y)/\b<=r/\r<=a/\(b<r->P (r-1)=A)/\(r<a->P r=X):=by
 suffices h:∀n i j:V,j-i<=n->b<=i->i<=j->j<=a->(b<i->P (i-1)=A)->(j<a->P j=X)->∃r:V,Ak body ((i:Y),(j:Y))=D (r:Y)/\b<=r/\r<=a/\(b<r->P (r-1)=A)/\(r<a->P r=X)from
  h _ b a (Ao _) (Ao _) l (Ao _) (O! · o!) (O! · o!)
 intro n;induction n with
 |zero=>
  intro i j p c q d e f;have:i=j:=o!
  subst this;rw[Df,m];exact⟨i,rfl,c,d,e,f⟩
 |succ n o=>intro i j p c q d e f;rw[Df];by_cases k:i=j;subst k;rw[m];exact⟨i,rfl,c,d,e,f⟩;rw[s i j c o! d];by_cases g:P ((i+j)/2)=A;rw[C! g];exact o _ j o! o! o! d (λ_=>by rw[nS];exact g) f;rw[D! g];exact o i _ o! c o! o! e (λ_=>by simpa using g)
def AKY{d:T NE}{a m b:V}(o:a<d.size)(g:m≤b)(p:b≤d.size)(q:d.size≤16777216)(c:Y×Y):
  ∃r:V,Ak (Db d.toList ((a:Y),c)) ((m:Y),(b:Y))=D (r:Y)/\m<=r/\r<=b/\(m<r->lN d[r-1]! d[a]! =A)/\(r<b->lN d[r]! d[a]! =X):=by
 refine bs (P:=λk=>lN d[k]! d[a]!) (λi=>?_) (λi j h l n=>?_) g;unfold Db;have:τ ((i:Y)<(i:Y))=X:=k!
 dsimp only;rw[this,A!];unfold Db;have:τ ((i:Y)<(j:Y))=A:=w!
 dsimp only;rw[this,B!,ze o!];obtain⟨v,e,f⟩:=AHh d[(i+j)/2]! d[a]!;rw[ixG (k:=(i+j)/2) rfl,ixG (k:=a) rfl];simp only[AD,e,f,wip (i:=(i+j)/2)];cases lN d[(i+j)/2]! d[a]! <;>rfl
def AKZ{d:T NE}{a r b:V}(h:a<r)(hr:r≤b)(D_:b≤d.size)(E:d.size≤16777216):
  An (Ak (ET (r:Y)) ((a:Y),d.toList)) λq=>∃e:T NE,q=e.toList/\Sort.PermIn a b d e/\(∀t,a<=t->t<r-1->e[t]! =d[t+1]!)/\e[r-1]! =d[a]! /\∀t,r<=t->e[t]! =d[t]! :=by
 refine AY (λ(s:Int×List NE)=>∃(k:V)(e:T NE),s.1=k/\s.2=e.toList/\a<=k/\k<r/\Sort.PermIn a b d e/\(∀t,a<=t->t<k->e[t]! =d[t+1]!)/\e[k]! =d[a]! /\∀t,k<t->e[t]! =d[t]!) (r-·.1.toNat) ⟨a,d,rfl,rfl,Ao _,h,Sort.permIn_refl _ _ _,λt _ _=>o!,rfl,λt _=>rfl⟩ ?_;rintro⟨H,I⟩ ⟨k,e,n,o,C,G,l,p,u,m⟩;dsimp only at n o;subst n o;have F:=l.1;unfold ET;dsimp only;have v:wi ((r:Y)-1)=((r-1:V):Y):=by rw[wim];omega
 rw[v];refine AC (λx=>?_) (λx=>AB ⟨e,rfl,l,λt g w=>p t g o!,?_,λt y=>m t o!⟩);have z:ix e.toList ((k+1:V):Y)=D e[k+1]! :=ixG rfl;have A_:ix e.toList (k:Y)=D e[k]! :=ixG rfl;have B:ix (Es e.toList (k:Y) e[k+1]!) ((k+1:V):Y)=D (e.setIfInBounds k e[k+1]!)[k+1]! :=AHC rfl rfl;simp only[wip (i:=k),z,A_,B,AD,AHv (d:=e) (a:=k) (b:=k+1) rfl rfl];have c:=Sort.swp_get e (i:=k) (j:=k+1) o! o!;refine AB ⟨⟨k+1,_,rfl,rfl,o!,o!,Sort.permIn_trans _ _ _ _ _ l (Sort.swp_permIn e a b k (k+1) C o! o! o! o!),λt g w=>?_,?_,λt y=>?_⟩,?_⟩;rw[c,D! o!];by_cases f:t=k;subst f;rw[C! rfl];exact m _ o!;rw[D! f];exact p t g o!;rw[c,C! rfl];exact u;rw[c,D! o!,D! o!];exact m t o!;show r-((k+1:V):Y).toNat<r-((k:V):Y).toNat
 omega;have:k=r-1:=o!
 rw[<-this];exact u
def AFx{d:T NE}{a b:V}(o:a+1≤b)(z:b≤d.size)(A_:d.size≤16777216)(k:Sort.SortedIn lN (a+1) b d)(c:Y×Y):
  An (σ (Ak (Db d.toList ((a:Y),c)) (((a+1:V):Y),(b:Y))) λv=>σ (Ak (ET v) ((a:Y),d.toList)) λw=>D w) λq=>∃e:T NE,q=e.toList/\Sort.PermIn a b d e/\Sort.SortedIn lN a b e:=by
 obtain⟨r,g,H,I,J,K⟩:=AKY (d:=d) (a:=a) (m:=a+1) (b:=b) o! o z A_ c;rw[g,AD];apply AA (AKZ (d:=d) (a:=a) (r:=r) (b:=b) o! I z A_);rintro q ⟨e,rfl,G,n,B,C⟩;refine AB ⟨e,rfl,G,λx y p s u=>?_⟩;have W:=vS;have F:∀t,a+1<=t->t<r->lN d[a]! d[t]! =X:=λt h l=>by
  have f:=J o!;cases D_:lN d[a]! d[t]! with
  |false=>rfl
  |true=>have i:=W.trans _ _ _ f D_;rcases A1 t (r-1)with j|j;exact O! i (by rw[k t (r-1) h j o!];decide);rw[show t=r-1 by omega,W.irrefl]at i;cases i
 have E:∀t,r<=t->t<b->lN d[t]! d[a]! =X:=λt h l=>by have f:=K o!;rcases A1 r t with j|j;exact W.ntrans _ _ _ (k r t H j l) f;rw[show t=r by omega];exact f
 rcases A1 y (r-1)with h|h;rw[n x p o!,n y o! h];exact k (x+1) (y+1) o! o! o!;rcases A1 (r-1) y with l|l;rw[C y o!];rcases A1 x (r-1)with f|f;rw[n x p f];exact k (x+1) y o! o! u;rcases A1 (r-1) x with i|i;rw[C x o!];exact k x y o! s u;rw[show x=r-1 by omega,B];exact E y o! u;rw[show y=r-1 by omega,B,n x p o!];exact F (x+1) o! o!
def AKa{d:T NE}{a m:V}(l:a≤m)(w:m<d.size)(u:d.size≤16777216)(b:Y):
  ∃r:V,Ak (Cd d.toList ((a:Y),(m:Y),b)) ((a:Y),(m:Y))=D (r:Y)/\a<=r/\r<=m/\(a<r->lN d[m]! d[r-1]! =X)/\(r<m->lN d[m]! d[r]! =A):=by
 have c:∀i:V,Cd d.toList ((a:Y),(m:Y),b) ((i:Y),(i:Y))=D (.done (i:Y)):=λi=>by
  unfold Cd;have:τ ((i:Y)<(i:Y))=X:=k!
  dsimp only;rw[this,A!]
 have e:∀i j:V,a<=i->i<j->j<=m->Cd d.toList ((a:Y),(m:Y),b) ((i:Y),(j:Y))=D (.next (if(!lN d[m]! d[(i+j)/2]!)=A then((((i+j)/2+1:V):Y),(j:Y))else((i:Y),(((i+j)/2:V):Y)))):=λi j q s t=>by
  unfold Cd;have:τ ((i:Y)<(j:Y))=A:=w!
  dsimp only;rw[this,B!,ze o!];obtain⟨v,f,g⟩:=AHh d[m]! d[(i+j)/2]!;rw[ixG (k:=(i+j)/2) rfl,ixG (k:=m) rfl];simp only[AD,f,g,wip (i:=(i+j)/2)];cases lN d[m]! d[(i+j)/2]! <;>rfl
 obtain⟨r,f,g,n,o,p⟩:=bs (P:=λk=>!lN d[m]! d[k]!) c e l;exact⟨r,f,g,n,λh=>by simpa using o h,λh=>by simpa using p h⟩
def AKb{d:T NE}{a r m:V}(x:a≤r)(hr:r≤m)(E:m<d.size)(D_:d.size≤16777216):
  An (Ak (EU (r:Y)) ((m:Y),d.toList)) λq=>∃e:T NE,q=e.toList/\Sort.PermIn a (m+1) d e/\(∀t,r<t->t<=m->e[t]! =d[t-1]!)/\e[r]! =d[m]! /\∀t,t<r->e[t]! =d[t]! :=by
 refine AY (λ(s:Int×List NE)=>∃(k:V)(e:T NE),s.1=k/\s.2=e.toList/\r<=k/\k<=m/\Sort.PermIn a (m+1) d e/\(∀t,k<t->t<=m->e[t]! =d[t-1]!)/\e[k]! =d[m]! /\∀t,t<k->e[t]! =d[t]!) (·.1.toNat) ⟨m,d,rfl,rfl,hr,Ao _,Sort.permIn_refl _ _ _,λt _ _=>o!,rfl,λt _=>rfl⟩ ?_;rintro⟨I,J⟩ ⟨k,e,n,o,G,H,h,p,u,l⟩;dsimp only at n o;subst n o;have F:=h.1;unfold EU;dsimp only;refine AC (λy=>?_) (λy=>AB ⟨e,rfl,h,λt w g=>p t o! g,?_,λt z=>l t o!⟩);have v:wi ((k:Y)-1)=((k-1:V):Y):=by rw[wim];omega
 have A_:ix e.toList ((k-1:V):Y)=D e[k-1]! :=ixG rfl;have B:ix e.toList (k:Y)=D e[k]! :=ixG rfl;have C:ix (Es e.toList (k:Y) e[k-1]!) ((k-1:V):Y)=D (e.setIfInBounds k e[k-1]!)[k-1]! :=AHC rfl rfl;simp only[v,A_,B,C,AD,AHv (d:=e) (a:=k) (b:=k-1) rfl rfl];have c:=Sort.swp_get e (i:=k) (j:=k-1) o! o!;refine AB ⟨⟨k-1,_,rfl,rfl,o!,o!,Sort.permIn_trans _ _ _ _ _ h (Sort.swp_permIn e a (m+1) k (k-1) o! o! o! o! o!),λt w g=>?_,?_,λt z=>?_⟩,?_⟩;rw[c,D! o!];by_cases f:t=k;subst f;rw[C! rfl];exact l _ o!;rw[D! f];exact p t o! g;rw[c,C! rfl];exact u;rw[c,D! o!,D! o!];exact l t o!;show((k-1:V):Y).toNat<((k:V):Y).toNat
 omega;have:k=r:=o!
 rw[<-this];exact u
def AHn{d:T NE}{a m:V}(n:a≤m)(u:m<d.size)(s:d.size≤16777216)(k:Sort.SortedIn lN a m d)(b:Y):
  An (σ (Ak (Cd d.toList ((a:Y),(m:Y),b)) ((a:Y),(m:Y))) λv=>σ (Ak (EU v) ((m:Y),d.toList)) λw=>D w) λq=>∃e:T NE,q=e.toList/\Sort.PermIn a (m+1) d e/\Sort.SortedIn lN a (m+1) e:=by
 obtain⟨r,g,B,G,H,I⟩:=AKa (d:=d) (a:=a) (m:=m) n u s b;rw[g,AD];apply AA (AKb (d:=d) (a:=a) (r:=r) (m:=m) B G u s);rintro q ⟨e,rfl,F,z,A_,l⟩;refine AB ⟨e,rfl,F,λx y o p J=>?_⟩;have W:=vS;have E:∀t,a<=t->t<r->lN d[m]! d[t]! =X:=λt h i=>by have c:=H o!;rcases A1 t (r-1)with j|j;exact W.ntrans _ _ _ c (k t (r-1) h j o!);rw[show t=r-1 by omega];exact c
 have D_:∀t,r<=t->t<m->lN d[t]! d[m]! =X:=λt h i=>by
  have c:=I o!;cases C:lN d[t]! d[m]! with
  |false=>rfl
  |true=>have f:=W.trans _ _ _ C c;rcases A1 r t with j|j;exact O! f (by rw[k r t B j i];decide);rw[show t=r by omega,W.irrefl]at f;cases f
 rcases A1 y r with h|h;rw[l x o!,l y h];exact k x y o p o!;rcases A1 r y with i|i;rw[z y i o!];rcases A1 x r with c|c;rw[l x c];exact k x (y-1) o o! o!;rcases A1 r x with f|f;rw[z x f o!];exact k (x-1) (y-1) o! o! o!;rw[show x=r by omega,A_];exact D_ (y-1) o! o!;rw[show y=r by omega,A_,l x o!];exact E x o o!
def AKc{d:T NE}{a m b lo hi:V}(l:lo≤hi)(s:a≤lo)(t:hi≤m)(u:(a+b)/2+m-lo≤b)(y:hi≤(a+b)/2+m)(w:m≤b)(z:b≤d.size)(A:d.size≤16777216):
  ∃r:V,Ak (Cw d.toList ((a:Y),(m:Y),(b:Y))) ((lo:Y),(hi:Y))=D (r:Y)/\lo<=r/\r<=hi/\(lo<r->lN d[(a+b)/2+m-1-(r-1)]! d[r-1]! =X)/\(r<hi->lN d[(a+b)/2+m-1-r]! d[r]! =ζ):=by
 have c:∀i:V,Cw d.toList ((a:Y),(m:Y),(b:Y)) ((i:Y),(i:Y))=D (.done (i:Y)):=λi=>by
  unfold Cw;have:τ ((i:Y)<(i:Y))=X:=k!
  dsimp only;rw[this,A!]
 have e:∀i j:V,lo<=i->i<j->j<=hi->Cw d.toList ((a:Y),(m:Y),(b:Y)) ((i:Y),(j:Y))=D (.next (if(!lN d[(a+b)/2+m-1-(i+j)/2]! d[(i+j)/2]!)=ζ then((((i+j)/2+1:V):Y),(j:Y))else((i:Y),(((i+j)/2:V):Y)))):=λi j s t u=>by
  unfold Cw;have:τ ((i:Y)<(j:Y))=ζ:=w!
  dsimp only;rw[this,B!,ze (i:=i) (j:=j) o!,ze (i:=a) (j:=b) o!];have n:wi (wi (wi ((((a+b)/2:V):Y)+(m:Y))-1)-(((i+j)/2:V):Y))=(((a+b)/2+m-1-(i+j)/2:V):Y):=by rw[oK (x:=(((a+b)/2:V):Y)+(m:Y)),oK (x:=(((a+b)/2:V):Y)+(m:Y)-1),oK];omega
  obtain⟨v,f,g⟩:=AHh d[(a+b)/2+m-1-(i+j)/2]! d[(i+j)/2]!;rw[n,ixG (k:=(i+j)/2) rfl,ixG (k:=(a+b)/2+m-1-(i+j)/2) rfl];simp only[AD,f,g,wip (i:=(i+j)/2)];cases lN d[(a+b)/2+m-1-(i+j)/2]! d[(i+j)/2]! <;>rfl
 obtain⟨r,f,g,o,p,q⟩:=bs (P:=λk=>!lN d[(a+b)/2+m-1-k]! d[k]!) c e l;exact⟨r,f,g,o,λh=>by simpa using p h,λh=>by simpa using q h⟩
def AHg{s m e:V}{d f:T NE}(o:s<=m)(p:m<=e)(b:e<=d.size)(c:f.size=d.size)(h:∀k,k<d.size->f[k]! =yO s m e d k):Sort.PermIn s e d f:=by
 refine⟨c,λi a=>?_,?_⟩;grind[Nat.lt_or_ge,Vo];have key:∀(g:Nat->NE)(s n:Nat),(List.range' s n).map g=(List.range n).map λi=>g (s+i):=λg s n=>by rw[List.range'_eq_map_range,Lh];rfl
 rw[Sort.extract_toList f s e o!,Sort.extract_toList d s e b];have j:List.range' s (e-s)=List.range' s (e-m)++List.range' (s+(e-m)) (m-s):=q!
 have l:List.range' s (e-s)=List.range' s (m-s)++List.range' (s+(m-s)) (e-m):=q!
 have l1:(List.range' s (e-m)).map (λi=>f[i]!)=(List.range' (s+(m-s)) (e-m)).map λi=>d[i]! :=by rw[key,key];refine Lg λi a=>?_;have:=Ie.1 a;rw[h _ o!,lK];simp_all
 have l2:(List.range' (s+(e-m)) (m-s)).map (λi=>f[i]!)=(List.range' s (m-s)).map λi=>d[i]! :=by rw[key,key];refine Lg λi a=>?_;have:=Ie.1 a;rw[h _ o!,pZ];simp_all
 grind
def yg(a b:V)(d e:T NE):Prop:=Sort.PermIn a b d e/\Sort.SortedIn lN a b e
def pd{a m b:V}{d}(h:m<=a\/b<=m)(c:Sort.SortedIn lN a m d)(e:Sort.SortedIn lN m b d)(f:a<=m)(g:m<=b):Sort.SortedIn lN a b d:=by
 rcases h with h|h;have:m=a:=o!
 rw[<-this];exact e;have:m=b:=o!
 rw[<-this];exact c
def ALF{G:Ψ NE×(Int×(Int×Int))→Ω (Ψ NE)}{N a m b:Nat}{d:Array NE}(a7:a<m)(a8:m<b)(hb:b≤d.size)(hd:d.size≤16777216)(C:Sort.SortedIn lN a m d)(D_:Sort.SortedIn lN m b d)
  (S:∀(V:Array NE)(Z m' U_:Nat),Z<m'->m'<U_->U_<=V.size->V.size<=16777216->Sort.SortedIn lN Z m' V->Sort.SortedIn lN m' U_ V->PT (U_-Z<=N) (G (V.toList,(Z:Int),(m':Int),(U_:Int))) λr=>∃e:Array NE,r=e.toList/\yg Z U_ V e):
  PT (b-a<=N+1) (CT G d.toList ((a:Int),(m:Int),(b:Int))) λr=>∃e:Array NE,r=e.toList/\yg a b d e:=by
 have W:=vS;unfold CT;have e0:wi ((m:Int)-(a:Int))=((m-a:Nat):Int):=by grind[oK]
 have e1:wi ((b:Int)-(m:Int))=((b-m:Nat):Int):=by grind[oK]
 dsimp only;rw[e0,e1,ze (i:=a) (j:=b) o!];apply PT.cond<;>intro T;have T:m=a+1:=by have:=eq_of_beq T;omega
 subst T;exact kY (AFx o! hb hd D_ _);apply PT.cond<;>intro o;have o:b=m+1:=by have:=eq_of_beq o;omega
 subst o;exact kY (AHn o! hb hd C _);have n1:m-a≠1:=λh=>by rw[h]at T;exact O! T g!
 have n2:b-m≠1:=λh=>by rw[h]at o;exact O! o g!
 have al:a<(a+b)/2/\(a+b)/2<b:=o!
 generalize hM:(a+b)/2=M at al⊢;have e2:wi ((M:Int)+(m:Int))=((M+m:Nat):Int):=by rw[oK];omega
 rw[e2];refine PT.bind (P:=λv=>∃R O:Nat,v=((R:Int),(O:Int))/\R<=O/\a<=R/\O<=m/\O<=M/\M+m-R<=b/\(R=a\/M+m-R=b)/\(O=m\/O=M)) ?_ ?_;refine PT.dec (λhc=>PT.some ⟨M+m-b,M,?_,o!⟩) (λhc=>PT.some ⟨a,m,rfl,o!⟩);rw[oK];exact E! (λz=>(z,(M:Int))) o!;rintro v ⟨R,O,rfl,f1,f2,f3,f4,f5,f6,f7⟩;have⟨r,g,r1,r2,r3,r4⟩:=AKc (d:=d) (a:=a) (m:=m) (b:=b) (lo:=R) (hi:=O) f1 f2 f3 o! o! o! hb hd;rw[hM]at r3 r4;rw[g,AD];have e3:wi (((M+m:Nat):Int)-(r:Int))=((M+m-r:Nat):Int):=by rw[oK];omega
 simp only[e3];obtain⟨E,hE⟩:∃E,E=M+m-r:=⟨_,rfl⟩
 rw[<-hE];have c1:a<r->E<b->lN d[E]! d[r-1]! =X:=λT o=>by have:=r3 o!;rw[show M+m-1-(r-1)=E by omega]at this;exact this
 have c2:r<m->m<E->lN d[E-1]! d[r]! =A:=λT o=>by have:=r4 o!;rw[show M+m-1-r=E-1 by omega]at this;exact this
 have s3:∀c n:Array NE,Sort.PermIn a b d c->(∀k,k<d.size->c[k]! =yO r m E d k)->yg a M c n->PT (b-a<=N+1) (bif τ ((M:Int)<(E:Int))then σ (bif τ ((E:Int)<(b:Int))then σ (G (n.toList,(M:Int),(E:Int),(b:Int))) λv=>bif ξ (θ v) (θ n.toList)then D v else U else D n.toList) λv=>D v else D n.toList) λq=>∃e:Array NE,q=e.toList/\yg a b d e:=by
  intro c n Y f o;have z1:c.size=d.size:=Y.1;have z2:n.size=c.size:=o.1.1;have a1:∀k,k<r->c[k]! =d[k]! :=λk hk=>by rw[f k o!,Vo]
  have a2:∀k,r<=k->k<M->c[k]! =d[m+(k-r)]! :=λk h h'=>by rw[f k o!,lK]
  have K:∀k,M<=k->k<E->c[k]! =d[r+(k-M)]! :=λk h h'=>by rw[f k o!,pZ];exact rR o!
  have L:∀k,E<=k->k<b->c[k]! =d[k]! :=λk h h'=>by rw[f k o!,Vo]
  have a3:∀x y,a<=x->x<M->M<=y->y<b->lN c[y]! c[x]! =X:=by
   intro x y I a6 J Q;rcases A1 x r with A_|A_;rw[a1 x A_];rcases A1 y E with l|l;rw[K y J l];exact C x _ I o! o!;rw[L y l Q];have k1:lN d[y]! d[E]! =X:=by rcases A1 E y with B|B;exact D_ E y o! B Q;rw[show y=E by omega];exact W.irrefl _
   have k2:lN d[r-1]! d[x]! =X:=by rcases A1 x (r-1)with B|B;exact C x (r-1) I B o!;rw[show r-1=x by omega];exact W.irrefl _
   exact W.ntrans _ _ _ (W.ntrans _ _ _ k1 (c1 o! o!)) k2;rw[a2 x A_ a6];rcases A1 y E with l|l;rw[K y J l];have hc:=c2 o! o!;have k1:lN d[E-1]! d[m+(x-r)]! =X:=by rcases A1 (m+(x-r)) (E-1)with B|B;exact D_ _ (E-1) o! B o!;rw[show m+(x-r)=E-1 by omega];exact W.irrefl _
   refine W.ntrans _ d[E-1]! _ ?_ k1;cases hk:lN d[r+(y-M)]! d[E-1]! with
   |false=>rfl
   |true=>have k2:=W.trans _ _ _ hk hc;rcases A1 r (r+(y-M))with B|B;exact O! k2 (by rw[C r _ o! B o!];decide);rw[show r+(y-M)=r by omega,W.irrefl]at k2;cases k2
   rw[L y l Q];exact D_ _ y o! o! Q
  have ad:∀d3:Array NE,yg M b n d3->yg a b d d3:=λd3 X_=>by refine⟨Sort.permIn_trans _ _ _ _ _ Y (Sort.permIn_trans _ _ _ _ _ (Sort.permIn_mono _ _ a M a b o! o! o! o.1) (Sort.permIn_mono _ _ M b a b o! o! o! X_.1)),λx y I F J=>?_⟩;rcases A1 y M with A_|A_;rw[X_.1.2.1 x o!,X_.1.2.1 y o!];exact o.2 x y I F A_;rcases A1 x M with l|l;rw[X_.1.2.1 x o!];refine Sort.permIn_all n d3 M b (lN · n[x]! =X) o! X_.1 (λw hw a5=>?_) y A_ J;rw[o.1.2.1 w o!];exact Sort.permIn_all c n a M (lN c[w]! ·=X) o! o.1 (λu hu a4=>a3 u w hu a4 hw a5) x I l;exact X_.2 x y l F J
  have ax:Sort.SortedIn lN M E n:=λx y I F J=>by rw[o.1.2.1 x o!,o.1.2.1 y o!,K x I o!,K y o! J];exact C _ _ o! o! o!
  have a0:Sort.SortedIn lN E b n:=λx y I F J=>by rw[o.1.2.1 x o!,o.1.2.1 y o!,L x I o!,L y o! J];exact D_ _ _ o! o! o!
  have s:E<=M\/b<=E->yg a b d n:=λh=>ad n ⟨Sort.permIn_refl _ _ _,pd h ax a0 o! o!⟩;refine PT.dec (λA_=>PT.bind (P:=λq=>∃e:Array NE,q=e.toList/\yg a b d e) (PT.dec (λl=>?_) (λl=>PT.some ⟨n,rfl,s o!⟩)) λr h=>PT.some h) (λA_=>PT.some ⟨n,rfl,s o!⟩);have hr:=S n M E b o! o! o! o! ax a0;refine PT.bind (P:=λq=>∃e:Array NE,q=e.toList/\yg M b n e) ⟨λt=>hr.1 o!,hr.2⟩ ?_;rintro q ⟨e,rfl,H⟩;exact bR (by rw[EA,EA,H.1.1]) (PT.some ⟨e,rfl,ad e H⟩)
 have s2:∀c:Array NE,Sort.PermIn a b d c->(∀k,k<d.size->c[k]! =yO r m E d k)->PT (b-a<=N+1) (bif τ ((a:Int)<(r:Int))then σ (bif τ ((r:Int)<(M:Int))then σ (G (c.toList,(a:Int),(r:Int),(M:Int))) λv=>bif ξ (θ v) (θ c.toList)then D v else U else D c.toList) λv=>(bif τ ((M:Int)<(E:Int))then σ (bif τ ((E:Int)<(b:Int))then σ (G (v,(M:Int),(E:Int),(b:Int))) λw=>bif ξ (θ w) (θ v)then D w else U else D v) λw=>D w else D v)else(bif τ ((M:Int)<(E:Int))then σ (bif τ ((E:Int)<(b:Int))then σ (G (c.toList,(M:Int),(E:Int),(b:Int))) λw=>bif ξ (θ w) (θ c.toList)then D w else U else D c.toList) λw=>D w else D c.toList)) λq=>∃e:Array NE,q=e.toList/\yg a b d e:=by
  intro c Y f;have z1:c.size=d.size:=Y.1;have ap:Sort.SortedIn lN a r c:=λx y I F J=>by rw[f x o!,f y o!,Vo,Vo];exact C _ _ o! o! o!
  have ar:Sort.SortedIn lN r M c:=λx y I F J=>by rw[f x o!,f y o!,lK,lK];exact D_ _ _ o! o! o!
  have s:r<=a\/M<=r->yg a M c c:=λh=>⟨Sort.permIn_refl _ _ _,pd h ap ar o! o!⟩
  refine PT.dec (λA_=>PT.bind (P:=λq=>∃e:Array NE,q=e.toList/\yg a M c e) ?_ ?_) (λA_=>s3 c c Y f (s o!));refine PT.dec (λl=>?_) (λl=>PT.some ⟨c,rfl,s o!⟩);have hr:=S c a r M o! o! o! o! ap ar;refine PT.bind (P:=λq=>∃e:Array NE,q=e.toList/\yg a M c e) ⟨λt=>hr.1 o!,hr.2⟩ ?_;rintro q ⟨e,rfl,H⟩;exact bR (by rw[EA,EA,H.1.1]) (PT.some ⟨e,rfl,H⟩);rintro q ⟨e,rfl,H⟩;exact s3 c e Y f H
 have ao:r=m\/E=m->∀k,k<d.size->d[k]! =yO r m E d k:=λh k hk=>by rcases A1 k r with A_|A_;rw[Vo];rcases A1 k (r+(E-m))with l|l;rw[lK A_ l];exact rR o!;rcases A1 k E with B|B;rw[pZ l B];exact rR o!;rw[Vo]
 refine PT.dec (λA_=>PT.bind (P:=λq=>∃e:Array NE,q=e.toList/\Sort.PermIn a b d e/\∀k,k<d.size->e[k]! =yO r m E d k) ?_ ?_) (λA_=>s2 d (Sort.permIn_refl _ _ _) (ao o!));refine PT.dec (λl=>PT.bind (kY (ADg (d:=d) (a:=r) (m:=m) (b:=E) o! o! o! hd)) ?_) (λl=>PT.some ⟨d,rfl,Sort.permIn_refl _ _ _,ao o!⟩);rintro q ⟨e,rfl,z,H⟩;exact bR (by rw[EA,EA,z]) (PT.some ⟨e,rfl,Sort.permIn_mono _ _ r E a b o! o! hb (AHg o! o! o! z H),H⟩);rintro q ⟨e,rfl,p,H⟩;exact s2 e p H
def AJd(n:V)(p:E NE×(Y×(Y×Y))):pB (λg (p:E NE×(Y×(Y×Y)))=>CT g p.1 p.2) (n+1) p=CT (pB (λg (p:E NE×(Y×(Y×Y)))=>CT g p.1 p.2) n) p.1 p.2:=rfl
def ABZ:∀(N:V)(d:T NE)(a m b:V),a<m→m<b→b≤d.size→d.size≤16777216→Sort.SortedIn lN a m d→Sort.SortedIn lN m b d→
  PT (b-a<=N) (pB (λg (p:E NE×(Y×(Y×Y)))=>CT g p.1 p.2) N (d.toList,(a:Y),(m:Y),(b:Y))) λr=>∃e:T NE,r=e.toList/\yg a b d e
 |0,d,a,m,b,h1,h2,h3,h4,h5,h6=>⟨λt=>O! t o!,λr e=>by cases e⟩
 |N+1,d,a,m,b,h1,h2,h3,h4,h5,h6=>by rw[AJd];exact ALF h1 h2 h3 h4 h5 h6 (ABZ N)
def AIN{d:T NE}{a m b:V}(c:a<m)(f:m<b)(g:b≤d.size)(h:d.size≤16777216)(i:Sort.SortedIn lN a m d)(j:Sort.SortedIn lN m b d):
  An (El d.toList ((a:Y),(m:Y),(b:Y))) λr=>∃e:T NE,r=e.toList/\yg a b d e:=by
 have⟨r,hr⟩:=(ABZ (b-a) d a m b c f g h i j).1 (Ao _);have⟨s,k⟩:=gw hr;have⟨N,l⟩:=dw k;exact⟨s,k,(ABZ N d a m b c f g h i j).2 s l⟩
def Mul(s a:V):Prop:=∃k,a=k*s
def Mul.zero{s}:Mul s 0:=⟨0,k!⟩
def Mul.add{s a}(h:Mul s a):Mul s (a+s):=by obtain⟨k,rfl⟩:=h;exact⟨k+1,q!⟩
def Mul.half{s a:V}(h:Mul (2*s) a):Mul s a:=by obtain⟨k,rfl⟩:=h;exact⟨k*2,q!⟩
def Mul.lt{s a b}(c:Mul s a)(d:Mul s b)(h:a<b):a+s<=b:=by obtain⟨k,rfl⟩:=c;obtain⟨j,rfl⟩:=d;have:k<j:=Nat.lt_of_mul_lt_mul_right h;have:=Lj s (Nat.succ_le_of_lt this);grind
theorem aX{a b c:V}{d}(h:Sort.SortedIn lN a b d)(i:c<=b):Sort.SortedIn lN a c d:=λx y e f g=>h x y e f o!
def XU{a b x y}{d e}(h:Sort.SortedIn lN a b d)(c:Sort.PermIn x y d e)(l:b<=x\/y<=a):Sort.SortedIn lN a b e:=λi j f g k=>by rw[c.2.1 i o!,c.2.1 j o!];exact h i j f g k
def Blk(s n:V)(d:T NE):Prop:=∀a b,Mul s a->b<=a+s->b<=n->Sort.SortedIn lN a b d
def ADm{d0:Array NE}{n:Nat}(hn:n=d0.size)(hd:n<=1048576):An (FM d0.toList (n:Int)) λr=>∃e:Array NE,r=e.toList/\yg 0 n d0 e:=by
 unfold FM;refine AA (P:=λ(r:Int×List NE)=>∃(a:Nat)(d:Array NE),r.1=a/\r.2=d.toList/\a<=n/\n<a+20/\Mul 20 a/\Sort.PermIn 0 n d0 d/\∀c,Mul 20 c->c<a->Sort.SortedIn lN c (c+20) d) ?_ ?_;refine AY (λ(s:Int×(Int×List NE))=>∃(a:Nat)(d:Array NE),s.1=a/\s.2.1=((a+20:Nat):Int)/\s.2.2=d.toList/\a<=n/\Mul 20 a/\Sort.PermIn 0 n d0 d/\∀c,Mul 20 c->c<a->Sort.SortedIn lN c (c+20) d) (λs=>n-s.1.toNat) ⟨0,d0,rfl,rfl,rfl,BS _,Mul.zero,Sort.permIn_refl _ _ _,λc _ h=>O! h o!⟩ ?_;rintro⟨s1,s2,s3⟩ ⟨a,d,J,K,Q,q4,D_,F,R⟩;dsimp only at J K Q;subst J K Q;have hz:d.size=n:=by rw[F.1,hn]
 unfold JW;dsimp only;refine AC (λV=>?_) (λV=>AB ⟨a,d,rfl,rfl,q4,o!,D_,F,R⟩);have A_:=Sort.insertionSort_holds vS d a (a+20) o! o!;rw[ACC (d:=d) (k:=a) (m:=a+20) rfl rfl o! o! o!,AD];have j:ξ (θ (Sort.insertionSort lN d a (a+20)).toList) (θ d.toList)=A:=by rw[EA,EA,A_.1.1];exact H6 _
 have e1:wi (((a+20:Nat):Int)+20)=((a+20+20:Nat):Int):=by grind[oK]
 rw[j,B!,e1];refine AB ⟨⟨a+20,_,rfl,rfl,rfl,o!,D_.add,Sort.permIn_trans _ _ _ _ _ F (Sort.permIn_mono _ _ a (a+20) 0 n o! o! o! A_.1),λc g w=>?_⟩,?_⟩;rcases A1 c a with l|l;exact XU (R c g l) A_.1 (.inl (g.lt D_ l));have:c=a:=by rcases A1 a c with i|i;have:=D_.lt g i;omega;omega
 rw[this];exact A_.2;show n-((a+20:Nat):Int).toNat<n-((a:Nat):Int).toNat
 omega;rintro⟨r1,r2⟩ ⟨a,d,J,K,Q,q4,D_,F,R⟩;dsimp only at J K;subst J K;have hz:d.size=n:=by rw[F.1,hn]
 dsimp only;have A_:=Sort.insertionSort_holds vS d a n Q o!;rw[ACC (d:=d) (k:=a) (m:=n) rfl rfl o! o! o!,AD];have j:ξ (θ (Sort.insertionSort lN d a n).toList) (θ d.toList)=A:=by rw[EA,EA,A_.1.1];exact H6 _
 rw[j,B!];have C:Sort.PermIn 0 n d0 (Sort.insertionSort lN d a n):=Sort.permIn_trans _ _ _ _ _ F (Sort.permIn_mono _ _ a n 0 n o! o! o! A_.1);have u:Blk 20 n (Sort.insertionSort lN d a n):=λc o g w l=>by rcases A1 c a with i|i;exact aX (XU (R c g i) A_.1 (.inl (g.lt D_ i))) w;rcases A1 a c with G|G;have:=D_.lt g G;exact λx y L M N=>O! N o!;grind[aX]
 revert C u;generalize Sort.insertionSort lN d a n=d1;intro C u;refine AA (P:=λr=>∃e:Array NE,r=e.toList/\yg 0 n d0 e) (AY (λ(s:Int×List NE)=>∃(t:Nat)(e:Array NE),s.1=t/\s.2=e.toList/\1<=t/\t<=2097172/\Sort.PermIn 0 n d0 e/\Blk t n e) (n-·.1.toNat) ⟨20,d1,rfl,rfl,o!,o!,C,u⟩ ?_) λr h=>AB h;rintro⟨s1,s2⟩ ⟨t,e,L,M,N,g4,g5,g6⟩;dsimp only at L M;subst L M;unfold JX;dsimp only;refine AC (λV=>?_) (λV=>AB ⟨e,rfl,g5,g6 0 n Mul.zero o! (Ao _)⟩);have e2:wi (2*(t:Int))=((2*t:Nat):Int):=by rw[oK];omega
 have e3:wi ((t:Int)*2)=((2*t:Nat):Int):=by rw[oK];omega
 rw[e2,e3];refine AA (P:=λ(r:Int×List NE)=>∃(a:Nat)(f:Array NE),r.1=a/\r.2=f.toList/\a<=n/\n<a+2*t/\Mul (2*t) a/\Sort.PermIn 0 n d0 f/\(∀c,Mul (2*t) c->c<a->Sort.SortedIn lN c (c+2*t) f)/\∀c o,Mul t c->a<=c->o<=c+t->o<=n->Sort.SortedIn lN c o f) ?_ ?_;refine AY (λ(s:Int×(Int×List NE))=>∃(a:Nat)(f:Array NE),s.1=a/\s.2.1=((a+2*t:Nat):Int)/\s.2.2=f.toList/\a<=n/\Mul (2*t) a/\Sort.PermIn 0 n d0 f/\(∀c,Mul (2*t) c->c<a->Sort.SortedIn lN c (c+2*t) f)/\∀c o,Mul t c->a<=c->o<=c+t->o<=n->Sort.SortedIn lN c o f) (n-·.1.toNat)
  ⟨0,e,rfl,k!,rfl,BS _,Mul.zero,g5,λc _ h=>O! h o!,λc o g _ w l=>g6 c o g w l⟩ ?_
 rintro⟨s1,s2,s3⟩ ⟨a,f,k1,I,Z,k4,p,E,O,B⟩;dsimp only at k1 I Z;subst k1 I Z;have Y:f.size=n:=by rw[E.1,hn]
 unfold JY;dsimp only;refine AC (λW=>?_) (λW=>AB ⟨a,f,rfl,rfl,k4,o!,p,E,O,B⟩);have U_:wi ((a:Int)+(t:Int))=((a+t:Nat):Int):=by rw[oK];omega
 have e5:wi (((a+2*t:Nat):Int)+((2*t:Nat):Int))=((a+2*t+2*t:Nat):Int):=by rw[oK];omega
 rw[U_,e2,e5];apply AA (AIN (d:=f) (a:=a) (m:=a+t) (b:=a+2*t) o! o! o! o! (B a (a+t) p.half (Ao _) (Ao _) o!) (B (a+t) (a+2*t) p.half.add o! o! o!));rintro r ⟨q,rfl,v,H⟩;have j:ξ (θ q.toList) (θ f.toList)=A:=by rw[EA,EA,v.1];exact H6 _
 rw[j,B!];refine AB ⟨⟨a+2*t,q,rfl,rfl,rfl,o!,p.add,Sort.permIn_trans _ _ _ _ _ E (Sort.permIn_mono _ _ a (a+2*t) 0 n o! o! o! v),λc g w=>?_,λc o g w l i=>XU (B c o g o! l i) v (.inr w)⟩,?_⟩;rcases A1 c a with l|l;exact XU (O c g l) v (.inl (g.lt p l));have:c=a:=by rcases A1 a c with i|i;have:=p.lt g i;omega;omega
 rw[this];exact H;show n-((a+2*t:Nat):Int).toNat<n-((a:Nat):Int).toNat
 omega;rintro⟨v1,v2⟩ ⟨a,f,k1,I,Z,k4,p,E,O,B⟩;dsimp only at k1 I;subst k1 I;have Y:f.size=n:=by rw[E.1,hn]
 dsimp only;have U_:wi ((a:Int)+(t:Int))=((a+t:Nat):Int):=by rw[oK];omega
 rw[U_];have z:∀q:Array NE,Sort.PermIn a n f q->Sort.SortedIn lN a n q->(∃(S:Nat)(T:Array NE),((2*t:Nat):Int)=S/\q.toList=T.toList/\1<=S/\S<=2097172/\Sort.PermIn 0 n d0 T/\Blk S n T)/\n-((2*t:Nat):Int).toNat<n-((t:Nat):Int).toNat:=λq v H=>by refine⟨⟨2*t,q,rfl,rfl,o!,o!,Sort.permIn_trans _ _ _ _ _ E (Sort.permIn_mono _ _ a n 0 n o! o! o! v),λc o g w l=>?_⟩,o!⟩;rcases A1 c a with i|i;exact aX (XU (O c g i) v (.inl (g.lt p i))) w;rcases A1 a c with G|G;have:=p.lt g G;exact λx y L M N=>O! N o!;rw[show c=a by omega];exact aX H l
 refine AC (λX_=>AA (AIN (d:=f) (a:=a) (m:=a+t) (b:=n) o! o! o! o! (B a (a+t) p.half (Ao _) (Ao _) o!) (B (a+t) n p.half.add o! o! (Ao _))) ?_) (λX_=>AB (z f (Sort.permIn_refl _ _ _) (B a n p.half (Ao _) o! (Ao _))));rintro r ⟨q,rfl,v,H⟩;have j:ξ (θ q.toList) (θ f.toList)=A:=by rw[EA,EA,v.1];exact H6 _
 rw[j,B!];exact AB (z q v H)
def AHs{l:E NE}(h:Z l<=1048576):An (DD l ()) λr=>r.Perm l/\r.Pairwise λx y=>lN y x=X:=by
 unfold DD;apply AA (ADm (d0:=l.toArray) (n:=Z l) k! h);rintro r ⟨R,rfl,d,f⟩;have e:R.size=Z l:=by rw[d.1];simp
 have g:ξ (Z R.toList) (Z l)=A:=by simp[e]
 rw[g,B!];refine AB ⟨?_,?_⟩;have:=d.2.2;rw[show R.extract 0 (Z l)=R by rw[<-e];exact oQ,show l.toArray.extract 0 (Z l)=l.toArray by rw[show Z l=l.toArray.size by simp];exact oQ]at this;exact this;rw[FA];intro i j k m b;have a:i<R.size:=by simpa using k
 have c:j<R.size:=by simpa using m
 have:=f i j (BS _) b o!;rw[getElem!_pos R j c,getElem!_pos R i a]at this;simpa using this
def AGN(l:E NE):Prop:=∀x∈l,∀y∈l,x≠y->x.1.2.2.1=y.1.2.2.1->x.1.2.1<y.1.1\/y.1.2.1<x.1.1
def AHj{R a:List NE}(h5:θ R=θ a)(H:θ a≤256)(J:∀e∈a,1≤e.1.1∧e.1.1≤e.1.2.1∧e.1.2.1≤1099511627776∧0≤e.1.2.2.1)(T:a.Pairwise λx y=>lN y x=X)(hn:a.Nodup)(S:AGN a):
  An (Ak (T2 R a) (0,(-1),0,[],[])) λr=>r=(a.map (·.1),a.map (·.2)):=by
 refine AY (λ(s:Int×(Int×(Int×(List AS×List Int))))=>∃k:Nat,s.1=k/\k<=θ a/\s.2.2.2=((a.take k).map (·.1),(a.take k).map (·.2))/\((k=0/\s.2.1= -1)\/∃e,0<k/\a[k-1]?=D e/\s.2.1=e.1.2.2.1/\s.2.2.1=e.1.2.1)) (θ a-·.1.toNat) ⟨0,rfl,BS _,rfl,.inl ⟨rfl,rfl⟩⟩ ?_;rintro⟨s1,X_,s3,s4⟩ ⟨k,O,q2,P,q⟩;dsimp only at O P q;subst O P;unfold T2;dsimp only;refine AC (λz=>?_) (λz=>AB ?_)
 ·simp only[len]at z;refine AA (AI) λv8 _=>AA (AI) λv h=>?_;have A_:a[k]?=D v:=by simpa using h.1
  obtain⟨Y,Z,b3,b4⟩:=J v h.2;have D_:a.take (k+1)=a.take k++[v]:=by rw[Ca,A_];rfl
  have hl:(a.take k).length<=256:=by rw[BU];omega
  have j:∀E:Int,E=v.1.2.2.1→An (σ (app ((a.take k).map (·.1)) [v.1]) λf=>σ (app ((a.take k).map (·.2)) [v.2]) λg=>D (Step.next (wi ((k:Int)+1),E,v.1.2.1,f,g))) λst=>match st with
    |.next i=>(∃d:Nat,i.1=d/\d<=θ a/\i.2.2.2=((a.take d).map (·.1),(a.take d).map (·.2))/\((d=0/\i.2.1= -1)\/∃e,0<d/\a[d-1]?=D e/\i.2.1=e.1.2.2.1/\i.2.2.1=e.1.2.1))/\θ a-i.1.toNat<θ a-((k:Nat):Int).toNat
    |.done r=>r=(a.map (·.1),a.map (·.2)):=λE B=>by
   refine AA (Ac w!) λf u=>AA (Ac w!) λg w=>AB ⟨⟨k+1,?_,o!,?_,.inr ⟨v,o!,by rw[nS];exact A_,B,rfl⟩⟩,?_⟩;show wi ((k:Int)+1)=_;rw[wip];show(f,g)=_;rw[u.1,w.1,D_,Kp,Kp];rfl;show θ a-(wi ((k:Int)+1)).toNat<θ a-((k:Nat):Int).toNat
   rw[wip];omega
  have b:∀n:Int,n<v.1.1->Oi (v.1,n)=D v.1:=λn hn=>by unfold Oi;have:τ (v.1.1>n)=A:=G! hn;dsimp only;rw[this,B!]
  refine AK (λm=>?_) (λc=>?_);refine AC (O! · o!) (λ_=>?_);rw[b 0 o!,AD];obtain⟨st,F,G⟩:=j v.1.2.2.1 rfl;exact⟨st,F,by cases st<;>exact G⟩;rcases q with⟨_,q⟩|⟨e,q5,Q,V,W⟩;exact O! (c.trans q) o!;have C:e.1.2.1<v.1.1:=by
   have I:=BP Q;obtain⟨K,L⟩:=Gb.1 Q;obtain⟨M,N⟩:=Gb.1 A_;have m:e≠v:=λp=>by have:=(FA.1 (F5.1 hn)) (k-1) k K M o!;rw[L,N]at this;exact this p
   have o:=(FA.1 T) (k-1) k K M o!;rw[L,N]at o;have U_:=J e I;have l:e.1.2.2.1=v.1.2.2.1:=by rw[<-V];exact c.symm
   rcases S e I v h.2 m l with p|p;exact p;simp only[lN,decide_eq_false_iff_not]at o;omega
  rw[W];refine AC (O! · o!) (λ_=>?_);rw[b _ C,AD];obtain⟨st,F,G⟩:=j X_ c.symm;exact⟨st,F,by cases st<;>exact G⟩
 simp only[len]at z;rw[BN o!]
noncomputable def intR(a:AJ)(f:Ap):W NE:=
 match HN (a,f)with
 |some (r,A)=>D (r,f.2.1)
 |_=>U
noncomputable def D8(a:AJ):E NE:=a.2.2.1.filterMap (intR a)
def AHi{x}(h:VB x)(t:DS x):An (Ak (T1 x) (0,[])) λr=>r=D8 x/\Z r<=256/\∀e∈r,cO e.1:=by
 obtain⟨⟨v,w,y,n,z,A_,B⟩,a1,a2,a3,a4,a5,a6⟩:=id h;refine AY (λ(s:Int×NL)=>0<=s.1/\s.1<=Z x.2.2.1/\Z s.2<=s.1/\(∀e∈s.2,cO e.1)/\s.2=(x.2.2.1.take s.1.toNat).filterMap (intR x)) (λs=>((Z x.2.2.1:Y)-s.1).toNat) ⟨Ag _,d!,k!,λe a=>by simp at a,k!⟩ (λs q=>?_);obtain⟨u,C,D_,j,k⟩:=q;unfold T1;refine AC (λf=>?_) (λf=>AB ⟨?_,o!,j⟩);simp only[S]at f;have e:=Aa (x:=s.1+1);rw[e];refine AA (AI u f) λg m=>?_;have c:x.2.2.1.take (s.1+1).toNat=x.2.2.1.take s.1.toNat++[g]:=by rw[show(s.1+1).toNat=s.1.toNat+1 by omega,Ca,m.1];rfl
 refine EM (mj n (t _ m.2)) λl d p=>AM (λb=>?_) (λb=>AB ⟨⟨d!,d!,d!,j,?_⟩,d!⟩);have hr:intR x g=D (l.1,g.2.1):=by unfold intR;rw[d];obtain⟨r,o⟩:=l;dsimp only at b;subst b;rfl
 refine AA (Ac w!) λE i=>AB ⟨⟨d!,d!,?_,λe a=>?_,?_⟩,d!⟩;have:=i.2.1;simp only[BW,Be]at this;dsimp only;omega;dsimp only at a;rw[i.1]at a;rcases Ah.1 a with a|a;exact j e a;rw[Ax.1 a];exact p b;dsimp only;rw[c,wC,i.1,k];simp[hr];have hr:intR x g=U:=by unfold intR;rw[d];obtain⟨r,o⟩:=l;dsimp only at b;subst b;rfl
 dsimp only;rw[c,wC,k];simp[hr];simp only[S]at f;rw[k,BN o!];rfl
def xN{x}(h:VB x)(m:DS x)(hn:(D8 x).Nodup)(b:AGN (D8 x)):An (Hq x) λr=>∃v:E NE,v.Perm (D8 x)/\(v.Pairwise λp q=>lN q p=X)/\r=(v.map (·.1),v.map (·.2))/\Z v<=256/\∀e∈v,cO e.1:=by
 unfold Hq;refine AA (Gl h) λt j=>?_;rw[j,CE,A!];refine AA (AHi h m) λu k=>?_;obtain⟨rfl,g,s⟩:=k;refine AA (AHs o!) λf a=>?_;have i:=a.1.length_eq;have l:ξ (Z f) (Z (D8 x))=A:=by rw[i];exact H6 _
 rw[l,B!];have c:∀e∈f,cO e.1:=λe d=>s e (a.1.mem_iff.1 d);refine AA (AHj i.symm o! (λe d=>?_) a.2 (a.1.nodup_iff.2 hn) (λp n q o=>b p (a.1.mem_iff.1 n) q (a.1.mem_iff.1 o))) λr hr=>AB ⟨f,a.1,a.2,hr,o!,c⟩;have:=c e d;exact⟨this.1,this.2.1,this.2.2.1,this.2.2.2.1⟩
end Go.Pm
