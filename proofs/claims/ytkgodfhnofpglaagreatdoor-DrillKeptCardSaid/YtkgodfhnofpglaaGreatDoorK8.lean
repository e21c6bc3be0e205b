/- Texts of wip, joined and shortened by wip/tools/pack.py; nothing is assumed. -/
import Derived.Test.YtkgodfhnofpglaaGreatDoorK7
import Derived.KernelRfl
import Derived.Sort.AssemblyPlain
noncomputable section
set_option linter.all false
set_option maxHeartbeats 1000000
open Option renaming some->D
open List renaming length->Z
open Go renaming Ψ->E
open Bool renaming false->X
open Option renaming none->A
open Bool renaming true->Y
open Go renaming Ω->V
open Option renaming some->δ,none->ε,bind->σ
open Bool renaming true->ζ,false->η
open List renaming length->θ
open Go.IntKind renaming wrap->ι
open BitVec renaming ofInt->κ,toNat->π
open Nat renaming beq->ξ
open Int renaming toNat->ο
open Decidable renaming decide->τ
open _root_ renaming Int->W,Nat->U,Array->S,True->O,Bool->N,cond->z
open Go.Ab renaming len->R
namespace Go.Pm
open Go Go.Ab
def runN{S R:Type}(f:S->V (Step S R)):U->S->V R
 |0,_=>A
 |n+1,s=>
  match f s with
  |some (.next s')=>runN f n s'
  |some (.done r)=>D r
  |none=>A
def zD{S R:Type}{f:S->V (Step S R)}{r:R}:∀{n}{s},runN f n s=D r->Ad f s=D r
 |0,s,h=>by cases h
 |n+1,s,h=>by simp only[runN]at h;rw[Eh];split at h;rename_i b e;rw[e];exact zD h;rename_i a e;rw[e];exact h;cases h
def VM:Bc:=[80,77,76,71,1,0,0,0,0,0,0,0]
def AHv:An (([80,77,76,71]:E UInt8),1,8)=D VM:=by rw[(by kernel_rfl:An (([80,77,76,71]:E UInt8),1,8)=σ (Ad (Gc (([80,77,76,71]:E UInt8),1,8)) (([80,77,76,71]:E UInt8),0)) λa=>D a),zD (n:=10) (r:=VM) h!];rfl
def AHT:Ay (VM,4,8)=D (1,0):=by rw[(by kernel_rfl:Ay (VM,4,8)=σ (Ad (Gb (VM,4,8)) (0,0)) λa=>D (wi a,0)),zD (n:=10) (r:=1) h!];rfl
def iw(a b:E AI):Hw (a++b)=Hw a++Hw b:=by grind[Hw]
def AJM:Js 1=D (HD VM):=by unfold Js;rw[AHv,AD,Y4 g!,AD]
def ACv{e}(h:Ml e):I4 e=D (HD (B5 e)):=by grind[I4,sO,Y4,QQ]
def Dg.ent{l}(h:Dg l){e:AI}(a:e∈l.2.1):Ml e:=by have⟨k,b⟩:=HS.1 a;exact(h.2.2.2.2.2 k e b).2
theorem AHE{l:Aa}{a:Int}(h:Dg l)(D_:l.1=1):Ao (EG (l,a)) λr=> ∃m:Nat,r=HD VM++(Hw (l.2.1.take l.2.2.toNat)++(Hw (l.2.1.drop l.2.2.toNat)).take m):=by
 have O:=h.2.2.1;have Q:=h.2.2.2.1;have R:=h.2.2.2.2.1;have b: ∀k:List AI,(∀e∈k,e∈l.2.1)->(Hw k).length<=8400*k.length:=λk w=>nJ λe d=>h.ent (w e d);have⟨v,H,g⟩:=BM (x:=l);have g:=g.2 h;subst g;unfold EG;dsimp only;rw[H,AD,Ce,cond_false,D_,AJM,AD];refine AA (P:=λr=>r=(HD VM++Hw (l.2.1.take l.2.2.toNat),Hw (l.2.1.drop l.2.2.toNat))) ?_ λK o=>?_
 ·refine CE (λ(s:Bc×Bc×Int)=> ∃k:Nat,k<=l.2.1.length/\s=(HD VM++Hw ((l.2.1.take k).take l.2.2.toNat),(Hw ((l.2.1.take k).drop l.2.2.toNat),(k:Int)))) (λs=>l.2.1.length-s.2.2.toNat) ⟨0,Bh _,by simp[Hw]⟩ ?_;rintro s ⟨k,w,rfl⟩;unfold Nx;dsimp[len];refine AC (λB=>?_) (λB=>Ao.done (by rw[BG (l:=l.2.1) (i:=k) (by omega)]));have f:k<l.2.1.length:=by omega
  have I:ix l.2.1 (k:Int)=some l.2.1[k]:=by unfold ix;rw[if_pos (by omega),Int.toNat_natCast,List.getElem?_eq_getElem f]
  have j:=h.2.2.2.2.2 k _ (Ar f);have t:l.2.1.take (k+1)=l.2.1.take k++[l.2.1[k]]:=by simp_all
  have E:(l.2.1.take k).length=k:=by grind
  have y:(HD VM++Hw ((l.2.1.take k).take l.2.2.toNat)).length<=40000000:=by
   have:=b ((l.2.1.take k).take l.2.2.toNat) λe d=>Fv (Fv d);have c:(HD VM).length=20:=by rw[EA];rfl
   grind[List.length_append,List.length_take]
  have z:(Hw ((l.2.1.take k).drop l.2.2.toNat)).length<=40000000:=by grind
  have C:=QQ j.2;rw[I,AD,AD,AD,ACv j.2,AD,AD,AX (x:=(k:Int)+1) (by omega)];refine AA (P:=λr=>r=(HD VM++Hw ((l.2.1.take (k+1)).take l.2.2.toNat),Hw ((l.2.1.take (k+1)).drop l.2.2.toNat))) ?_ λJ n=>?_
  ·refine AC ?_ ?_<;>intro S
   ·have q:k+1<=l.2.2.toNat:=by omega
    refine AA (Cb (by rw[EA];omega)) λN u=>AB ?_;grind[List.drop_of_length_le,List.length_take,List.take_of_length_le,QR,List.append_assoc]
   ·have q:l.2.2.toNat<=k:=by omega
    refine AA (Cb (by rw[EA];omega)) λN u=>AB ?_;rw[u.1,t,gY (by omega),qq (by omega),QR]
  ·rw[n];exact Ao.next ⟨k+1,f,by rw[show(k:Int)+1=((k+1:Nat):Int) by omega]⟩ (by dsimp only;omega)
 ·subst o;dsimp[len];have A_: ∃m:Nat,(if(((Hw (l.2.1.drop l.2.2.toNat)).length:Int)<(if(0>a)then 0 else a))then((Hw (l.2.1.drop l.2.2.toNat)).length:Int)else(if(0>a)then 0 else a))=(m:Int)/\m<=(Hw (l.2.1.drop l.2.2.toNat)).length:=by
   refine⟨(if(((Hw (l.2.1.drop l.2.2.toNat)).length:Int)<(if(0>a)then 0 else a))then((Hw (l.2.1.drop l.2.2.toNat)).length:Int)else(if(0>a)then 0 else a)).toNat,?_,?_⟩
   ·split<;>split<;>omega
   ·split<;>split<;>omega
  have⟨m,F,G⟩:=A_;rw[F];refine AA (Cj (AY _) (by omega) (by omega)) λL c=>?_;have y:(HD VM++Hw (l.2.1.take l.2.2.toNat)).length<=40000000:=by
   have:=b (l.2.1.take l.2.2.toNat) λe d=>Fv d;have c:(HD VM).length=20:=by rw[EA];rfl
   rw[Ae];rw[BK]at this;omega
  have z:(Hw (l.2.1.drop l.2.2.toNat)).length<=40000000:=by have:=b (l.2.1.drop l.2.2.toNat) λe d=>RV d;rw[Dr]at this;omega
  refine AA (Cb (by have:=c.2;omega)) λM p=>AB ⟨m,?_⟩;rw[p.1,c.1,A5];simp
def AJ5{n:U}(h:n<=8392):gR 4 (n:W):=⟨λ_=>q!,o!⟩
def AHR{p q s t:Bc}(d:Z p<=8392)(e:Z q<=8392)(h:HD p++s=HD q++t):p=q/\s=t:=by
 have c:Z p=Z q:=by have a:=h;unfold HD at a;simp at a;have:=(M7 a (by rw[A0,A0])).1;have:=bE g! (AJ5 d) (AJ5 e) this;omega
 have⟨b,f⟩:=M7 h (by rw[EA,EA,c]);have g:=(M7 b q!).2;grind[List.append_inj]
def AJV{b:Ψ AI}{t y z:Bc}{d}(hn:θ b<=4096)(D_:∀(i:Nat)(e:AI),b[i]?=D e->e.1=1+i/\Ml e)(G:t++y=Hw b)(M:t=Hw (b.take d)++z):Ao (FU (HD VM++t)) λr=>r.2=0->∃k:Nat,k<=θ b/\min d (θ b)<=k/\r.1=(1,b.take k,(k:Int)):=by
 have S:=nJ (l:=b) λe A_=>by obtain⟨k,m⟩:=HS.1 A_;exact(D_ k e m).2
 have U:θ t<=40000000:=by have:=E! θ G;rw[Ae]at this;omega
 have C:(HD VM).length=20:=by rw[EA];rfl
 have W:(HD VM++t).length<=50000000:=by rw[Ae];omega
 unfold FU;have o:Bd (HD VM++t,0)=D (VM,20,0):=by refine(Pb (a:=[]) (t:=HD VM++t) w!).trans (E! D ?_);rw[bM g!];rfl
 rw[o,AD];dsimp only;rw[show((0:Int) !=0)=X by decide,A!,show(len VM !=12)=X by decide,A!,show US VM 0 4=D [80,77,76,71]from rfl,AD,H!,A!,AHT,AD];dsimp only;rw[F! g!,A!,F! g!,A!,show wi ((1:Int)-1)=0 from rfl];refine AA (P:=λr=>∃k:Nat,k<=θ b/\min d (θ b)<=k/\((∃u,r=.inl u/\u.2=(1,b.take k,(k:Int)))\/∃u,r=.inr u/\(u.2.1,u.1,u.2.2.1)=(1,b.take k,(k:Int)))) ?_ λr hr=>?_
 ·refine CE (λs=>∃(k:Nat)(z:Aa)(c:Bc),k<=θ b/\s=(((HD VM++Hw (b.take k)).length:Int),b.take k,1,(k:Int),z)/\t=Hw (b.take k)++c) (θ b-θ ·.2.1) ⟨0,(0,[],0),t,Bh _,by simp[Hw,C],by simp[Hw]⟩ ?_;rintro s ⟨k,z,c,m,rfl,hr⟩;have E:(b.take k).length=k:=by rw[BK];omega
  have H:k<min d (θ b)->∃p R,θ p<=8392/\c=HD p++R:=λn=>by
   have g:k<θ b:=o!
   have N:b.take d=b.take (k+1)++(b.take d).drop (k+1):=by
    conv=>lhs;rw[<-Cr (k+1) (b.take d)]
    rw[Lb,RZ o!]
   have O:b.take (k+1)=b.take k++[b[k]]:=by rw[CC,Ar g];rfl
   rw[N,O,iw,QR,A5,A5]at M;exact⟨_,_,QQ (D_ k _ (Ar g)).2,(M7 (hr.symm.trans M) rfl).2⟩
  unfold Ov;dsimp only[len];refine AC (λQ=>?_) (λQ=>k? ⟨k,m,Nat.le_of_not_lt λn=>?_,.inr ⟨_,rfl,rfl⟩⟩);rotate_left 1;omega;have w:HD VM++t=(HD VM++Hw (b.take k))++c:=by rw[hr,A5]
  have F:=E! θ w;rw[@Ae _ (HD VM++Hw (b.take k)) _]at F;have o:Bd (HD VM++t,((HD VM++Hw (b.take k)).length:Int))=D (UF (HD VM++Hw (b.take k)).length c):=by
   conv=>lhs;arg 1;rw[w]
   exact Pb o!
  rw[o,AD];refine AK (λB=>k? ⟨k,m,Nat.le_of_not_lt λn=>?_,.inl ⟨_,rfl,rfl⟩⟩) (λB=>?_);obtain⟨p,R,T,V⟩:=H n;rw[V,bM T]at B;exact B rfl;obtain⟨X_,⟨q,J⟩,Y_⟩:=wg B;have j:Hw b=Hw (b.take k)++Hw (b.drop k):=by rw[<-iw,Cr]
  have f:c++y=Hw (b.drop k):=by rw[hr,A5,j]at G;exact(M7 G rfl).2
  by_cases g:k<θ b
  ·have h:=D_ k _ (Ar g);rw[J4 g,mD,J,A5]at f;obtain⟨I,Z⟩:=AHR X_ (QQ h.2) f;rw[I,AB5 h.2,AD];dsimp only;rw[show((0:Int) !=0)=X by decide,A!,AX (x:=(k:Int)+1),show(b[k].1 !=(k:Int)+1)=X by rw[h.1];exact bne_eq_false_iff_eq.2 o!,A!];have v:b.take (k+1)=b.take k++[b[k]]:=by rw[CC,Ar g];rfl
   refine AA (Ac (by rw[CY,CO];omega)) λv6 L=>y! ⟨k+1,z,q,g,?_,?_⟩ ?_
   rw[L.1,Y_,I,v,QR,<-A5,Ae (bs:=HD (B5 b[k])),EA];refine Dh ?_ (Dh rfl (Dh rfl (Dh ?_ rfl)));dsimp only;omega;dsimp only;rw[h.1];omega;rw[hr,v,QR,A5,<-I,<-J];dsimp only;rw[L.2.1,E];simp only[CY,CO];omega
  exfalso;rw[M9 o!]at f;have K:=E! θ f;rw[J,Ae,Ae,EA]at K;simp[Hw]at K
 obtain⟨k,m,A_,⟨u,rfl,o⟩|⟨u,rfl,o⟩⟩:=hr;exact BB (AB λ_=>⟨k,m,A_,o⟩);exact Au (AB λ_=>⟨k,m,A_,o⟩)
variable {B:Int->Prop}
def CB(n:W)(P:E AI)(s:Bc):Prop:=∃es t y z,∃d:U,s=HD VM++t/\t++y=Hw es/\Z es<=4096/\GF es/\LI n es/\P=es.take d/\t=Hw (es.take d)++z
def zz{n a:W}{l}(h:Dg l)(b:l.1=1)(c:LI n l.2.1):Ao (EG (l,a)) (CB n (dl l)):=by
 refine(AHE h b).mono λr ⟨m,hr⟩=>⟨l.2.1,_,(Hw (l.2.1.drop l.2.2.toNat)).drop m,_,l.2.2.toNat,hr,?_,h.2.2.1,h.num b,c,rfl,rfl⟩
 rw[A5,Cr,<-iw,Cr]
def CB.open_{n}{P}{s}(h:CB n P s):Ao (FU s) λr=>r.2=0->Dg r.1/\r.1.1=1/\LI n r.1.2.1/\∃m,P=(dl r.1).take m:=by
 obtain⟨b,t,y,z,d,rfl,p,hn,c,g,rfl,j⟩:=h;refine(AJV hn c p j).mono λr hr u=>?_;obtain⟨k,v,o,e⟩:=hr u;rw[e];have w:(b.take k).length=k:=q!
 refine⟨⟨AY _,q!,q!,q!,d!,λi f l=>?_⟩,rfl,?_,min d (Z b),?_⟩;have:=c.take k i f l;exact this;rw[<-Cr k b]at g;exact g.pre;unfold dl;dsimp only;rw[C5,Lb,Lb,RZ (a:=min d (Z b)) o!,RZ o];rcases Nat.le_total d (Z b)with q|q;rw[RZ q];rw[Nat.min_eq_right q,BG q,H8]
def SQB(B:W->Prop)(n:W)(s:AU):Prop:=s.1.1=n/\SK B s.1/\Dg s.1.2.2.1/\DJ B s.1.2.2.1 s.2
def SQ(n:W)(s:AU):Prop:=∃B,SQB B n s
def SQB.sr{n}{s r}(h:SQB B n s)(g:SR B s r):SQ n r:=⟨B,g.1.1.trans h.1,g.1.2.2.1,g.1.2.2.2,g.2⟩
def jT{P}{x:Bn×Bc×W×W}(n:CB x.2.2.1 P x.2.1)(o:DP B P x.1):Ao (Rt x) λr=>r.2=0->SQ x.2.2.1 r.1:=by refine AA n.open_ λu j=>AK (λa=>AB λb=>O! b a) (λc=>?_);obtain⟨f,g,h,m,i⟩:=j c;refine AA (aY f g h) λv k=>AK (λa=>AB λb=>O! b a) (λd=>?_);obtain⟨a1,a2,a3,a4,a5⟩:=k d;refine AA (fu (B:=B) f ⟨a2,a3,a4⟩ q! q!) λw l=>AK (λa=>AB λb=>O! b a) (λe=>AB λ_=>?_);obtain⟨p,q,s,t⟩:=l e;exact⟨B,p.trans a1,q,s,DJ.up ⟨g,o.up i⟩ t⟩
def jU{P}{x:Bn×Bc×W×W}(b:CB x.2.2.1 P x.2.1)(c:DP B P x.1):Ao (Ru x) λr=>r.2=0->SQ x.2.2.1 r.1:=by exact AA (jT b c) λd a=>AB a
theorem AJq{n o:Bc}{c:Nat}(hn:n.length=256)(p:o.length=256)(h:n.take 8=n.drop 248)(d:o.take 8=o.drop 248)(j:n.take 8=o.take 8->n=o)(b:(n.take c++o.drop c).take 8=(n.take c++o.drop c).drop 248):n.take c++o.drop c=n\/n.take c++o.drop c=o:=by
 have g: ∀i:Nat,(n.take c++o.drop c)[i]? =if i<c then n[i]? else o[i]? :=λi=>by grind
 have q: ∀{l:Bc},l.take 8=l.drop 248-> ∀i:Nat,i<8->l[i]? =l[248+i]? :=λ{l} e i a=>by have:=congrArg (λl:Bc=>l[i]?) e;rw[JO a,IW]at this;exact this
 by_cases m:c<8
 ·refine .inr (JN λi=>?_);rw[g i];split
  ·rename_i a;have:=q b i (by omega);rw[g,g,if_pos a,if_neg (by omega),<-q d i (by omega)]at this;exact this
  ·rfl
 ·refine .inl ?_;by_cases k:c<=248
  ·have e:n=o:=j (JN λi=>by
    by_cases a:i<8
    ·have:=q b i a;rw[g,g,if_pos (by omega),if_neg (by omega),<-q d i a]at this;rw[JO a,JO a];exact this
    ·rw[Cn (by rw[BK];omega),Cn (by rw[BK];omega)])
   rw[e,Cr]
  ·refine JN λi=>?_;rw[g i];split
   ·rfl
   ·rename_i a;by_cases f:i<256
    ·have:=q b (i-248) (by omega);rw[g,g,if_pos (by omega),if_neg (by omega),show 248+(i-248)=i by omega,q h (i-248) (by omega),show 248+(i-248)=i by omega]at this;exact this.symm
    ·rw[Cn (by omega),Cn (by omega)]
def AGh:(lA 256).take 8=(lA 256).drop 248:=g!
def DP.tear{P:Ψ AI}{d t:Bn}{p:W}{o n m:Bc}{c:U}(h:DP B P d)(z:0≤p)(f:B p)(G:DI t)(K:d.1[ο p]?=D o)(J:m=n.take c++o.drop c)(H:t.1=FM d.1 p m){x:AV}(r:HP x)(hn:n=IB x)(D_:AIw P p n)(Q:1≤x.2.1)
  (O:∀j,(st (P.take j) p).2.1=x.2.1->st (P.take j) p=x) (M:∀j,HP (st (P.take j) p)):∃A_,DP A_ P t:=by
 have g:=(h.2 _ _ K).1 (by rw[IU z];exact f);rw[IU z]at g;have y:∀(i:U)(s:Bc),i≠ο p->t.1[i]?=D s->d.1[i]?=D s:=λi s l a=>by rw[H]at a;unfold FM at a;rwa[DT o!]at a
 have w:∀s:Bc,t.1[ο p]?=D s->s=m:=λs a=>by rw[H]at a;unfold FM at a;grind
 by_cases b:dead m;refine⟨λj=>B j/\j≠p,G,λi s a=>?_⟩;by_cases l:i=ο p
 subst l;rw[w s a];exact⟨λf=>O! (IU z) f.2,.inr b⟩;have:=h.2 i s (y i s l a);exact⟨λf=>this.1 f.1,this.2.imp_left λf=>⟨f,o!⟩⟩;have C:m.take 8=m.drop 248:=by by_cases N:m=lA 256;rw[N];exact AGh;by_cases L:∃q,HP q/\m=IB q;obtain⟨q,E,F⟩:=L;rw[F,Vi,pj E];exact O! ⟨N,λq E F=>L ⟨q,E,F⟩⟩ b
 have v:o.take 8=o.drop 248/\(n.take 8=o.take 8->n=o):=by rcases g with rfl|⟨j,rfl⟩;refine⟨AGh,λe=>?_⟩;rw[hn,Vi]at e;have:=bE (k:=8) (n:=x.2.1) (m:=0) g! ⟨n!,by have:=r.2.2.1;omega,by have:=r.2.2.2.1;omega⟩ ⟨n!,g!,g!⟩ e;omega;refine⟨Vi.trans (pj (M j)).symm,λe=>?_⟩;rw[hn,Vi,Vi]at e;have I:=M j;have:=bE (k:=8) g! ⟨n!,by have:=r.2.2.1;omega,by have:=r.2.2.2.1;omega⟩ ⟨n!,by have:=I.2.2.1;omega,by have:=I.2.2.2.1;omega⟩ e;rw[hn,O j this.symm]
 have u:=AJq (c:=c) (by rw[hn];exact fB r) (h.1.2.1 _ _ K) (by rw[hn,Vi,pj r]) v.1 v.2 (by rw[<-J];exact C);rw[<-J]at u;refine⟨B,G,λi s a=>?_⟩;by_cases l:i=ο p
 subst l;rw[w s a,IU z];refine⟨λ_=>?_,.inl f⟩;rcases u with e|e<;>rw[e];exact D_;exact g;exact h.2 i s (y i s l a)
def fx{x:AU×Int×Int×Int}(h:SK B x.1.1)(D_:Dg x.1.1.2.2.1)(v:DJ B x.1.1.2.2.1 x.1.2):Ao (MZ x) λr=>∃A_ P,DP A_ P r.1/\CB x.1.1.1 P r.2:=by
 unfold MZ;refine AA Fe λi Q=>AC (λO=>?_) (λ_=>AA (zz D_ v.1 h.ki.1) λL E=>AB (⟨B,dl x.1.1.2.2.1,v.2,E⟩:∃A_ P,DP A_ P x.1.2/\CB x.1.1.1 P L));have⟨J,f,G,m⟩:=Q.2.2.1 O;obtain⟨g,M,Y_,c⟩:=AE O Q.2.1;have e:=BL (Y_.symm.trans G);subst e;dsimp only at M m c;rw[M];refine BA (AA (P:=λr:AQ×Bn=>(∃A_,DP A_ (dl r.1.2.2.1) r.2)/\Dg r.1.2.2.1/\r.1.2.2.1.1=1/\LI x.1.1.1 r.1.2.2.1.2.1) ?_ λv8 W=>?_);rotate_left 1;obtain⟨⟨A_,R⟩,S,T,N⟩:=W;refine AA (zz S T N) λv9 X_=>AB ?_;exact⟨A_,dl v8.1.2.2.1,R,X_⟩;refine AJ (λF=>?_) (λ_=>?_);rotate_left 1;apply AB;exact⟨⟨B,v.2⟩,D_,v.1,h.ki.1⟩;have⟨t,n,_⟩:=J.2.2.2.2.2.1 i.toNat g (by have:=CZ G;omega) G;have n:=n F;apply BA;rw[Y3 t];refine BA (BA (AA (KK h D_) λu a=>AA (jC v.2.1) λv6 U=>?_));have b:=v.up a.1.2.1;have q:=h.ki.2.2 g c;have K:=a.1.2.2.1.num b.1;have N:=a.1.2.2.1.2.2.1;have C:=a.1.2.2.2.2.2.ki;have s:g.1=st u.2.2.1.2.1 x.2.2.1:=by have:=(C.2.1 x.2.2.1 o! (by rw[a.1.1];dsimp only;omega)).1 g (by rw[a.2.1];exact c) m;exact this
 have I:=Xq K (p:=x.2.2.1) ⟨o!,by rw[<-m];exact t.2.1⟩ o!;have y:BW u.2.2.1.2.1 x.2.2.1=g.1.2.1:=by rw[<-Kh,<-s]
 have w:=a.2.2 (by have:=nL D_ g.1.1;have:=E! (·.2.1) ((h.ki.2.1 g.1.1 q.1 q.2.1).1 g c rfl);rw[Kh]at this;dsimp only;omega);refine AA (P:=λd=>∃A_,DP A_ (dl u.2.2.1) d) (AT (λZ=>AB ?_) (y? ⟨B,b.2⟩)) λv7 V=>AB ⟨V,a.1.2.2.1,b.1,by have:=C.1;rw[a.1.1]at this;exact this⟩;obtain⟨t1,o,t2,t3,t4⟩:=U Z;refine b.2.tear t2 (by rw[<-m];exact q.2.2.2) t1 t3 rfl t4 t rfl ?_ o! (λj H=>?_) λj=>?_;refine .inr ⟨(dl u.2.2.1).length,?_⟩;rw[H8];unfold dl;dsimp only at w⊢;rw[AGV K o!,<-s];unfold dl at H⊢;rw[Lb]at H⊢;rw[s,<-H8 (l:=u.2.2.1.2.1)];rw[H8];have:=nS K (p:=x.2.2.1) (j:=min j u.2.2.1.2.2.toNat) (k:=θ u.2.2.1.2.1) (by rw[H8,y,<-H,Kh]);rwa[H8]at this;unfold dl;rw[Lb];exact I _
def Eo{x}:Ao (D2 x) λr=>O:=by exact AK (λ_=>AA B6 λ_ _=>AB trivial) (y? trivial)
end Go.Pm
namespace Go.Pm
open Go Go.Ab
def dA{m:Nat}{c:AU×Bool}{s:Int×List Int×AU×Bool}(i:m<=16777216)(h:0<=s.1/\s.1<=m/\θ s.2.1=m/\s.2.2=c):Ao (Ad P8 s) λr=>θ r.1=m/\r.2=c:=by refine AW (λ(s:Int×List Int×AU×Bool)=>0<=s.1/\s.1<=m/\θ s.2.1=m/\s.2.2=c) (λ(s:Int×List Int×AU×Bool)=>((m:Int)-s.1).toNat) h (λs g=>?_);obtain⟨b,j,d,f⟩:=g;unfold P8;have e:=AX (x:=s.1+1);rw[e];refine AC (λa=>?_) (λ_=>AB ⟨d,f⟩);simp only[len]at a;refine AA (AE b a) λ_ _=>AA (AE b a) λ_ _=>AB ⟨⟨d!,d!,by simp[FM,d],f⟩,d!⟩
theorem kw{n:Int}{x:AU×List LY}(h:SQ n x.1):Ao (OX x) λr=>SQ n r.1:=by
 unfold OX;refine AA (P:=λr=>SQ n r.2.2.2.1) ?_ λr hr=>AB hr;refine AW (λ(s:Int×List Ba×List Int×List JL×AU×Bool)=>0<=s.1/\s.1<=1000/\s.2.1.length<=s.1/\s.2.2.1.length<=s.1/\s.2.2.2.1.length<=s.1/\SQ n s.2.2.2.2.1) (λ(s:Int×List Ba×List Int×List JL×AU×Bool)=>(1000-s.1).toNat) ⟨AY _,by dsimp only;omega,by simp,by simp,by simp,h⟩ (λs hI=>?_);obtain⟨i1,i2,i3,i4,i5,o⟩:=hI;obtain⟨B,i⟩:=id o;obtain⟨W,q,E,y⟩:=id i;unfold V1;refine AC (λV=>?_) (λ_=>AB o);refine AC (λad=>?_) (λ_=>AB o);refine AP (λ_=>?_) (λ_=>AB o);simp only[len]at V;have e:=AX (x:=s.1+1) (by omega);have b: ∀(v:Ba) (t:List Int×List JL×AU×Bool),t.1.length<=s.1+1->t.2.1.length<=s.1+1->SQ n t.2.2.1-> ∀Q:Step (Int×((List Ba)×((List Int)×((List JL)×(AU×Bool))))) ((List Ba)×((List Int)×((List JL)×(AU×Bool))))->Prop,(∀a:Int×List Ba×List Int×List JL×AU×Bool,(0<=a.1/\a.1<=1000/\a.2.1.length<=a.1/\a.2.2.1.length<=a.1/\a.2.2.2.1.length<=a.1/\SQ n a.2.2.2.2.1)/\(1000-a.1).toNat<(1000-s.1).toNat->Q (.next a))->Ao (Option.bind (app s.2.1 ([v]:List (Int×(Int×(Int×((Bool×Bc)×Int)))))) λG=>some (.next ((wi (s.1+1)),(G,t)))) Q:=by intro v t h1 T J Q L;refine AA (Ac (by simp;omega)) λG h7=>AB (L _ ?_);have l7:=h7.2.1;simp only[CY,CO]at l7;rw[e];exact⟨⟨by dsimp only;omega,by dsimp only;omega,by dsimp only;omega,by dsimp only;omega,by dsimp only;omega,J⟩,by dsimp only;omega⟩
 have same: ∀(v:Ba) (Q:Step (Int×((List Ba)×((List Int)×((List JL)×(AU×Bool))))) ((List Ba)×((List Int)×((List JL)×(AU×Bool))))->Prop),(∀a:Int×List Ba×List Int×List JL×AU×Bool,(0<=a.1/\a.1<=1000/\a.2.1.length<=a.1/\a.2.2.1.length<=a.1/\a.2.2.2.1.length<=a.1/\SQ n a.2.2.2.2.1)/\(1000-a.1).toNat<(1000-s.1).toNat->Q (.next a))->Ao (Option.bind (app s.2.1 ([v]:List (Int×(Int×(Int×((Bool×Bc)×Int)))))) λG=>some (.next ((wi (s.1+1)),(G,s.2.2)))) Q:=λv Q L=>b v s.2.2 (by omega) (by omega) o Q L;refine AA (AE i1 V) λv1 _=>?_;refine AT (λ_=>?_) (λ_=>?_)
 ·refine AA (fw q E y) λv2 T=>?_;refine AA (P:=λr=>r.1.length<=s.1+1/\r.2=s.2.2.2.2) ?_ λv4 U=>?_
  ·refine AT (λ_=>?_) (λ_=>AB ⟨by dsimp only;omega,rfl⟩);refine AA (Ac (by simp;omega)) λv3 J=>AB ⟨?_,rfl⟩;have:=J.2.1;simp at this;dsimp only;omega
  refine AA (P:=λr=>SQ n r.1) ?_ λv5 Z=>?_
  ·refine AT (λf=>AB (i.sr (T f))) (λ_=>AB (by rw[U.2];exact o))
  refine AA Eo λv6 _=>?_;exact b _ (v4.1,(s.2.2.2.1,v5)) U.1 (by dsimp only;omega) Z _ (λ_ h=>h)
 refine AT (λ_=>?_) (λ_=>?_)
 ·refine AC (λ_=>AA B6 λS _=>same _ _ (λ_ h=>h)) (λc1=>?_);refine AC (λ_=>AA B6 λS _=>same _ _ (λ_ h=>h)) (λX_=>?_);simp only[len]at X_;have Y_:=AX (x:=v1.2.1-1) (by omega);rw[Y_];refine AA (AE (by omega) (by omega)) λag _=>?_;refine AA (AE (by omega) (by omega)) λal _=>?_;refine AT (λ_=>AA B6 λS _=>same _ _ (λ_ h=>h)) (λ_=>?_);refine AA (AE (by omega) (by omega)) λao _=>?_;refine AA (AE (by omega) (by omega)) λap _=>?_;refine AA (mL q E y) λM H=>?_;have w:=i.sr H;refine AT (λ_=>same _ _ (λ_ h=>h)) (λ_=>?_);refine AT (λ_=>?_) (λ_=>?_)
  ·refine AA (P:=λr=>r.1.length<=s.1+1/\SQ n r.2.1) ?_ λN C=>b _ (s.2.2.1,N) (by dsimp only;omega) C.1 C.2 _ (λ_ h=>h);refine AT (λ_=>?_) (λ_=>AB ⟨by dsimp only;omega,w⟩);refine AA Gf λar _=>?_;refine AA (Ac (by simp;omega)) λax I=>AB ⟨?_,w⟩;have:=I.2.1;simp at this;dsimp only;omega
  ·exact b _ (s.2.2.1,(s.2.2.2.1,(M.1,s.2.2.2.2.2))) (by dsimp only;omega) (by dsimp only;omega) w _ (λ_ h=>h)
 refine AT (λ_=>?_) (λ_=>?_)
 ·refine AA (fy q E y) λF j=>?_;refine AA (P:=λr=>SQ n r.1) (AT (λf=>AB (i.sr (j f))) (λ_=>AB o)) λg d=>?_;refine AA Eo λz _=>?_;exact b _ (s.2.2.1,(s.2.2.2.1,g)) (by dsimp only;omega) (by dsimp only;omega) d _ (λ_ h=>h)
 refine AT (λ_=>?_) (λ_=>?_)
 ·refine AA (YE q y) λF j=>?_;refine AA (P:=λr=>SQ n r.1) (AT (λf=>AB (i.sr (j f))) (λ_=>AB o)) λg d=>?_;refine AA Eo λz _=>?_;exact b _ (s.2.2.1,(s.2.2.2.1,g)) (by dsimp only;omega) (by dsimp only;omega) d _ (λ_ h=>h)
 refine AT (λ_=>?_) (λ_=>?_)
 ·refine AA Gf λa0 _=>?_;refine AA KG λa1 k=>?_;refine AA (P:=λr=>SQ n r.1) (AT (λf=>AB ⟨B,W,SB.sk q.sb (q.ki.of rfl (k f).2.1 rfl rfl),(k f).1,y.up (LX.of (k f).2.2.1 (k f).2.1 (k f).2.2.2.1)⟩) (λ_=>AB o)) λg d=>?_;refine AA Eo λz _=>?_;exact b _ (s.2.2.1,(s.2.2.2.1,g)) (by dsimp only;omega) (by dsimp only;omega) d _ (λ_ h=>h)
 refine AT (λ_=>?_) (λ_=>?_)
 ·refine AA (fx q E y) λa2 ⟨A_,P,D_⟩=>?_;refine AA (jU D_.2 D_.1) λO K=>?_;refine AA (dA (m:=s.2.2.1.length) (c:=s.2.2.2.2) (by omega) ⟨AY _,by dsimp only;omega,rfl,rfl⟩) λp u=>?_;refine AK (λ_=>?_) (λf=>?_)
  ·refine AA Eo λR _=>?_;exact b _ (p.1,(s.2.2.2.1,(p.2.1,true))) (by have:=u.1;dsimp only;omega) (by dsimp only;omega) (by dsimp only;rw[u.2];exact o) _ (λ_ h=>h)
  ·refine AA Eo λR _=>?_;have l:=K f;dsimp only at l;rw[W]at l;exact b _ (p.1,(s.2.2.2.1,(O.1,p.2.2))) (by have:=u.1;dsimp only;omega) (by dsimp only;omega) l _ (λ_ h=>h)
 refine AT (λ_=>?_) (λ_=>?_)
 ·refine AA (jV q E y) λF j=>?_;refine AA (P:=λr=>SQ n r.1) (AT (λf=>AB (i.sr (j f))) (λ_=>AB o)) λg d=>?_;refine AA Eo λz _=>?_;exact b _ (s.2.2.1,(s.2.2.2.1,g)) (by dsimp only;omega) (by dsimp only;omega) d _ (λ_ h=>h)
 exact AA B6 λS _=>same _ _ (λ_ h=>h)
def CX(b:Ag):Prop:=0<=b.2/\Z b.1<=16777216/\∀x∈b.1,0<=x/\x<256
def CX.step{b}(h:CX b)(a:b.2<Z b.1):CX (b.1,wi (b.2+1)):=by have⟨a1,a2,a3⟩:=h;rw[(AX (x:=b.2+1))];exact⟨d!,a2,a3⟩
theorem XC{b:Ag}(h:CX b):Ao (HN b 256) λr=>CX r.2/\0<=r.1/\r.1<256:=by
 unfold HN;refine AC (λ_=>AB ⟨h,AY _,by show(0:Int)<256;decide⟩) (λa=>?_);simp[len]at a;refine AC (λa=>absurd a (by decide)) (λ_=>?_);refine AA (AE h.1 (by omega)) λc d=>?_;have⟨f,g⟩:=h.2.2 c d.2;have e:=AX (x:=c) (by omega);refine AC (λa=>absurd a (by decide)) (λ_=>?_);refine AT (λa=>absurd a (by decide)) (λ_=>AB ⟨h.step (by omega),?_,?_⟩)
 ·grind[Int.tmod_nonneg]
 ·grind[Int.tmod_lt_of_pos]
theorem A8{b:Ag}{x:Int}(h:CX b)(j:x<=4611686018427387904):Ao (A2 b x) λr=>CX r.2/\0<=r.1/\(r.1=0\/r.1<x):=by
 unfold A2;refine AC (λ_=>AB ⟨h,AY _,.inl rfl⟩) (λa=>?_);simp[len]at a;refine AC (λ_=>AB ⟨h,AY _,.inl rfl⟩) (λf=>?_);refine AA (AE h.1 (by omega)) λc e=>?_;have⟨d,g⟩:=h.2.2 c e.2;rw[(AX (x:=c) (by omega))];refine AC (λ_=>?_) (λ_=>?_)
 ·refine AA (XC (h.step (by omega))) λk i=>?_;grind[AT,AB,AX,Int.tmod_nonneg,Int.tmod_lt_of_pos]
 ·refine AT (λa=>absurd a (by omega)) (λ_=>AB ⟨h.step (by omega),Int.tmod_nonneg _ d,.inr (Int.tmod_lt_of_pos _ (by omega))⟩)
def Ya{b:Ag}{x:Unit}(h:CX b):Ao (Ik b x) λr=>CX r.2:=by unfold Ik;refine AA (A8 h g!) λt e=>AA (A8 e.1 g!) λu m=>AA (P:=λr=>CX r.2/\0<=r.1/\r.1<=14) ?_ λc f=>?_;grind[AT,AB,AA,A8];have⟨d,a,k⟩:=f;refine AA (P:=λl:List Int=>θ l=0) ⟨_,C! ⟨AY _,a,o!⟩,k!⟩ λv n=>AA (P:=λr=>CX r.2) ?_ λw g=>AB g;refine AW (λ(s:Int×List Int×Ag)=>0<=s.1/\s.1<=c.1/\θ s.2.1<=s.1/\CX s.2.2) (λ(s:Int×List Int×Ag)=>(c.1-s.1).toNat) ⟨AY _,a,d!,d⟩ (λs i=>?_);have⟨o,p,q,j⟩:=i;unfold QX;rw[(AX (x:=s.1+1))];refine AC (λ_=>?_) (λ_=>AB j);grind[AA,A8,Ac,AB,List.length_cons,List.length_nil]
theorem ZS{b}{x}(h:CX b):Ao (HF b x) λr=>CX r.2:=by unfold HF;refine AA (A8 h g!) λf a=>AT (λ_=>AA (A8 a.1 g!) λe c=>AB c.1) (λ_=>AT (λ_=>?_) (λ_=>AA (A8 a.1 g!) λe c=>AB c.1));refine AA (A8 a.1 g!) λg d=>?_;have:=d.2.2;refine AA (AE d.2.1 w!) λ_ _=>?_;grind[AA,AE,AB]
theorem Xe{b}{x:W}(h:CX b)(u:x<=1099511627776):Ao (Hs b x) λr=>CX r.2:=by
 unfold Hs;refine AA (A8 h g!) λv a=>?_;have l:=a.2.2;refine AA (AE a.2.1 w!) λ_ _=>AA (AE a.2.1 w!) λw _=>AA (P:=λ_=>O) (AJ (y? trivial) (λ_=>AA (P:=λ_=>O) (AJ (y? trivial) (y? trivial)) λ_ _=>AB trivial)) λy _=>AA (P:=λr=>CX r.1) ?_ λp e=>?_;refine AJ (λ_=>?_) (λ_=>?_);refine AA (A8 a.1 o!) λz m=>AA (A8 m.1 g!) λA j=>AA (P:=λr=>CX r.1) ?_ λt i=>AB i;refine AJ (λ_=>?_) (y? j.1);refine AA (Ya j.1) λc n=>?_;have k:0<=(if(12<(R c.1))then 12 else(R c.1))/\(if(12<(R c.1))then 12 else(R c.1))<=Z c.1:=by simp[R];split<;>omega
 exact AA (Cj (AY _) k.1 k.2) λB _=>AB n;refine AA (P:=λr=>CX r.1) ?_ λt i=>AB i;exact AJ (λ_=>AA (A8 a.1 g!) λo d=>AB d.1) (y? a.1);refine AA (A8 e g!) λq f=>AA (P:=λr=>CX r.1) ?_ λs g=>AB g;refine AJ (λ_=>?_) (y? f.1);grind[AA,ZS,AB]
theorem Yb{b}{x:W×W×N}(h:CX b)(f:0<=x.1/\x.1<=64/\x.2.1<=64):Ao (Il b x) λr=>CX r.2:=by unfold Il;rw[(AX (x:=x.1+1))];refine AA (A8 h g!) λg a=>AA (P:=λ_=>O) (AJ (y? trivial) (y? trivial)) λi _=>AJ (y? a.1) (λ_=>AJ (λ_=>AA (A8 a.1 o!) λj c=>AB c.1) (λ_=>AJ (y? a.1) (λ_=>AJ (y? a.1) (λ_=>AA (P:=λs=>(∃u,s=.inl u/\CX u.1)\/∃u,s=.inr u/\CX u.1) ?_ λs e=>?_))));refine AJ (λ_=>?_) (λ_=>AJ (y? (.inl ⟨_,rfl,a.1⟩)) (y? (.inr ⟨_,rfl,a.1⟩)));refine AJ (λ_=>?_) (y? (.inr ⟨_,rfl,a.1⟩));refine AA (A8 a.1 g!) λk d=>?_;grind[AA,A8,AB];grind[BB,AB,Au,AA,A8,Xe]
def WJ{b:Ag}{x:Int×Int×Bool}(h:CX b)(g:0<=x.1/\x.1<=64/\x.2.1<=1000/\ -1000<=x.2.1):Ao (G1 b x) λr=>CX r.2:=by unfold G1;rw[(AX (x:=x.2.1+1))];refine AA (A8 h o!) λk a=>?_;have c:=a.2.2;refine AA (P:=λr=>CX r.2) ?_ λl d=>AB d;refine AW (λ(s:Int×List LY×Ag)=>0<=s.1/\s.1+θ s.2.1<=1010/\CX s.2.2) (λ(s:Int×List LY×Ag)=>s.1.toNat) ⟨a.2.1,w!,a.1⟩ (λs e=>?_);have⟨i,j,f⟩:=e;unfold NI;rw[(AX (x:=s.1-1))];refine AC (λ_=>?_) (λ_=>AB f);grind[AA,Yb,Ac,AB,List.length_cons,List.length_nil]
variable {B:Int->Prop}
def wY:Dg (1,[],0):=⟨g!,g!,k!,g!,k!,λi e h=>by simp at h⟩
def kj{x}:Ao (IX x) λr=>r=(1,[],0):=by unfold IX;exact AB rfl
def Wf{x:W×W}(h:1<=x.1/\x.1<=64/\1<=x.2/\x.2<=64):Ao (ER x) λr=>r.2=0/\r.1.1=x.1/\SK (λ_=>O) r.1/\Dg r.1.2.2.1/\r.1.2.2.1.1=1:=by unfold ER;refine AC (O! · o!) (λ_=>AC (O! · o!) (λ_=>AC (O! · o!) (λ_=>AC (O! · o!) (λ_=>AA ML λf c=>AA I8 λg d=>AA kj λi b=>AB ⟨rfl,rfl,⟨⟨k!,k!⟩,k!,k!,?_⟩,?_⟩))));unfold KI FD;dsimp only;rw[c,b];refine⟨LI.nil _,λp _ _=>⟨k!,k!,λw e=>?_⟩,k!⟩;have:=d w (BQ e);exact⟨by rw[this];exact AY _,λ_ _=>this⟩;dsimp only;rw[b];exact⟨wY,rfl⟩
def AHM{x:W}(h:1<=x/\x<=64):Ao (Fs x) λr=>r.2=0:=by unfold Fs;refine AC (O! · o!) (λ_=>AC (O! · o!) (λ_=>AA (Nv o!) λb _=>AB rfl))
def kv{x:W×W}(h:1<=x.1/\x.1<=64/\1<=x.2/\x.2<=64):Ao (OW x) λr=>SQ x.1 r.1:=by unfold OW;refine AA (Wf h) λe a=>AK (O! a.1 ·) (λ_=>AA ((kf).and (AHM ⟨h.1,h.2.1⟩)) λf b=>AK (O! b.2 ·) (y? ?_));exact⟨_,a.2.1,a.2.2.1,a.2.2.2.1,a.2.2.2.2,(b.1 b.2).1,λi s d=>⟨λ_=>.inl (((b.1 b.2).2.2 i s d).trans (nw _)),.inl trivial⟩⟩
def XD{b}{x:W×N}(h:CX b)(c:x.1<=1000/\ -1000<=x.1):Ao (HO b x) λr=>CX r.2/\∃n,1<=n/\n<=4/\SQ n r.1:=by unfold HO;refine AA (A8 h g!) λl a=>AA (A8 a.1 g!) λm g=>?_;obtain⟨a1,a2,a3⟩:=a;obtain⟨d,o,p⟩:=g;have e:=AX (x:=1+l.1);have f:=AX (x:=1+m.1);rw[e,f];refine AA (kv d!) λq i=>AA (WJ d ⟨d!,d!,c.1,c.2⟩) λs j=>AA (kw i) λt k=>AB ⟨j,_,d!,d!,k⟩
def PQ{b}{x:W×N}(h:CX b)(d:x.1<=1000/\ -1000<=x.1):Ao (Ht b x) λr=>CX r.2/\1<=r.1.1/\r.1.1<=4/\LI r.1.1 r.1.2.2.1.2.1/\Dg r.1.2.2.1/\r.1.2.2.1.1=1:=by unfold Ht;refine AA (XD h d) λl a=>AB ?_;obtain⟨c,n,i,j,_,k,e,f,g⟩:=a;exact⟨c,d!,d!,e.ki.1,f,g.1⟩
def mG{b}{x:W}(h:CX b)(i:x<=1000/\ -1000<=x):Ao (Ll b x) λr=>CX r.2.2/\1<=r.1/\r.1<=4/\Dg r.2.1/\∃n,LI n r.2.1.2.1:=by unfold Ll;refine AA (PQ h i) λo f=>?_;obtain⟨c,j,k,l,d,m⟩:=f;refine AA Gf λp g=>?_;have e:=g d;refine AA (KG.and (uG d d!)) λq a=>AB ⟨c,j,k,(a.1 a.2).1,_,by have:=l;rw[<-(a.1 a.2).2.1]at this;exact this⟩
end Go.Pm
namespace Go.Pm
open Go Go.Ab
def It{x}:Ao (Hk x) λr=>r=Y↔1<=x.1/\x.1<=x.2.1/\x.2.1<=1099511627776/\0<=x.2.2.1/\x.2.2.1<=x.2.2.2.1/\x.2.2.2.1<64/\0<=x.2.2.2.2/\x.2.2.2.2<=8:=by
 unfold Hk;exact x!
theorem M0{x}:Ao (C7 x) λr=>O:=by
 unfold C7;exact x!
def RD{x:List AI×AI}{s:Int}(h:0<=s/\s<=θ x.1/\(θ x.1:Int)<=16777216):Ao (Ad (Is x) s) λr=>0<=r/\r<=θ x.1:=by
 refine AW (λ(s:Int)=>0<=s/\s<=θ x.1/\(θ x.1:Int)<=16777216) (λ(s:Int)=>((θ x.1:Int)-s).toNat) h (λs a=>?_);unfold Is;exact x!
theorem dD{x:E AI×AI}(h:Z x.1<=16777215):Ao (Ck x) λr=>Z r.1<=Z x.1+1:=by
 refine AA (RD ⟨AY _,o!⟩) λp a=>?_;have main:Ao (σ (WB x.1 0 p) λb=>
  σ (WB x.1 p (R x.1)) λc=>
  σ (app [] b) λd=>
  σ (app d ([x.2]:E (W×(W×(W×(W×(W×(W×((W×(W×((N×Bc)×(N×Bc))))×Bc))))))))) λe=>
  σ (app e c) λf=>
  D (f,Y)) λr=>Z r.1<=Z x.1+1:=by
  refine AA (Bs (AY _) a.1 a.2) λj g=>AA (Bs a.1 q! q!) λk i=>?_;grind[AA,Ac,AB]
 refine AC (λl=>?_) (λ_=>main);grind[AA,AE,M0,AT,AB]
def Zp{x:Af}{s:Int}(h:0<=s/\s<=θ x.2.2.2.2.2/\(θ x.2.2.2.2.2:Int)<=16777216):Ao (Ad (HG x) s) λr=>r≠.inl ζ:=by
 refine AW (λ(s:Int)=>0<=s/\s<=θ x.2.2.2.2.2/\(θ x.2.2.2.2.2:Int)<=16777216) (λ(s:Int)=>((θ x.2.2.2.2.2:Int)-s).toNat) h (λs b=>?_);unfold HG;exact x!
def kE(x:Af):Prop:=1<=x.1/\x.1<=x.2.1/\x.2.1<=1099511627776/\0<=x.2.2.1/\x.2.2.1<=x.2.2.2.1/\x.2.2.2.1<64/\0<=x.2.2.2.2.1/\x.2.2.2.2.1<=8/\Z x.2.2.2.2.2<=4096
def U4{x}:Ao (Ev x) λr=>r=Y->kE x:=by refine AA It λe b=>AP (y? λa=>by cases a) (λc=>?_);have hn:=b.1 c;refine AC (y? λa=>by cases a) (λd=>?_);simp[R]at d;refine AA (Zp ⟨AY _,o!⟩) λr hr=>?_;grind[kE,BE,AB]
def Sl{x:List AI×Int×Int×Int×Int×Int}{s:Int×Af}(h:0<=s.1/\s.1<=θ x.1/\θ x.1<=16777215):Ao (Ad (O9 x) s) λr=>∀u,r=.inl u->u.1≠0:=by
 refine AW (λ(s:Int×Af)=>0<=s.1/\s.1<=θ x.1/\θ x.1<=16777215) (λ(s:Int×Af)=>((θ x.1:Int)-s.1).toNat) h (λs b=>?_);unfold O9;exact x!
def Sm{a:Bool×Int×Af}{b:AI}{s:Bool×Int}(h:0<=s.2/\s.2<=θ a.2.2.2.2.2.2.2/\θ a.2.2.2.2.2.2.2<=16777215):Ao (Ad (PA a b) s) λr=>True:=by
 refine AW (λ(s:Bool×Int)=>0<=s.2/\s.2<=θ a.2.2.2.2.2.2.2/\θ a.2.2.2.2.2.2.2<=16777215) (λ(s:Bool×Int)=>((θ a.2.2.2.2.2.2.2:Int)-s.2).toNat) h (λs c=>?_);unfold PA;exact x!
def jY{x:List AI×Int×Int×Int×Int×Int}(h:θ x.1<=16777215):Ao (Jv x) λr=>r.2=0->kE r.1:=by
 refine AA It λp _=>AP (λ_=>AB n!) (λ_=>AA (Sl ⟨AY _,q!,h⟩) λq g=>BE (λu e=>AB λa=>O! a (g u e)) (λu e=>AA (P:=λr=>θ r.2.2.2.2.2.2<=16777215) ?_ λl f=>?_));refine AW (λ(s:Bool×Int×Af)=>0<=s.2.1/\s.2.1<=θ x.1/\θ s.2.2.2.2.2.2.2<=s.2.1) (λ(s:Bool×Int×Af)=>((θ x.1:Int)-s.2.1).toNat) ⟨AY _,q!,k!⟩ (λs i=>?_);have⟨j,n,o⟩:=i;unfold KU;rw[(AX (x:=s.2.1+1))];refine AC (λc=>?_) (λ_=>AB q!);simp[len]at c;have b:((0<=s.2.1+1/\s.2.1+1<=θ x.1/\θ s.2.2.2.2.2.2.2<=s.2.1+1)/\((θ x.1:Int)-(s.2.1+1)).toNat<((θ x.1:Int)-s.2.1).toNat):=⟨o!,o!⟩
 refine AA (AE j c) λt _=>AA CD λv _=>AP (λ_=>AB b) (λ_=>AC (λ_=>AB b) (λ_=>AC (λ_=>AB b) (λ_=>AC (λ_=>AB b) (λ_=>AC (λ_=>AB b) (λ_=>AA (Sm ⟨AY _,q!,o!⟩) λk _=>?_)))));grind[AA,dD,AB];refine AJ (λ_=>AB n!) (λ_=>AC (λ_=>AB n!) (λ_=>AA U4 λm d=>AP (λ_=>AB n!) (λc=>AB λ_=>d c)))
def jX{x}:Ao (Hj x) λr=>O:=by
 unfold Hj;exact x!
def dC{x:Af}:Ao (IP x) λr=>θ r.1<=1099511627776:=by refine AA U4 λk b=>AP (λ_=>AB k!) (λa=>?_);have h:=(b a).2.2.2.2.2.2.2.2;refine AA jX λl _=>AA Ur λm g=>AA (P:=λr:Bc=>θ r<=1099511627776) ?_ λo c=>AB c;refine AW (λ(s:Bc×Int)=>0<=s.2/\s.2<=θ x.2.2.2.2.2/\θ s.1<=8408*s.2+8408) (λ(s:Bc×Int)=>((θ x.2.2.2.2.2:Int)-s.2).toNat) ⟨AY _,q!,q!⟩ (λs d=>?_);have⟨f,i,j⟩:=d;have e:=AX (x:=s.2+1);refine AC (λa=>?_) (λ_=>AB o!);refine AA (AE f a) λn _=>?_;grind[AA,cT,Ur,Cb,AB]
def SA(a:AL):Prop:=Z a.1<=16/\Z a.2.2.1<=16777216/\∀f∈a.2.2.1,Z f.2.2<=1099511627776
def VA(a:AL):Prop:=1<=a.2.1/\a.2.1<=64/\1<=Z a.1/\Z a.1<=16/\1<=a.2.2.2.1/\a.2.2.2.1<=1099511627777/\1<=a.2.2.2.2/\a.2.2.2.2<=1073741825/\Z a.2.2.1<=256
theorem dE{x:Int×List Int}:Ao (Ff x) λr=>r=true->1<=x.1/\x.1<=64/\1<=x.2.length/\x.2.length<=16:=by
 unfold Ff;refine AC (λ_=>AB λa=>by cases a) (λh=>?_);refine AC (λ_=>AB λa=>by cases a) (λi=>?_);refine AC (λ_=>AB λa=>by cases a) (λb=>?_);refine AC (λ_=>AB λa=>by cases a) (λc=>?_);simp only[len]at b c;refine AA (AE (AY _) (by omega)) λk _=>?_;refine AK (λ_=>AB λa=>by cases a) (λ_=>?_);refine AA (P:=λ_=>True) ?_ λr _=>?_
 ·refine AW (λ(s:Int)=>1<=s/\s<=x.2.length) (λ(s:Int)=>((x.2.length:Int)-s).toNat) ⟨AY _,by omega⟩ (λs j=>?_);unfold M5;have d:=AX (x:=s-1) (by omega);have f:=AX (x:=s+1) (by omega);rw[d,f];refine AC (λg=>?_) (λ_=>AB trivial);simp only[len]at g;refine AA (AE (by omega) (by omega)) λ_ _=>?_;refine AA (AE (by omega) (by omega)) λ_ _=>?_;exact AC (λ_=>AB trivial) (λ_=>AB ⟨⟨by omega,by omega⟩,by omega⟩)
 ·refine BE (λu _=>AB λ_=>⟨by omega,by omega,by omega,by omega⟩) (λu _=>?_);have e:=AX (x:=len x.2-1) (by simp only[len];omega);rw[e];exact AA (AE (by simp only[len];omega) (by simp only[len];omega)) λl _=>AB λ_=>⟨by omega,by omega,by omega,by omega⟩
def Zq{x:AL}{s:Int×Int}(h:0<=s.2/\s.2<=θ x.2.2.1/\θ x.2.2.1<=256):Ao (Ad (Jh x) s) λr=>r≠.inl ζ:=by
 refine AW (λ(s:Int×Int)=>0<=s.2/\s.2<=θ x.2.2.1/\θ x.2.2.1<=256) (λ(s:Int×Int)=>((θ x.2.2.1:Int)-s.2).toNat) h (λs b=>?_);unfold Jh;exact x!
def PD{x}:Ao (Ci x) λr=>r=Y->VA x:=by
 unfold Ci;refine AA dE λi c=>AP (y? λa=>by cases a) (λd=>?_);obtain⟨a1,a2,a3,a4⟩:=c d;refine AC (y? λa=>by cases a) (λe=>AC (y? λa=>by cases a) (λf=>AC (y? λa=>by cases a) (λg=>AC (y? λa=>by cases a) (λh=>AC (y? λa=>by cases a) (λb=>?_)))));simp only[R]at b;refine AA (Zq ⟨AY _,d!,o!⟩) λr hr=>?_;have q:VA x:=⟨a1,a2,a3,a4,o!⟩
 exact BE (λu _=>AB λ_=>q) (λu _=>AB λ_=>q)
def gA{x:AL×W}(h:Z x.1.1<=16)(a:0<=x.2/\x.2<Z x.1.1):Ao (EI x) λr=>O:=by unfold EI;have e:=AX (x:=x.2+1);rw[e];refine AA (P:=λ_=>O) ?_ λd _=>AA (AE a.1 a.2) λf _=>AB trivial;refine AC (λb=>?_) (y? trivial);simp only[R]at b;exact AA (AE o! b) λc _=>AB trivial
def Sp{x:AL×Aa×Int}{a:List AI}{s:Int×AL}(h:0<=s.1/\s.1<=θ a/\θ a<=4096):Ao (Ad (PB x a) s) λr=>∀u,r=.inl u->u.1≠0:=by
 refine AW (λ(s:Int×AL)=>0<=s.1/\s.1<=θ a/\θ a<=4096) (λ(s:Int×AL)=>((θ a:Int)-s.1).toNat) h (λs c=>?_);unfold PB;exact x!
def ADQ{x:Aa×W}(h:Dg x.1)(c:x.2=x.1.1+Z x.1.2.1-1):Ao (EH x) λr=>r.1.2.2=r.1.1+Z r.1.2.1-1/\r.1.1=x.1.1:=by refine AA BM λv e=>AP (λa=>?_) (λ_=>?_);grind;refine AA Ea λf b=>?_;rw[h.last]at b;have d:=h.2.2.2.2.1;refine AC (O! · o!) (y? ⟨?_,rfl⟩);grind
def ABF{b}{x:W}(h:CX b)(g:x<=1000/\ -1000<=x):Ao (Ll b x) λr=>r.2.1.2.2=r.2.1.1+Z r.2.1.2.1-1/\r.2.1.1=1:=by refine AA (PQ h g) λm e=>?_;obtain⟨c,j,k,l,d,i⟩:=e;refine AA Gf λn f=>AA (ADQ d (f d)) λo a=>AB ⟨a.1,a.2.trans i⟩
def kh{x:Aa×W}(h:Dg x.1)(p:x.1.2.2=x.1.1+Z x.1.2.1-1)(l:x.1.1<=x.2)(m:x.2<=x.1.2.2+1)(n:x.2<=1099511627776):Ao (Gx x) λr=>r.2=0/\Dg r.1/\r.1.1=x.2:=by obtain⟨a1,a2,a3,a4,a5,a6⟩:=id h;refine AA BM λv q=>AP (λa=>?_) (λ_=>?_);grind;refine AC (O! · o!) (λ_=>AA Ea λf d=>?_);rw[h.last]at d;have g:=AX (x:=f+1);have j:=AX (x:=x.1.2.2+1);have k:=AX (x:=x.2-x.1.1);refine AC (O! · o!) (λ_=>AC (O! · o!) (λ_=>AC (O! · o!) (λ_=>AA (Bs o! q! q!) λs b=>?_)));have l2:=b.2;simp only[R]at l2;refine AA (Ac w!) λt c=>AB ⟨rfl,?_,rfl⟩;refine⟨q!,q!,q!,q!,q!,λi e o=>?_⟩;grind
def Ris(l:E W)(n:W):Prop:=∀(i:U)(a b:W),(i:W)+1<n->l[i]?=D a->l[i+1]?=D b->a<b
def BD(n:W)(l:E W):Prop:=1<=n/\n<=64/\1<=Z l/\Z l<=16/\l[0]?=D 0/\Ris l (Z l)/\∀a,l[Z l-1]?=D a->a<n
theorem gg{x:Int×List Int}:Ao (Ff x) λr=>r=true↔BD x.1 x.2:=by
 unfold Ff;refine AC (λc=>AB ⟨λd=>(by cases d),λh=>(by have:=h.1;omega)⟩) (λL=>?_);refine AC (λc=>AB ⟨λd=>(by cases d),λh=>(by have:=h.2.1;omega)⟩) (λM=>?_);refine AC (λc=>AB ⟨λd=>(by cases d),λh=>(by have:=h.2.2.1;simp only[len]at c;omega)⟩) (λy=>?_);refine AC (λc=>AB ⟨λd=>(by cases d),λh=>(by have:=h.2.2.2.1;simp only[len]at c;omega)⟩) (λz=>?_);simp only[len]at y z;refine AA (AE (AY _) (by omega)) λQ E=>?_;have f:=E.1;refine AK (λc=>AB ⟨λd=>(by cases d),λh=>?_⟩) (λo=>?_)
 ·have:=h.2.2.2.2.1;simp only[Int.toNat_zero]at f;rw[f]at this;exact absurd (BL this) c
 rw[o]at f;refine AA (P:=λr=>(r= .inl false/\ ¬Ris x.2 x.2.length)\/(r= .inr ()/\Ris x.2 x.2.length)) ?_ λr hr=>?_
 ·refine AW (λ(s:Int)=>1<=s/\s<=x.2.length/\Ris x.2 s) (λ(s:Int)=>((x.2.length:Int)-s).toNat) ⟨AY _,by omega,λi a b v=>absurd v (by omega)⟩ (λs G=>?_);obtain⟨N,O,w⟩:=G;unfold M5;have A_:=AX (x:=s-1) (by omega);have B:=AX (x:=s+1) (by omega);rw[A_,B];refine AC (λk=>?_) (λk=>AB (.inr ⟨rfl,?_⟩))
  ·simp only[len]at k;refine AA (AE (by omega) (by omega)) λa j=>?_;refine AA (AE (by omega) k) λb u=>?_;have t:(s-1).toNat+1=s.toNat:=by omega
   refine AC (λJ=>AB (.inl ⟨rfl,λH=>?_⟩)) (λm=>AB ⟨⟨by omega,by omega,λi p q v n l=>?_⟩,by omega⟩)
   ·have:=H (s-1).toNat a b (by omega) j.1 (by rw[t];exact u.1);omega
   ·by_cases I:(i:Int)+1<s
    ·exact w i p q I n l
    ·have C:i=(s-1).toNat:=by omega
     subst C;rw[t]at l;rw[j.1]at n;rw[u.1]at l;have:=BL n;have:=BL l;omega
  ·simp only[len]at k;have:s=x.2.length:=by omega
   rw[<-this];exact w
 ·rcases hr with⟨rfl,hr⟩|⟨rfl,hr⟩
  ·exact BB (AB ⟨λd=>(by cases d),λh=>absurd h.2.2.2.2.2.1 hr⟩)
  ·refine Au ?_;have e:=AX (x:=len x.2-1) (by simp only[len];omega);rw[e];refine AA (AE (by simp only[len];omega) (by simp only[len];omega)) λK F=>AB ?_;have g:=F.1;have D_:(len x.2-1).toNat=x.2.length-1:=by simp only[len];omega
   rw[D_]at g;rw[decide_eq_true_eq];refine⟨λm=>⟨by omega,by omega,by omega,by omega,f,hr,λa j=>?_⟩,λh=>h.2.2.2.2.2.2 K g⟩;rw[g]at j;have:=BL j;omega
def FR(l:E AS)(m n:W):Prop:=(∀(i:U)(f:AS),(i:W)<n->l[i]?=D f->0<f.2.1/\f.2.1<m)/\∀(i:U)(f g:AS),(i:W)+1<n->l[i]?=D f->l[i+1]?=D g->f.2.1<g.2.1
def VB(a:AL):Prop:=BD a.2.1 a.1/\1<=a.2.2.2.1/\a.2.2.2.1<=1099511627777/\1<=a.2.2.2.2/\a.2.2.2.2<=1073741825/\Z a.2.2.1<=256/\FR a.2.2.1 a.2.2.2.2 (Z a.2.2.1)
theorem ND{x:AL}:Ao (Ci x) λr=>r=ζ↔VB x:=by
 unfold Ci;refine AA gg λU w=>AP (λj=>AB ⟨λb=>(by cases b),λh=>(by rw[w.2 h.1]at j;cases j)⟩) (λj=>?_);have H:=w.1 j;refine AC (λc=>AB ⟨λb=>(by cases b),λh=>(by have:=h.2.1;omega)⟩) (λN=>AC (λc=>AB ⟨λb=>(by cases b),λh=>(by have:=h.2.2.1;omega)⟩) (λO=>AC (λc=>AB ⟨λb=>(by cases b),λh=>(by have:=h.2.2.2.1;omega)⟩) (λQ=>AC (λc=>AB ⟨λb=>(by cases b),λh=>(by have:=h.2.2.2.2.1;omega)⟩) (λR=>AC (λc=>AB ⟨λb=>(by cases b),λh=>(by have:=h.2.2.2.2.2.1;simp only[len]at c;omega)⟩) (λA_=>?_)))));simp only[len]at A_;refine AA (P:=λr=>(r=.inl η/\¬FR x.2.2.1 x.2.2.2.2 (θ x.2.2.1))\/(r=.inr ()/\FR x.2.2.1 x.2.2.2.2 (θ x.2.2.1))) ?_ λr hr=>?_;refine AW (λ(s:Int×Int)=>0<=s.2/\s.2<=θ x.2.2.1/\FR x.2.2.1 x.2.2.2.2 s.2/\0<=s.1/\(s.2=0->s.1=0)/\∀f,0<s.2->x.2.2.1[(s.2-1).toNat]?=δ f->f.2.1=s.1) (λ(s:Int×Int)=>((θ x.2.2.1:Int)-s.2).toNat) ⟨AY _,d!,⟨λi f k=>O! k d!,λi f g k=>O! k d!⟩,AY _,λ_=>rfl,λf d=>O! d d!⟩ (λs G=>?_);obtain⟨q,S,t,T,L,z⟩:=G;unfold Jh;have e:=AX (x:=s.2+1);rw[e];refine AC (λj=>?_) (λj=>AB (.inr ⟨rfl,?_⟩));simp only[len]at j;refine AA (AE q j) λu D_=>?_;have a:=D_.1;refine AC (λJ=>AB (.inl ⟨rfl,λn=>?_⟩)) (λK=>?_);by_cases b:s.2=0;have:=(n.1 s.2.toNat u o! a).1;have:=L b;omega;obtain⟨f,d⟩:∃f,x.2.2.1[(s.2-1).toNat]?=δ f:=⟨_,Ar o!⟩
 have m:(s.2-1).toNat+1=s.2.toNat:=o!
 have:=n.2 (s.2-1).toNat f u o! d (by rw[m];exact a);have:=z f o! d;omega;refine AA (AE q j) λv E=>?_;have B:v=u:=by have:=E.1;rw[a]at this;exact(BL this).symm
 subst B;refine AC (λI=>AB (.inl ⟨rfl,λn=>?_⟩)) (λy=>?_);have:=(n.1 s.2.toNat v o! a).2;omega;refine AA (AE q j) λM F=>AB ?_;have C:M=v:=by have:=F.1;rw[a]at this;exact(BL this).symm
 subst C;refine⟨⟨d!,d!,⟨λi f k d=>?_,λi f g k d p=>?_⟩,d!,λb=>O! b d!,λf _ d=>?_⟩,d!⟩;dsimp only at k;by_cases l:(i:Int)<s.2;exact t.1 i f l d;have o:i=s.2.toNat:=o!
 subst o;rw[a]at d;have:=BL d;subst this;exact o!;dsimp only at k;by_cases l:(i:Int)+1<s.2;exact t.2 i f g l d p;have o:i=(s.2-1).toNat:=o!
 have m:i+1=s.2.toNat:=o!
 rw[m,a]at p;have:=BL p;subst this;rw[o]at d;have:=z f o! d;omega;dsimp only at d⊢;have m:(s.2+1-1).toNat=s.2.toNat:=o!
 rw[m,a]at d;have:=BL d;rw[this];simp only[len]at j;have:s.2=θ x.2.2.1:=o!
 rw[<-this];exact t;rcases hr with⟨rfl,hr⟩|⟨rfl,hr⟩;exact BB (AB ⟨λb=>(by cases b),λh=>O! h.2.2.2.2.2.2 hr⟩);exact Au (AB ⟨λ_=>⟨H,o!,o!,o!,o!,o!,hr⟩,λ_=>rfl⟩)
def rW{x}:Ao (ID x) λr=>r=Y↔0<=x/\x<64:=by
 unfold ID;exact x!
theorem fN{x}:Ao (Ol x) λr=>r=Y↔Pc x:=by
 unfold Ol Pc
 exact x!
def LU{x}:Ao (On x) λr=>r=Y↔0<=x.1/\x.1<x.2.1:=by
 unfold On;exact x!
def vF{x}:Ao (NH x) λr=>r=Y↔x=Qy:=by grind[NH,Qy,AB,Prod.ext_iff]
def qB{x}:Ao (GS x) λr=>r=Y:=by grind[GS,AB]
def qC{x}:Ao (Tx x) λr=>r=Y↔1<=x.2.2.2.2.2.1/\x.2.2.2.2.2.1<=x.2.2.2.1:=by
 unfold Tx;exact x!
def qD{x}:Ao (Tz x) λr=>r=Y↔0<=x.1/\x.1<64/\x.2=Qy.2:=by
 unfold Tz Qy;have⟨a,b,⟨c,d⟩,e,f⟩:=x;refine AJ (λg=>?_) (λg=>AB ?_);refine AC (λh=>AB ?_) (λh=>AB ?_);simp at g;simp[g,h];try omega
 simp;try omega
 grind[Prod.ext_iff]
theorem Ke{x}:Ao (GR x) λr=>Ml x->r=Y:=by
 unfold GR;refine AC (λi=>AB λh=>?_) (λs=>?_);have:=h.1;omega;refine AC (λi=>AB λh=>?_) (λt=>?_);have:=h.2.1;omega;refine AC (λi=>AB λh=>?_) (λu=>?_);have:=h.2.2.2.2.2.2.2.2;unfold WM at this;omega;refine AC (λi=>AB λh=>?_) (λv=>?_);have:=h.2.2.2.2.2.2.2.2;unfold WM at this;omega;refine AA LU λw j=>AP (λi=>AB λh=>?_) (λn=>?_);rw[j.2 ⟨h.2.2.1,h.2.2.2.1⟩]at i;cases i;refine AA LU λy k=>AP (λi=>AB λh=>?_) (λo=>?_);rw[k.2 ⟨h.2.2.2.2.1,h.2.2.2.2.2.1⟩]at i;cases i;refine AA LU λz l=>AP (λi=>AB λh=>?_) (λp=>?_);rw[l.2 ⟨h.2.2.2.2.2.2.1,h.2.2.2.2.2.2.2.1⟩]at i;cases i;refine Ao.mono (P:=λr=>WM x->r=Y) ?_ λr h q=>h q.2.2.2.2.2.2.2.2;clear j k l n o p;have⟨a,b,c,d,e,f,g,m⟩:=x;unfold WM;dsimp only at*;refine AC (O! · o!) (λk0=>?_);exact x!
def j8{x}:Ao (Cg x) λr=>r=wi (wi (x.1+R x.2.1)-1):=by grind[Cg,AB]
def KE{x:Aa}(h:Dg x):Ao (HM x) λr=>r=ζ:=by have⟨a1,a2,a3,a4,a5,a6⟩:=id h;unfold HM;refine AC (λa=>O! a o!) (λ_=>AC (λa=>O! a o!) (λ_=>AC (λa=>O! a (by simp[len];omega)) (λ_=>?_)));rw[(AX (x:=x.1-1))];refine AC (λa=>O! a o!) (λ_=>AA j8 λf b=>?_);rw[h.last]at b;refine AC (λa=>O! a o!) (λ_=>AA (P:=λr=>∃u,r=.inr u) ?_ λr hr=>?_);refine AW (λ(s:Int)=>0<=s/\s<=θ x.2.1) (λ(s:Int)=>((θ x.2.1:Int)-s).toNat) ⟨AY _,o!⟩ (λs c=>?_);have⟨d,e⟩:=c;unfold ZQ;refine AC (λa=>?_) (λ_=>AB ⟨_,rfl⟩);grind[AA,AE,AX,AK,Ke,AP,AB];grind[Au,AB]
def fU{x}(h:Dg x):Ao (Ri x) λr=>r=x.1+Z x.2.1-1:=by unfold Ri;refine AA (KE h) λv c=>AP (λb=>?_) (λ_=>?_);rw[c]at b;cases b;refine AA j8 λd a=>AB ?_;rw[h.last]at a;exact a
theorem HV{x:AL}(h:VB x):Ao (Fm x) λr=>r=true:=by
 obtain⟨⟨M,N,O,Q,t,v,w⟩,a1,a2,a3,a4,a5,a6⟩:=id h;unfold Fm;refine AC (λa=>absurd a (by omega)) (λ_=>?_);refine AC (λa=>absurd a (by omega)) (λ_=>?_);refine AC (λa=>absurd a (by simp only[len];omega)) (λ_=>?_);refine AC (λa=>absurd a (by simp only[len];omega)) (λ_=>?_);refine AA (AE (AY _) (by omega)) λS C=>?_;have b:=C.1;rw[show((0:Int).toNat)=0 from rfl,t]at b;injection b with b;refine AK (λa=>absurd b.symm a) (λ_=>?_);have y:=AX (x:=len x.1-1) (by simp only[len];omega);rw[y];refine AA (AE (by simp only[len];omega) (by simp only[len];omega)) λJ D_=>?_;have c:=D_.1;have z:(len x.1-1).toNat=x.1.length-1:=by simp only[len];omega
 rw[z]at c;refine AC (λa=>absurd a (by have:=w J c;omega)) (λ_=>?_);refine AA (P:=λr=> ∃u,r= .inr u) ?_ λr hr=>?_
 ·refine AW (λ(s:Int)=>1<=s/\s<=x.1.length) (λ(s:Int)=>((x.1.length:Int)-s).toNat) ⟨AY _,by omega⟩ (λs i=>?_);obtain⟨o,G⟩:=i;unfold YN;refine AC (λa=>?_) (λ_=>AB ⟨_,rfl⟩);simp only[len]at a;have A_:=AX (x:=s-1) (by omega);have e:=AX (x:=s+1) (by omega);rw[A_,e];refine AA (AE (by omega) (by omega)) λK E=>?_;refine AA (AE (by omega) a) λL F=>?_
  have q:=v (s-1).toNat K L (by omega) E.1 (by have:(s-1).toNat+1=s.toNat:=by omega
                                               rw[this];exact F.1)
  refine AC (λa=>absurd a (by omega)) (λ_=>AB ⟨⟨by omega,by omega⟩,by omega⟩)
 ·obtain⟨u,rfl⟩:=hr;refine Au ?_;refine AC (λa=>absurd a (by omega)) (λ_=>?_);refine AC (λa=>absurd a (by omega)) (λ_=>?_);refine AC (λa=>absurd a (by omega)) (λ_=>?_);refine AC (λa=>absurd a (by omega)) (λ_=>?_);refine AC (λa=>absurd a (by simp only[len];omega)) (λ_=>?_);refine AA (P:=λr=> ∃u,r= .inr u) ?_ λr hr=>?_
  ·refine AW (λ(s:Int×Int)=>0<=s.2/\s.2<=x.2.2.1.length/\(s.2=0->s.1=0)/\ ∀f:AS,0<s.2->x.2.2.1[(s.2-1).toNat]? =some f->s.1=f.2.1) (λ(s:Int×Int)=>((x.2.2.1.length:Int)-s.2).toNat) ⟨AY _,by dsimp only;omega,λ_=>rfl,λf m=>by dsimp only at m;omega⟩ (λs i=>?_);obtain⟨o,G,H,I⟩:=i;unfold YO;refine AC (λa=>?_) (λ_=>AB ⟨_,rfl⟩);simp only[len]at a;have e:=AX (x:=s.2+1) (by omega);rw[e];refine AA (AE o a) λl g=>?_;have p:=a6.1 s.2.toNat l (by omega) g.1;have R:s.1<l.2.1:=by
    by_cases k:s.2=0
    ·rw[H k];exact p.1
    ·have j:(s.2-1).toNat<x.2.2.1.length:=by omega
     have n:x.2.2.1[(s.2-1).toNat]? =some x.2.2.1[(s.2-1).toNat]:=Ar j
     have:=a6.2 (s.2-1).toNat _ l (by omega) n (by have:(s.2-1).toNat+1=s.2.toNat:=by omega
                                                   rw[this];exact g.1)
     rw[I _ (by omega) n];exact this
   refine AC (λa=>absurd a (by omega)) (λ_=>?_);refine AC (λa=>absurd a (by have:=p.2;omega)) (λ_=>AB ⟨⟨by dsimp only;omega,by dsimp only;omega,λk=>?_,λf m d=>?_⟩,by dsimp only;omega⟩)
   ·dsimp only at k;omega
   ·dsimp only at d⊢;have B:(s.2+1-1).toNat=s.2.toNat:=by omega
    rw[B,g.1]at d;injection d with d;rw[d]
  ·obtain⟨u,rfl⟩:=hr;exact Au (AB rfl)
def bB{x:AL×Aa×W×W}(h:VB x.1)(c:Dg x.2.1)(e:0<=x.2.2.1/\x.2.2.1<x.1.2.1/\0<=x.2.2.2):Ao (QU x) λr=>r=0:=by unfold QU;refine AA (HV h) λv d=>AP (λa=>?_) (λ_=>?_);rw[d]at a;cases a;refine AA (KE c) λf b=>AP (λa=>?_) (λ_=>?_);rw[b]at a;cases a;refine AC (O! · o!) (λ_=>AC (O! · o!) (λ_=>AC (O! · o!) (y? rfl)))
def dL{x p}{c}{k:U}(h:CS x p c)(o:Z x<=1099511627776)(u:1<=k)(m:k<=8):Ao (CG c (k:W)) λr=>CS x (p++DE r.1 k) r.2/\(r.2.2.2=0->gR k r.1)/\(c.2.2≠0->r=(0,c)):=by obtain⟨s,i,e⟩:=c;obtain⟨j,l⟩:=h;subst j;refine AK (λd=>AB ⟨⟨rfl,λb=>O! b d⟩,λb=>O! b d,λ_=>rfl⟩) (λd=>?_);subst d;obtain⟨a,hr,n⟩:=l rfl;subst hr n;rw[Ae]at o;rw[Yo o! o! o!];by_cases g:(k:W)<=Z a;rw[C! g,AD,C5];obtain⟨q,v⟩:=uK (t:=a) (k:=k) o! m;refine AB ⟨⟨rfl,λ_=>⟨a.drop k,?_,?_⟩⟩,λ_=>q,λf=>O! rfl f⟩;simp_all;dsimp only;rw[AX,Ae,A0];omega;rw[D! g,AD];exact AB ⟨⟨rfl,λb=>O! (show(5:W)=0 from b) g!⟩,λb=>O! (show(5:W)=0 from b) g!,λf=>O! rfl f⟩
def AF0{x p}{c}{n:W}(h:CS x p c)(l:Z x<=1099511627776)(hn:c.2.2=0->0<=n/\n<4294967296):Ao (Ez c n) λr=>CS x (p++r.1) r.2/\(r.2.2.2=0->(Z r.1:W)=n/\c.2.2=0):=by
 obtain⟨s,f,e⟩:=c;obtain⟨g,i⟩:=h;subst g;unfold Ez;by_cases d:e=0;subst d;obtain⟨a,hr,j⟩:=i rfl;obtain⟨o,t⟩:=hn rfl;subst hr j;obtain⟨m,rfl⟩:=FY o;rw[Ae]at l;rw[show wi (((p++a).length:W)-(Z p:W))=Z a by rw[Ae,AX];omega];by_cases q:(m:W)<=Z a;rw[F! o!,A!,AD,show((0:W) !=0)=X by decide,A!];have k:US (p++a) (wi (wi ((Z p:W)+(m:W))-(m:W))) (wi ((Z p:W)+(m:W)))=D (a.take m):=by rw[AX (x:=(Z p:W)+(m:W)),AX];unfold US;rw[C! q!,show((Z p:W)+(m:W)-(m:W)).toNat=Z p by omega,R6,show((Z p:W)+(m:W)).toNat-Z p=m by omega]
 rw[k,AD];refine AB ⟨⟨rfl,λ_=>⟨a.drop m,?_,?_⟩⟩,λ_=>⟨?_,q!⟩⟩;simp_all;dsimp only;rw[AX,Ae,BK];omega;grind;rw[G! o!,B!,AD,show((5:W) !=0)=Y by decide,B!];exact AB ⟨⟨rfl,λb=>O! (show(5:W)=0 from b) g!⟩,λb=>O! (show(5:W)=0 from b) g!⟩;rw[beq_false_of_ne d,A!,bne_iff_ne.2 d,B!];exact AB ⟨⟨rfl,λb=>O! b d⟩,λb=>O! b d⟩
def AFy{x p}{c}(h:CS x p c)(j:Z x<=1099511627776):Ao (Ey c ()) λr=>CS x (p++aI r.1) r.2/\(r.2.2.2=0->Ix r.1):=by
 refine AA (dL (k:=1) h j g! g!) λv o=>?_;obtain⟨⟨g,l⟩,s,z⟩:=o;refine AK (λd=>AB ⟨⟨g,λa=>O! a d⟩,λa=>O! a d⟩) (λd=>?_);obtain⟨f,hr,i⟩:=l d;have y:=(s d).1 g!;refine AT (λb=>AB ⟨⟨g,λ_=>⟨f,?_,?_⟩⟩,λ_=>⟨Bh _,.inr rfl⟩⟩) (λb=>?_);dsimp only;rw[b]at hr;exact hr;dsimp only;rw[b]at i;exact i;refine AC (y? ⟨⟨g,λa=>O! (show(4:W)=0 from a) g!⟩,λa=>O! (show(4:W)=0 from a) g!⟩) (λn=>AA (AF0 (x:=x) (p:=p++DE v.1 1) ⟨g,l⟩ j (λ_=>o!)) λw q=>AB ?_);obtain⟨⟨t,A⟩,u⟩:=q;refine⟨⟨t,λa=>?_⟩,λa=>?_⟩;dsimp only at a⊢;obtain⟨m,_⟩:=u a;have e:aI (Y,w.1)=DE v.1 1++w.1:=by unfold aI;rw[B!,m]
 grind;dsimp only at a⊢;exact⟨q!,.inl rfl⟩
def Zu{x p a:Bc}{n}{k}(c:x=p++(DE n k++a))(f:Z x<=1099511627776)(e:1<=k)(d:k<=8)(hn:gR k n):CG (x,(Z p:W),0) (k:W)=D (n,x,((p++DE n k).length:W),0):=by
 have b:=E! Z c;simp only[Ae,A0]at b;unfold CG;dsimp only;rw[show((0:W) !=0)=X by decide,A!];conv=>lhs;arg 1;rw[c]
 rw[Yo q! o! o!,C! q!,AD,C5,El (A0 _ _),sJ d hn];rw[Ae,A0];rw[AX];rfl
def AFz{x p w a:Bc}(c:x=p++(w++a))(e:Z x<=1099511627776):Ez (x,(Z p:W),0) (Z w:W)=D (w,x,((p++w).length:W),0):=by
 have b:=E! Z c;simp at b;unfold Ez;rw[show τ (wi ((Z x:W)-(Z p:W))<(Z w:W))=X from F! (by rw[AX];omega),A!];rw[AD,show((0:W) !=0)=X by decide,A!];dsimp only;have d:US x (wi (wi ((Z p:W)+(Z w:W))-(Z w:W))) (wi ((Z p:W)+(Z w:W)))=D w:=by rw[AX (x:=(Z p:W)+(Z w:W)),AX];unfold US;rw[C! o!,c,show((Z p:W)+(Z w:W)-(Z w:W)).toNat=Z p by omega,R6,show((Z p:W)+(Z w:W)).toNat-Z p=Z w by omega,Y9]
 rw[d,AD,AX,Ae];rfl
def AFx{x p a:Bc}{c}(e:x=p++(aI c++a))(f:Z x<=1099511627776)(j:Ix c):Ey (x,(Z p:W),0) ()=D (c,x,((p++aI c).length:W),0):=by
 obtain⟨b,d⟩:=c;obtain⟨h,i⟩:=j;dsimp only at h i;unfold Ey;cases b with
 |false=>
  have k:d=[]:=q!
  subst k;rw[show(1:W)=((1:U):W)from rfl,Zu e f g! g! ⟨λ_=>g!,g!,g!⟩];rfl
 |true=>have g:aI (Y,d)=DE (Z d:W) 1++d:=rfl;rw[g,A5]at e;rw[g];rw[show(1:W)=((1:U):W)from rfl,Zu e f g! g! ⟨λ_=>q!,o!⟩,AD];rw[show((0:W) !=0)=X by decide,A!,show((Z d:W)==255)=X by grind,A!,F! o!,A!];rw[AFz (by rw[e,A5]) f,AD,A5]
def AJa{x:Bc}(a:Z x<=1099511627776):Ao (Jp x) λr=>r.2=0->x=B5 r.1/\Ix r.1.2.2.2.2.2.2.1.2.2.1/\Ix r.1.2.2.2.2.2.2.1.2.2.2/\gR 4 (Z r.1.2.2.2.2.2.2.2:Int)/\GR r.1=δ Y:=by
 unfold Jp;have J:CS x [] (x,0,0):=⟨rfl,λ_=>⟨x,rfl,rfl⟩⟩
 refine AA (dL (k:=8) J a g! g!) λP z=>AA (dL (k:=1) z.1 a g! g!) λQ A=>AA (dL (k:=4) A.1 a g! g!) λR B=>AA (dL (k:=8) B.1 a g! g!) λS C=>AA (dL (k:=8) C.1 a g! g!) λT D=>AA (dL (k:=8) D.1 a g! g!) λU E=>AA (dL (k:=4) E.1 a g! g!) λV F=>AA (dL (k:=1) F.1 a g! g!) λW G=>EE (AFy G.1 a) λs N p=>EE (AFy p.1 a) λt y q=>AA (dL (k:=4) q.1 a g! g!) λl b=>AA (AF0 (n:=l.1) b.1 a (λc=>?_)) λK f=>?_;have:=(b.2.1 c).1 g!;rw[show(256:Int)^4=4294967296 by decide]at this;exact this;refine AK (λi=>AB λc=>O! c i) (λi=>AK (y? n!) (λH=>EE (Ke) λL j _=>AP (y? n!) (λI=>AB λ_=>?_)));subst I;obtain⟨g,d⟩:=f.2 i;have m:t.2.2.2=0:=R5 λe=>by have:=b.2.2 e;rw[this]at d;exact e d
 have v:=q.2 m;have M:s.2.2.2=0:=R5 λe=>by
  have:t=((X,[]),s.2):=by have:=y;unfold Ey CG at this;rw[bne_iff_ne.2 e,B!,AD,bne_iff_ne.2 e,B!]at this;injection this with this;exact this.symm
  rw[this]at m;exact e m
 have u:=p.2 M;obtain⟨h,o,O⟩:=f.1.2 i;have hr:h=[]:=by simp only[len]at H;have w:=E! Z o;rw[Ae]at w;exact EX o!
 subst hr;refine⟨?_,u,v,?_,j⟩;rw[o];unfold B5;dsimp only;rw[g];simp only[A5,Cq,D1];dsimp only;rw[g];exact b.2.1 d
def AJZ{e}(h:Ml e):Jp (B5 e)=δ (e,0):=by
 obtain⟨s,t,H,w,y,z,A,B,C,D,E⟩:=h.cells;have I:=QQ h;have g:gR 4 (Z e.2.2.2.2.2.2.2:W):=⟨λ_=>by rw[show(256:W)^4=4294967296 by decide];omega,o!⟩
 have a:B5 e=[]++(DE e.1 8++(DE e.2.1 1++(DE e.2.2.1 4++(DE e.2.2.2.1 8++(DE e.2.2.2.2.1 8++(DE e.2.2.2.2.2.1 8++(DE e.2.2.2.2.2.2.1.1 4++(DE e.2.2.2.2.2.2.1.2.1 1++
 (aI e.2.2.2.2.2.2.1.2.2.1++(aI e.2.2.2.2.2.2.1.2.2.2++(DE (Z e.2.2.2.2.2.2.2:W) 4++(e.2.2.2.2.2.2.2++[])))))))))))):=by rw[D1];rfl
 generalize B5 e=x at*;have i:CG (x,((0:W)),0) 8=_:=Zu (p:=[]) (k:=8) a o! g! g! w;rw[Cq]at i;rw[Cq]at a;have j:=Zu (k:=1) a o! g! g! y;rw[<-A5]at a;have l:=Zu (k:=4) a o! g! g! z;rw[<-A5]at a;have m:=Zu (k:=8) a o! g! g! A;rw[<-A5]at a;have n:=Zu (k:=8) a o! g! g! B;rw[<-A5]at a;have o:=Zu (k:=8) a o! g! g! C;rw[<-A5]at a;have q:=Zu (k:=4) a o! g! g! D;rw[<-A5]at a;have r:=Zu (k:=1) a o! g! g! E;rw[<-A5]at a;have F:=AFx a o! s;rw[<-A5]at a;have G:=AFx a o! t;rw[<-A5]at a;have c:=Zu (k:=4) a o! g! g! g;rw[<-A5]at a;have d:=AFz a o!;rw[D1]at a;rw[<-a]at d;unfold Jp;rw[i,AD];rw[show((1:U):W)=1 from rfl]at j r;rw[show((4:U):W)=4 from rfl]at l q c;rw[show((8:U):W)=8 from rfl]at m n o;rw[j,AD,l,AD,m,AD,n,AD,o,AD,q,AD,r,AD,F,AD,G,AD,c,AD,d,AD];obtain⟨b,u,v⟩:=Ke (x:=e);have f:b=Y:=v h;subst f;dsimp only[R];rw[show((0:W) !=0)=X by decide,A!,H!,A!];rw[show(e.1,e.2.1,e.2.2.1,e.2.2.2.1,e.2.2.2.2.1,e.2.2.2.2.2.1,(e.2.2.2.2.2.2.1.1,e.2.2.2.2.2.2.1.2.1,e.2.2.2.2.2.2.1.2.2.1,e.2.2.2.2.2.2.1.2.2.2),e.2.2.2.2.2.2.2)=e from rfl,u,AD,Ce,A!]
def AB0{a v i:W}(f:0≤i)(c:i<8)(e:0≤a)(b:a<2^(8*ο i))(g:0≤v)(d:v<256):
  0<=ι .u64 (((π ((κ 64 a)|||(κ 64 (ι .u64 ((ι .u64 v)*(2^(min (ο (wi (8*i))) 64))))))):U):W)/\
  ι .u64 (((π ((κ 64 a)|||(κ 64 (ι .u64 ((ι .u64 v)*(2^(min (ο (wi (8*i))) 64))))))):U):W)<2^(8*(wi (i+1)).toNat):=by
 have h:=AAM f c e b g d;rw[(by rw[(AX),Xt];omega:ι .u64 (wi (8*i))=wi (8*i))]at h;exact h
def AHp{n:W}(h:n<=1):(2:W)^(8*ο n)<=256:=by
 have:ο n=0\/ο n=1:=o!
 rcases this with h|h<;>rw[h]<;>decide
def Ja{x:Bc×W×W}(h:Z x.1<=2199023255552):Ao (By x) λr=>(r.2=0->0<=x.2.1/\x.2.1+x.2.2<=Z x.1/\(x.2.2<=4->0<=r.1/\r.1<4294967296)/\(x.2.2<=1->r.1<256))/\(r.2≠0->r.1=0):=by
 unfold By;refine AC (y? ⟨n!,λ_=>rfl⟩) (λo=>AC (y? ⟨n!,λ_=>rfl⟩) (λp=>AC (y? ⟨n!,λ_=>rfl⟩) (λq=>AC (y? ⟨n!,λ_=>rfl⟩) (λf=>?_))));simp[R]at f⊢;rw[(AX (x:=(Z x.1:W)-x.2.1))];refine AC (y? ⟨n!,λ_=>rfl⟩) (λt=>AA (P:=λr=>0<=r/\r<2^(8*x.2.2.toNat)) ?_ λA_ y=>AB ⟨λ_=>⟨o!,o!,λg=>?_,λc=>?_⟩,λb=>O! rfl b⟩);refine AW (λs=>0<=s.2/\s.2<=x.2.2/\0<=s.1/\s.1<2^(8*s.2.toNat)) (λs=>(x.2.2-s.2).toNat) ⟨AY _,d!,AY _,u!⟩ (λs j=>?_);have⟨m,z,d,e⟩:=j;unfold Vo;refine AC (λk=>?_) (λk=>AB ⟨d,?_⟩);rw[(AX (x:=x.2.1+s.2))];refine AA (Vm o! o!) λn c=>AC (λl=>?_) (y? ?_);grind[AX];have⟨u,w⟩:=AB0 (a:=s.1) (v:=n) (i:=s.2) m o! d e c.1 c.2;grind[AX];have:s.2=x.2.2:=o!
 rw[<-this];exact e;have:=ADB g;grind[AX];have:=AHp c;grind[AX]
def sP(a:BitVec 32):0<=ι .u32 (((π (a&&&κ 32 15):U)):W)/\ι .u32 (((π (a&&&κ 32 15):U)):W)<16:=by grind[xz,BitVec.toNat_and,κ,Nat.and_le_right]
def mE{x}:Ao (Lh x) λr=>O:=by unfold Lh;refine AA (P:=λ_=>O) ?_ λv _=>AB trivial;refine AW (λs=>0<=s.1/\s.1<=16) (λs=>(16-s.1).toNat) ⟨AY _,g!⟩ (λs a=>?_);have⟨c,d⟩:=a;unfold Wb;refine AC (λb=>?_) (y? trivial);refine AA (P:=λ_=>O) ?_ λg _=>?_;refine AW (λs=>0<=s.2/\s.2<=4) (λs=>(4-s.2).toNat) ⟨AY _,d!⟩ (λs a=>?_);have⟨e,f⟩:=a;unfold MB;rw[(AX (x:=s.2+1))];refine AC (λb=>?_) (y? trivial);refine AA (P:=λ_=>O) (AJ (y? trivial) (y? trivial)) λv _=>AB ⟨d!,d!⟩;rw[(AX (x:=s.1+1))];refine AA (Ca c b) λh _=>AA (Ca c b) λi _=>AB ⟨d!,d!⟩
theorem wZ{x:Bc}(h:θ x<=2199023255552):Ao (PP x) λr=>True:=by unfold PP;refine AA mE λe _=>AA (P:=λ_=>True) ?_ λv _=>AB trivial;refine AW (λ(s:Int×Int)=>0<=s.2/\s.2<=θ x) (λ(s:Int×Int)=>((θ x:Int)-s.2).toNat) ⟨AY _,d!⟩ (λs b=>?_);have⟨c,d⟩:=b;unfold Vp;rw[(AX (x:=s.2+1))];refine AC (λa=>?_) (λ_=>AB trivial);simp[len]at a;refine AA (Vm c a) λf _=>AA (Ca (sP _).1 (sP _).2) λg _=>AA (Ca (sP _).1 (sP _).2) λi _=>AA (Ca (sP _).1 (sP _).2) λj _=>AA (Ca (sP _).1 (sP _).2) λk _=>AB ⟨d!,d!⟩
theorem az{x:Bc×W}(h:Z x.1<=2199023255552):Ao (Dk x) λr=>r.2.2=0->Z r.1<=8392/\x.2+8+Z r.1=r.2.1/\0<=x.2/\r.2.1<=Z x.1:=by unfold Dk;refine AC (y? n!) (λg=>AC (y? n!) (λe=>?_));simp[R]at e;refine AA (Ja h) λd f=>AK (λb=>AB λa=>O! a b) (λc=>?_);have⟨a1,a2,a3,_⟩:=f.1 c;have a5:=a3 d!;dsimp only at a2;refine AC (y? n!) (λi=>?_);rw[(AX (x:=x.2+4)),AX (x:=x.2+4+d.1),(AX (x:=x.2+4+d.1+4))];refine AA (Ja h) λk j=>?_;grind[AK,AB,AA,Cj,wZ]
def k9{x}:Ao (E5 x) λr=>O:=by unfold E5 EY;refine AA (P:=λ_=>O) ?_ λv _=>AB trivial;refine AC (λa=>?_) (y? trivial);simp[R]at a;exact AA (Cj (AY _) i! b!) λv _=>AB trivial
def RB(b:Fh):Prop:=Z b.1<=2199023255552/\0<=b.2.1/\b.2.1<=Z b.1
def DU{b}{x:W}(h:RB b)(j:1<=x/\x<=8):Ao (CG b x) λr=>RB r.2/\(x<=4->0<=r.1/\r.1<4294967296):=by have⟨a1,a2,a3⟩:=id h;unfold CG;refine AK (y? ⟨h,λ_=>d!⟩) (λ_=>AA (Ja (by exact a1)) λf a=>?_);dsimp only at a;refine AA (P:=λr=>RB r) ?_ λk d=>AB ⟨d,λe=>?_⟩;refine AT (λc=>AB ?_) (y? ⟨a1,a2,a3⟩);have⟨g,i,_⟩:=a.1 c;rw[AX];exact⟨a1,d!⟩;by_cases c:f.2=0<;>grind
theorem Wd{b:Fh}{x:Int}(h:RB b)(n:0<=x/\x<4294967296):Ao (Ez b x) λr=>RB r.2:=by
 have⟨a1,a2,a3⟩:=id h;unfold Ez;refine AT (λd=>?_) (λl=>?_)
 ·rw[(AX (x:=len b.1-b.2.1) (by simp[len];omega))];refine AA (P:=λr=>RB r/\(r.2.2=0->r.2.1+x<=r.1.length)) ?_ λe j=>?_
  ·refine AC (λ_=>AB ⟨⟨a1,a2,a3⟩,λd=>absurd d (by dsimp only;decide)⟩) (λk=>AB ⟨h,λ_=>?_⟩);simp[len]at k;omega
  ·have⟨⟨c,f,g⟩,i⟩:=j;refine AK (λ_=>AB ⟨c,f,g⟩) (λa=>?_);have m:=i a;rw[(AX (x:=e.2.1+x) (by omega)),(AX (x:=e.2.1+x-x) (by omega))];exact AA (Cj (by omega) (by omega) (by omega)) λo _=>AB ⟨c,by dsimp only;omega,by dsimp only;omega⟩
 ·grind[AK,AB]
def Wc{b}{x}(h:RB b):Ao (Ey b x) λr=>RB r.2:=by unfold Ey;refine AA (DU h g!) λc a=>AK (y? a.1) (λ_=>AT (y? a.1) (λ_=>?_));have q:=a.2 g!;refine AC (y? a.1) (λ_=>?_);grind[AA,Wd,AB]
theorem rZ{x:Bc}(h:Z x<=2199023255552):Ao (Jp x) λr=>O:=by unfold Jp;refine AA (DU (b:=(x,0,0)) ⟨h,AY _,d!⟩ g!) λs c=>AA (DU c.1 g!) λt d=>AA (DU d.1 g!) λu f=>AA (DU f.1 g!) λv g=>AA (DU g.1 g!) λw i=>AA (DU i.1 g!) λy j=>AA (DU j.1 g!) λz k=>AA (DU k.1 g!) λA l=>AA (Wc l.1) λB m=>AA (Wc m) λC n=>AA (DU n g!) λo a=>AA (Wd a.1 (a.2 g!)) λp e=>AK (y? trivial) (λ_=>AK (y? trivial) (λ_=>AA Ke λq _=>AP (y? trivial) (y? trivial)))
theorem S5{x}:Ao (EB x) λr=>O:=by unfold EB Fi;refine BA (BA ?_);refine AJ (λ_=>AJ (y? trivial) (y? trivial)) (λ_=>AJ (y? trivial) (λ_=>AC (y? trivial) (λ_=>AC (y? trivial) (y? trivial))))
theorem vE{x:List Int}(h:θ x<=16777216):Ao (Ky x) λr=>True:=by unfold Ky;refine AA (P:=λ_=>True) ?_ λv _=>BE (λ_ _=>AB trivial) (λ_ _=>AB trivial);refine AW (λ(s:Int)=>0<=s/\s<=θ x) (λ(s:Int)=>((θ x:Int)-s).toNat) ⟨AY _,o!⟩ (λs a=>?_);have⟨c,d⟩:=a;unfold Kc;rw[(AX (x:=s+1))];refine AC (λb=>?_) (λ_=>AB trivial);grind[AA,AE,AK,AB]
def qE{x}:Ao (NB x) λr=>r=Y->1<=x.1/\x.1<=x.2.1/\x.2.1<=1099511627776/\0<=x.2.2.1/\x.2.2.1<=x.2.2.2.1/\x.2.2.2.1<64/\0<=x.2.2.2.2.1/\x.2.2.2.2.1<=8:=by
 unfold NB;exact x!
def qA{x}:Ao (BJ x) λr=>O:=by grind[BJ,AT,AB]
def tY{x}:Ao (Qj x) λr=>O:=by unfold Qj;refine AA qA λv _=>AJ (λ_=>?_) (y? trivial);refine AC (λ_=>?_) (y? trivial);refine AC (λ_=>?_) (y? trivial);exact AC (y? trivial) (y? trivial)
def re{x}:Ao (PK x) λr=>O:=by unfold PK;grind[AA,S5,vE,AB]
theorem vG{x:Af}:Ao (V6 x) λr=>r=true->kE x:=by
 unfold V6;refine AA qE λj d=>?_;refine AP (λ_=>AB λb=>by cases b) (λa=>?_);have hn:=d a;refine AC (λ_=>AB λb=>by cases b) (λf=>?_);simp[len]at f;have q:kE x:=⟨hn.1,hn.2.1,hn.2.2.1,hn.2.2.2.1,hn.2.2.2.2.1,hn.2.2.2.2.2.1,hn.2.2.2.2.2.2.1,hn.2.2.2.2.2.2.2,by omega⟩
 refine AA (P:=λ_=>True) ?_ λv _=>BE (λ_ _=>AB λ_=>q) (λ_ _=>AB λ_=>q);refine AW (λ(s:Int)=>0<=s/\s<=x.2.2.2.2.2.length) (λ(s:Int)=>((x.2.2.2.2.2.length:Int)-s).toNat) ⟨AY _,by omega⟩ (λs e=>?_);have⟨h,i⟩:=e;unfold T0;rw[(AX (x:=s+1) (by omega)),(AX (x:=s-1) (by omega))];refine AC (λa=>?_) (λ_=>AB trivial);simp[len]at a;have c:((0<=s+1/\s+1<=x.2.2.2.2.2.length)/\((x.2.2.2.2.2.length:Int)-(s+1)).toNat<((x.2.2.2.2.2.length:Int)-s).toNat):=⟨⟨by omega,by omega⟩,by omega⟩
 refine AA (AE h a) λk _=>?_;refine AA Ke λl _=>?_;refine AP (λ_=>AB trivial) (λ_=>?_);refine AA tY λm _=>?_;refine AP (λ_=>AB trivial) (λ_=>?_);refine AT (λ_=>AC (λ_=>AB trivial) (λ_=>AB c)) (λg=>?_);refine AA (AE (by omega) (by omega)) λn _=>?_;refine AC (λ_=>AC (λ_=>AB trivial) (λ_=>AB c)) (λ_=>?_);refine AA (AE (by omega) (by omega)) λo _=>?_;refine AA re λp _=>?_;refine AC (λ_=>AB trivial) (λ_=>?_);exact AK (λ_=>AB trivial) (λ_=>AB c)
def tX{x:Bc}(h:θ x<=2199023255552):Ao (LP x) λr=>r.2=0->kE r.1:=by
 unfold LP;refine AA (az (by exact h)) λp k=>AK (λf=>AB λa=>O! a f) (λg=>?_);have⟨a1,a2,a3,a4⟩:=k g;dsimp only at a1 a2 a3 a4;refine AK (λ_=>AB n!) (λl=>AA k9 λy _=>AP (λ_=>AB n!) (λ_=>?_));have b:θ p.1<=2199023255552:=o!
 refine AA (Ja b) λz _=>AA (Ja b) λA_ _=>AA (Ja b) λB _=>AA (Ja b) λC _=>AA (Ja b) λD_ _=>AA (Ja b) λi _=>AP (λ_=>AB n!) (λm=>?_);have n:i.1<=4096:=by simpa using m
 refine AA (P:=λr=>∀u,r=.inl u->u.1≠0) ?_ λr hr=>BE (λu c=>AB λa=>O! a (hr u c)) (λu c=>?_);refine AW (λ(s:Int×(Int×(List AI×(Int×(Int×(Int×(Int×(Int×Af))))))))=>0<=s.2.1/\(s.2.1<=i.1\/s.2.1=0)/\θ s.2.2.1<=s.2.1) (λ(s:Int×(Int×(List AI×(Int×(Int×(Int×(Int×(Int×Af))))))))=>(i.1-s.2.1).toNat) ⟨AY _,.inr rfl,k!⟩ (λs o=>?_);have⟨t,v,w⟩:=o;unfold LV;refine AC (λj=>?_) (λ_=>AB λu c=>by cases c);have e:=AX (x:=s.2.1+1);grind[AA,az,AK,AB,rZ,Ac,List.length_cons,List.length_nil];refine AC (λ_=>AB n!) (λ_=>AA vG λq d=>AP (λ_=>AB n!) (λj=>AB λ_=>d j))
abbrev EN:=AI
def ABU(x y:W):EB (x,y)=D (if x<y then-1 else if x>y then 1 else 0):=by unfold EB Fi;simp only[H!,AD,A!];by_cases a:x<y;simp[a];by_cases b:x>y;simp[a,b];simp[a,b]
theorem pC{x:W}(h:0<=x/\x<=1099511627776:=by omega):wi x=x:=AX
theorem wip{i:Nat}(h:i<=16777216):wi ((i:Int)+1)=((i+1:Nat):Int):=by grind[pC]
theorem wim{i:Nat}(h:i<=16777216):wi ((i:Int)-1)=(i:Int)-1:=by grind[AX]
def bl8(n:U):U:=if n=0 then 0 else if n<2 then 1 else if n<4 then 2 else if n<8 then 3 else if n<16 then 4 else if n<32 then 5 else if n<64 then 6 else if n<128 then 7 else 8
def qz{n:U}(h:n<256):bl8 n<=8/\(1<=n->2^bl8 n<=2*n):=by grind[bl8]
def T8:Bc:=(List.range 256).map λn=>UInt8.ofNat (bl8 n)
def ALV{n:U}(h:n<256):six T8 (n:W)=D ((bl8 n:U):W):=by have a:=(qz h).1;unfold six T8;simp[h];omega
noncomputable def Lz(x:W):V W:=
 σ ((
   z (τ (x>=4294967296)) (D ((Int.fdiv x (2^(min (ο 32) 64))),32))<|D (x,0)):(V (W×W))) λv0=>
 σ ((
   z (τ (v0.1>=65536)) (D ((Int.fdiv v0.1 (2^(min (ο 16) 64))),wi (v0.2+16)))<|D v0):(V (W×W))) λv1=>
 σ ((
   z (τ (v1.1>=256)) (D ((Int.fdiv v1.1 (2^(min (ο 8) 64))),wi (v1.2+8)))<|D v1):(V (W×W))) λv2=>
 σ (six T8 (ι .u8 v2.1)) λv3=>
 D (wi (v2.2+(wi v3)))
def AJ6:Q7=Lz:=h!
def ALI(n:U):Int.fdiv (n:W) (2^(min (ο 16) 64))=((n/65536:U):W):=by grind[ο,Int.fdiv_eq_ediv_of_nonneg]
def fd8(n:U):Int.fdiv (n:W) (2^(min (ο 8) 64))=((n/256:U):W):=by grind[ο,Int.fdiv_eq_ediv_of_nonneg]
def yE{y s:U}(h:y<256)(c:s<=64):(σ (six T8 (ι .u8 (y:W))) λa=>D (wi ((s:W)+(wi a))))=D ((s+bl8 y:U):W):=by have b:=(qz h).1;rw[AKu,show(y:W)%256=(y:W) by omega,ALV h,AD,pC (x:=((bl8 y:U):W)),pC];exact E! D o!
def yC{x:U}(h:x<=16777216):∃r:U,Q7 (x:W)=D (r:W)/\r<=32/\(1<=x->2^r<=2*x):=by
 rw[AJ6];unfold Lz;have c:τ ((x:W)>=4294967296)=X:=w!
 rw[c,A!,AD];by_cases f:x>=65536;have:τ (((x:W),(0:W)).1>=65536)=Y:=w!
 have e:wi (((x:W),(0:W)).2+16)=((16:U):W):=by show wi (0+16)=_;decide
 rw[this,B!,AD,e,ALI];by_cases g:x/65536>=256;have:τ (((((x/65536:U):W),((16:U):W)):W×W).1>=256)=Y:=w!
 have e:wi (((((x/65536:U):W),((16:U):W)):W×W).2+8)=((24:U):W):=by show wi (((16:U):W)+8)=_;decide
 rw[this,B!,AD,e,fd8];have a:x/65536/256<256:=o!
 have b:=qz a;refine⟨_,yE a o!,o!,λ_=>?_⟩;grind[Nat.pow_add];have:τ (((((x/65536:U):W),((16:U):W)):W×W).1>=256)=X:=w!
 rw[this,A!,AD];have a:x/65536<256:=o!
 have b:=qz a;refine⟨_,yE a o!,o!,λ_=>?_⟩;grind[Nat.pow_add];have:τ (((x:W),(0:W)).1>=65536)=X:=w!
 rw[this,A!,AD];by_cases g:x>=256;have:τ (((x:W),(0:W)).1>=256)=Y:=w!
 have e:wi (((x:W),(0:W)).2+8)=((8:U):W):=by show wi (0+8)=_;decide
 rw[this,B!,AD,e,fd8];have a:x/256<256:=o!
 have b:=qz a;refine⟨_,yE a o!,o!,λ_=>?_⟩;grind[Nat.pow_add];have:τ (((x:W),(0:W)).1>=256)=X:=w!
 rw[this,A!,AD];have a:x<256:=o!
 have b:=qz a;refine⟨_,yE (s:=0) a o!,o!,λd=>?_⟩;have:=b.2 d;rw[DQ];omega
def CP(B:U):Prop:=O
def CPa(B:U):CP B:=P!
def PT{α:Type}(T:Prop)(o:V α)(Q:α->Prop):Prop:=(T->∃r,o=D r)/\∀r,o=D r->Q r
section
variable {α β γ:Type}{T:Prop}
def PT.some{r:α}{Q:α->Prop}(h:Q r):PT T (.some r) Q:=⟨λ_=>⟨r,rfl⟩,λs e=>q!⟩
def lz{o}{Q:α->Prop}(h:Ao o Q):PT T o Q:=by obtain⟨r,rfl,h⟩:=h;exact PT.some h
def PT.bind{o}{k:α->V β}{P:α->Prop}{Q:β->Prop}(h:PT T o P)(a:∀r,P r->PT T (k r) Q):PT T (σ o k) Q:=by
 cases o with
 |none=>exact⟨λt=>(by have⟨r,h⟩:=h.1 t;cases h),λr e=>(by cases e)⟩
 |some r=>exact a r (h.2 r rfl)
def PT.cond{c:N}{a b}{Q:α->Prop}(d:c=Y->PT T a Q)(e:c=X->PT T b Q):PT T (z c a<|b) Q:=q!
def PT.dec{p:Prop}{_:Decidable p}{a b}{Q:α->Prop}(c:p->PT T a Q)(d:¬p->PT T b Q):PT T (z (decide p) a<|b) Q:=q!
def cK{n m:U}{a b:V α}{Q:α->Prop}(e:n=m)(h:PT T a Q):PT T (z (ξ n m) a<|b) Q:=t!
end
def pz{x:AL×W}(h:Z x.1.1<=16)(a:0<=x.2/\x.2<Z x.1.1):Ao (Kb x) λr=>O:=by unfold Kb;have e:=AX (x:=x.2+1);rw[e];refine AC (λb=>?_) (λ_=>?_);simp only[R]at b;refine AA (AE a.1 a.2) λc _=>AA (AE o! b) λd _=>AB trivial;exact AA (AE a.1 a.2) λf _=>AB trivial
def nr{x:AL×Af}(h:θ x.1.1<=16):Ao (NG x) λr=>True:=by
 unfold NG;refine AA (P:=λ_=>True) ?_ λv _=>BE (λ_ _=>AB trivial) (λ_ _=>AB trivial);refine AW (λ(s:Int)=>0<=s/\s<=θ x.1.1) (λ(s:Int)=>((θ x.1.1:Int)-s).toNat) ⟨AY _,o!⟩ (λs c=>?_);unfold Rh;have e:=AX (x:=s+1);rw[e];refine AC (λa=>?_) (λ_=>AB trivial);simp only[len]at a;have b:((0<=s+1/\s+1<=θ x.1.1)/\((θ x.1.1:Int)-(s+1)).toNat<((θ x.1.1:Int)-s).toNat):=⟨o!,o!⟩
 refine AA (pz h ⟨c.1,a⟩) λd _=>AT (λ_=>?_) (λ_=>AB b);exact AT (λ_=>AB trivial) (λ_=>AB b)
def nq{x:AL×AS}(h:Z x.1.1<=16)(c:Z x.2.2.2<=2199023255552):Ao (G0 x) λr=>r.2=Y->kE r.1:=by unfold G0;refine AK (y? n!) (λ_=>AA (tX c) λd b=>AT (λa=>?_) (y? λa=>by cases a));exact AA (nr h) λe _=>AB λ_=>b a
def ABq{a b:W}(f:0<=a:=by omega)(g:0<=b:=by omega)(h:a+b<=1099511627776:=by omega):wi (Int.fdiv (ι .u64 (wi (a+b))) (2^(min (ο 1) 64)))=(a+b)/2:=by
 have c:wi (a+b)=a+b:=AX;have d:ι .u64 (a+b)=a+b:=by rw[Xt];omega
 have e:(2:W)^(min (ο 1) 64)=2:=g!
 rw[c,d,e,ml _ g!];exact AX
def fO{x}:Ao (Om x) λr=>r=Y↔x.1<x.2:=by unfold Om Fi;apply BA;refine AJ (λa=>?_) (y? k!);simp at a
def MT{α:Type}(b:N)(o:V α)(Q:α->Prop):Prop:=(b=Y->∃r,o=D r)/\∀r,o=D r->Q r
section
variable {α β:Type}{b:Bool}
def MT.some{r:α}{Q:α->Prop}(h:Q r):MT b (.some r) Q:=⟨λ_=>⟨r,rfl⟩,λs e=>by injection e with e;rw[<-e];exact h⟩
def mB{o}{Q:α->Prop}(h:Ao o Q):MT b o Q:=⟨λ_=>by have⟨r,e,_⟩:=h;exact⟨r,e⟩,λr e=>h.get e⟩
def MT.bind{o}{k:α->V β}{P:α->Prop}{Q:β->Prop}(h:MT b o P)(d:∀r,P r->MT b (k r) Q):MT b (σ o k) Q:=by refine⟨λc=>?_,λr e=>?_⟩;have⟨r,e⟩:=h.1 c;have⟨s,a⟩:=(d r (h.2 r e)).1 c;exact⟨s,by rw[e];exact a⟩;have⟨s,f,a⟩:=DR.1 e;exact(d s (h.2 s f)).2 r a
def MT.cond{c:N}{x y}{Q:α->Prop}(a:c=Y->MT b x Q)(d:c=X->MT b y Q):MT b (z c x<|y) Q:=by cases c<;>grind
def MT.dec{p:Prop}{_:Decidable p}{x y}{Q:α->Prop}(a:p->MT b x Q)(c:¬p->MT b y Q):MT b (z (decide p) x<|y) Q:=by simp_all[MT.cond]
end
def vX{a:Type}{l}{i}{x:a}:(FM l i x).length=Z l:=by simp[FM]
abbrev NL:=E A4
def DS(a:AL):Prop:=∀f∈a.2.2.1,Z f.2.2<=2199023255552
def SpL(l:E E7):Prop:=Z l<=16777216/\∀s∈l,1<=s.1
theorem gE{n:W}{v:EN}:∀{m:E (W×EN)},(m.map (·.1)).Nodup->∀q,q∈Qw n v m↔q=(n,v)\/(q∈m/\q.1≠n)
 |[],_,q=>by simp[Qw]
 |p::r,h,q=>by
  rw[Bz,Gv]at h;unfold Qw;by_cases b:p.1=n;grind[List.mem_cons_of_mem,List.mem_map_of_mem];have:(p.1==n)=X:=by simp[b]
  rw[this,A!];constructor;intro a;rcases A3.1 a with a|a;grind;rcases(gE h.2 q).1 a with a|⟨a,hn⟩;exact .inl a;grind[List.mem_cons_of_mem];rintro(a|⟨a,hn⟩);exact CQ _ ((gE h.2 q).2 (.inl a));rcases A3.1 a with a|a;grind;exact CQ _ ((gE h.2 q).2 (.inr ⟨a,hn⟩))
def xc{n}{v}:∀{m:E (W×EN)},(m.map (·.1)).Nodup->((Qw n v m).map (·.1)).Nodup
 |[],_=>by simp[Qw]
 |p::r,h=>by
  have b:=h;rw[Bz,Gv]at h;unfold Qw;by_cases a:p.1=n;grind[List.nodup_cons];have:(p.1==n)=X:=by simp[a]
  rw[this,A!,Bz,Gv];refine⟨λc=>?_,xc h.2⟩;grind[gE,List.mem_map_of_mem]
def xZ{n}{e:EN}:∀{m},L3 n m=D e->(n,e)∈m
 |[],h=>by cases h
 |p::r,h=>by
  unfold L3 at h;by_cases a:p.1=n;grind;have:(p.1==n)=X:=by simp[a]
  rw[this,A!]at h;exact CQ _ (xZ h)
def xY{n:Int}:∀{m:List (Int×EN)},L3 n m=ε->∀q∈m,q.1≠n
 |[],_,q,a=>by cases a
 |p::r,h,q,a=>by
  unfold L3 at h;by_cases b:p.1=n;have:(p.1==n)=ζ:=by simp[b]
  rw[this,B!]at h;cases h;have:(p.1==n)=η:=by simp[b]
  rw[this,A!]at h;rcases A3.1 a with a|a;rw[a];exact b;exact xY h q a
def RQ(m:E (W×EN))(P:EN->Prop):Prop:=(m.map (·.1)).Nodup/\(∀q∈m,q.1=q.2.1)/\∀e,(e.1,e)∈m↔P e
def RQ.nil:RQ [] λ_=>False:=⟨RW,k!,k!⟩
def RQ.put{m}{P:EN->Prop}{v:EN}(h:RQ m P):RQ (Qw v.1 v m) λe=>e=v\/(P e/\e.1≠v.1):=by refine⟨xc h.1,λq a=>?_,λe=>?_⟩;rcases(gE h.1 q).1 a with a|⟨a,_⟩;rw[a];exact h.2.1 q a;rw[gE h.1];constructor;rintro(a|⟨a,hn⟩);injection a with _ a;exact .inl a;exact .inr ⟨(h.2.2 e).1 a,hn⟩;rintro(rfl|⟨a,hn⟩);exact .inl rfl;exact .inr ⟨(h.2.2 e).2 a,hn⟩
def RQ.congr{m}{P Q:EN->Prop}(h:RQ m P)(a:∀e,P e↔Q e):RQ m Q:=⟨h.1,h.2.1,λe=>(h.2.2 e).trans (a e)⟩
def RQ.get{m}{P:EN->Prop}(h:RQ m P){e:EN}(g:P e):L3 e.1 m=D e:=by
 have d:=(h.2.2 e).2 g;cases c:L3 e.1 m with
 |none=>exact O! rfl (xY c _ d)
 |some f=>
  have i:∀{l:E (W×EN)},(l.map (·.1)).Nodup->∀{n:W}{a b:EN},(n,a)∈l->(n,b)∈l->a=b:=by intro l;induction l<;>grind
  rw[i h.1 d (xZ c)]
def ik(e:EN):N:=(e.2.1==1)||(e.2.1==2)
def oe(e:EN):BJ e=D (ik e):=by grind[BJ,ik]
def Ki(p i j:W)(e:EN):N:=ik e&&((e.2.2.2.2.2.2.1.1==p)&&(τ (e.1>i)&&τ (e.1<=j)))
def Qv(s:W×W)(n:W):N:=τ (n>=s.1)&&τ (n<=s.2)
def has_eq(s:W×W)(n:W):JQ (s,n)=D (Qv s n):=by grind[JQ,Qv]
def AKV{e:EN}{l:List (Int×Int)}(j:θ l<=16777216):Ao (Ad (X4 e l) 0) λr=>(∀u,r=.inl u->0<=u/\(l.any λs=>Qv s e.1)=ζ)/\(∀u,r=.inr u->(l.any λs=>Qv s e.1)=η):=by refine AW (λ(s:Int)=>0<=s/\s<=θ l/\∀x∈l.take s.toNat,Qv x e.1=η) (λ(s:Int)=>((θ l:Int)-s).toNat) ⟨AY _,o!,k!⟩ (λs d=>?_);have⟨g,m,h⟩:=d;unfold X4;refine AC (λa=>?_) (λa=>AB ⟨λu b=>(by cases b),λu _=>?_⟩);simp[len]at a;rw[(AX (x:=s+1))];refine AA (AE g a) λn c=>?_;rw[has_eq,AD];refine AJ (λk=>AB ⟨λu b=>?_,λu b=>(by cases b)⟩) (λi=>AB ⟨⟨o!,o!,λx f=>?_⟩,o!⟩);grind[List.any_eq_true];rw[show(s+1).toNat=s.toNat+1 by omega,CC,c.1]at f;grind[Option.toList_some,List.mem_singleton];simp[len]at a;rw[BG o!]at h;rw[mj];grind[List.any_eq_true]
theorem AKU{a:AL}{l:Aa}{p i j:Int}{d:List (Int×Int)}(R:Dg l)(hv:1≤d.length)(S:d.length≤16777216):
  Ao (Ad (X3 (a,(l,(p,(i,j)))) d) (0,(0,[]))) λr=>r.1=((l.2.1.filter λe=>Ki p i j e&&(d.tail.any λs=>Qv s e.1)).length:Int)/\RQ r.2 λe=>e∈l.2.1/\Ki p i j e=true:=by
 obtain⟨l1,l2,l3,l4,l5,K⟩:=R;refine AW (λ(s:Int×(Int×List (Int×EN)))=>0<=s.1/\s.1<=l.2.1.length/\s.2.1=(((l.2.1.take s.1.toNat).filter λe=>Ki p i j e&&(d.tail.any λs=>Qv s e.1)).length:Int)/\RQ s.2.2 λe=>e∈l.2.1.take s.1.toNat/\Ki p i j e=true) (λs=>((l.2.1.length:Int)-s.1).toNat)
  ⟨AY _,by dsimp only;omega,by simp,RQ.nil.congr λe=>by simp⟩ (λs O=>?_)
 obtain⟨T,i2,A_,B⟩:=O;unfold X3;dsimp only;refine AC (λy=>?_) (λy=>AB ?_)
 ·simp only[len]at y;have L:=AX (x:=s.1+1) (by omega);rw[L];refine AA (AE T y) λq I=>?_;rw[oe,AD];have g:l.2.1.take (s.1+1).toNat=l.2.1.take s.1.toNat++[q]:=by rw[show(s.1+1).toNat=s.1.toNat+1 by omega,CC,I.1];rfl
  have f:Ki p i j q=false->(0<=s.1+1/\s.1+1<=l.2.1.length/\s.2.1=(((l.2.1.take (s.1+1).toNat).filter λe=>Ki p i j e&&(d.tail.any λs=>Qv s e.1)).length:Int)/\RQ s.2.2 λe=>e∈l.2.1.take (s.1+1).toNat/\Ki p i j e=true)/\((l.2.1.length:Int)-(s.1+1)).toNat<((l.2.1.length:Int)-s.1).toNat:=λw=>by
   refine⟨⟨by omega,by omega,?_,?_⟩,by omega⟩
   ·rw[g,F7,A_];simp[w]
   ·rw[g];refine B.congr λe=>⟨λh=>⟨Al.2 (.inl h.1),h.2⟩,λh=>⟨?_,h.2⟩⟩
    rcases Al.1 h.1 with m|m
    ·exact m
    ·rw[A7.1 m,w]at h;cases h.2
  refine AJ (λC=>?_) (λC=>AB (f (by simp[Ki,C])));refine AJ (λD_=>?_) (λD_=>AB (f (by simp[Ki,D_])));refine AJ (λE=>?_) (λE=>AB (f (by unfold Ki;rw[E];simp)));refine AJ (λF=>?_) (λF=>AB (f (by unfold Ki;rw[F];simp)));have w:Ki p i j q=true:=by unfold Ki;rw[C,D_,E,F];rfl
  refine AA (Bs (lo:=1) (hi:=(d.length:Int)) (by omega) (by omega) (by omega)) λV N=>?_;have H:V=d.tail:=by
   rw[N.1,BG (by rw[Dr];omega)];cases d with
   |nil=>rfl
   |cons a r=>rfl
  subst H;refine AA (AKV (by rw[List.length_tail];omega)) λU o=>?_;have M:=K s.1.toNat q I.1;have n:RQ (Qw q.1 q s.2.2) λe=>e∈l.2.1.take (s.1+1).toNat/\Ki p i j e=true:=by
   rw[g];refine B.put.congr λe=>⟨?_,λh=>?_⟩
   ·rintro(rfl|⟨h,_⟩)
    ·exact⟨Al.2 (.inr (A7.2 rfl)),w⟩
    ·exact⟨Al.2 (.inl h.1),h.2⟩
   ·rcases Al.1 h.1 with m|m
    ·refine .inr ⟨⟨m,h.2⟩,λZ=>?_⟩;obtain⟨k,Q,v⟩:=Ws.1 m;rw[BK]at Q;rw[List.getElem_take]at v;have:=(K k e (by rw[<-v];exact Ar (by omega))).1;omega
    ·exact .inl (A7.1 m)
  have t: ∀b:Bool,(d.tail.any λs=>Qv s q.1)=b->((((l.2.1.take (s.1+1).toNat).filter λe=>Ki p i j e&&(d.tail.any λs=>Qv s e.1)).length:Nat):Int)=s.2.1+(if b=true then 1 else 0):=λb P=>by rw[g,F7,Ae,A_];cases b<;>simp[w,P]
  have J:(((l.2.1.take s.1.toNat).filter λe=>Ki p i j e&&(d.tail.any λs=>Qv s e.1)).length:Int)<=4096:=by have W:=EV (λe=>Ki p i j e&&(d.tail.any λs=>Qv s e.1)) (l.2.1.take s.1.toNat);have X_:=gU s.1.toNat l.2.1;have Y_:=List.length_take_le' s.1.toNat l.2.1;omega
  have G:=AX (x:=s.2.1+1) (by omega);rw[G];refine BE (λu z=>?_) (λu z=>AB ⟨⟨by dsimp only;omega,by dsimp only;omega,?_,n⟩,by dsimp only;omega⟩)
  ·refine AC (λ_=>AB ⟨⟨by dsimp only;omega,by dsimp only;omega,?_,n⟩,by dsimp only;omega⟩) (λc=>absurd (o.1 u z).1 c);rw[t true (o.1 u z).2];rfl
  ·rw[t false (o.2 u z)];simp
 ·simp only[len]at y;rw[BG (by omega)]at A_ B;exact⟨A_,B⟩
def ltC(f e:EN):Prop:=f.2.2.2.2.2.2.1.1<e.2.2.2.2.2.2.1.1\/(f.2.2.2.2.2.2.1.1=e.2.2.2.2.2.2.1.1/\f.1<e.1)
theorem ABp(e:EN):¬ltC e e:=by unfold ltC;omega
def AD0{a b c}(h:ltC a b)(g:ltC b c):ltC a c:=by unfold ltC at*;omega
def AIQ(f e:EN):∃c:W,C7 (f,e)=D c/\(c<0↔ltC f e)/\(c=0↔f.2.2.2.2.2.2.1.1=e.2.2.2.2.2.2.1.1/\f.1=e.1):=by
 have:Ao (C7 (f,e)) λc=>(c<0↔ltC f e)/\(c=0↔f.2.2.2.2.2.2.1.1=e.2.2.2.2.2.2.1.1/\f.1=e.1):=by
  unfold C7;unfold ltC;dsimp only;repeat' with_reducible first|intro a|apply AC|apply AT|apply AJ|apply AB
  all_goals omega
 exact this
def zO(x:Af)(i:U):Prop:=∀e,x.2.2.2.2.2[i]?=D e->
 (Ml e/\ik e=Y/\x.1<=e.1/\e.1<=x.2.1/\x.2.2.1<=e.2.2.2.2.2.2.1.1/\e.2.2.2.2.2.2.1.1<=x.2.2.2.1)/\(i=0->e.2.2.2.2.1<x.1)/\
 ∀f,0<i->x.2.2.2.2.2[i-1]?=D f->ltC f e/\(f.2.2.2.2.2.2.1.1=e.2.2.2.2.2.2.1.1->e.2.2.2.2.1=f.1)/\(f.2.2.2.2.2.2.1.1≠e.2.2.2.2.2.2.1.1->e.2.2.2.2.1<x.1)
def VR(x:Af):Prop:=kE x/\∀i,zO x i
def VR.ent{x}(h:VR x){e:EN}(a:e∈x.2.2.2.2.2):Ml e/\ik e=Y/\x.1<=e.1/\e.1<=x.2.1/\x.2.2.1<=e.2.2.2.2.2.2.1.1/\e.2.2.2.2.2.2.1.1<=x.2.2.2.1:=by obtain⟨i,b,rfl⟩:=Ws.1 a;exact(h.2 i _ (Ar b)).1
def ABH{x:Af}(U:θ x.2.2.2.2.2<=4096):Ao (Ad (HG x) 0) λr=>(r=.inl η/\¬ ∀i,zO x i)\/(r=.inr ()/\∀i,zO x i):=by
 refine CE (λ(s:Int)=>0<=s/\s<=θ x.2.2.2.2.2/\∀i:Nat,(i:Int)<s->zO x i) (λ(s:Int)=>((θ x.2.2.2.2.2:Int)-s).toNat) ⟨AY _,o!,λi z=>o!⟩ (λs L=>?_);obtain⟨H,V,I⟩:=L;unfold HG;simp only[len];refine AC (λF=>?_) (λF=>Ao.done (.inr ⟨rfl,λi=>?_⟩))
 case refine_2=>by_cases z:(i:Int)<s;exact I i z;intro e m;rw[Cn o!]at m;cases m
 obtain⟨k,rfl⟩:=FY H;refine AA (AE H F) λv d=>?_;have d:=d.1;rw[C5]at d;have a:(zO x k->False)->Ao (δ (Step.done (.inl η)):Option (Step Int (Bool⊕Unit))) (Kj (λ(s:Int)=>0<=s/\s<=θ x.2.2.2.2.2/\∀i:Nat,(i:Int)<s->zO x i) (λ(s:Int)=>((θ x.2.2.2.2.2:Int)-s).toNat) ((θ x.2.2.2.2.2:Int)-(k:Int)).toNat λr=>(r=.inl η/\¬ ∀i,zO x i)\/(r=.inr ()/\∀i,zO x i)):=λh=>Ao.done (.inl ⟨rfl,λu=>h (u k)⟩);have j:zO x k->Ao (δ (Step.next (wi ((k:Int)+1))):Option (Step Int (Bool⊕Unit))) (Kj (λ(s:Int)=>0<=s/\s<=θ x.2.2.2.2.2/\∀i:Nat,(i:Int)<s->zO x i) (λ(s:Int)=>((θ x.2.2.2.2.2:Int)-s).toNat) ((θ x.2.2.2.2.2:Int)-(k:Int)).toNat λr=>(r=.inl η/\¬ ∀i,zO x i)\/(r=.inr ()/\∀i,zO x i)):=λh=>by
  rw[AX];refine Ao.next ⟨o!,o!,λi z=>?_⟩ o!
  by_cases A_:i=k;rw[A_];exact h;exact I i o!
 refine AA Cf λS D_=>AP (λl=>a λok=>?_) (λl=>?_);have:=D_.2 (ok v d).1.1;rw[l]at this;cases this;have Q:=D_.1 l;refine AA CD λT E=>?_;have q:ik v=ζ↔v.2.1=1\/v.2.1=2:=by unfold ik;simp
 refine AP (λl=>a λok=>?_) (λl=>?_);have:=E.2 (q.1 (ok v d).1.2.1);rw[l]at this;cases this;have R:=q.2 (E.1 l);refine AC (λt=>a λok=>?_) (λW=>?_);have:=(ok v d).1.2.2;omega;refine AC (λt=>a λok=>?_) (λX_=>?_);have:=(ok v d).1.2.2;omega;refine AC (λt=>a λok=>?_) (λY_=>?_);have:=(ok v d).1.2.2;omega;refine AC (λt=>a λok=>?_) (λZ=>?_);have:=(ok v d).1.2.2;omega;have C:Ml v/\ik v=ζ/\x.1<=v.1/\v.1<=x.2.1/\x.2.2.1<=v.2.2.2.2.2.2.1.1/\v.2.2.2.2.2.2.1.1<=x.2.2.2.1:=⟨Q,R,o!⟩
 apply AC<;>intro N;have O:wi ((k:Int)-1)=((k-1:Nat):Int):=by rw[AX];omega
 have G:k-1<θ x.2.2.2.2.2:=o!
 have w:ix x.2.2.2.2.2 (wi ((k:Int)-1))=δ (x.2.2.2.2.2[k-1]):=by rw[O];unfold ix;rw[C! o!,C5,Ar G]
 have n:x.2.2.2.2.2[k-1]?=δ (x.2.2.2.2.2[k-1]):=Ar G;generalize x.2.2.2.2.2[k-1]=f at w n;obtain⟨c,y,p,M⟩:=AIQ f v;rw[w,AD,y,AD];refine AC (λt=>a λok=>?_) (λt=>?_);have:=p.2 ((ok v d).2.2 f o! n).1;omega;have J:=p.1 o!;rw[G! o!,B!,AD];refine AA (P:=λr:Bool⊕Unit=>(r=.inl η/\¬zO x k)\/(r=.inr ()/\zO x k)) ?_ λr hr=>?_;apply AT<;>intro m;rw[AD];refine AK (λhn=>AB (.inl ⟨rfl,λok=>hn (((ok v d).2.2 f o! n).2.1 m)⟩)) (λhn=>AB (.inr ⟨rfl,λe g=>?_⟩));rw[d]at g;injection g with g;subst g;refine⟨C,λo=>O! o o!,λK _ b=>?_⟩;rw[n]at b;injection b with b;subst b;exact⟨J,λ_=>hn,λu=>O! m u⟩;refine AC (λhn=>AB (.inl ⟨rfl,λok=>?_⟩)) (λhn=>AB (.inr ⟨rfl,λe g=>?_⟩));have:=((ok v d).2.2 f o! n).2.2 m;omega;rw[d]at g;injection g with g;subst g;refine⟨C,λo=>O! o o!,λK _ b=>?_⟩;rw[n]at b;injection b with b;subst b;exact⟨J,λu=>O! u m,λ_=>o!⟩;rcases hr with⟨rfl,hr⟩|⟨rfl,hr⟩;exact BB (a hr);exact Au (j hr);rw[F! N,A!];have B:k=0:=o!
 apply Bi;apply AC<;>intro hn;rw[AD];refine BB (a λok=>?_);have:=(ok v d).2.1 B;omega;rw[AD];refine Au (j λe g=>?_);rw[d]at g;injection g with g;subst g;exact⟨C,λ_=>o!,λf o=>O! o o!⟩
def dP{x}:Ao (Ev x) λr=>r=Y↔VR x:=by unfold Ev;refine AA It λf c=>AP (λb=>AB ⟨λa=>(by cases a),λa=>?_⟩) (λb=>?_);obtain⟨⟨a1,a2,a3,a4,a5,a6,a7,a8,a9⟩,_⟩:=a;have:=c.2 ⟨a1,a2,a3,a4,a5,a6,a7,a8⟩;rw[b]at this;cases this;have hn:=c.1 b;dsimp only at hn;refine AC (λd=>AB ⟨λa=>(by cases a),λa=>?_⟩) (λe=>?_);have:=a.1.2.2.2.2.2.2.2.2;simp only[R]at d;omega;simp only[R]at e;refine AA (ABH o!) λr hr=>?_;rcases hr with⟨rfl,hr⟩|⟨rfl,hr⟩;exact BB (AB ⟨λa=>(by cases a),λa=>O! a.2 hr⟩);exact Au (AB ⟨λ_=>⟨⟨hn.1,hn.2.1,hn.2.2.1,hn.2.2.2.1,hn.2.2.2.2.1,hn.2.2.2.2.2.1,hn.2.2.2.2.2.2.1,hn.2.2.2.2.2.2.2,o!⟩,hr⟩,λ_=>rfl⟩)
abbrev NE:=A4
def lN(x y:NE):N:=τ (x.1.2.2.1<y.1.2.2.1\/(x.1.2.2.1=y.1.2.2.1/\(x.1.1<y.1.1\/(x.1.1=y.1.1/\x.2<y.2))))
def wD:Sort.SWO lN where
 irrefl x:=by simp[lN]
 trans x y z h1 h2:=by simp[lN,K!]at*;omega
 ntrans x y z h1 h2:=by simp[lN,decide_eq_false_iff_not]at*;omega
def qP{l:E W}{k:U}{v:W}(h:l[k]?=D v)(b:k<1000)(c:Z l<1000):Ad (Kc l) (k:W)=if v=0 then Ad (Kc l) ((k+1:U):W)else D (.inl v):=by
 rw[Eh];have a:=(F8.1 h).1;have d:τ ((k:W)<R l)=Y:=w!
 have e:ix l (k:W)=D v:=by unfold ix;rw[C! o!];simpa using h
 grind[wip,Kc]
def AKb(a b c:W):Ky [a,b,c]=D (if a≠0 then a else if b≠0 then b else c):=by unfold Ky;rw[show(0:W)=((0:U):W)from rfl,qP (k:=0) (v:=a) rfl o! k!];by_cases d:a=0;rw[C! d,qP (k:=1) (v:=b) rfl o! k!];by_cases e:b=0;rw[C! e,qP (k:=2) (v:=c) rfl o! k!];grind[Eh,Kc];rw[D! e];simp[d,e];rw[D! d];simp[d]
def AH4(x y:NE):∃v,IC (x,y)=D v/\τ (v<0)=lN x y:=by
 unfold IC;dsimp only;simp only[ABU,AD,AKb];refine⟨_,rfl,?_⟩;unfold lN;apply decide_eq_decide.2;repeat' split
 all_goals omega
section
variable {α:Type} [Inhabited α]
theorem ixG{d:S α}{i:W}{k:U}(a:i=k)(b:k<d.size:=by omega):ix d.toList i=D d[k]! :=by subst a;unfold ix;rw[C! o!];simp[b]
omit [Inhabited α] in
theorem AJf{d:S α}{i:W}{k:U}(a:i=k)(x:α):FM d.toList i x=(d.setIfInBounds k x).toList:=by subst a;unfold FM;simp
def AIG{d:S α}{i j:W}{a b:U}(c:i=a)(e:j=b):FM (FM d.toList i d[b]!) j d[a]! =(Sort.swp d a b).toList:=by rw[AJf c,AJf e];rfl
def AHW{d:S α}{i j:W}{a b:U}{x}(e:i=a)(f:j=b)(c:b<d.size:=by omega):ix (FM d.toList i x) j=D (d.setIfInBounds a x)[b]! :=by grind[AJf,ixG]
theorem mR(lt:α->α->N)(k:U):∀j d,(Sort.insInner lt k j d).size=d.size
 |0,_=>rfl
 |j+1,d=>by unfold Sort.insInner;split;rw[mR lt k j,Sort.size_swp];rfl
end
theorem AC1{a b:W}{k:U}(g:a=k):∀(j:U)(d:S NE),j<d.size->d.size<=16777216->Ad (Df (a,b)) ((j:W),d.toList)=D (Sort.insInner lN k j d).toList
 |0,d,hj,hd=>by
  rw[Eh];have:τ (((0:U):W)>a)=X:=w!
  simp only[Df,this,A!];rfl
 |j+1,d,hj,hd=>by
  rw[Eh];have⟨v,e,f⟩:=AH4 d[j+1]! d[j]!;simp only[Df,(by grind[pC]:wi (((j+1:U):W)-1)=(j:W)),ixG rfl hj,(ixG rfl:ix d.toList (j:W)=D d[j]!),(AHW rfl rfl:ix (FM d.toList ((j+1:U):W) d[j]!) (j:W)=D (d.setIfInBounds (j+1) d[j]!)[j]!),AD,e,f,AIG (d:=d) (a:=j+1) (b:=j) rfl rfl];unfold Sort.insInner;by_cases c:j+1>k;have:τ (((j+1:U):W)>a)=Y:=w!
  rw[this];cases h:lN d[j+1]! d[j]! with
  |true=>simp[B!,c,decide_true,Ys,if_true];exact AC1 g j _ (by rw[Sort.size_swp];omega) (by rw[Sort.size_swp];omega)
  |false=>simp[c]
  have:τ (((j+1:U):W)>a)=X:=w!
  rw[this];simp[c]
def AFW{a b:W}{k m:U}(g:a=k)(h:b=m):∀(n i:U)(d:S NE),m-i<=n->m<=d.size->d.size<=16777216->Ad (De (a,b)) ((i:W),d.toList)=D (Sort.insOuter lN k m i d).toList:=by
 intro n;induction n with
 |zero=>grind[Eh,Sort.insOuter,De]
 |succ n j=>intro i d c e f;rw[Eh,Sort.insOuter];grind[pC,mR,De,AC1]
def AC0{d:S NE}{a b:W}{k m:U}(c:a=k)(e:b=m)(g:m<=d.size)(h:k<=m)(f:d.size<=16777216):C8 d.toList (a,b)=D (Sort.insertionSort lN d k m).toList:=by unfold C8;dsimp only;rw[(by grind[pC]:wi (a+1)=((k+1:U):W)),AFW c e (m-(k+1)) (k+1) d o! g f];rfl
def swR(a b n:U)(d:S NE)(k:U):NE:=if a<=k/\k<a+n then d[b+(k-a)]! else if b<=k/\k<b+n then d[a+(k-b)]! else d[k]!
theorem zJ{d:Array NE}{a b n:Nat}(m:a+n≤b)(q:b+n≤d.size)(u:d.size≤16777216):
  Ao (Cw d.toList ((a:Int),((b:Int),(n:Int)))) λr=> ∃e:Array NE,r=e.toList/\e.size=d.size/\ ∀k,k<d.size->e[k]! =swR a b n d k:=by
 unfold Cw;refine AA (P:=λr=> ∃e:Array NE,r=e.toList/\e.size=d.size/\ ∀k,k<d.size->e[k]! =swR a b n d k) ?_ λr h=>AB h;refine AW (λ(s:Int×List NE)=> ∃(t:Nat) (e:Array NE),s.1=t/\s.2=e.toList/\t<=n/\e.size=d.size/\ ∀k,k<d.size->e[k]! =swR a b t d k) (λs=>n-s.1.toNat) ⟨0,d,rfl,rfl,Bh _,rfl,λk _=>by unfold swR;rw[if_neg (by omega),if_neg (by omega)]⟩ ?_;rintro⟨y,A_⟩ ⟨t,e,g,j,x,l,c⟩;dsimp only at g j;subst g j;unfold Hu;dsimp only;refine AC (λo=>?_) (λo=>AB ⟨e,rfl,l,?_⟩)
 ·have v:t<n:=by omega
  simp only[(by grind[pC]:wi ((b:Int)+(t:Int))=((b+t:Nat):Int)),(by grind[pC]:wi ((a:Int)+(t:Int))=((a+t:Nat):Int)),(ixG rfl (by omega):ix e.toList ((b+t:Nat):Int)=some e[b+t]!),(ixG rfl (by omega):ix e.toList ((a+t:Nat):Int)=some e[a+t]!),(AHW rfl rfl (by omega):ix (FM e.toList ((a+t:Nat):Int) e[b+t]!) ((b+t:Nat):Int)=some (e.setIfInBounds (a+t) e[b+t]!)[b+t]!),AD,wip (i:=t) (by omega),AIG (d:=e) (a:=a+t) (b:=b+t) rfl rfl];refine AB ⟨⟨t+1,_,rfl,rfl,by omega,by rw[Sort.size_swp,l],λk p=>?_⟩,?_⟩
  ·rw[Sort.swp_get e (by omega) (by omega)];rw[(c (a+t) (by omega)),(c (b+t) (by omega)),(c k p)];unfold swR;by_cases k1:k=a+t
   ·subst k1;rw[if_neg (by omega),if_pos rfl,if_neg (by omega),if_neg (by omega),if_pos (by omega)];exact congrArg (λz=>d[z]!) (by omega)
   ·by_cases f:k=b+t
    ·subst f;rw[if_pos rfl,if_neg (by omega),if_neg (by omega),if_neg (by omega),if_pos (by omega)];exact congrArg (λz=>d[z]!) (by omega)
    ·rw[if_neg f,if_neg k1];by_cases w:a<=k/\k<a+t<;>grind
  ·show n-((t+1:Nat):Int).toNat<n-((t:Nat):Int).toNat
   omega
 ·have:t=n:=by omega
  rw[<-this];exact c
def gB(x:Af):Bc:=[80,77,82,78]++(DE x.1 8++(DE x.2.1 8++(DE x.2.2.1 4++(DE x.2.2.2.1 4++(DE x.2.2.2.2.1 1++DE (Z x.2.2.2.2.2:W) 4)))))
def SG(x:Af):Bc:=HD (gB x)++Hw x.2.2.2.2.2
theorem nK(x:Af):(gB x).length=33:=rfl
def kE.inr{x}(h:kE x):gR 8 x.1/\gR 8 x.2.1/\gR 4 x.2.2.1/\gR 4 x.2.2.2.1/\gR 1 x.2.2.2.2.1/\gR 4 (Z x.2.2.2.2.2:W):=by have⟨a1,a2,a3,a4,a5,a6,a7,a8,a9⟩:=h;grind[gR]
def VR.len{x}(h:VR x):(SG x).length<=34406441:=by have b:=nJ (l:=x.2.2.2.2.2) λe a=>(h.ent a).1;have c:=h.1.2.2.2.2.2.2.2.2;grind[SG,n?,EA,nK]
def AGp{x}(h:kE x):Hj x=D (gB x):=by unfold Hj;rw[HQ k! g! g!,AD];rw[HQ (by simp only[Ae,A0];simp) g! g!,AD];rw[HQ (by simp only[Ae,A0];simp) g! g!,AD];rw[HQ (by simp only[Ae,A0];simp) g! g!,AD];rw[HQ (by simp only[Ae,A0];simp) g! g!,AD];rw[HQ (by simp only[Ae,A0];simp) g! g!,AD];rfl
def zR{x:Af}(h:VR x):IP x=δ (SG x,0):=by
 have q:=h.1.2.2.2.2.2.2.2.2;have⟨b,g,d⟩:=dP (x:=x);have c:=d.2 h;subst c;unfold IP;rw[g,AD,Ce,A!,AGp h.1,AD,Y4 (by rw[nK];decide),AD];have key:Ao (Ad (M4 x) (HD (gB x),0)) λr=>r=SG x:=by
  refine CE (λ(s:Bc×Int)=>∃k:Nat,s.2=k/\k<=θ x.2.2.2.2.2/\s.1=HD (gB x)++Hw (x.2.2.2.2.2.take k)) (λs=>θ x.2.2.2.2.2-s.2.toNat) ⟨0,rfl,Bh _,by simp[Hw]⟩ ?_;rintro⟨y,z⟩ ⟨k,o,u,p⟩;subst o p;unfold M4;simp only[len];refine AC (λf=>?_) (λf=>Ao.done (by rw[BG o!];rfl));refine AA (AE o! f) λv d=>?_;have a:=(h.ent d.2).1;have m:=QQ a;have j:=nJ (l:=x.2.2.2.2.2.take k) λe i=>(h.ent (Fv i)).1;have n:(x.2.2.2.2.2.take k).length<=4096:=q!
  rw[sO a,AD,Y4 m,AD];refine AA (Cb (by rw[Ae,EA,EA,nK];omega)) λw t=>?_;rw[AX];refine Ao.next ⟨k+1,q!,o!,?_⟩ q!
  grind[Int.toNat_natCast,List.take_add_one,Option.toList_some,QR,List.append_assoc]
 obtain⟨r,hr,rfl⟩:=key;rw[hr];rfl
def WR(x:Af):Prop:=kE x/\∀e∈x.2.2.2.2.2,Ix e.2.2.2.2.2.2.1.2.2.1/\Ix e.2.2.2.2.2.2.1.2.2.2/\e.2.2.2.2.2.2.2=[]
def AE7{e}(h:Ml e)(b:ik e=Y):e.2.2.2.2.2.2.2=[]:=by
 have a:e.2.1=1\/e.2.1=2:=by grind[ik]
 have⟨_,_,_,_,_,_,_,_,c⟩:=h;grind[WM]
def VR.wr{x}(h:VR x):WR x:=⟨h.1,λe b=>by have a:=h.ent b;exact⟨a.1.cells.1,a.1.cells.2.1,AE7 a.1 a.2.1⟩⟩
def AD4{e}(h:GR e=D Y)(f:ik e=Y):e.2.2.2.2.2.2.2=[]:=by
 have d:e.2.1=1\/e.2.1=2:=by unfold ik at f;simpa using f
 have key:∀r,GR e=D r->r=Y->e.2.2.2.2.2.2.2=[]:=by
  have main:MT X (GR e) λr=>r=Y->e.2.2.2.2.2.2.2=[]:=by
   have o:∀{Q:N->Prop},(∀r,r=X->Q r)->MT X (D X) Q:=λm=>MT.some (m _ rfl);have a:MT X (D X) λr=>r=Y->e.2.2.2.2.2.2.2=[]:=MT.some λb=>by cases b
   unfold GR;refine MT.dec (λ_=>a) λ_=>MT.dec (λ_=>a) λ_=>MT.dec (λ_=>a) λ_=>MT.dec (λ_=>a) λ_=>MT.bind (mB LU) λp _=>MT.cond (λ_=>a) λ_=>MT.bind (mB LU) λq _=>MT.cond (λ_=>a) λ_=>MT.bind (mB LU) λs _=>MT.cond (λ_=>a) λ_=>MT.dec (O! · o!) λ_=>MT.dec (λi=>?_) λi=>?_;refine MT.dec (λ_=>a) λ_=>MT.bind (P:=λ_=>O) (MT.dec (λ_=>MT.some trivial) λ_=>MT.some trivial) λn _=>MT.cond (λ_=>a) λ_=>MT.bind (P:=λr=>r=X->e.2.2.2.2.2.2.2=[]) ?_ λt k=>?_;refine MT.cond (λl=>MT.some λb=>?_) λ_=>MT.some λb=>?_;rw[l]at b;cases b;simpa using b;refine MT.cond (λ_=>a) λb=>?_;exact⟨λc=>(by cases c),λr _ _=>k b⟩;refine MT.dec (λj=>?_) λj=>O! d o!;refine MT.dec (λ_=>a) λ_=>MT.bind (P:=λ_=>O) (MT.dec (λ_=>MT.some trivial) λ_=>MT.some trivial) λn _=>MT.cond (λ_=>a) λ_=>MT.cond (λ_=>a) λb=>?_;exact⟨λc=>(by cases c),λr _ _=>by simpa using b⟩
  exact main.2
 exact key Y h rfl
def ABx{e}:BJ e=D (ik e):=by unfold BJ ik;grind
def AAj{x}:Ao (NB x) λr=>r=Y↔1<=x.1/\x.1<=x.2.1/\x.2.1<=1099511627776/\0<=x.2.2.1/\x.2.2.1<=x.2.2.2.1/\x.2.2.2.1<64/\0<=x.2.2.2.2.1/\x.2.2.2.2.1<=8:=by
 unfold NB;exact x!
def AD6{x:Af}{e:EN}:Ao (Qj (x,e)) λr=>r=Y↔ik e=Y/\x.2.2.1<=e.2.2.2.2.2.2.1.1/\e.2.2.2.2.2.2.1.1<=x.2.2.2.1/\x.1<=e.1/\e.1<=x.2.1:=by
 unfold Qj;rw[ABx,AD];refine AJ (λa=>?_) (λa=>AB ⟨λb=>(by cases b),λb=>q!⟩);exact x!
def AJW(a b:W):Ky [a,b]=D (if a≠0 then a else b):=by unfold Ky;rw[show(0:W)=((0:U):W)from rfl,qP (k:=0) (v:=a) rfl o! k!];by_cases c:a=0;rw[C! c,qP (k:=1) (v:=b) rfl o! k!];grind[Eh,Kc];grind
def ABy(f e:EN):∃c:W,PK (f,e)=D c/\(c<0↔ltC f e):=by unfold PK;rw[ABU,ABU,AD,AD,AJW,AD];unfold ltC;grind
def AD5{x:Af}(I:θ x.2.2.2.2.2<=4096):Ao (Ad (T0 x) 0) λr=>(r=.inl η/\¬ ∀i,zO x i)\/(r=.inr ()/\∀e∈x.2.2.2.2.2,ik e=ζ/\e.2.2.2.2.2.2.2=[]):=by
 refine CE (λ(s:Int)=>0<=s/\s<=θ x.2.2.2.2.2/\∀e∈x.2.2.2.2.2.take s.toNat,ik e=ζ/\e.2.2.2.2.2.2.2=[]) (λ(s:Int)=>((θ x.2.2.2.2.2:Int)-s).toNat) ⟨AY _,o!,λe p=>by simp at p⟩ (λs C=>?_);have⟨w,J,y⟩:=C;unfold T0;simp only[len];refine AC (λu=>?_) (λu=>Ao.done (.inr ⟨rfl,by rw[BG o!]at y;exact y⟩));obtain⟨k,rfl⟩:=FY w;refine AA (AE w u) λv d=>?_;have d:=d.1;rw[C5]at d;have a:(zO x k->False)->Ao (δ (Step.done (.inl η)):Option (Step Int (Bool⊕Unit))) (Kj (λ(s:Int)=>0<=s/\s<=θ x.2.2.2.2.2/\∀e∈x.2.2.2.2.2.take s.toNat,ik e=ζ/\e.2.2.2.2.2.2.2=[]) (λ(s:Int)=>((θ x.2.2.2.2.2:Int)-s).toNat) ((θ x.2.2.2.2.2:Int)-(k:Int)).toNat λr=>(r=.inl η/\¬ ∀i,zO x i)\/(r=.inr ()/\∀e∈x.2.2.2.2.2,ik e=ζ/\e.2.2.2.2.2.2.2=[])):=λh=>Ao.done (.inl ⟨rfl,λD_=>h (D_ k)⟩);refine EE Ke λG z B=>AP (λj=>a λok=>?_) (λj=>?_);have:=B (ok v d).1.1;rw[j]at this;cases this;refine AA AD6 λH t=>AP (λj=>a λok=>?_) (λm=>?_);have q:=(ok v d).1;have:=t.2 ⟨q.2.1,q.2.2.2.2.1,q.2.2.2.2.2,q.2.2.1,q.2.2.2.1⟩;rw[j]at this;cases this;have K:=AD4 (by rw[z,j]) ((t.1 m).1);have b:Ao (δ (Step.next (wi ((k:Int)+1))):Option (Step Int (Bool⊕Unit))) (Kj (λ(s:Int)=>0<=s/\s<=θ x.2.2.2.2.2/\∀e∈x.2.2.2.2.2.take s.toNat,ik e=ζ/\e.2.2.2.2.2.2.2=[]) (λ(s:Int)=>((θ x.2.2.2.2.2:Int)-s).toNat) ((θ x.2.2.2.2.2:Int)-(k:Int)).toNat λr=>(r=.inl η/\¬ ∀i,zO x i)\/(r=.inr ()/\∀e∈x.2.2.2.2.2,ik e=ζ/\e.2.2.2.2.2.2.2=[])):=by
  rw[AX];refine Ao.next ⟨o!,o!,λe p=>?_⟩ o!
  rw[show((k:Int)+1).toNat=k+1 by omega,CC,d]at p;grind[Option.toList_some,List.mem_singleton]
 have F:∀f,0<k->x.2.2.2.2.2[k-1]?=δ f->ix x.2.2.2.2.2 (wi ((k:Int)-1))=δ f:=λf A_ g=>by rw[show wi ((k:Int)-1)=((k-1:Nat):Int) by rw[AX];omega];unfold ix;grind[Int.toNat_natCast]
 apply AT<;>intro A_;refine AC (λo=>a λok=>?_) (λ_=>b);have:=(ok v d).2.1 o!;omega;have g:x.2.2.2.2.2[k-1]?=δ (x.2.2.2.2.2[k-1]):=Ar o!;generalize x.2.2.2.2.2[k-1]=f at g;rw[F f o! g,AD];apply AC<;>intro E;refine AC (λo=>a λok=>?_) (λ_=>b);have:=((ok v d).2.2 f o! g).2.2 o!;omega;have⟨c,n,l⟩:=ABy f v;rw[AD,n,AD];refine AC (λo=>a λok=>?_) (λo=>?_);have:=l.2 ((ok v d).2.2 f o! g).1;omega;refine AK (λhn=>a λok=>hn ?_) (λ_=>b);have:=l.1 o!;unfold ltC at this;exact((ok v d).2.2 f o! g).2.1 o!
def AAk{x}:Ao (V6 x) λr=>(VR x->r=Y)/\(r=Y->kE x/\∀e∈x.2.2.2.2.2,ik e=Y/\e.2.2.2.2.2.2.2=[]):=by refine AA AAj λg c=>AP (λb=>AB ⟨λa=>?_,λa=>(by cases a)⟩) (λb=>?_);have⟨⟨a1,a2,a3,a4,a5,a6,a7,a8,a9⟩,_⟩:=a;grind;have hn:=c.1 b;refine AC (λf=>AB ⟨λa=>?_,λa=>(by cases a)⟩) (λd=>?_);have:=a.1.2.2.2.2.2.2.2.2;grind;simp[R]at d;refine AA (AD5 o!) λr hr=>?_;rcases hr with⟨rfl,hr⟩|⟨rfl,hr⟩;exact BB (AB ⟨λa=>O! a.2 hr,λa=>(by cases a)⟩);exact Au (AB ⟨λ_=>rfl,λ_=>⟨⟨hn.1,hn.2.1,hn.2.2.1,hn.2.2.2.1,hn.2.2.2.2.1,hn.2.2.2.2.2.1,hn.2.2.2.2.2.2.1,hn.2.2.2.2.2.2.2,o!⟩,hr⟩⟩)
def AAp{p:Bc}(h:Z p=33):E5 (p,([80,77,82,78]:E UInt8))=D (p.take 4==[80,77,82,78]):=by grind[E5,EY,US,σ]
abbrev ZR:=W×(W×(W×(W×(W×Af))))
def xN{p:Bc}(x:Z p=33)(t:p.take 4=[80,77,82,78]):∃b c d e f a:W,(Ay (p,4,8)=D (b,0)∧Ay (p,12,8)=D (c,0)∧Ay (p,20,4)=D (d,0)∧Ay (p,24,4)=D (e,0)∧Ay (p,28,1)=D (f,0)∧Ay (p,29,4)=D (a,0))∧
  (By (p,4,8)=D (b,0)/\By (p,12,8)=D (c,0)/\By (p,20,4)=D (d,0)/\By (p,24,4)=D (e,0)/\By (p,28,1)=D (f,0)/\By (p,29,4)=D (a,0))/\
  p=[80,77,82,78]++(DE b 8++(DE c 8++(DE d 4++(DE e 4++(DE f 1++DE a 4)))))/\0<=a:=by
 have D_:(p.drop 4).length=29:=by rw[Dr];omega
 have⟨b,J,a2,g,n,y,l2⟩:=ADs (k:=8) (at_:=4) (by rw[<-t,Cr]:p=[80,77,82,78]++p.drop 4) g! o! g! g! o!;have⟨c,K,a3,h,o,z,E⟩:=ADs (k:=8) (at_:=12) n (by simp only[Ae,A0];decide) o! g! g! o!;have⟨d,L,a4,i,q,A_,F⟩:=ADs (k:=4) (at_:=20) o (by simp only[Ae,A0];decide) o! g! g! o!;have⟨e,M,a5,j,r,B,G⟩:=ADs (k:=4) (at_:=24) q (by simp only[Ae,A0];decide) o! g! g! o!;have⟨f,N,a6,l,s,C,H⟩:=ADs (k:=1) (at_:=28) r (by simp only[Ae,A0];decide) o! g! g! o!;have⟨a,v,a7,m,w,u,I⟩:=ADs (k:=4) (at_:=29) s (by simp only[Ae,A0];decide) o! g! g! o!;have:v=[]:=EX o!;subst this;refine⟨b,c,d,e,f,a,⟨a2,a3,a4,a5,a6,a7⟩,⟨g,h,i,j,l,m⟩,?_,(u.1 g!).1⟩;grind[t?]
def AAP{x}(h:kE x):(Ay (gB x,4,8)=D (x.1,0)∧Ay (gB x,12,8)=D (x.2.1,0)∧Ay (gB x,20,4)=D (x.2.2.1,0)∧Ay (gB x,24,4)=D (x.2.2.2.1,0)∧Ay (gB x,28,1)=D (x.2.2.2.2.1,0)∧Ay (gB x,29,4)=D ((Z x.2.2.2.2.2:W),0))∧
  (By (gB x,4,8)=D (x.1,0)/\By (gB x,12,8)=D (x.2.1,0)/\By (gB x,20,4)=D (x.2.2.1,0)/\By (gB x,24,4)=D (x.2.2.2.1,0)/\By (gB x,28,1)=D (x.2.2.2.2.1,0)/\By (gB x,29,4)=D ((Z x.2.2.2.2.2:W),0)):=by
 have⟨i,j,l,m,n,o⟩:=h.inr;have q:=nK x;have a:gB x=[80,77,82,78]++(DE x.1 8++(DE x.2.1 8++(DE x.2.2.1 4++(DE x.2.2.2.1 4++(DE x.2.2.2.2.1 1++(DE (Z x.2.2.2.2.2:W) 4++[])))))):=by rw[D1];rfl
 generalize gB x=p at*;have b:=mM (k:=8) (at_:=4) a g! o! g! g! i;rw[<-A5]at a;have c:=mM (k:=8) (at_:=12) a (by simp only[Ae,A0];decide) o! g! g! j;rw[<-A5]at a;have d:=mM (k:=4) (at_:=20) a (by simp only[Ae,A0];decide) o! g! g! l;rw[<-A5]at a;have e:=mM (k:=4) (at_:=24) a (by simp only[Ae,A0];decide) o! g! g! m;rw[<-A5]at a;have f:=mM (k:=1) (at_:=28) a (by simp only[Ae,A0];decide) o! g! g! n;rw[<-A5]at a;have g:=mM (k:=4) (at_:=29) a (by simp only[Ae,A0];decide) o! g! g! o;exact⟨⟨b.1,c.1,d.1,e.1,f.1,g.1⟩,b.2,c.2,d.2,e.2,f.2,g.2⟩
def AKg{x p:Bc}{n:W}{z:ZR}{j:Bc}(D_:Z x≤1099511627776)(l:x=HD p++j)(hn:0≤n)(o:n≤4096):Ao (Ad (Gr x n) (((HD p).length:W),0,[],z)) λr=>(∃u,r=.inl u∧u.1≠0)∨
  ∃a b,r=.inr (((HD p++Hw a).length:W),a,z)/\(Z a:W)=n/\x=(HD p++Hw a)++b/\∀e∈a,Ix e.2.2.2.2.2.2.1.2.2.1/\Ix e.2.2.2.2.2.2.1.2.2.2:=by
 refine CE (λs=>∃a b,s=(((HD p++Hw a).length:W),(Z a:W),a,z)/\(Z a:W)<=n/\x=(HD p++Hw a)++b/\∀e∈a,Ix e.2.2.2.2.2.2.1.2.2.1/\Ix e.2.2.2.2.2.2.1.2.2.2) (λs=>(n-s.2.1).toNat)
  ⟨[],j,by simp[Hw],by simpa using hn,by simpa[Hw]using l,λe c=>by cases c⟩ ?_
 rintro s ⟨a,b,rfl,E,h,i⟩;unfold Gr;dsimp only;refine AC (λm=>?_) (λm=>k? (.inr ⟨a,b,rfl,o!,h,i⟩));have g:=E! Z h;rw[Ae]at g;rw[(by grind[Pb]:Bd (x,((HD p++Hw a).length:W))=D (UF (HD p++Hw a).length b)),AD];refine AK (λc=>k? (.inl ⟨_,rfl,c⟩)) (λc=>?_);have⟨H,⟨d,t⟩,I⟩:=wg c;refine AA (AJi o!) λv q=>AK (λc=>k? (.inl ⟨_,rfl,c⟩)) (λf=>?_);have⟨y,A_,B,J,K⟩:=q f;refine AA (Ac w!) λw C=>?_;have k:HD p++Hw (a++[v.1])=(HD p++Hw a)++HD (B5 v.1):=by rw[QR,A5]
 rw[AX];refine y! ⟨a++[v.1],d,?_,by rw[Ae,CY,CO];omega,?_,λe c=>?_⟩ d!
 have F:((HD p++Hw (a++[v.1])).length:W)=((HD p++Hw a).length:W)+8+((UF (HD p++Hw a).length b).1.length:W):=by grind[n?,HD,Hw,EA]
 have G:((a++[v.1]).length:W)=(Z a:W)+1:=by grind[n?,List.length_cons,List.length_nil]
 grind[Prod.ext];rw[k,<-y,A5,<-t];exact h;rcases Al.1 c with c|c;exact i e c;rw[A7.1 c];exact⟨A_,B⟩
def AJj{x:Bc}(w:Z x<=1099511627776):Ao (Gk x) λr=>r.2=0->x=SG r.1/\VR r.1:=by unfold Gk;have q:Bd (x,0)=D (UF 0 x):=Pb (a:=[]) (t:=x) w!;rw[q,AD];refine AK (λh=>AB λb=>O! b h) (λh=>?_);have⟨Q,⟨P,z⟩,A_⟩:=wg h;generalize UF 0 x=v0 at*;refine AK (y? λb=>O! (show(4:W)=0 from b) g!) (λg=>?_);simp[R]at g;rw[(by grind[US]:US v0.1 0 4=D (v0.1.take 4)),AD];refine AK (y? λb=>O! (show(4:W)=0 from b) g!) (λm=>?_);have⟨K,L,M,N,O,y,⟨a2,a3,a4,a5,a6,a7⟩,⟨C,D_,E,F,G,H⟩,J,j⟩:=xN (by omega:Z v0.1=33) (by simpa using m);unfold Bl;rw[a2,a3,a4,a5,a6,a7];simp only[AD];refine AC (y? λb=>O! (show(4:W)=0 from b) g!) (λo=>?_);rw[(by rw[A_,EA];omega:v0.2.1=((HD v0.1).length:W))];refine AA (AKg (n:=y) w z j (by first|omega|(dsimp only;omega))) λr hr=>?_;rcases hr with⟨u,rfl,s⟩|⟨I,e,rfl,i,k,p⟩;grind[BB,AB];apply Au;dsimp only at i⊢;have l:=E! Z k;rw[Ae]at l;refine AK (y? λb=>O! (show(4:W)=0 from b) g!) (λd=>?_);have c:e=[]:=EX (by simp only[R]at d;omega);subst c;refine AA (dP) λB f=>AP (y? λb=>O! (show(40:W)=0 from b) g!) (λv=>AB λ_=>⟨?_,f.1 v⟩);grind[SG,gB]
def AB6{x}(h:VR x):Gk (SG x)=D (x,0):=by
 have D_:=h.1.2.2.2.2.2.2.2.2;have j:=h.len;have o:=nK x;have⟨⟨a2,a3,a4,a5,a6,a7⟩,v,y,z,A_,B,C⟩:=AAP h.1;unfold Gk;have p:Bd (SG x,0)=D (gB x,((HD (gB x)).length:W),0):=by refine(Pb (a:=[]) (t:=SG x) w!).trans (E! D ?_);grind[SG,bM,EA,Prod.ext,List.length_nil]
 have l:(gB x).take 4=[80,77,82,78]:=rfl;rw[p,AD];dsimp only[R];rw[show((0:W) !=0)=X by decide,A!,o,show(((33:U):W) !=33)=X by decide,A!];rw[(by grind[US]:US (gB x) 0 4=D ((gB x).take 4)),AD,l,H!,A!];unfold Bl;rw[a2,a3,a4,a5,a6,a7];simp only[AD];rw[F! o!,A!];have key:Ao (Ad (Gr (SG x) (Z x.2.2.2.2.2:W)) (((HD (gB x)).length:W),0,[],x.1,x.2.1,x.2.2.1,x.2.2.2.1,x.2.2.2.2.1,0,0,0,0,0,[])) λr=>r=.inr (((SG x).length:W),x.2.2.2.2.2,x.1,x.2.1,x.2.2.1,x.2.2.2.1,x.2.2.2.2.1,0,0,0,0,0,[]):=by
  refine CE (λs=>∃k:U,k<=Z x.2.2.2.2.2/\s=(((HD (gB x)++Hw (x.2.2.2.2.2.take k)).length:W),(k:W),x.2.2.2.2.2.take k,x.1,x.2.1,x.2.2.1,x.2.2.2.1,x.2.2.2.2.1,0,0,0,0,0,[])) (Z x.2.2.2.2.2-·.2.1.toNat)
   ⟨0,Bh _,by simp[Hw]⟩ ?_
  rintro s ⟨k,F,rfl⟩;unfold Gr;dsimp only;refine AC (λn=>?_) (λn=>k? ?_)
  ·have i:k<Z x.2.2.2.2.2:=o!
   have c:=(h.ent (Of i)).1;have e:Hw x.2.2.2.2.2=Hw (x.2.2.2.2.2.take k)++(HD (B5 x.2.2.2.2.2[k])++Hw (x.2.2.2.2.2.drop (k+1))):=by grind[mD,List.drop_eq_getElem_cons,Hw,List.flatten_append,List.take_append_drop]
   have d:SG x=(HD (gB x)++Hw (x.2.2.2.2.2.take k))++(HD (B5 x.2.2.2.2.2[k])++Hw (x.2.2.2.2.2.drop (k+1))):=by grind[SG,t?]
   have g:=E! Z d;rw[Ae]at g;have f:Bd (SG x,((HD (gB x)++Hw (x.2.2.2.2.2.take k)).length:W))=D (B5 x.2.2.2.2.2[k],((HD (gB x)++Hw (x.2.2.2.2.2.take k)).length:W)+8+((B5 x.2.2.2.2.2[k]).length:W),0):=by
    conv=>lhs;arg 1;rw[d]
    rw[Pb o!,bM (QQ c)]
   rw[f,AD];dsimp only;rw[show((0:W) !=0)=X by decide,A!,AB5 c,AD];dsimp only;rw[show((0:W) !=0)=X by decide,A!];refine AA (Ac (by rw[BK];simp;omega)) λw u=>?_;rw[AX];refine y! ⟨k+1,o!,?_⟩ d!
   rw[u.1,CC,Ar i,oU,QR,<-A5,Ae (bs:=HD (B5 x.2.2.2.2.2[k])),EA];grind[Prod.ext]
  rw[BG o!];rfl
 obtain⟨r,hr,rfl⟩:=key;rw[hr,AD,oV];dsimp only;rw[show(((SG x).length:W) !=R (SG x))=X from H! _,A!];obtain⟨b,E,q⟩:=(dP)
 have m:b=Y:=q.2 h;grind[Bool.not_true]
def AKc{x p:Bc}{n:(W×W)}{z:ZR}{j:Bc}(D_:Z x≤1099511627776)(l:x=HD p++j)(hn:0≤n.1)(o:n.1≤4096):Ao (Ad (LV x n) (((HD p).length:W),0,[],z)) λr=>(∃u,r=.inl u∧u.1≠0)∨
  ∃a b,r=.inr (((HD p++Hw a).length:W),a,z)/\(Z a:W)=n.1/\x=(HD p++Hw a)++b/\∀e∈a,Ix e.2.2.2.2.2.2.1.2.2.1/\Ix e.2.2.2.2.2.2.1.2.2.2:=by
 refine CE (λs=>∃a b,s=(((HD p++Hw a).length:W),(Z a:W),a,z)/\(Z a:W)<=n.1/\x=(HD p++Hw a)++b/\∀e∈a,Ix e.2.2.2.2.2.2.1.2.2.1/\Ix e.2.2.2.2.2.2.1.2.2.2) (λs=>(n.1-s.2.1).toNat)
  ⟨[],j,by simp[Hw],by simpa using hn,by simpa[Hw]using l,λe c=>by cases c⟩ ?_
 rintro s ⟨a,b,rfl,E,h,i⟩;unfold LV;dsimp only;refine AC (λm=>?_) (λm=>k? (.inr ⟨a,b,rfl,o!,h,i⟩));have g:=E! Z h;rw[Ae]at g;rw[(by grind[Xl]:Dk (x,((HD p++Hw a).length:W))=D (UF (HD p++Hw a).length b)),AD];refine AK (λc=>k? (.inl ⟨_,rfl,c⟩)) (λc=>?_);have⟨H,⟨d,t⟩,I⟩:=wg c;refine AA (AJa o!) λv q=>AK (λc=>k? (.inl ⟨_,rfl,c⟩)) (λf=>?_);have⟨y,A_,B,J,K⟩:=q f;refine AA (Ac w!) λw C=>?_;have k:HD p++Hw (a++[v.1])=(HD p++Hw a)++HD (B5 v.1):=by rw[QR,A5]
 rw[AX];refine y! ⟨a++[v.1],d,?_,by rw[Ae,CY,CO];omega,?_,λe c=>?_⟩ d!
 have F:((HD p++Hw (a++[v.1])).length:W)=((HD p++Hw a).length:W)+8+((UF (HD p++Hw a).length b).1.length:W):=by grind[n?,HD,Hw,EA]
 have G:((a++[v.1]).length:W)=(Z a:W)+1:=by grind[n?,List.length_cons,List.length_nil]
 grind[Prod.ext];rw[k,<-y,A5,<-t];exact h;rcases Al.1 c with c|c;exact i e c;rw[A7.1 c];exact⟨A_,B⟩
def AJc{x:Bc}(H:Z x<=1099511627776):Ao (LP x) λr=>r.2=0->x=SG r.1/\WR r.1:=by
 unfold LP;have E:Dk (x,0)=D (UF 0 x):=Xl (a:=[]) (t:=x) w!;rw[E,AD];refine AK (λc=>AB λb=>O! b c) (λc=>?_);have⟨U,⟨T,J⟩,K⟩:=wg c;generalize UF 0 x=v0 at*;refine AK (y? λb=>O! (show(4:W)=0 from b) g!) (λk=>?_);simp[len]at k;have q:Z v0.1=33:=o!
 rw[AAp q,AD];refine AP (y? λb=>O! (show(4:W)=0 from b) g!) (λD_=>?_);have⟨O,P,Q,R,S,I,⟨a2,a3,a4,a5,a6,a7⟩,⟨s,v,w,y,z,A_⟩,N,m⟩:=xN q (by simpa using D_);rw[show wi (4+8)=12 from rfl,show wi (12+8)=20 from rfl,show wi (20+4)=24 from rfl,show wi (24+4)=28 from rfl,show wi (28+1)=29 from rfl];rw[s,v,w,y,z,A_];simp only[AD];refine AP (y? λb=>O! (show(4:W)=0 from b) g!) (λf=>?_);have f:=N! f;rw[(by rw[K,EA];omega:v0.2.1=((HD v0.1).length:W))];refine AA (AKc (n:=(I,0)) H J m (by first|omega|(dsimp only;omega))) λr hr=>?_;rcases hr with⟨u,rfl,F⟩|⟨M,i,rfl,l,o,g⟩;grind[BB,AB];apply Au;dsimp only at l⊢;have p:=E! Z o;rw[Ae]at p;refine AC (y? λb=>O! (show(4:W)=0 from b) g!) (λh=>?_);have d:i=[]:=EX (by simp only[len]at h;omega);subst d;refine AA (AAk) λL j=>AP (y? λb=>O! (show(40:W)=0 from b) g!) (λG=>AB λ_=>⟨?_,?_⟩);grind[SG,gB];have⟨B,C⟩:=j.2 G;exact⟨B,λe c=>⟨(g e c).1,(g e c).2,(C e c).2⟩⟩
def AJb{x}(h:VR x):LP (SG x)=D (x,0):=by
 have E:=h.1.2.2.2.2.2.2.2.2;have j:=h.len;have l:=nK x;have⟨⟨a2,a3,a4,a5,a6,a7⟩,m,n,o,p,q,u⟩:=AAP h.1;unfold LP;have B:Dk (SG x,0)=D (gB x,((HD (gB x)).length:W),0):=by refine(Xl (a:=[]) (t:=SG x) w!).trans (E! D ?_);grind[SG,bM,EA,Prod.ext,List.length_nil]
 have v:(gB x).take 4=[80,77,82,78]:=rfl;rw[B,AD];dsimp only[R];rw[show((0:W) !=0)=X by decide,A!,l,show(((33:U):W) !=33)=X by decide,A!];rw[AAp l,AD,v,L!,Ce,A!];rw[show wi (4+8)=12 from rfl,show wi (12+8)=20 from rfl,show wi (20+4)=24 from rfl,show wi (24+4)=28 from rfl,show wi (28+1)=29 from rfl];rw[m,n,o,p,q,u];simp only[AD];rw[G! o!,Ce,A!];have key:Ao (Ad (LV (SG x) ((Z x.2.2.2.2.2:W),0)) (((HD (gB x)).length:W),0,[],x.1,x.2.1,x.2.2.1,x.2.2.2.1,x.2.2.2.2.1,0,0,0,0,0,[])) λr=>r=.inr (((SG x).length:W),x.2.2.2.2.2,x.1,x.2.1,x.2.2.1,x.2.2.2.1,x.2.2.2.2.1,0,0,0,0,0,[]):=by
  refine CE (λs=>∃k:U,k<=Z x.2.2.2.2.2/\s=(((HD (gB x)++Hw (x.2.2.2.2.2.take k)).length:W),(k:W),x.2.2.2.2.2.take k,x.1,x.2.1,x.2.2.1,x.2.2.2.1,x.2.2.2.2.1,0,0,0,0,0,[])) (Z x.2.2.2.2.2-·.2.1.toNat)
   ⟨0,Bh _,by simp[Hw]⟩ ?_
  rintro s ⟨k,F,rfl⟩;unfold LV;dsimp only;refine AC (λz=>?_) (λz=>k? ?_)
  ·have i:k<Z x.2.2.2.2.2:=o!
   have c:=(h.ent (Of i)).1;have A_:=QQ c;have d:Hw x.2.2.2.2.2=Hw (x.2.2.2.2.2.take k)++(HD (B5 x.2.2.2.2.2[k])++Hw (x.2.2.2.2.2.drop (k+1))):=by grind[mD,List.drop_eq_getElem_cons,Hw,List.flatten_append,List.take_append_drop]
   have g:SG x=(HD (gB x)++Hw (x.2.2.2.2.2.take k))++(HD (B5 x.2.2.2.2.2[k])++Hw (x.2.2.2.2.2.drop (k+1))):=by grind[SG,t?]
   have f:=E! Z g;rw[Ae]at f;rw[(by grind[Xl,bM]:Dk (SG x,((HD (gB x)++Hw (x.2.2.2.2.2.take k)).length:W))=D (B5 x.2.2.2.2.2[k],((HD (gB x)++Hw (x.2.2.2.2.2.take k)).length:W)+8+((B5 x.2.2.2.2.2[k]).length:W),0)),AD];dsimp only;rw[show((0:W) !=0)=X by decide,A!,AJZ c,AD];dsimp only;rw[show((0:W) !=0)=X by decide,A!];refine AA (Ac (by rw[BK];simp;omega)) λw D_=>?_;rw[AX];refine y! ⟨k+1,o!,?_⟩ d!
   rw[D_.1,CC,Ar i,oU,QR,<-A5,Ae (bs:=HD (B5 x.2.2.2.2.2[k])),EA];grind[Prod.ext]
  rw[BG o!];rfl
 obtain⟨r,hr,rfl⟩:=key;rw[hr,AD,oV];dsimp only;rw[F! (by first|omega|(simp[R];omega)),A!];obtain⟨b,y,C⟩:=(AAk)
 have e:b=Y:=C.1 h;subst e;rw[y,AD,Ce,A!]
theorem AGZ{a b n k:Nat}{d:Array NE}(h:a<=k)(c:k<a+n):swR a b n d k=d[b+(k-a)]! :=if_pos ⟨h,c⟩
def AGa{a b n k:U}{d}(e:a+n<=b)(h:b<=k:=by omega)(c:k<b+n:=by omega):swR a b n d k=d[a+(k-b)]! :=by unfold swR;rw[D! o!,C! ⟨h,c⟩]
def tM{a b n k:U}{d}(h:k<a\/a+n<=k:=by omega)(c:k<b\/b+n<=k:=by omega):swR a b n d k=d[k]! :=by unfold swR;rw[D! o!,D! o!]
def zC(s m e:U)(d:S NE)(k:U):NE:=if s<=k/\k<s+(e-m)then d[m+(k-s)]! else if s+(e-m)<=k/\k<e then d[s+(k-(s+(e-m)))]! else d[k]!
theorem mY{s m e k:Nat}{d:Array NE}(h:s<=k)(a:k<s+(e-m)):zC s m e d k=d[m+(k-s)]! :=if_pos ⟨h,a⟩
def qS{s m e k:U}{d}(h:s+(e-m)<=k:=by omega)(a:k<e:=by omega):zC s m e d k=d[s+(k-(s+(e-m)))]! :=by unfold zC;rw[D! o!,C! ⟨h,a⟩]
theorem WD{s m e k:U}{d}(a:s<=m:=by omega)(b:m<=e:=by omega)(h:k<s\/e<=k:=by omega):zC s m e d k=d[k]! :=by unfold zC;rw[D! o!,D! o!]
def sR{d:S NE}{x y:U}(h:x=y):d[x]! =d[y]! :=by rw[h]
theorem AGG{m i j k:Nat}{d e:Array NE}(o:i<=m)(p:1<=j)(l:j<i)(n:m+j<=d.size)(a: ∀k,k<d.size->e[k]! =swR (m-i) m j d k)(b:k<d.size):zC (m-(i-j)) m (m+j) e k=zC (m-i) m (m+j) d k:=by
 rcases Aw k (m-i)with c|c
 ·rw[WD (by omega) (by omega) (by omega),WD (by omega) (by omega) (by omega),a k b,tM (by omega) (by omega)]
 rcases Aw k (m-i+j)with f|f
 ·rw[WD (by omega) (by omega) (by omega),mY (by omega) (by omega),a k b,AGZ (by omega) (by omega)]
 rcases Aw k (m-(i-j)+j)with g|g
 ·rw[mY (by omega) (by omega),qS (by omega) (by omega),a _ (by omega),AGa (by omega) (by omega) (by omega)];exact sR (by omega)
 rcases Aw k (m+j)with h|h
 ·rw[qS (by omega) (by omega),qS (by omega) (by omega),a _ (by omega),tM (by omega) (by omega)];exact sR (by omega)
 ·rw[WD (by omega) (by omega) (by omega),WD (by omega) (by omega) (by omega),a k b,tM (by omega) (by omega)]
theorem AGH{m i j k:Nat}{d e:Array NE}(p:i<=m)(n:1<=i)(l:i<j)(o:m+j<=d.size)(a: ∀k,k<d.size->e[k]! =swR (m-i) (m+j-i) i d k)(b:k<d.size):zC (m-i) m (m+(j-i)) e k=zC (m-i) m (m+j) d k:=by
 rcases Aw k (m-i)with c|c
 ·rw[WD (by omega) (by omega) (by omega),WD (by omega) (by omega) (by omega),a k b,tM (by omega) (by omega)]
 rcases Aw k (m-i+(j-i))with f|f
 ·rw[mY (by omega) (by omega),mY (by omega) (by omega),a _ (by omega),tM (by omega) (by omega)]
 rcases Aw k (m+(j-i))with g|g
 ·rw[qS (by omega) (by omega),mY (by omega) (by omega),a _ (by omega),AGZ (by omega) (by omega)];exact sR (by omega)
 rcases Aw k (m+j)with h|h
 ·rw[WD (by omega) (by omega) (by omega),qS (by omega) (by omega),a _ (by omega),AGa (by omega) (by omega) (by omega)];exact sR (by omega)
 ·rw[WD (by omega) (by omega) (by omega),WD (by omega) (by omega) (by omega),a k b,tM (by omega) (by omega)]
theorem AEG{d:Array NE}{a m b:Nat}(L:a<m)(M:m<b)(N:b≤d.size)(Q:d.size≤16777216):
  Ao (Er d.toList ((a:Int),((m:Int),(b:Int)))) λr=> ∃e:Array NE,r=e.toList/\e.size=d.size/\ ∀k,k<d.size->e[k]! =zC a m b d k:=by
 unfold Er;have C:wi ((m:Int)-(a:Int))=((m-a:Nat):Int):=by rw[pC (by omega)];omega
 have D_:wi ((b:Int)-(m:Int))=((b-m:Nat):Int):=by rw[pC (by omega)];omega
 dsimp only;rw[C,D_];refine AA (P:=λ(r:Int×List NE)=> ∃(i:Nat) (e:Array NE),r.1=i/\r.2=e.toList/\1<=i/\i<=m-a/\m+i<=b/\e.size=d.size/\ ∀k,k<d.size->zC (m-i) m (m+i) e k=zC a m b d k) ?_ ?_
 ·refine AW (λ(s:Int×(Int×List NE))=> ∃(i j:Nat) (e:Array NE),s.1=i/\s.2.1=j/\s.2.2=e.toList/\1<=i/\1<=j/\i<=m-a/\m+j<=b/\e.size=d.size/\ ∀k,k<d.size->zC (m-i) m (m+j) e k=zC a m b d k) (λs=>(s.1+s.2.1).toNat)
   ⟨m-a,b-m,d,rfl,rfl,rfl,by omega,by omega,Am _,by omega,rfl,λk _=>by rw[show m-(m-a)=a by omega,show m+(b-m)=b by omega]⟩ ?_
  rintro⟨R,S,T⟩ ⟨i,j,e,o,p,w,q,y,z,A_,K,B⟩;dsimp only at o p w;subst o p w;unfold JG;dsimp only;have t:wi ((m:Int)-(i:Int))=((m-i:Nat):Int):=by rw[pC (by omega)];omega
  rw[t];refine AK (λJ=>?_) (λI=>AB ⟨i,e,rfl,rfl,q,z,by omega,K,λk g=>?_⟩)
  ·refine AC ?_ ?_<;>intro O
   ·refine AA (zJ (d:=e) (a:=m-i) (b:=m) (n:=j) (by omega) (by omega) (by omega)) ?_;rintro v ⟨f,rfl,h,l⟩;have c:Nat.beq (List.length f.toList) (List.length e.toList)=true:=by rw[Dq,Dq,h];exact HT _
    have u:wi ((i:Int)-(j:Int))=((i-j:Nat):Int):=by rw[pC (by omega)];omega
    rw[c,cond_true,u];refine AB ⟨⟨i-j,j,f,rfl,rfl,rfl,by omega,y,by omega,A_,by omega,λk g=>?_⟩,?_⟩
    ·rw[AGG (by omega) y (by omega) (by omega) l (by omega),B k g]
    ·show(((i-j:Nat):Int)+(j:Int)).toNat<((i:Int)+(j:Int)).toNat
     omega
   ·have E:wi (wi ((m:Int)+(j:Int))-(i:Int))=((m+j-i:Nat):Int):=by rw[pC (x:=(m:Int)+(j:Int)) (by omega),pC (by omega)];omega
    rw[E];refine AA (zJ (d:=e) (a:=m-i) (b:=m+j-i) (n:=i) (by omega) (by omega) (by omega)) ?_;rintro v ⟨f,rfl,h,l⟩;have c:Nat.beq (List.length f.toList) (List.length e.toList)=true:=by rw[Dq,Dq,h];exact HT _
    have u:wi ((j:Int)-(i:Int))=((j-i:Nat):Int):=by rw[pC (by omega)];omega
    rw[c,cond_true,u];refine AB ⟨⟨i,j-i,f,rfl,rfl,rfl,q,by omega,z,by omega,by omega,λk g=>?_⟩,?_⟩
    ·rw[AGH (by omega) q (by omega) (by omega) l (by omega),B k g]
    ·show((i:Int)+((j-i:Nat):Int)).toNat<((i:Int)+(j:Int)).toNat
     omega
  ·have:j=i:=by omega
   subst this;exact B k g
 ·rintro⟨U,V⟩ ⟨i,e,o,p,w,q,y,z,A_⟩;dsimp only at o p;subst o p;dsimp only;have t:wi ((m:Int)-(i:Int))=((m-i:Nat):Int):=by rw[pC (by omega)];omega
  rw[t];refine AA (zJ (d:=e) (a:=m-i) (b:=m) (n:=i) (by omega) (by omega) (by omega)) ?_;rintro v ⟨f,rfl,h,l⟩;have c:Nat.beq (List.length f.toList) (List.length e.toList)=true:=by rw[Dq,Dq,h];exact HT _
  rw[c,cond_true];refine AB ⟨f,rfl,by omega,λk g=>?_⟩;rw[<-A_ k g,l k (by omega)];rcases Aw k (m-i)with F|F
  ·rw[tM (by omega) (by omega),WD (by omega) (by omega) (by omega)]
  rcases Aw k m with G|G
  ·rw[AGZ (by omega) (by omega),mY (by omega) (by omega)]
  rcases Aw k (m+i)with H|H
  ·rw[AGa (by omega) (by omega) (by omega),qS (by omega) (by omega)];exact sR (by omega)
  ·rw[tM (by omega) (by omega),WD (by omega) (by omega) (by omega)]
def AAf{i j:U}(h:i+j<=1099511627776):wi (Int.fdiv (ι .u64 (wi ((i:W)+(j:W)))) (2^(min (ο 1) 64)))=(((i+j)/2:U):W):=by rw[ABq];omega
def bs{body:W×W→V (Step (W×W) W)}{P:U→N}{b a:U}(m:∀i:U,body ((i:W),(i:W))=D (.done (i:W)))
  (s:∀i j:U,b<=i->i<j->j<=a->body ((i:W),(j:W))=D (.next (if P ((i+j)/2)=Y then((((i+j)/2+1:U):W),(j:W))else((i:W),(((i+j)/2:U):W))))) (l:b<=a):
  ∃r:U,Ad body ((b:W),(a:W))=D (r:W)/\b<=r/\r<=a/\(b<r->P (r-1)=Y)/\(r<a->P r=X):=by
 suffices h:∀n i j:U,j-i<=n->b<=i->i<=j->j<=a->(b<i->P (i-1)=Y)->(j<a->P j=X)->∃r:U,Ad body ((i:W),(j:W))=D (r:W)/\b<=r/\r<=a/\(b<r->P (r-1)=Y)/\(r<a->P r=X)from
  h _ b a (Am _) (Am _) l (Am _) (O! · o!) (O! · o!)
 intro n;induction n with
 |zero=>
  intro i j p c q d e f;have:i=j:=o!
  subst this;rw[Eh,m];exact⟨i,rfl,c,d,e,f⟩
 |succ n o=>intro i j p c q d e f;rw[Eh];by_cases k:i=j;subst k;rw[m];exact⟨i,rfl,c,d,e,f⟩;rw[s i j c o! d];by_cases g:P ((i+j)/2)=Y;rw[C! g];exact o _ j o! o! o! d (λ_=>by rw[Nat.add_sub_cancel];exact g) f;rw[D! g];exact o i _ o! c o! o! e (λ_=>by simpa using g)
theorem AKk{d:Array NE}{a m b:Nat}(o:a<d.size)(g:m≤b)(p:b≤d.size)(q:d.size≤16777216)(c:Int×Int):
  ∃r:Nat,Ad (DN d.toList ((a:Int),c)) ((m:Int),(b:Int))=some (r:Int)/\m<=r/\r<=b/\(m<r->lN d[r-1]! d[a]! =true)/\(r<b->lN d[r]! d[a]! =false):=by
 refine bs (P:=λk=>lN d[k]! d[a]!) (λi=>?_) (λi j h l n=>?_) g
 ·unfold DN;have:decide ((i:Int)<(i:Int))=false:=by simp
  dsimp only;rw[this,cond_false]
 ·unfold DN;have:decide ((i:Int)<(j:Int))=true:=by simp;omega
  dsimp only;rw[this,cond_true,AAf (by omega)];obtain⟨v,e,f⟩:=AH4 d[(i+j)/2]! d[a]!;rw[ixG (k:=(i+j)/2) rfl (by omega),ixG (k:=a) rfl (by omega)];simp only[AD,e,f,wip (i:=(i+j)/2) (by omega)];cases lN d[(i+j)/2]! d[a]! <;>rfl
theorem AKl{d:Array NE}{a r b:Nat}(h:a<r)(hr:r≤b)(D_:b≤d.size)(E:d.size≤16777216):
  Ao (Ad (D3 (r:Int)) ((a:Int),d.toList)) λq=> ∃e:Array NE,q=e.toList/\Sort.PermIn a b d e/\(∀t,a<=t->t<r-1->e[t]! =d[t+1]!)/\e[r-1]! =d[a]! /\ ∀t,r<=t->e[t]! =d[t]! :=by
 refine AW (λ(s:Int×List NE)=> ∃(k:Nat) (e:Array NE),s.1=k/\s.2=e.toList/\a<=k/\k<r/\Sort.PermIn a b d e/\(∀t,a<=t->t<k->e[t]! =d[t+1]!)/\e[k]! =d[a]! /\ ∀t,k<t->e[t]! =d[t]!) (λs=>r-s.1.toNat) ⟨a,d,rfl,rfl,Am _,h,Sort.permIn_refl _ _ _,λt _ _=>by omega,rfl,λt _=>rfl⟩ ?_;rintro⟨H,I⟩ ⟨k,e,n,o,C,G,l,p,u,m⟩;dsimp only at n o;subst n o;have F:=l.1;unfold D3;dsimp only;have v:wi ((r:Int)-1)=((r-1:Nat):Int):=by rw[wim (by omega)];omega
 rw[v];refine AC (λx=>?_) (λx=>AB ⟨e,rfl,l,λt g w=>p t g (by omega),?_,λt y=>m t (by omega)⟩)
 ·have z:ix e.toList ((k+1:Nat):Int)=some e[k+1]! :=ixG rfl (by omega);have A_:ix e.toList (k:Int)=some e[k]! :=ixG rfl (by omega);have B:ix (FM e.toList (k:Int) e[k+1]!) ((k+1:Nat):Int)=some (e.setIfInBounds k e[k+1]!)[k+1]! :=AHW rfl rfl (by omega);simp only[wip (i:=k) (by omega),z,A_,B,AD,AIG (d:=e) (a:=k) (b:=k+1) rfl rfl];have c:=Sort.swp_get e (i:=k) (j:=k+1) (by omega) (by omega);refine AB ⟨⟨k+1,_,rfl,rfl,by omega,by omega,Sort.permIn_trans _ _ _ _ _ l (Sort.swp_permIn e a b k (k+1) C (by omega) (by omega) (by omega) (by omega)),λt g w=>?_,?_,λt y=>?_⟩,?_⟩
  ·rw[c,if_neg (by omega)];by_cases f:t=k
   ·subst f;rw[if_pos rfl];exact m _ (by omega)
   ·rw[if_neg f];exact p t g (by omega)
  ·rw[c,if_pos rfl];exact u
  ·rw[c,if_neg (by omega),if_neg (by omega)];exact m t (by omega)
  ·show r-((k+1:Nat):Int).toNat<r-((k:Nat):Int).toNat
   omega
 ·have:k=r-1:=by omega
  rw[<-this];exact u
def AGR{d:S NE}{a b:U}(o:a+1≤b)(z:b≤d.size)(A_:d.size≤16777216)(k:Sort.SortedIn lN (a+1) b d)(c:Int×Int):
  Ao (σ (Ad (DN d.toList ((a:Int),c)) (((a+1:U):Int),(b:Int))) λv=>σ (Ad (D3 v) ((a:Int),d.toList)) λw=>D w) λq=>∃e:S NE,q=e.toList/\Sort.PermIn a b d e/\Sort.SortedIn lN a b e:=by
 obtain⟨r,g,H,I,J,K⟩:=AKk (d:=d) (a:=a) (m:=a+1) (b:=b) o! o z A_ c;rw[g,AD];apply AA (AKl (d:=d) (a:=a) (r:=r) (b:=b) o! I z A_);rintro q ⟨e,rfl,G,n,B,C⟩;refine AB ⟨e,rfl,G,λx y p s u=>?_⟩;have W:=wD;have F:∀t,a+1<=t->t<r->lN d[a]! d[t]! =X:=λt h l=>by
  have f:=J o!;cases D_:lN d[a]! d[t]! with
  |false=>rfl
  |true=>have i:=W.trans _ _ _ f D_;rcases Aw t (r-1)with j|j;exact O! i (by rw[k t (r-1) h j o!];decide);rw[show t=r-1 by omega,W.irrefl]at i;cases i
 have E:∀t,r<=t->t<b->lN d[t]! d[a]! =X:=λt h l=>by have f:=K o!;rcases Aw r t with j|j;exact W.ntrans _ _ _ (k r t H j l) f;rw[show t=r by omega];exact f
 rcases Aw y (r-1)with h|h;rw[n x p o!,n y o! h];exact k (x+1) (y+1) o! o! o!;rcases Aw (r-1) y with l|l;rw[C y o!];rcases Aw x (r-1)with f|f;rw[n x p f];exact k (x+1) y o! o! u;rcases Aw (r-1) x with i|i;rw[C x o!];exact k x y o! s u;rw[show x=r-1 by omega,B];exact E y o! u;rw[show y=r-1 by omega,B,n x p o!];exact F (x+1) o! o!
theorem AKm{d:Array NE}{a m:Nat}(l:a≤m)(w:m<d.size)(u:d.size≤16777216)(b:Int):
  ∃r:Nat,Ad (CR d.toList ((a:Int),((m:Int),b))) ((a:Int),(m:Int))=some (r:Int)/\a<=r/\r<=m/\(a<r->lN d[m]! d[r-1]! =false)/\(r<m->lN d[m]! d[r]! =true):=by
 have c: ∀i:Nat,CR d.toList ((a:Int),((m:Int),b)) ((i:Int),(i:Int))=some (.done (i:Int)):=λi=>by
  unfold CR;have:decide ((i:Int)<(i:Int))=false:=by simp
  dsimp only;rw[this,cond_false]
 have e: ∀i j:Nat,a<=i->i<j->j<=m->CR d.toList ((a:Int),((m:Int),b)) ((i:Int),(j:Int))=some (.next (if(!lN d[m]! d[(i+j)/2]!)=true then((((i+j)/2+1:Nat):Int),(j:Int))else((i:Int),(((i+j)/2:Nat):Int)))):=λi j q s t=>by
  unfold CR;have:decide ((i:Int)<(j:Int))=true:=by simp;omega
  dsimp only;rw[this,cond_true,AAf (by omega)];obtain⟨v,f,g⟩:=AH4 d[m]! d[(i+j)/2]!;rw[ixG (k:=(i+j)/2) rfl (by omega),ixG (k:=m) rfl (by omega)];simp only[AD,f,g,wip (i:=(i+j)/2) (by omega)];cases lN d[m]! d[(i+j)/2]! <;>rfl
 obtain⟨r,f,g,n,o,p⟩:=bs (P:=λk=>!lN d[m]! d[k]!) c e l;exact⟨r,f,g,n,λh=>by simpa using o h,λh=>by simpa using p h⟩
theorem AKn{d:Array NE}{a r m:Nat}(x:a≤r)(hr:r≤m)(E:m<d.size)(D_:d.size≤16777216):
  Ao (Ad (D4 (r:Int)) ((m:Int),d.toList)) λq=> ∃e:Array NE,q=e.toList/\Sort.PermIn a (m+1) d e/\(∀t,r<t->t<=m->e[t]! =d[t-1]!)/\e[r]! =d[m]! /\ ∀t,t<r->e[t]! =d[t]! :=by
 refine AW (λ(s:Int×List NE)=> ∃(k:Nat) (e:Array NE),s.1=k/\s.2=e.toList/\r<=k/\k<=m/\Sort.PermIn a (m+1) d e/\(∀t,k<t->t<=m->e[t]! =d[t-1]!)/\e[k]! =d[m]! /\ ∀t,t<k->e[t]! =d[t]!) (λs=>s.1.toNat) ⟨m,d,rfl,rfl,hr,Am _,Sort.permIn_refl _ _ _,λt _ _=>by omega,rfl,λt _=>rfl⟩ ?_;rintro⟨I,J⟩ ⟨k,e,n,o,G,H,h,p,u,l⟩;dsimp only at n o;subst n o;have F:=h.1;unfold D4;dsimp only;refine AC (λy=>?_) (λy=>AB ⟨e,rfl,h,λt w g=>p t (by omega) g,?_,λt z=>l t (by omega)⟩)
 ·have v:wi ((k:Int)-1)=((k-1:Nat):Int):=by rw[wim (by omega)];omega
  have A_:ix e.toList ((k-1:Nat):Int)=some e[k-1]! :=ixG rfl (by omega);have B:ix e.toList (k:Int)=some e[k]! :=ixG rfl (by omega);have C:ix (FM e.toList (k:Int) e[k-1]!) ((k-1:Nat):Int)=some (e.setIfInBounds k e[k-1]!)[k-1]! :=AHW rfl rfl (by omega);simp only[v,A_,B,C,AD,AIG (d:=e) (a:=k) (b:=k-1) rfl rfl];have c:=Sort.swp_get e (i:=k) (j:=k-1) (by omega) (by omega);refine AB ⟨⟨k-1,_,rfl,rfl,by omega,by omega,Sort.permIn_trans _ _ _ _ _ h (Sort.swp_permIn e a (m+1) k (k-1) (by omega) (by omega) (by omega) (by omega) (by omega)),λt w g=>?_,?_,λt z=>?_⟩,?_⟩
  ·rw[c,if_neg (by omega)];by_cases f:t=k
   ·subst f;rw[if_pos rfl];exact l _ (by omega)
   ·rw[if_neg f];exact p t (by omega) g
  ·rw[c,if_pos rfl];exact u
  ·rw[c,if_neg (by omega),if_neg (by omega)];exact l t (by omega)
  ·show((k-1:Nat):Int).toNat<((k:Nat):Int).toNat
   omega
 ·have:k=r:=by omega
  rw[<-this];exact u
def AIB{d:S NE}{a m:U}(n:a≤m)(u:m<d.size)(s:d.size≤16777216)(k:Sort.SortedIn lN a m d)(b:Int):
  Ao (σ (Ad (CR d.toList ((a:Int),(m:Int),b)) ((a:Int),(m:Int))) λv=>σ (Ad (D4 v) ((m:Int),d.toList)) λw=>D w) λq=>∃e:S NE,q=e.toList/\Sort.PermIn a (m+1) d e/\Sort.SortedIn lN a (m+1) e:=by
 obtain⟨r,g,B,G,H,I⟩:=AKm (d:=d) (a:=a) (m:=m) n u s b;rw[g,AD];apply AA (AKn (d:=d) (a:=a) (r:=r) (m:=m) B G u s);rintro q ⟨e,rfl,F,z,A_,l⟩;refine AB ⟨e,rfl,F,λx y o p J=>?_⟩;have W:=wD;have E:∀t,a<=t->t<r->lN d[m]! d[t]! =X:=λt h i=>by have c:=H o!;rcases Aw t (r-1)with j|j;exact W.ntrans _ _ _ c (k t (r-1) h j o!);rw[show t=r-1 by omega];exact c
 have D_:∀t,r<=t->t<m->lN d[t]! d[m]! =X:=λt h i=>by
  have c:=I o!;cases C:lN d[t]! d[m]! with
  |false=>rfl
  |true=>have f:=W.trans _ _ _ C c;rcases Aw r t with j|j;exact O! f (by rw[k r t B j i];decide);rw[show t=r by omega,W.irrefl]at f;cases f
 rcases Aw y r with h|h;rw[l x o!,l y h];exact k x y o p o!;rcases Aw r y with i|i;rw[z y i o!];rcases Aw x r with c|c;rw[l x c];exact k x (y-1) o o! o!;rcases Aw r x with f|f;rw[z x f o!];exact k (x-1) (y-1) o! o! o!;rw[show x=r by omega,A_];exact D_ (y-1) o! o!;rw[show y=r by omega,A_,l x o!];exact E x o o!
theorem AKo{d:Array NE}{a m b lo hi:Nat}(l:lo≤hi)(s:a≤lo)(t:hi≤m)(u:(a+b)/2+m-lo≤b)(y:hi≤(a+b)/2+m)(w:m≤b)(z:b≤d.size)(A:d.size≤16777216):
  ∃r:Nat,Ad (Cl d.toList ((a:Int),((m:Int),(b:Int)))) ((lo:Int),(hi:Int))=some (r:Int)/\lo<=r/\r<=hi/\(lo<r->lN d[(a+b)/2+m-1-(r-1)]! d[r-1]! =false)/\(r<hi->lN d[(a+b)/2+m-1-r]! d[r]! =true):=by
 have c: ∀i:Nat,Cl d.toList ((a:Int),((m:Int),(b:Int))) ((i:Int),(i:Int))=some (.done (i:Int)):=λi=>by
  unfold Cl;have:decide ((i:Int)<(i:Int))=false:=by simp
  dsimp only;rw[this,cond_false]
 have e: ∀i j:Nat,lo<=i->i<j->j<=hi->Cl d.toList ((a:Int),((m:Int),(b:Int))) ((i:Int),(j:Int))=some (.next (if(!lN d[(a+b)/2+m-1-(i+j)/2]! d[(i+j)/2]!)=true then((((i+j)/2+1:Nat):Int),(j:Int))else((i:Int),(((i+j)/2:Nat):Int)))):=λi j s t u=>by
  unfold Cl;have:decide ((i:Int)<(j:Int))=true:=by simp;omega
  dsimp only;rw[this,cond_true,AAf (i:=i) (j:=j) (by omega),AAf (i:=a) (j:=b) (by omega)];have n:wi (wi (wi ((((a+b)/2:Nat):Int)+(m:Int))-1)-(((i+j)/2:Nat):Int))=(((a+b)/2+m-1-(i+j)/2:Nat):Int):=by rw[pC (x:=(((a+b)/2:Nat):Int)+(m:Int)) (by omega),pC (x:=(((a+b)/2:Nat):Int)+(m:Int)-1) (by omega),pC (by omega)];omega
  obtain⟨v,f,g⟩:=AH4 d[(a+b)/2+m-1-(i+j)/2]! d[(i+j)/2]!;rw[n,ixG (k:=(i+j)/2) rfl (by omega),ixG (k:=(a+b)/2+m-1-(i+j)/2) rfl (by omega)];simp only[AD,f,g,wip (i:=(i+j)/2) (by omega)];cases lN d[(a+b)/2+m-1-(i+j)/2]! d[(i+j)/2]! <;>rfl
 obtain⟨r,f,g,o,p,q⟩:=bs (P:=λk=>!lN d[(a+b)/2+m-1-k]! d[k]!) c e l;exact⟨r,f,g,o,λh=>by simpa using p h,λh=>by simpa using q h⟩
theorem AH3{s m e:Nat}{d f:Array NE}(o:s<=m)(p:m<=e)(b:e<=d.size)(c:f.size=d.size)(h: ∀k,k<d.size->f[k]! =zC s m e d k):Sort.PermIn s e d f:=by
 refine⟨c,λi a=>?_,?_⟩
 ·grind[Nat.lt_or_ge,WD]
 ·have key: ∀(g:Nat->NE) (s n:Nat),(List.range' s n).map g=(List.range n).map λi=>g (s+i):=λg s n=>by rw[List.range'_eq_map_range,RT];rfl
  rw[Sort.extract_toList f s e (by omega),Sort.extract_toList d s e b];have j:List.range' s (e-s)=List.range' s (e-m)++List.range' (s+(e-m)) (m-s):=by grind
  have l:List.range' s (e-s)=List.range' s (m-s)++List.range' (s+(m-s)) (e-m):=by grind
  have l1:(List.range' s (e-m)).map (λi=>f[i]!)=(List.range' (s+(m-s)) (e-m)).map λi=>d[i]! :=by rw[key,key];refine Ng λi a=>?_;have:=H5.1 a;rw[h _ (by omega),mY (by omega) (by omega)];simp_all
  have l2:(List.range' (s+(e-m)) (m-s)).map (λi=>f[i]!)=(List.range' s (m-s)).map λi=>d[i]! :=by rw[key,key];refine Ng λi a=>?_;have:=H5.1 a;rw[h _ (by omega),qS (by omega) (by omega)];simp_all
  grind
def za(a b:U)(d e:S NE):Prop:=Sort.PermIn a b d e/\Sort.SortedIn lN a b e
def qT{a m b:U}{d}(h:m<=a\/b<=m)(c:Sort.SortedIn lN a m d)(e:Sort.SortedIn lN m b d)(f:a<=m)(g:m<=b):Sort.SortedIn lN a b d:=by
 rcases h with h|h;have:m=a:=o!
 rw[<-this];exact e;have:m=b:=o!
 rw[<-this];exact c
theorem ALW{G:List NE×(Int×(Int×Int))→Option (List NE)}{N a m b:Nat}{d:Array NE}(a6:a<m)(a7:m<b)(hb:b≤d.size)(hd:d.size≤16777216)(C:Sort.SortedIn lN a m d)(D_:Sort.SortedIn lN m b d)
  (S: ∀(V:Array NE) (Z m' U:Nat),Z<m'->m'<U->U<=V.size->V.size<=16777216->Sort.SortedIn lN Z m' V->Sort.SortedIn lN m' U V->PT (U-Z<=N) (G (V.toList,((Z:Int),((m':Int),(U:Int))))) λr=> ∃e:Array NE,r=e.toList/\za Z U V e):
  PT (b-a<=N+1) (CN G d.toList ((a:Int),((m:Int),(b:Int)))) λr=> ∃e:Array NE,r=e.toList/\za a b d e:=by
 have W:=wD;unfold CN;have e0:wi ((m:Int)-(a:Int))=((m-a:Nat):Int):=by grind[pC]
 have e1:wi ((b:Int)-(m:Int))=((b-m:Nat):Int):=by grind[pC]
 dsimp only;rw[e0,e1,AAf (i:=a) (j:=b) (by omega)];refine PT.cond ?_ ?_<;>intro T
 ·have T:m=a+1:=by have:=eq_of_beq T;omega
  subst T;exact lz (AGR (by omega) hb hd D_ _)
 refine PT.cond ?_ ?_<;>intro o
 ·have o:b=m+1:=by have:=eq_of_beq o;omega
  subst o;exact lz (AIB (by omega) hb hd C _)
 have n1:m-a≠1:=λh=>by rw[h]at T;exact absurd T (by decide)
 have n2:b-m≠1:=λh=>by rw[h]at o;exact absurd o (by decide)
 have ag:a<(a+b)/2/\(a+b)/2<b:=by omega
 generalize hM:(a+b)/2=M at ag⊢;have e2:wi ((M:Int)+(m:Int))=((M+m:Nat):Int):=by rw[pC (by omega)];omega
 rw[e2];refine PT.bind (P:=λv=> ∃R O:Nat,v=((R:Int),(O:Int))/\R<=O/\a<=R/\O<=m/\O<=M/\M+m-R<=b/\(R=a\/M+m-R=b)/\(O=m\/O=M)) ?_ ?_
 ·refine PT.dec (λhc=>PT.some ⟨M+m-b,M,?_,by omega,by omega,by omega,by omega,by omega,by omega,by omega⟩) (λhc=>PT.some ⟨a,m,rfl,by omega,by omega,by omega,by omega,by omega,by omega,by omega⟩);rw[pC (by omega)];exact congrArg (λz=>(z,(M:Int))) (by omega)
 rintro v ⟨R,O,rfl,f1,f2,f3,f4,f5,f6,f7⟩;have⟨r,g,r1,r2,r3,r4⟩:=AKo (d:=d) (a:=a) (m:=m) (b:=b) (lo:=R) (hi:=O) f1 f2 f3 (by omega) (by omega) (by omega) hb hd;rw[hM]at r3 r4;rw[g,AD];have e3:wi (((M+m:Nat):Int)-(r:Int))=((M+m-r:Nat):Int):=by rw[pC (by omega)];omega
 simp only[e3];obtain⟨E,hE⟩: ∃E,E=M+m-r:=⟨_,rfl⟩
 rw[<-hE];have c1:a<r->E<b->lN d[E]! d[r-1]! =false:=λT o=>by have:=r3 (by omega);rw[show M+m-1-(r-1)=E by omega]at this;exact this
 have c2:r<m->m<E->lN d[E-1]! d[r]! =true:=λT o=>by have:=r4 (by omega);rw[show M+m-1-r=E-1 by omega]at this;exact this
 have s3: ∀c n:Array NE,Sort.PermIn a b d c->(∀k,k<d.size->c[k]! =zC r m E d k)->za a M c n->PT (b-a<=N+1) (bif decide ((M:Int)<(E:Int))then Option.bind (bif decide ((E:Int)<(b:Int))then Option.bind (G (n.toList,((M:Int),((E:Int),(b:Int))))) λv=>bif Nat.beq (List.length v) (List.length n.toList)then some v else none else some n.toList) λv=>some v else some n.toList) λq=> ∃e:Array NE,q=e.toList/\za a b d e:=by
  intro c n Y_ f o;have z1:c.size=d.size:=Y_.1;have z2:n.size=c.size:=o.1.1;have a0: ∀k,k<r->c[k]! =d[k]! :=λk hk=>by rw[f k (by omega),WD (by omega) (by omega) (by omega)]
  have a1: ∀k,r<=k->k<M->c[k]! =d[m+(k-r)]! :=λk h h'=>by rw[f k (by omega),mY (by omega) (by omega)]
  have K: ∀k,M<=k->k<E->c[k]! =d[r+(k-M)]! :=λk h h'=>by rw[f k (by omega),qS (by omega) (by omega)];exact sR (by omega)
  have L: ∀k,E<=k->k<b->c[k]! =d[k]! :=λk h h'=>by rw[f k (by omega),WD (by omega) (by omega) (by omega)]
  have a2: ∀x y,a<=x->x<M->M<=y->y<b->lN c[y]! c[x]! =false:=by
   intro x y I a5 J Q;rcases Aw x r with A_|A_
   ·rw[a0 x A_];rcases Aw y E with l|l
    ·rw[K y J l];exact C x _ I (by omega) (by omega)
    ·rw[L y l Q];have k1:lN d[y]! d[E]! =false:=by
      rcases Aw E y with B|B
      ·exact D_ E y (by omega) B Q
      ·rw[show y=E by omega];exact W.irrefl _
     have k2:lN d[r-1]! d[x]! =false:=by
      rcases Aw x (r-1)with B|B
      ·exact C x (r-1) I B (by omega)
      ·rw[show r-1=x by omega];exact W.irrefl _
     exact W.ntrans _ _ _ (W.ntrans _ _ _ k1 (c1 (by omega) (by omega))) k2
   ·rw[a1 x A_ a5];rcases Aw y E with l|l
    ·rw[K y J l];have hc:=c2 (by omega) (by omega);have k1:lN d[E-1]! d[m+(x-r)]! =false:=by
      rcases Aw (m+(x-r)) (E-1)with B|B
      ·exact D_ _ (E-1) (by omega) B (by omega)
      ·rw[show m+(x-r)=E-1 by omega];exact W.irrefl _
     refine W.ntrans _ d[E-1]! _ ?_ k1;cases hk:lN d[r+(y-M)]! d[E-1]! with
     |false=>rfl
     |true=>
      have k2:=W.trans _ _ _ hk hc;rcases Aw r (r+(y-M))with B|B
      ·exact absurd k2 (by rw[C r _ (by omega) B (by omega)];decide)
      ·rw[show r+(y-M)=r by omega,W.irrefl]at k2;cases k2
    ·rw[L y l Q];exact D_ _ y (by omega) (by omega) Q
  have ad: ∀d3:Array NE,za M b n d3->za a b d d3:=λd3 X_=>by
   refine⟨Sort.permIn_trans _ _ _ _ _ Y_ (Sort.permIn_trans _ _ _ _ _ (Sort.permIn_mono _ _ a M a b (by omega) (by omega) (by omega) o.1) (Sort.permIn_mono _ _ M b a b (by omega) (by omega) (by omega) X_.1)),λx y I F J=>?_⟩;rcases Aw y M with A_|A_
   ·rw[X_.1.2.1 x (by omega),X_.1.2.1 y (by omega)];exact o.2 x y I F A_
   ·rcases Aw x M with l|l
    ·rw[X_.1.2.1 x (by omega)];refine Sort.permIn_all n d3 M b (λz=>lN z n[x]! =false) (by omega) X_.1 (λw hw a4=>?_) y A_ J;rw[o.1.2.1 w (by omega)];exact Sort.permIn_all c n a M (λz=>lN c[w]! z=false) (by omega) o.1 (λu hu a3=>a2 u w hu a3 hw a4) x I l
    ·exact X_.2 x y l F J
  have ar:Sort.SortedIn lN M E n:=λx y I F J=>by rw[o.1.2.1 x (by omega),o.1.2.1 y (by omega),K x I (by omega),K y (by omega) J];exact C _ _ (by omega) (by omega) (by omega)
  have ax:Sort.SortedIn lN E b n:=λx y I F J=>by rw[o.1.2.1 x (by omega),o.1.2.1 y (by omega),L x I (by omega),L y (by omega) J];exact D_ _ _ (by omega) (by omega) (by omega)
  have s:E<=M\/b<=E->za a b d n:=λh=>ad n ⟨Sort.permIn_refl _ _ _,qT h ar ax (by omega) (by omega)⟩;refine PT.dec (λA_=>PT.bind (P:=λq=> ∃e:Array NE,q=e.toList/\za a b d e) (PT.dec (λl=>?_) (λl=>PT.some ⟨n,rfl,s (by omega)⟩)) λr h=>PT.some h) (λA_=>PT.some ⟨n,rfl,s (by omega)⟩);have hr:=S n M E b (by omega) (by omega) (by omega) (by omega) ar ax;refine PT.bind (P:=λq=> ∃e:Array NE,q=e.toList/\za M b n e) ⟨λt=>hr.1 (by omega),hr.2⟩ ?_;rintro q ⟨e,rfl,H⟩;exact cK (by rw[Dq,Dq,H.1.1]) (PT.some ⟨e,rfl,ad e H⟩)
 have s2: ∀c:Array NE,Sort.PermIn a b d c->(∀k,k<d.size->c[k]! =zC r m E d k)->PT (b-a<=N+1) (bif decide ((a:Int)<(r:Int))then Option.bind (bif decide ((r:Int)<(M:Int))then Option.bind (G (c.toList,((a:Int),((r:Int),(M:Int))))) λv=>bif Nat.beq (List.length v) (List.length c.toList)then some v else none else some c.toList) λv=>(bif decide ((M:Int)<(E:Int))then Option.bind (bif decide ((E:Int)<(b:Int))then Option.bind (G (v,((M:Int),((E:Int),(b:Int))))) λw=>bif Nat.beq (List.length w) (List.length v)then some w else none else some v) λw=>some w else some v)else(bif decide ((M:Int)<(E:Int))then Option.bind (bif decide ((E:Int)<(b:Int))then Option.bind (G (c.toList,((M:Int),((E:Int),(b:Int))))) λw=>bif Nat.beq (List.length w) (List.length c.toList)then some w else none else some c.toList) λw=>some w else some c.toList)) λq=> ∃e:Array NE,q=e.toList/\za a b d e:=by
  intro c Y_ f;have z1:c.size=d.size:=Y_.1;have ao:Sort.SortedIn lN a r c:=λx y I F J=>by rw[f x (by omega),f y (by omega),WD (by omega) (by omega) (by omega),WD (by omega) (by omega) (by omega)];exact C _ _ (by omega) (by omega) (by omega)
  have ap:Sort.SortedIn lN r M c:=λx y I F J=>by rw[f x (by omega),f y (by omega),mY (by omega) (by omega),mY (by omega) (by omega)];exact D_ _ _ (by omega) (by omega) (by omega)
  have s:r<=a\/M<=r->za a M c c:=λh=>⟨Sort.permIn_refl _ _ _,qT h ao ap (by omega) (by omega)⟩
  refine PT.dec (λA_=>PT.bind (P:=λq=> ∃e:Array NE,q=e.toList/\za a M c e) ?_ ?_) (λA_=>s3 c c Y_ f (s (by omega)))
  ·refine PT.dec (λl=>?_) (λl=>PT.some ⟨c,rfl,s (by omega)⟩);have hr:=S c a r M (by omega) (by omega) (by omega) (by omega) ao ap;refine PT.bind (P:=λq=> ∃e:Array NE,q=e.toList/\za a M c e) ⟨λt=>hr.1 (by omega),hr.2⟩ ?_;rintro q ⟨e,rfl,H⟩;exact cK (by rw[Dq,Dq,H.1.1]) (PT.some ⟨e,rfl,H⟩)
  ·rintro q ⟨e,rfl,H⟩;exact s3 c e Y_ f H
 have al:r=m\/E=m-> ∀k,k<d.size->d[k]! =zC r m E d k:=λh k hk=>by
  rcases Aw k r with A_|A_
  ·rw[WD (by omega) (by omega) (by omega)]
  rcases Aw k (r+(E-m))with l|l
  ·rw[mY A_ l];exact sR (by omega)
  rcases Aw k E with B|B
  ·rw[qS l B];exact sR (by omega)
  ·rw[WD (by omega) (by omega) (by omega)]
 refine PT.dec (λA_=>PT.bind (P:=λq=> ∃e:Array NE,q=e.toList/\Sort.PermIn a b d e/\ ∀k,k<d.size->e[k]! =zC r m E d k) ?_ ?_) (λA_=>s2 d (Sort.permIn_refl _ _ _) (al (by omega)))
 ·refine PT.dec (λl=>PT.bind (lz (AEG (d:=d) (a:=r) (m:=m) (b:=E) (by omega) (by omega) (by omega) hd)) ?_) (λl=>PT.some ⟨d,rfl,Sort.permIn_refl _ _ _,al (by omega)⟩);rintro q ⟨e,rfl,z,H⟩;exact cK (by rw[Dq,Dq,z]) (PT.some ⟨e,rfl,Sort.permIn_mono _ _ r E a b (by omega) (by omega) hb (AH3 (by omega) (by omega) (by omega) z H),H⟩)
 ·rintro q ⟨e,rfl,p,H⟩;exact s2 e p H
def AJo(n:U)(p:E NE×(W×(W×W))):pp (λg (p:E NE×(W×(W×W)))=>CN g p.1 p.2) (n+1) p=CN (pp (λg (p:E NE×(W×(W×W)))=>CN g p.1 p.2) n) p.1 p.2:=rfl
def ACN:∀(N:U)(d:S NE)(a m b:U),a<m→m<b→b≤d.size→d.size≤16777216→Sort.SortedIn lN a m d→Sort.SortedIn lN m b d→
  PT (b-a<=N) (pp (λg (p:E NE×(W×(W×W)))=>CN g p.1 p.2) N (d.toList,(a:W),(m:W),(b:W))) λr=>∃e:S NE,r=e.toList/\za a b d e
 |0,d,a,m,b,h1,h2,h3,h4,h5,h6=>⟨λt=>O! t o!,λr e=>by cases e⟩
 |N+1,d,a,m,b,h1,h2,h3,h4,h5,h6=>by rw[AJo];exact ALW h1 h2 h3 h4 h5 h6 (ACN N)
def AIe{d:S NE}{a m b:U}(c:a<m)(f:m<b)(g:b≤d.size)(h:d.size≤16777216)(i:Sort.SortedIn lN a m d)(j:Sort.SortedIn lN m b d):
  Ao (ET d.toList ((a:W),(m:W),(b:W))) λr=>∃e:S NE,r=e.toList/\za a b d e:=by
 have⟨r,hr⟩:=(ACN (b-a) d a m b c f g h i j).1 (Am _);have⟨s,k⟩:=iu hr;have⟨N,l⟩:=fF k;exact⟨s,k,(ACN N d a m b c f g h i j).2 s l⟩
def Mul(s a:U):Prop:=∃k,a=k*s
def Mul.zero{s}:Mul s 0:=⟨0,k!⟩
def Mul.add{s a}(h:Mul s a):Mul s (a+s):=by obtain⟨k,rfl⟩:=h;exact⟨k+1,q!⟩
def Mul.half{s a:U}(h:Mul (2*s) a):Mul s a:=by obtain⟨k,rfl⟩:=h;exact⟨k*2,q!⟩
def Mul.lt{s a b}(c:Mul s a)(d:Mul s b)(h:a<b):a+s<=b:=by obtain⟨k,rfl⟩:=c;obtain⟨j,rfl⟩:=d;have:k<j:=Nat.lt_of_mul_lt_mul_right h;have:=Nh s (Nat.succ_le_of_lt this);grind
theorem bJ{a b c:U}{d}(h:Sort.SortedIn lN a b d)(i:c<=b):Sort.SortedIn lN a c d:=λx y e f g=>h x y e f o!
def Xp{a b x y}{d e}(h:Sort.SortedIn lN a b d)(c:Sort.PermIn x y d e)(l:b<=x\/y<=a):Sort.SortedIn lN a b e:=λi j f g k=>by rw[c.2.1 i o!,c.2.1 j o!];exact h i j f g k
def Blk(s n:U)(d:S NE):Prop:=∀a b,Mul s a->b<=a+s->b<=n->Sort.SortedIn lN a b d
def AEM{d0:Array NE}{n:Nat}(hn:n=d0.size)(hd:n<=1048576):Ao (Es d0.toList (n:Int)) λr=>∃e:Array NE,r=e.toList/\za 0 n d0 e:=by
 unfold Es;refine AA (P:=λ(r:Int×List NE)=>∃(a:Nat)(d:Array NE),r.1=a/\r.2=d.toList/\a<=n/\n<a+20/\Mul 20 a/\Sort.PermIn 0 n d0 d/\∀c,Mul 20 c->c<a->Sort.SortedIn lN c (c+20) d) ?_ ?_;refine AW (λ(s:Int×(Int×List NE))=>∃(a:Nat)(d:Array NE),s.1=a/\s.2.1=((a+20:Nat):Int)/\s.2.2=d.toList/\a<=n/\Mul 20 a/\Sort.PermIn 0 n d0 d/\∀c,Mul 20 c->c<a->Sort.SortedIn lN c (c+20) d) (λs=>n-s.1.toNat) ⟨0,d0,rfl,rfl,rfl,Bh _,Mul.zero,Sort.permIn_refl _ _ _,λc _ h=>O! h o!⟩ ?_;rintro⟨s1,s2,s3⟩ ⟨a,d,J,K,Q,q4,D_,F,R⟩;dsimp only at J K Q;subst J K Q;have hz:d.size=n:=by rw[F.1,hn]
 unfold JH;dsimp only;refine AC (λV=>?_) (λV=>AB ⟨a,d,rfl,rfl,q4,o!,D_,F,R⟩);have A_:=Sort.insertionSort_holds wD d a (a+20) o! o!;rw[AC0 (d:=d) (k:=a) (m:=a+20) rfl rfl o! o! o!,AD];have j:ξ (θ (Sort.insertionSort lN d a (a+20)).toList) (θ d.toList)=ζ:=by rw[Dq,Dq,A_.1.1];exact HT _
 have e1:wi (((a+20:Nat):Int)+20)=((a+20+20:Nat):Int):=by grind[pC]
 rw[j,B!,e1];refine AB ⟨⟨a+20,_,rfl,rfl,rfl,o!,D_.add,Sort.permIn_trans _ _ _ _ _ F (Sort.permIn_mono _ _ a (a+20) 0 n o! o! o! A_.1),λc g w=>?_⟩,?_⟩;rcases Aw c a with l|l;exact Xp (R c g l) A_.1 (.inl (g.lt D_ l));have:c=a:=by rcases Aw a c with i|i;have:=D_.lt g i;omega;omega
 rw[this];exact A_.2;show n-((a+20:Nat):Int).toNat<n-((a:Nat):Int).toNat
 omega;rintro⟨r1,r2⟩ ⟨a,d,J,K,Q,q4,D_,F,R⟩;dsimp only at J K;subst J K;have hz:d.size=n:=by rw[F.1,hn]
 dsimp only;have A_:=Sort.insertionSort_holds wD d a n Q o!;rw[AC0 (d:=d) (k:=a) (m:=n) rfl rfl o! o! o!,AD];have j:ξ (θ (Sort.insertionSort lN d a n).toList) (θ d.toList)=ζ:=by rw[Dq,Dq,A_.1.1];exact HT _
 rw[j,B!];have C:Sort.PermIn 0 n d0 (Sort.insertionSort lN d a n):=Sort.permIn_trans _ _ _ _ _ F (Sort.permIn_mono _ _ a n 0 n o! o! o! A_.1);have u:Blk 20 n (Sort.insertionSort lN d a n):=λc o g w l=>by rcases Aw c a with i|i;exact bJ (Xp (R c g i) A_.1 (.inl (g.lt D_ i))) w;rcases Aw a c with G|G;have:=D_.lt g G;exact λx y L M N=>O! N o!;grind[bJ]
 revert C u;generalize Sort.insertionSort lN d a n=d1;intro C u;refine AA (P:=λr=>∃e:Array NE,r=e.toList/\za 0 n d0 e) (AW (λ(s:Int×List NE)=>∃(t:Nat)(e:Array NE),s.1=t/\s.2=e.toList/\1<=t/\t<=2097172/\Sort.PermIn 0 n d0 e/\Blk t n e) (λs=>n-s.1.toNat) ⟨20,d1,rfl,rfl,o!,o!,C,u⟩ ?_) λr h=>AB h;rintro⟨s1,s2⟩ ⟨t,e,L,M,N,g4,g5,g6⟩;dsimp only at L M;subst L M;unfold JI;dsimp only;refine AC (λV=>?_) (λV=>AB ⟨e,rfl,g5,g6 0 n Mul.zero o! (Am _)⟩);have e2:wi (2*(t:Int))=((2*t:Nat):Int):=by rw[pC];omega
 have e3:wi ((t:Int)*2)=((2*t:Nat):Int):=by rw[pC];omega
 rw[e2,e3];refine AA (P:=λ(r:Int×List NE)=>∃(a:Nat)(f:Array NE),r.1=a/\r.2=f.toList/\a<=n/\n<a+2*t/\Mul (2*t) a/\Sort.PermIn 0 n d0 f/\(∀c,Mul (2*t) c->c<a->Sort.SortedIn lN c (c+2*t) f)/\∀c o,Mul t c->a<=c->o<=c+t->o<=n->Sort.SortedIn lN c o f) ?_ ?_;refine AW (λ(s:Int×(Int×List NE))=>∃(a:Nat)(f:Array NE),s.1=a/\s.2.1=((a+2*t:Nat):Int)/\s.2.2=f.toList/\a<=n/\Mul (2*t) a/\Sort.PermIn 0 n d0 f/\(∀c,Mul (2*t) c->c<a->Sort.SortedIn lN c (c+2*t) f)/\∀c o,Mul t c->a<=c->o<=c+t->o<=n->Sort.SortedIn lN c o f) (λs=>n-s.1.toNat)
  ⟨0,e,rfl,k!,rfl,Bh _,Mul.zero,g5,λc _ h=>O! h o!,λc o g _ w l=>g6 c o g w l⟩ ?_
 rintro⟨s1,s2,s3⟩ ⟨a,f,k1,I,Z,k4,p,E,O,B⟩;dsimp only at k1 I Z;subst k1 I Z;have Y_:f.size=n:=by rw[E.1,hn]
 unfold JJ;dsimp only;refine AC (λW=>?_) (λW=>AB ⟨a,f,rfl,rfl,k4,o!,p,E,O,B⟩);have U:wi ((a:Int)+(t:Int))=((a+t:Nat):Int):=by rw[pC];omega
 have e5:wi (((a+2*t:Nat):Int)+((2*t:Nat):Int))=((a+2*t+2*t:Nat):Int):=by rw[pC];omega
 rw[U,e2,e5];apply AA (AIe (d:=f) (a:=a) (m:=a+t) (b:=a+2*t) o! o! o! o! (B a (a+t) p.half (Am _) (Am _) o!) (B (a+t) (a+2*t) p.half.add o! o! o!));rintro r ⟨q,rfl,v,H⟩;have j:ξ (θ q.toList) (θ f.toList)=ζ:=by rw[Dq,Dq,v.1];exact HT _
 rw[j,B!];refine AB ⟨⟨a+2*t,q,rfl,rfl,rfl,o!,p.add,Sort.permIn_trans _ _ _ _ _ E (Sort.permIn_mono _ _ a (a+2*t) 0 n o! o! o! v),λc g w=>?_,λc o g w l i=>Xp (B c o g o! l i) v (.inr w)⟩,?_⟩;rcases Aw c a with l|l;exact Xp (O c g l) v (.inl (g.lt p l));have:c=a:=by rcases Aw a c with i|i;have:=p.lt g i;omega;omega
 rw[this];exact H;show n-((a+2*t:Nat):Int).toNat<n-((a:Nat):Int).toNat
 omega;rintro⟨v1,v2⟩ ⟨a,f,k1,I,Z,k4,p,E,O,B⟩;dsimp only at k1 I;subst k1 I;have Y_:f.size=n:=by rw[E.1,hn]
 dsimp only;have U:wi ((a:Int)+(t:Int))=((a+t:Nat):Int):=by rw[pC];omega
 rw[U];have z:∀q:Array NE,Sort.PermIn a n f q->Sort.SortedIn lN a n q->(∃(S:Nat)(T:Array NE),((2*t:Nat):Int)=S/\q.toList=T.toList/\1<=S/\S<=2097172/\Sort.PermIn 0 n d0 T/\Blk S n T)/\n-((2*t:Nat):Int).toNat<n-((t:Nat):Int).toNat:=λq v H=>by refine⟨⟨2*t,q,rfl,rfl,o!,o!,Sort.permIn_trans _ _ _ _ _ E (Sort.permIn_mono _ _ a n 0 n o! o! o! v),λc o g w l=>?_⟩,o!⟩;rcases Aw c a with i|i;exact bJ (Xp (O c g i) v (.inl (g.lt p i))) w;rcases Aw a c with G|G;have:=p.lt g G;exact λx y L M N=>O! N o!;rw[show c=a by omega];exact bJ H l
 refine AC (λX_=>AA (AIe (d:=f) (a:=a) (m:=a+t) (b:=n) o! o! o! o! (B a (a+t) p.half (Am _) (Am _) o!) (B (a+t) n p.half.add o! o! (Am _))) ?_) (λX_=>AB (z f (Sort.permIn_refl _ _ _) (B a n p.half (Am _) o! (Am _))));rintro r ⟨q,rfl,v,H⟩;have j:ξ (θ q.toList) (θ f.toList)=ζ:=by rw[Dq,Dq,v.1];exact HT _
 rw[j,B!];exact AB (z q v H)
def AIE{l:E NE}(h:Z l<=1048576):Ao (C2 l ()) λr=>r.Perm l/\r.Pairwise λx y=>lN y x=X:=by
 unfold C2;apply AA (AEM (d0:=l.toArray) (n:=Z l) k! h);rintro r ⟨R,rfl,d,f⟩;have e:R.size=Z l:=by rw[d.1];simp
 have g:ξ (Z R.toList) (Z l)=Y:=by simp[e]
 rw[g,B!];refine AB ⟨?_,?_⟩;have:=d.2.2;rw[show R.extract 0 (Z l)=R by rw[<-e];exact pF,show l.toArray.extract 0 (Z l)=l.toArray by rw[show Z l=l.toArray.size by simp];exact pF]at this;exact this;rw[Ek];intro i j k m b;have a:i<R.size:=by simpa using k
 have c:j<R.size:=by simpa using m
 have:=f i j (Bh _) b o!;rw[getElem!_pos R j c,getElem!_pos R i a]at this;simpa using this
def AGo(l:E NE):Prop:=∀x∈l,∀y∈l,x≠y->x.1.2.2.1=y.1.2.2.1->x.1.2.1<y.1.1\/y.1.2.1<x.1.1
theorem AH6{R a:List NE}(h5:R.length=a.length)(H:a.length≤256)(J: ∀e∈a,1≤e.1.1∧e.1.1≤e.1.2.1∧e.1.2.1≤1099511627776∧0≤e.1.2.2.1)(T:a.Pairwise λx y=>lN y x=false)(hn:a.Nodup)(S:AGo a):
  Ao (Ad (UM R a) (0,((-1),(0,([],[]))))) λr=>r=(a.map (·.1),a.map (·.2)):=by
 refine AW (λ(s:Int×(Int×(Int×(List Af×List Int))))=> ∃k:Nat,s.1=k/\k<=a.length/\s.2.2.2=((a.take k).map (·.1),(a.take k).map (·.2))/\((k=0/\s.2.1= -1)\/ ∃e,0<k/\a[k-1]? =some e/\s.2.1=e.1.2.2.1/\s.2.2.1=e.1.2.1)) (λs=>a.length-s.1.toNat) ⟨0,rfl,Bh _,rfl,.inl ⟨rfl,rfl⟩⟩ ?_;rintro⟨s1,X_,s3,s4⟩ ⟨k,O,q2,P,q⟩;dsimp only at O P q;subst O P;unfold UM;dsimp only;refine AC (λz=>?_) (λz=>AB ?_)
 ·simp only[len]at z;refine AA (AE (by omega) (by omega)) λv8 _=>?_;refine AA (AE (by omega) (by omega)) λv h=>?_;have A_:a[k]? =some v:=by simpa using h.1
  obtain⟨Y_,Z,b3,b4⟩:=J v h.2;have D_:a.take (k+1)=a.take k++[v]:=by rw[CC,A_];rfl
  have hl:(a.take k).length<=256:=by rw[BK];omega
  have j: ∀E:Int,E=v.1.2.2.1→Ao (Option.bind (app ((a.take k).map (·.1)) [v.1]) λf=>Option.bind (app ((a.take k).map (·.2)) [v.2]) λg=>some (Step.next (wi ((k:Int)+1),(E,(v.1.2.1,(f,g)))))) λ(st:Step (Int×(Int×(Int×(List Af×List Int)))) (List Af×List Int))=>match st with
    | .next i=>(∃d:Nat,i.1=d/\d<=a.length/\i.2.2.2=((a.take d).map (·.1),(a.take d).map (·.2))/\((d=0/\i.2.1= -1)\/ ∃e,0<d/\a[d-1]? =some e/\i.2.1=e.1.2.2.1/\i.2.2.1=e.1.2.1))/\a.length-i.1.toNat<a.length-((k:Nat):Int).toNat
    | .done r=>r=(a.map (·.1),a.map (·.2)):=λE B=>by
   refine AA (Ac (by simp;omega)) λf u=>?_;refine AA (Ac (by simp;omega)) λg w=>AB ⟨⟨k+1,?_,by omega,?_,.inr ⟨v,by omega,by rw[Nat.add_sub_cancel];exact A_,B,rfl⟩⟩,?_⟩
   ·show wi ((k:Int)+1)=_;rw[wip (by omega)]
   ·show(f,g)=_;rw[u.1,w.1,D_,Gt,Gt];rfl
   ·show a.length-(wi ((k:Int)+1)).toNat<a.length-((k:Nat):Int).toNat
    rw[wip (by omega)];omega
  have b: ∀n:Int,n<v.1.1->Oj (v.1,n)=some v.1:=λn hn=>by unfold Oj;have:decide (v.1.1>n)=true:=decide_eq_true hn;dsimp only;rw[this,cond_true]
  refine AK (λm=>?_) (λc=>?_)
  ·refine AC (λt=>absurd t (by omega)) (λ_=>?_);rw[b 0 (by omega),AD];obtain⟨st,F,G⟩:=j v.1.2.2.1 rfl;exact⟨st,F,by cases st<;>exact G⟩
  ·rcases q with⟨_,q⟩|⟨e,q5,Q,V,W⟩
   ·exact absurd (c.trans q) (by omega)
   ·have C:e.1.2.1<v.1.1:=by
     have I:=BQ Q;obtain⟨K,L⟩:=F8.1 Q;obtain⟨M,N⟩:=F8.1 A_;have m:e≠v:=λp=>by have:=(Ek.1 (H7.1 hn)) (k-1) k K M (by omega);rw[L,N]at this;exact this p
     have o:=(Ek.1 T) (k-1) k K M (by omega);rw[L,N]at o;have U:=J e I;have l:e.1.2.2.1=v.1.2.2.1:=by rw[<-V];exact c.symm
     rcases S e I v h.2 m l with p|p
     ·exact p
     ·simp only[lN,decide_eq_false_iff_not]at o;omega
    rw[W];refine AC (λt=>absurd t (by omega)) (λ_=>?_);rw[b _ C,AD];obtain⟨st,F,G⟩:=j X_ c.symm;exact⟨st,F,by cases st<;>exact G⟩
 ·simp only[len]at z;rw[BG (by omega)]
noncomputable def intR(a:AL)(f:AS):V NE:=
 match G0 (a,f)with
 |some (r,Y)=>D (r,f.2.1)
 |_=>A
noncomputable def GP(a:AL):E NE:=a.2.2.1.filterMap (intR a)
def AH5{x:AL}(h:VB x)(t:DS x):Ao (Ad (UL x) (0,[])) λr=>r=GP x/\θ r<=256/\∀e∈r,kE e.1:=by
 obtain⟨⟨v,w,y,n,z,A_,B⟩,a1,a2,a3,a4,a5,a6⟩:=id h;refine AW (λ(s:Int×NL)=>0<=s.1/\s.1<=θ x.2.2.1/\θ s.2<=s.1/\(∀e∈s.2,kE e.1)/\s.2=(x.2.2.1.take s.1.toNat).filterMap (intR x)) (λ(s:Int×NL)=>((θ x.2.2.1:Int)-s.1).toNat) ⟨AY _,d!,k!,λe a=>by simp at a,k!⟩ (λs q=>?_);obtain⟨u,C,D_,j,k⟩:=q;unfold UL;refine AC (λf=>?_) (λf=>AB ⟨?_,o!,j⟩);simp only[len]at f;have e:=AX (x:=s.1+1);rw[e];refine AA (AE u f) λg m=>?_;have c:x.2.2.1.take (s.1+1).toNat=x.2.2.1.take s.1.toNat++[g]:=by rw[show(s.1+1).toNat=s.1.toNat+1 by omega,CC,m.1];rfl
 refine EE (nq n (t _ m.2)) λl d p=>AJ (λb=>?_) (λb=>AB ⟨⟨d!,d!,d!,j,?_⟩,d!⟩);have hr:intR x g=δ (l.1,g.2.1):=by unfold intR;rw[d];obtain⟨r,o⟩:=l;dsimp only at b;subst b;rfl
 refine AA (Ac w!) λE i=>AB ⟨⟨d!,d!,?_,λe a=>?_,?_⟩,d!⟩;have:=i.2.1;simp only[CY,CO]at this;dsimp only;omega;dsimp only at a;rw[i.1]at a;rcases Al.1 a with a|a;exact j e a;rw[A7.1 a];exact p b;dsimp only;rw[c,wn,i.1,k];simp[hr];have hr:intR x g=ε:=by unfold intR;rw[d];obtain⟨r,o⟩:=l;dsimp only at b;subst b;rfl
 dsimp only;rw[c,wn,k];simp[hr];simp only[len]at f;rw[k,BG o!];rfl
def ABG{x}(h:VB x)(m:DS x)(hn:(GP x).Nodup)(b:AGo (GP x)):Ao (HJ x) λr=>∃v:E NE,v.Perm (GP x)/\(v.Pairwise λp q=>lN q p=X)/\r=(v.map (·.1),v.map (·.2))/\Z v<=256/\∀e∈v,kE e.1:=by
 unfold HJ;refine AA (HV h) λt j=>?_;rw[j,Ce,A!];refine AA (AH5 h m) λu k=>?_;obtain⟨rfl,g,s⟩:=k;refine AA (AIE o!) λf a=>?_;have i:=a.1.length_eq;have l:ξ (Z f) (Z (GP x))=Y:=by rw[i];exact HT _
 rw[l,B!];have c:∀e∈f,kE e.1:=λe d=>s e (a.1.mem_iff.1 d);refine AA (AH6 i.symm o! (λe d=>?_) a.2 (a.1.nodup_iff.2 hn) (λp n q o=>b p (a.1.mem_iff.1 n) q (a.1.mem_iff.1 o))) λr hr=>AB ⟨f,a.1,a.2,hr,o!,c⟩;have:=c e d;exact⟨this.1,this.2.1,this.2.2.1,this.2.2.2.1⟩
def zy(l:E (W×W))(n:W):Prop:=∃s∈l,s.1<=n/\n<=s.2
def AFO{l:List (Int×Int)}{u b:Int}(p:θ l<=16777216):Ao (Ad (UN (l,u)) (0,b)) λr=>(∀q,r=.inl q->0<=q.1/\q.1<θ l/\q.2=b/\∀e,l[q.1.toNat]?=δ e->e.1<=b/\b<=e.2)/\(∀q,r=.inr q->q=b/\¬zy l b):=by refine AW (λ(s:Int×Int)=>0<=s.1/\s.1<=θ l/\s.2=b/\∀e∈l.take s.1.toNat,¬(e.1<=b/\b<=e.2)) (λ(s:Int×Int)=>((θ l:Int)-s.1).toNat) ⟨AY _,d!,rfl,k!⟩ (λt n=>?_);obtain⟨k,v,m,g⟩:=n;unfold UN;refine AC (λd=>?_) (λd=>AB ⟨λu c=>(by cases c),λu c=>?_⟩);simp only[len]at d;have e:=AX (x:=t.1+1);rw[e];refine AA (AE k d) λw h=>?_;unfold Vr;rw[has_eq,AD,AD,m];refine AJ (λf=>AB ⟨λu c=>?_,λu c=>(by cases c)⟩) (λi=>AB ⟨⟨d!,d!,rfl,λe a=>?_⟩,d!⟩);cases c;refine⟨k,d,rfl,λe a=>?_⟩;dsimp only at a;rw[h.1]at a;injection a with a;subst a;unfold Qv at f;simp only[BS,K!]at f;exact f;dsimp only at a;rw[show(t.1+1).toNat=t.1.toNat+1 by omega,CC,h.1]at a;rcases Al.1 a with a|a;exact g e a;rw[oU,A7]at a;subst a;intro j;unfold Qv at i;simp only[qf,decide_eq_false_iff_not]at i;omega;cases c;simp only[len]at d;rw[BG o!]at g;exact⟨m,by rw[show zy l b↔∃s∈l,s.1<=b/\b<=s.2 from Iff.rfl];rintro⟨s,o,j⟩;exact g s o j⟩
def ABa{l}{u:W}(h:SpL l)(w:0<=u)(A_:u<=1099511627776):Ao (NA (l,u)) λr=>0<=r/\r<=u/\(∀n,r<n->n<=u->zy l n)/\(r=0\/¬zy l r):=by obtain⟨a1,a2⟩:=h;unfold NA;refine AA (P:=λr=>0<=r/\r<=u/\(∀n,r<n->n<=u->zy l n)/\(r=0\/¬zy l r)) ?_ λr hr=>AB hr;refine AW (λs=>0<=s/\s<=u/\∀n,s<n->n<=u->zy l n) (·.toNat) ⟨w,AY _,λn k m=>by dsimp only at k;omega⟩ (λs v=>?_);obtain⟨p,t,g⟩:=v;unfold ZP;refine AA (AFO (b:=s) a1) λr hr=>BE (λq f=>?_) (λq f=>?_);obtain⟨i,j,y,z⟩:=hr.1 q f;refine AC (O! · o!) (λ_=>AC (λd=>AB ?_) (λB=>?_));rw[y]at d⊢;exact⟨p,t,g,.inl o!⟩;refine AA (AE i j) λa c=>?_;have C:=z a c.1;have D_:=a2 a c.2;have e:=AX (x:=a.1-1);rw[e];refine AB ⟨⟨o!,o!,λn k m=>?_⟩,o!⟩;rcases mm s n with o|o;exact g n o m;exact⟨a,c.2,o!⟩;obtain⟨i,j⟩:=hr.2 q f;rw[i];exact AB ⟨p,t,g,.inr j⟩
def xG{x:AL}(h:VB x):x.2.2.1.Pairwise λf g=>f.2.1<g.2.1:=by
 have c:=h.2.2.2.2.2.2.2;rw[Ek];have step:∀n i:Nat,∀(a:i<θ x.2.2.1)(b:i+1+n<θ x.2.2.1),(x.2.2.1[i]).2.1<(x.2.2.1[i+1+n]).2.1:=by
  intro n;induction n with
  |zero=>intro i a b;exact c i _ _ o! (Ar a) (Ar b)
  |succ n m=>intro i a b;have d:=m i a o!;have k:=c (i+1+n) _ _ o! (Ar o!) (Ar b);exact Int.lt_trans d k
 intro i j a b l;have:=step (j-(i+1)) i a o!;have e:i+1+(j-(i+1))=j:=o!
 simp only[e]at this;exact this
def AEI{x}(h:VB x):((GP x).map (·.2)).Pairwise (· < ·):=by
 unfold GP;rw[RX,List.pairwise_filterMap];refine(xG h).imp λ{f g} b y a z c=>?_;have one:∀f(y:NE),intR x f=D y->y.2=f.2.1:=λf y a=>by unfold intR at a;split at a;injection a with a;rw[<-a];cases a
 rw[one f y a,one g z c];exact b
def Xm{x}(h:VB x):(GP x).Nodup:=by have:=AEI h;rw[RX]at this;exact H7.2 (this.imp λh e=>by rw[e]at h;omega)
def AKY{a:AL}{l:Aa}{p i j:Int}{Q:List (Int×Int)}{d:Int×Int}{r:Af}{W:List (Int×EN)}{u:Int}{P:EN→Prop}(hr:θ r.2.2.2.2.2≤4096)(Y_:Q[0]?=δ d)(hm:RQ W P)(hn:0≤u∧u≤1099511627776)
  (S:∀v∈r.2.2.2.2.2,Ki p i j v=ζ->(Qv d v.1=ζ->P v)/\∀e,(P e\/(e∈r.2.2.2.2.2/\Ki p i j e=ζ))->e.1=v.1->e=v):
  Ao (Ad (X6 (a,l,p,i,j) Q r) (0,W,u,[],0)) λq=>∃m n,q=.inl (m,n,[],0)/\RQ m (λe=>P e\/(e∈r.2.2.2.2.2/\Ki p i j e=ζ))/\n=u+((r.2.2.2.2.2.filter λe=>Ki p i j e&&Qv d e.1).length:Int):=by
 generalize hL:r.2.2.2.2.2=L at hr S⊢;refine AW (λ(s:Int×(List (Int×EN)×(Int×(List EN×Int))))=>0<=s.1/\s.1<=θ L/\s.2.2.2=([],0)/\s.2.2.1=u+(((L.take s.1.toNat).filter λe=>Ki p i j e&&Qv d e.1).length:Int)/\RQ s.2.1 λe=>P e\/(e∈L.take s.1.toNat/\Ki p i j e=ζ)) (λs=>((θ L:Int)-s.1).toNat)
  ⟨AY _,d!,rfl,k!,hm.congr λe=>k!⟩ (λs Z=>?_)
 obtain⟨c,E,F,s4⟩:=s;obtain⟨U,i2,V,C,z⟩:=Z;dsimp only at U i2 V C z;subst V;unfold X6;dsimp only;rw[hL];refine AC (λf=>?_) (λf=>AB ?_);simp only[len]at f;have X_:=AX (x:=c+1);rw[X_];refine AA (AE U f) λv R=>?_;rw[oe,AD];have o:L.take (c+1).toNat=L.take c.toNat++[v]:=by rw[show(c+1).toNat=c.toNat+1 by omega,CC,R.1];rfl
 have k:Ki p i j v=η->(0<=c+1/\c+1<=θ L/\(([],0):List EN×Int)=([],0)/\F=u+(((L.take (c+1).toNat).filter λe=>Ki p i j e&&Qv d e.1).length:Int)/\RQ E λe=>P e\/(e∈L.take (c+1).toNat/\Ki p i j e=ζ))/\((θ L:Int)-(c+1)).toNat<((θ L:Int)-c).toNat:=λy=>by
  refine⟨⟨o!,o!,rfl,?_,?_⟩,o!⟩;rw[o,F7,C];simp[y];rw[o];refine z.congr λe=>⟨?_,?_⟩
  rintro(h|h);exact .inl h;exact .inr ⟨Al.2 (.inl h.1),h.2⟩;rintro(h|⟨h,w⟩);exact .inl h;rcases Al.1 h with h|h;exact .inr ⟨h,w⟩;rw[A7.1 h,y]at w;cases w
 refine AJ (λG=>?_) (λG=>AB (k (by simp[Ki,G])));refine AJ (λH=>?_) (λH=>AB (k (by simp[Ki,H])));refine AJ (λI=>?_) (λI=>AB (k (by unfold Ki;rw[I];simp)));refine AP (λJ=>AB (k (by unfold Ki;rw[J];simp))) (λJ=>?_);have y:Ki p i j v=ζ:=by unfold Ki;rw[G,H,I,J];rfl
 have O:ix Q 0=δ d:=by unfold ix;rw[C! (AY _)];exact Y_
 rw[O,AD,has_eq,AD];obtain⟨M,A_⟩:=S v R.2 y;have t:RQ (Qw v.1 v E) λe=>P e\/(e∈L.take (c+1).toNat/\Ki p i j e=ζ):=by
  rw[o];refine z.put.congr λe=>⟨?_,λh=>?_⟩
  rintro(rfl|⟨h|h,_⟩);exact .inr ⟨Al.2 (.inr (A7.2 rfl)),y⟩;exact .inl h;exact .inr ⟨Al.2 (.inl h.1),h.2⟩;by_cases g:e=v;exact .inl g;rcases h with h|⟨h,w⟩;exact .inr ⟨.inl h,λN=>g (A_ e (.inl h) N)⟩;rcases Al.1 h with h|h;exact .inr ⟨.inr ⟨h,w⟩,λN=>g (A_ e (.inr ⟨Fv h,w⟩) N)⟩;exact O! (A7.1 h) g
 have T:(((L.take c.toNat).filter λe=>Ki p i j e&&Qv d e.1).length:Int)<=4096:=by have h1:=EV (λe=>Ki p i j e&&Qv d e.1) (L.take c.toNat);have h3:=List.length_take_le' c.toNat L;omega
 have K:=AX (x:=F+1);rw[K];have B:∀b:Bool,Qv d v.1=b->u+((((L.take (c+1).toNat).filter λe=>Ki p i j e&&Qv d e.1).length:Nat):Int)=F+(if b=ζ then 1 else 0):=λb hb=>by rw[o,F7,Ae,C];cases b<;>simp[y,hb]<;>omega
 refine AJ (λD_=>?_) (λD_=>AB ⟨⟨d!,d!,rfl,?_,t⟩,d!⟩);have hg:L3 v.1 E=δ v:=z.get (.inl (M D_));rw[hg];simp only[Option.isSome_some,Ce,A!,oS,L!,Ys];refine AB ⟨⟨d!,d!,rfl,?_,t⟩,d!⟩;rw[B ζ D_];rfl;rw[B η D_];simp;simp only[len]at f;rw[BG o!]at C z;exact⟨E,F,rfl,z,C⟩
def Kl(low:W)(rs:E Af):E EN:=(rs.filter λr=>r.2.2.1==low).flatMap λr=>r.2.2.2.2.2
theorem AKX{a:AL}{l:Aa}{p i j:Int}{X_:List (Int×Int)}{sp:Int×Int}{b:Int×(Int×Bool)}{c:List Af}{E:List Int}{W:List (Int×EN)}{P:EN→Prop}(Z:X_[0]? =some sp)(hm:RQ W P)
  (U:c.length=E.length) (T:c.length<=256) (hr: ∀r∈c,r.2.2.2.2.2.length<=4096)
  (hc: ∀v∈Kl b.1 c,Ki p i j v=true->(Qv sp v.1=true->P v)/\ ∀e,(P e\/(e∈Kl b.1 c/\Ki p i j e=true))->e.1=v.1->e=v):
  Ao (Ad (X5 (a,(l,(p,(i,j)))) X_ b (c,E)) (0,(W,(0,([],0))))) λq=> ∃m n,q= .inl (m,(n,([],0)))/\RQ m (λe=>P e\/(e∈Kl b.1 c/\Ki p i j e=true))/\n=(((Kl b.1 c).filter λe=>Ki p i j e&&Qv sp e.1).length:Int):=by
 have B: ∀k:Nat,(Kl b.1 (c.take k)).length<=k*4096:=by
  intro k;induction k with
  |zero=>simp[Kl]
  |succ k ih=>rw[CC];grind[Kl,List.length_append,Nat.succ_mul,Nat.add_le_add]
 refine AW (λ(s:Int×(List (Int×EN)×(Int×(List EN×Int))))=>0<=s.1/\s.1<=c.length/\s.2.2.2=([],0)/\s.2.2.1=(((Kl b.1 (c.take s.1.toNat)).filter λe=>Ki p i j e&&Qv sp e.1).length:Int)/\RQ s.2.1 λe=>P e\/(e∈Kl b.1 (c.take s.1.toNat)/\Ki p i j e=true)) (λs=>((c.length:Int)-s.1).toNat)
  ⟨AY _,by dsimp only;omega,rfl,by simp[Kl],hm.congr λe=>by simp[Kl]⟩ (λs hI=>?_)
 have⟨d,s2,S,s4⟩:=s;have⟨R,i2,V,C,D_⟩:=hI;dsimp only at R i2 V C D_;subst V;unfold X5;dsimp only;refine AC (λo=>?_) (λo=>AB ?_)
 ·simp[len]at o;have Y_:=AX (x:=d+1) (by omega);rw[Y_];refine AA (AE R o) λv G=>?_;have t:c.take (d+1).toNat=c.take d.toNat++[v]:=by rw[show(d+1).toNat=d.toNat+1 by omega,CC,G.1];rfl
  refine AJ (λF=>?_) (λF=>AB ⟨⟨by dsimp only;omega,by dsimp only;omega,rfl,?_,?_⟩,by dsimp only;omega⟩)
  ·refine AA (AE R (by omega)) λad _=>?_;have u: ∀e∈v.2.2.2.2.2,e∈Kl b.1 c:=λe g=>Gu.2 ⟨v,BZ.2 ⟨G.2,F⟩,g⟩;have z: ∀e∈Kl b.1 (c.take d.toNat),e∈Kl b.1 c:=λe g=>by have⟨r,L,M⟩:=Gu.1 g;have⟨N,O⟩:=BZ.1 L;exact Gu.2 ⟨r,BZ.2 ⟨Fv N,O⟩,M⟩
   have K:0<=S/\S<=1099511627776:=by
    have h1:=EV (λe=>Ki p i j e&&Qv sp e.1) (Kl b.1 (c.take d.toNat));have h2:=B d.toNat
    omega
   have f:Kl b.1 (c.take d.toNat++[v])=Kl b.1 (c.take d.toNat)++v.2.2.2.2.2:=by grind[Kl]
   refine AA (AKY (hr v G.2) Z D_ K λw hw Q=>?_) ?_
   ·have⟨q1,q2⟩:=hc w (u w hw) Q;refine⟨λh=>.inl (q1 h),λe g H=>q2 e ?_ H⟩;rcases g with(g|⟨g,y⟩)|⟨g,y⟩
    ·exact .inl g
    ·exact .inr ⟨z e g,y⟩
    ·exact .inr ⟨u e g,y⟩
   ·rintro q ⟨m,n,rfl,I,J⟩;refine BB (AB ⟨⟨by dsimp only;omega,by dsimp only;omega,rfl,?_,?_⟩,by dsimp only;omega⟩)
    ·dsimp only;rw[t,f,J,C,F7,Ae];omega
    ·dsimp only;rw[t,f];refine I.congr λe=>?_;rw[Al];constructor
     ·rintro((h|⟨h,A_⟩)|⟨h,A_⟩)
      ·exact .inl h
      ·exact .inr ⟨.inl h,A_⟩
      ·exact .inr ⟨.inr h,A_⟩
     ·rintro(h|⟨h|h,A_⟩)
      ·exact .inl (.inl h)
      ·exact .inl (.inr ⟨h,A_⟩)
      ·exact .inr ⟨h,A_⟩
  ·have f:Kl b.1 (c.take d.toNat++[v])=Kl b.1 (c.take d.toNat):=by unfold Kl;rw[F7,Yu];simp[F]
   dsimp only;rw[t,f];exact C
  ·have f:Kl b.1 (c.take d.toNat++[v])=Kl b.1 (c.take d.toNat):=by unfold Kl;rw[F7,Yu];simp[F]
   dsimp only;rw[t,f];exact D_
 ·simp[len]at o;rw[BG (by omega)]at C D_;exact⟨s2,S,rfl,D_,C⟩
def V9{l:E EN}:(l.map (·.1)).Nodup->∀{a b:EN},a∈l->b∈l->a.1=b.1->a=b:=by
 induction l with
 |nil=>intro _ a b d;cases d
 |cons p r f=>intro e a b d c h;rw[Bz,Gv]at e;rcases A3.1 d with d|d;rcases A3.1 c with c|c;rw[d,c];exact O! (by rw[<-d,h];exact T7 c) e.1;rcases A3.1 c with c|c;exact O! (by rw[<-c,<-h];exact T7 d) e.1;exact f e.2 d c h
def AHl{B}(j:CP B){l:E EN}(h:Z l<=B)(k:Z l<=16777216)(hn:(l.map (·.1)).Nodup):Ao (vr DD l) λr=>r.Perm l/\r.Pairwise λa b=>a.1<b.1:=by
 have n:=List.pairwise_mergeSort (le:=λa b:EN=>decide (a.1<=b.1)) (λa b c o p=>by simp only[K!]at*;omega) (λa b=>by simp only[Wy,K!];omega) l;have i:(l.mergeSort λa b:EN=>decide (a.1<=b.1)).Perm l:=List.mergeSort_perm _ _;have g:(l.mergeSort λa b:EN=>decide (a.1<=b.1)).Pairwise λa b=>a.1<=b.1:=n.imp λh=>N! h;have key:∀m,l.Perm m->DD m ()=D (l.mergeSort λa b:EN=>decide (a.1<=b.1)):=λm f=>by have d:(m.map (·.1)).Nodup:=(f.map (·.1)).nodup_iff.1 hn;unfold DD ADI;rw[C! ⟨d,by rw[<-f.length_eq];exact k⟩,<-ACO (key:=λe:EN=>e.1) d (i.trans f) g]
 refine⟨_,?_,i,?_⟩;unfold vr;rw[C!];exact key l (qm l);intro m f;rw[key m f,key l (qm l)];have d:=(i.map (·.1)).nodup_iff.2 hn;rw[H7,RX]at d;exact(g.and d).imp λh=>o!
def xf:∀(n:U)(i:W)(l:E W),l.Nodup->(∀x∈l,i<x/\x<=i+n)->Z l<=n
 |0,i,l,_,h=>by
  cases l with
  |nil=>exact Am _
  |cons a r=>have:=h a (A3.2 (.inl rfl));omega
 |n+1,i,l,hl,h=>by
  have d:=xf n i (l.erase (i+(n+1:U))) (hl.erase _) λx c=>by have b:=(hl.mem_erase_iff).1 c;have:=h x b.2;have:=b.1;omega
  have e:Z l<=(l.erase (i+(n+1:U))).length+1:=by rw[List.length_erase];split<;>omega
  omega
def Y1(i:W)(s:E EN):Prop:=∀(k:U)(e:EN),s[k]?=D e->(k=0->e.2.2.2.2.1<=i)/\∀f,0<k->s[k-1]?=D f->e.2.2.2.2.1=f.1
theorem AKW{a:AL}{l:Aa}{p i j:Int}{s:List EN}(O:s.length≤16777216):
  Ao (Ad (QT (a,(l,(p,(i,j)))) s) (0,([],0))) λr=>(r= .inl ([],0)/\Y1 i s)\/(r= .inr ([],13)/\ ¬Y1 i s):=by
 refine AW (λ(t:Int×(List EN×Int))=>0<=t.1/\t.1<=s.length/\t.2=([],0)/\ ∀(k:Nat) (e:EN),k<t.1->s[k]? =some e->(k=0->e.2.2.2.2.1<=i)/\ ∀f,0<k->s[k-1]? =some f->e.2.2.2.2.1=f.1) (λt=>((s.length:Int)-t.1).toNat)
  ⟨AY _,by dsimp only;omega,rfl,λk e F=>(by dsimp only at F;omega)⟩ (λt K=>?_)
 obtain⟨b,P⟩:=t;obtain⟨C,L,G,D_⟩:=K;dsimp only at C L G D_;subst G;unfold QT;dsimp only;refine AC (λn=>?_) (λn=>AB (.inl ⟨rfl,λk e d=>D_ k e ?_ d⟩))
 ·simp only[len]at n;have I:=AX (x:=b+1) (by omega);rw[I];refine AA (AE C n) λM _=>?_;refine AA (AE C n) λv h=>?_;have o:((b=0->v.2.2.2.2.1<=i)/\ ∀f,0<b->s[b.toNat-1]? =some f->v.2.2.2.2.1=f.1)->(0<=b+1/\b+1<=s.length/\(([],0):List EN×Int)=([],0)/\ ∀(k:Nat) (e:EN),k<b+1->s[k]? =some e->(k=0->e.2.2.2.2.1<=i)/\ ∀f,0<k->s[k-1]? =some f->e.2.2.2.2.1=f.1)/\((s.length:Int)-(b+1)).toNat<((s.length:Int)-b).toNat:=λE=>by
   refine⟨⟨by omega,by omega,rfl,λk e F d=>?_⟩,by omega⟩;by_cases B:(k:Int)<b
   ·exact D_ k e B d
   ·have H:k=b.toNat:=by omega
    subst H;rw[h.1]at d;injection d with d;subst d;exact⟨λy=>E.1 (by omega),λf y g=>E.2 f (by omega) g⟩
  refine AT ?_ ?_<;>intro y
  ·refine AC (λu=>AB (.inr ⟨rfl,λA_=>?_⟩)) (λu=>?_)
   ·have:=(A_ b.toNat v h.1).1 (by omega);omega
   ·refine AC (λm=>absurd m (by omega)) (λ_=>AB (o ⟨λ_=>by omega,λf g=>absurd g (by omega)⟩))
  ·refine AC (λu=>?_) (λu=>absurd u (by omega));have w:=AX (x:=b-1) (by omega);rw[w];refine AA (AE (by omega) (by omega)) λN _=>?_;refine AA (AE (by omega) (by omega)) λq z=>?_;have c:s[b.toNat-1]? =some q:=by rw[show b.toNat-1=(b-1).toNat by omega];exact z.1
   refine AK (λm=>AB (.inr ⟨rfl,λA_=>m ((A_ b.toNat v h.1).2 q (by omega) c)⟩)) (λm=>AB (o ⟨λJ=>absurd J y,λf _ g=>?_⟩));rw[c]at g;injection g with g;rw[<-g];exact m
 ·simp only[len]at n;have:=(F8.1 d).1;omega
def AKZ{a:AL}{l:Aa}{p i j:W}{s:E EN}(b:Z s≤16777216):
  Ao (Ad (QT (a,l,p,i,j) s) (0,[],0)) λr=>(r=.inl ([],0)/\Y1 i s)\/(r=.inr ([],13)/\¬Y1 i s):=AKW b
def WE(l:Aa)(low:W)(rs:E Af):E (W×W):=(l.1,l.1+Z l.2.1-1)::(rs.filter λr=>r.2.2.1==low).map λr=>(r.1,r.2.1)
theorem AA0{a:AL}{l:Aa}{p:Int}{e:Int×(Int×Bool)}{b:List Af}{d:List Int}(A_:Dg l)(k:GQ (a,p)=some e)(B:e.2.2=true)(m:HJ a=some (b,d))(s:b.length=d.length)(o:b.length≤256):
  QV (a,(l,p))=some (WE l e.1 b):=by
 obtain⟨H,w,y⟩:=fU A_;unfold QV;dsimp only;rw[w,AD,k,AD,B,Ce,cond_false,m,AD,y];have main:Ao (Ad (UO e (b,d)) (0,([(l.1,l.1+l.2.1.length-1)]:List (Int×Int)))) λr=>r=WE l e.1 b:=by
  refine AW (λ(t:Int×List (Int×Int))=>0<=t.1/\t.1<=b.length/\t.2.length<=t.1.toNat+1/\t.2=WE l e.1 (b.take t.1.toNat)) (λt=>((b.length:Int)-t.1).toNat) ⟨AY _,by dsimp only;omega,by simp,rfl⟩ (λt z=>?_);obtain⟨g,G⟩:=t;obtain⟨n,C,D_,j⟩:=z;dsimp only at n C D_ j;unfold UO;dsimp only;refine AC (λi=>?_) (λi=>AB ?_)
  ·simp only[len]at i;have u:=AX (x:=g+1) (by omega);rw[u];refine AA (AE n i) λv h=>?_;have f:b.take (g+1).toNat=b.take g.toNat++[v]:=by rw[show(g+1).toNat=g.toNat+1 by omega,CC,h.1];rfl
   refine AJ (λc=>?_) (λc=>AB ⟨⟨by dsimp only;omega,by dsimp only;omega,by dsimp only;omega,?_⟩,by dsimp only;omega⟩)
   ·refine AA (AE n (by omega)) λI _=>?_;refine AA (Ac (by simp only[CY,CO];omega)) λJ q=>AB ⟨⟨by dsimp only;omega,by dsimp only;omega,?_,?_⟩,by dsimp only;omega⟩
    ·have:=q.2.1;simp only[CY,CO]at this;dsimp only;omega
    ·dsimp only;rw[q.1,j,f];unfold WE;rw[F7,Gt,wq (by exact c)];rfl
   ·dsimp only;rw[j,f];unfold WE;rw[F7,wo (by rw[c];decide)];simp
  ·simp only[len]at i;rw[j,BG (by omega)]
 obtain⟨r,E,F⟩:=main;rw[E,AD,F]
def qN{l:E EN}:(l.map (·.1)).Nodup->l.Nodup:=by
 induction l with
 |nil=>intro _;exact RW
 |cons p r b=>intro a;rw[Bz,Gv]at a;exact Gv.2 ⟨λh=>a.1 (T7 h),b a.2⟩
def Dg.nodup{l}(h:Dg l):(l.2.1.map (·.1)).Nodup:=by obtain⟨l1,l2,i,j,k,a⟩:=h;rw[H7,RX,Ek];intro x y b d c g;have e:=(a x _ (Ar b)).1;have f:=(a y _ (Ar d)).1;omega
def Dg.has{l}(h:Dg l){e:EN}(a:e∈l.2.1):Qv (l.1,l.1+Z l.2.1-1) e.1=Y:=by obtain⟨k,b,a⟩:=Ws.1 a;have c:=(h.2.2.2.2.2 k e (by rw[<-a];exact Ar b)).1;unfold Qv;simp only[BS,K!];omega
structure AIL(l:Aa)(low p i j:Int)(rs:List Af):Prop where
 fromLog:∀f∈Kl low rs,Ki p i j f=true->Qv (l.1,l.1+l.2.1.length-1) f.1=true->f∈l.2.1
 inRuns:∀e∈l.2.1,Ki p i j e=true->((rs.filter λr=>r.2.2.1==low).any λr=>Qv (r.1,r.2.1) e.1)=true->e∈Kl low rs
 own:∀r∈rs,∀f∈r.2.2.2.2.2,Qv (r.1,r.2.1) f.1=true
 once:((Kl low rs).map (·.1)).Nodup
def ALA{B:Nat}{a:AL}{l:Aa}{p i j R:Int}{c:Int×(Int×Bool)}{b:Ψ Af}{P:Ψ Int}(V:CP B)(hB:B≤16777216)(al:j-i≤B)(hi:0≤i)(hj:i≤j)
  (h:VB a) (D_:Dg l) (hp:0<=p/\p<a.2.1) (L:GQ (a,p)=D c) (ht:c.2.2=Y) (N:HJ a=D (b,P)) (w:θ b=θ P) (t:θ b<=256)
  (hr:∀r∈b,θ r.2.2.2.2.2<=4096) (W:NA (WE l c.1 b,j)=D R) (z:AIL l c.1 p i j b):
  Ao (IE (a,l,p,i,j)) λr=>(R>i/\r=([],42))\/(R<=i/\∃s:Ψ EN,(s.Pairwise λx y=>x.1<y.1)/\(∀e,e∈s↔(e∈l.2.1\/e∈Kl c.1 b)/\Ki p i j e=Y)/\((Y1 i s/\r=(s,0))\/(¬Y1 i s/\r=([],13)))):=by
 have K:=D_.nodup;unfold IE;dsimp only;refine AA (bB (x:=(a,l,p,i)) h D_ ⟨hp.1,hp.2,hi⟩) λv0 h0=>AK (O! h0 ·) (λ_=>AC (O! · o!) (λ_=>?_));rw[AA0 D_ L ht N w t,AD,W,AD];refine AC (λhf=>AB (.inl ⟨hf,rfl⟩)) (λhf=>AA (AKU D_ (by simp[WE]) (by have:=EV (λr:Af=>r.2.2.1==c.1) b;simp only[WE,CY,BY];omega)) λag H=>?_);rw[L,AD,ht,Ce,A!,N,AD];have hP:∀v∈Kl c.1 b,Ki p i j v=Y->(Qv (l.1,l.1+θ l.2.1-1) v.1=Y->(v∈l.2.1/\Ki p i j v=Y))/\∀e,((e∈l.2.1/\Ki p i j e=Y)\/(e∈Kl c.1 b/\Ki p i j e=Y))->e.1=v.1->e=v:=λv hv E=>by refine⟨λk=>⟨z.fromLog v hv E k,E⟩,λe u A_=>?_⟩;rcases u with⟨u,_⟩|⟨u,_⟩;have ad:=z.fromLog v hv E (by rw[<-A_];exact D_.has u);exact V9 K u ad A_;exact V9 z.once u hv A_
 apply AA (AKX (sp:=(l.1,l.1+θ l.2.1-1)) rfl H.2 w t hr hP);rintro q ⟨m,n,rfl,o,hn⟩;apply BB;dsimp only;have f:ag.1=n:=by
  rw[H.1,hn];refine E! Int.ofNat (List.Perm.length_eq ?_)
  refine(oO ((qN K).filter _) ((qN z.once).filter _)).2 λe=>?_;rw[BZ,BZ];simp only[BS];have I:((WE l c.1 b).tail.any λs=>Qv s e.1)=((b.filter λr=>r.2.2.1==c.1).any λr=>Qv (r.1,r.2.1) e.1):=by unfold WE;rw[List.tail_cons,List.any_map];rfl
  rw[I];constructor;rintro⟨F,G,S⟩;exact⟨z.inRuns e F G S,G,D_.has F⟩;rintro⟨F,G,S⟩;obtain⟨r,M,Y_⟩:=Gu.1 F;exact⟨z.fromLog e F G S,G,qp.2 ⟨r,M,z.own r (BZ.1 M).1 e Y_⟩⟩
 refine AK (O! f ·) (λ_=>?_);have J:∀q∈m,Ki p i j q.2=Y:=λq d=>by
  have:(q.2.1,q.2)∈m:=by rw[<-o.2.1 q d];exact d
  rcases(o.2.2 q.2).1 this with g|g;exact g.2;exact g.2
 have X_:θ m<=B:=by
  have:=xf (j-i).toNat i (m.map (·.1)) o.1 λx hx=>by obtain⟨q,d,rfl⟩:=Bo.1 hx;have E:=J q d;have hk:=o.2.1 q d;unfold Ki at E;simp only[BS,K!]at E;omega
  rw[BY]at this;omega
 refine AC (λ_=>?_) (λk=>O! k (by show¬ ¬((θ m:Int)<=16777216);omega));have C:((m.map (·.2)).map (·.1))=m.map (·.1):=by rw[RT];exact Ng λq d=>(o.2.1 q d).symm
 refine AA (AHl V (l:=m.map (·.2)) (by rw[BY];exact X_) (by rw[BY];omega) (by rw[C];exact o.1)) λs Q=>?_;have Z:θ s=θ m:=by rw[Q.1.length_eq,BY]
 have U:ξ (θ s) (θ m)=Y:=by rw[Z];exact HT _
 rw[U,B!];have O:∀e,e∈s↔(e∈l.2.1\/e∈Kl c.1 b)/\Ki p i j e=Y:=λe=>by
  rw[Q.1.mem_iff];constructor;intro u;obtain⟨q,d,rfl⟩:=Bo.1 u;have:(q.2.1,q.2)∈m:=by rw[<-o.2.1 q d];exact d
  rcases(o.2.2 q.2).1 this with g|g;exact⟨.inl g.1,g.2⟩;exact⟨.inr g.1,g.2⟩;rintro⟨g,g'⟩;exact Bo.2 ⟨(e.1,e),(o.2.2 e).2 (g.imp (λg=>⟨g,g'⟩) (λg=>⟨g,g'⟩)),rfl⟩
 refine AA (AKZ o!) λr hr=>?_;rcases hr with⟨rfl,T⟩|⟨rfl,T⟩;exact BB (AB (.inr ⟨o!,s,Q.2,O,.inl ⟨T,rfl⟩⟩));exact Au (AB (.inr ⟨o!,s,Q.2,O,.inr ⟨T,rfl⟩⟩))
def mc{s t:E EN}(c:s.Pairwise λx y=>x.1<y.1)(d:t.Pairwise λx y=>x.1<y.1)(h:∀e,e∈s↔e∈t):s=t:=by have nd:∀{u:E EN},(u.Pairwise λx y=>x.1<y.1)->u.Nodup:=λg=>H7.2 (g.imp λh e=>by rw[e]at h;omega);have f:=(oO (nd c) (nd d)).2 h;exact ql (le:=λa b=>a.1<b.1) (λa b _ _ i j=>o!) c d f
structure lG(L:List EN)(r:Af):Prop where
 mem:∀e,e∈r.2.2.2.2.2↔e∈L/\ik e=true/\r.2.2.1<=e.2.2.2.2.2.2.1.1/\e.2.2.2.2.2.2.1.1<=r.2.2.2.1/\r.1<=e.1/\e.1<=r.2.1
 nd:(r.2.2.2.2.2.map (·.1)).Nodup
def AEv{L:E EN}{l:Aa}{k:E Af}{b p i j:W}(a:∀e,e∈l.2.1↔e∈L∧l.1≤e.1∧e.1≤l.1+Z l.2.1-1)(hr:∀r∈k,lG L r)
  (t:∀r∈k,r.2.2.1=b->b<=p/\p<=r.2.2.2.1) (h:(k.filter λr=>r.2.2.1==b).Pairwise λr s=>r.2.1<s.1\/s.2.1<r.1):AIL l b p i j k where
 fromLog f hf hw hh:=by obtain⟨r,c,g⟩:=Gu.1 hf;have d:=((hr r (BZ.1 c).1).mem f).1 g;unfold Qv at hh;simp only[BS,K!]at hh;exact(a f).2 ⟨d.1,o!⟩
 inRuns e o hw ha:=by obtain⟨r,c,g⟩:=qp.1 ha;have d:=BZ.1 c;have q:r.2.2.1=b:=eq_of_beq d.2;have A:=t r d.1 q;unfold Ki at hw;unfold Qv at g;simp only[BS,K!,J!]at hw g;exact Gu.2 ⟨r,c,((hr r d.1).mem e).2 ⟨((a e).1 o).1,hw.1,o!⟩⟩
 own r hrr f hf:=by have d:=((hr r hrr).mem f).1 hf;unfold Qv;simp only[BS,K!];omega
 once:=by unfold Kl;rw[List.map_flatMap,H7,List.pairwise_flatMap];refine⟨λr c=>H7.1 (hr r (BZ.1 c).1).nd,?_⟩;refine qj ?_ h;intro r s c g d x u y v o;obtain⟨e,m,rfl⟩:=Bo.1 u;obtain⟨f,n,rfl⟩:=Bo.1 v;have w:=((hr r (BZ.1 c).1).mem e).1 m;have z:=((hr s (BZ.1 g).1).mem f).1 n;omega
def AAF{L}{d:E Af}{a p i j:W}(hr:∀r∈d,lG L r)(n:∀r∈d,r.2.2.1=a→a≤p∧p≤r.2.2.2.1){e}(l:Ki p i j e=Y):
  e∈Kl a d↔e∈L/\∃r∈d,r.2.2.1=a/\r.1<=e.1/\e.1<=r.2.1:=by
 unfold Ki at l;simp only[BS,K!,J!]at l;constructor;intro h;obtain⟨r,f,b⟩:=Gu.1 h;obtain⟨c,k⟩:=BZ.1 f;have g:=((hr r c).mem e).1 b;exact⟨g.1,r,c,eq_of_beq k,g.2.2.2.2.1,g.2.2.2.2.2⟩;rintro⟨f,r,b,c,k,m⟩;have g:=n r b c;exact Gu.2 ⟨r,BZ.2 ⟨b,by simp[c]⟩,((hr r b).mem e).2 ⟨f,l.1,o!,o!,k,m⟩⟩
def ka(a:AL)(l:Aa)(low n:W):Prop:=(l.1<=n/\n<=l.1+Z l.2.1-1)\/∃e∈GP a,e.1.2.2.1=low/\e.1.1<=n/\n<=e.1.2.1
def AIo{B:Nat}{a:AL}{l:Aa}{L:Ψ EN}{p i j:Int}{c:Int×(Int×Bool)}(O:CP B)(hB:B≤16777216)(P:j-i≤B)(Y_:0≤i)(Z:i≤j)(hJ:j≤1099511627776)
  (h:VB a) (hd:DS a) (J:Dg l) (S:0<=p/\p<a.2.1) (G:GQ (a,p)=D c) (ht:c.2.2=Y) (K:L.Pairwise λx y=>x.1<y.1) (b:∀e,e∈l.2.1↔e∈L/\l.1<=e.1/\e.1<=l.1+θ l.2.1-1)
  (hR:∀e∈GP a,lG L e.1) (z:AGo (GP a)) (T:∀e∈GP a,e.1.2.2.1=c.1->c.1<=p/\p<=e.1.2.2.2.1):
  ∃k,(0<=k/\k<=j/\(∀n,k<n->n<=j->ka a l c.1 n)/\(k=0\/¬ka a l c.1 k))/\Q6 (a,l,p,i,j)=D (τ (k<=i))/\Ao (IE (a,l,p,i,j)) λr=>(k>i/\r=([],42))\/(k<=i/\((Y1 i (L.filter (Ki p i j))/\r=(L.filter (Ki p i j),0))\/(¬Y1 i (L.filter (Ki p i j))/\r=([],13)))):=by
 obtain⟨q,H,v,E,w2,rfl,w4,w5⟩:=ABG h hd (Xm h) z;have o:∀r∈v.map (·.1),∃e∈GP a,e.1=r:=λr hr=>by obtain⟨e,d,rfl⟩:=Bo.1 hr;exact⟨e,E.mem_iff.1 d,rfl⟩
 have D_:∀r∈v.map (·.1),lG L r:=λr hr=>by obtain⟨e,d,rfl⟩:=o r hr;exact hR e d
 have C:∀r∈v.map (·.1),r.2.2.1=c.1->c.1<=p/\p<=r.2.2.2.1:=λr hr=>by obtain⟨e,d,rfl⟩:=o r hr;exact T e d
 have U:((v.map (·.1)).filter λr=>r.2.2.1==c.1).Pairwise λr s=>r.2.1<s.1\/s.2.1<r.1:=by rw[List.filter_map,RX];have R:v.Pairwise λx y=>x≠y:=H7.1 (E.nodup_iff.2 (Xm h));refine qj ?_ (R.filter _);intro x y hx hy Q;obtain⟨x1,x2⟩:=BZ.1 hx;obtain⟨V,W⟩:=BZ.1 hy;exact z x (E.mem_iff.1 x1) y (E.mem_iff.1 V) Q ((eq_of_beq x2).trans (eq_of_beq W).symm)
 have ad:(WE l c.1 (v.map (·.1))).length<=257:=by have:=EV (λr:Af=>r.2.2.1==c.1) (v.map (·.1));rw[BY]at this;simp only[WE,CY,BY];omega
 have M:SpL (WE l c.1 (v.map (·.1))):=by refine⟨o!,λs f=>?_⟩;rcases A3.1 f with f|f;rw[f];exact J.1;obtain⟨r,hr,rfl⟩:=Bo.1 f;obtain⟨e,d,rfl⟩:=Bo.1 (BZ.1 hr).1;exact(w5 e d).1
 have m:∀n,zy (WE l c.1 (v.map (·.1))) n↔ka a l c.1 n:=λn=>by constructor;rintro⟨s,f,t,w⟩;rcases A3.1 f with f|f;rw[f]at t w;exact .inl ⟨t,w⟩;obtain⟨r,hr,rfl⟩:=Bo.1 f;obtain⟨g1,I⟩:=BZ.1 hr;obtain⟨e,d,rfl⟩:=o r g1;exact .inr ⟨e,d,eq_of_beq I,t,w⟩;rintro(⟨t,w⟩|⟨e,d,h0,t,w⟩);exact⟨_,A3.2 (.inl rfl),t,w⟩;exact⟨(e.1.1,e.1.2.1),A3.2 (.inr (Bo.2 ⟨e.1,BZ.2 ⟨T7 (E.mem_iff.2 d),by simp[h0]⟩,rfl⟩)),t,w⟩
 obtain⟨k,F,f1,f2,X_,f4⟩:=ABa M (u:=j) o! hJ;refine⟨k,⟨f1,f2,λn t w=>(m n).1 (X_ n t w),f4.imp id λhh N=>hh ((m k).2 N)⟩,?_,?_⟩;obtain⟨v0,ev,hv⟩:=bB (x:=(a,l,p,i)) h J ⟨S.1,S.2,Y_⟩;unfold Q6;dsimp only;rw[ev,AD,beq_iff_eq.2 hv,B!,G! Z,B!,AA0 J G ht H (by rw[BY,BY]) (by rw[BY];exact w4),AD,F,AD];refine(ALA O hB P Y_ Z h J S G ht H (by rw[BY,BY]) (by rw[BY];exact w4) (λr hr=>?_) F (AEv b D_ C U)).mono λr hr=>?_;obtain⟨e,d,rfl⟩:=Bo.1 hr;exact(w5 e d).2.2.2.2.2.2.2.2;rcases hr with hr|⟨hr,s,s1,s2,s3⟩;exact .inl hr;refine .inr ⟨hr,?_⟩;have f:s=L.filter (Ki p i j):=mc s1 (K.filter _) λe=>by rw[s2,BZ];constructor;rintro⟨g|g,A_⟩;exact⟨((b e).1 g).1,A_⟩;exact⟨((AAF D_ C A_).1 g).1,A_⟩;rintro⟨g,A_⟩;refine⟨?_,A_⟩;have I:=A_;unfold Ki at I;simp only[BS,K!]at I;rcases(m e.1).1 (X_ e.1 o! o!)with N|⟨y,V,W,y3,y4⟩;exact .inl ((b e).2 ⟨g,N⟩);exact .inr ((AAF D_ C A_).2 ⟨g,y.1,T7 (E.mem_iff.2 V),W,y3,y4⟩)
 rw[<-f];exact s3
def BD.lt{n}{l}(h:BD n l):∀(d i:U)(x y:W),l[i]?=D x->l[i+1+d]?=D y->x<y
 |0,i,x,y,hx,hy=>by have:=CZ hy;exact h.2.2.2.2.2.1 i x y o! hx hy
 |d+1,i,x,y,hx,hy=>by have e:=CZ hy;have a:l[i+1+d]?=D (l[i+1+d]' o!):=Ar o!;have b:=BD.lt h d i x _ hx a;have c:=h.2.2.2.2.2.1 (i+1+d) _ y o! a q!;omega
def BD.le{n}{l}(h:BD n l){i j:U}{x y:W}(a:i<=j)(b:l[i]?=D x)(c:l[j]?=D y):x<=y:=by
 by_cases e:i=j;grind;obtain⟨d,rfl⟩:∃d,j=i+1+d:=⟨j-(i+1),o!⟩
 have:=h.lt d i x y b c;omega
def BD.mem{n}{l}(h:BD n l){i:U}{x:W}(a:l[i]?=D x):0<=x/\x<n:=by have f:=CZ a;have b:l[Z l-1]?=D (l[Z l-1]' o!):=Ar o!;have c:=h.le (Bh i) h.2.2.2.2.1 a;have d:=h.le (by omega:i<=Z l-1) a b;have e:=h.2.2.2.2.2.2 _ b;omega
def BD.inj{n}{l}(h:BD n l){i j:U}{x:W}(b:l[i]?=D x)(c:l[j]?=D x):i=j:=by
 rcases RY i j with a|a|a;obtain⟨d,rfl⟩:∃d,j=i+1+d:=⟨j-(i+1),o!⟩
 have:=h.lt d i x x b c;omega;exact a;obtain⟨d,rfl⟩:∃d,i=j+1+d:=⟨i-(j+1),o!⟩
 have:=h.lt d j x x c b;omega
def ou(a:AL)(i:U):W:=match a.1[i+1]? with
 |some h=>h-1
 |none=>a.2.1-1
def Nf(a:AL)(lo hi:W):Prop:=∃i:U,a.1[i]?=D lo/\hi=ou a i
def AFS{a:AL}(h:BD a.2.1 a.1){i:U}(c:i<Z a.1):(∀w,a.1[i+1]?=D w->wi (w-1)=ou a i)/\(Z a.1<=i+1->wi (a.2.1-1)=ou a i):=by refine⟨λw b=>?_,λd=>?_⟩;have:=h.mem b;have:=h.2.1;grind[ou,AX];have:=h.1;have:=h.2.1;grind[ou,u?,AX]
def lF{a:AL}(h:BD a.2.1 a.1){i:U}{b:W}(c:a.1[i]?=D b):EI (a,(i:W))=D (b,ou a i):=by
 have f:=CZ c;have d:=h.2.2.2.1;have⟨j,k⟩:=AFS h f;unfold EI;rw[AX (x:=(i:W)+1),(by unfold ix;rw[C! o!,s?,c]:ix a.1 (i:W)=D b)];by_cases e:i+1<Z a.1;have g:ix a.1 ((i:W)+1)=D a.1[i+1]:=by unfold ix;rw[C! o!,show((i:W)+1).toNat=i+1 by omega,(m? e)]
 grind;grind
def zj{a:AL}(h:BD a.2.1 a.1){i:U}{b:W}(c:a.1[i]?=D b):Kb (a,(i:W))=D (b,ou a i):=by
 have f:=CZ c;have d:=h.2.2.2.1;have⟨j,k⟩:=AFS h f;unfold Kb;rw[AX (x:=(i:W)+1),(by unfold ix;rw[C! o!,s?,c]:ix a.1 (i:W)=D b)];by_cases e:i+1<Z a.1;have g:ix a.1 ((i:W)+1)=D a.1[i+1]:=by unfold ix;rw[C! o!,show((i:W)+1).toNat=i+1 by omega,(m? e)]
 grind;grind
def AAm{a:AL}{r:Af}(h:BD a.2.1 a.1):Ao (Iu (a,r)) λk=>0<=k↔Nf a r.2.2.1 r.2.2.2.1:=by
 have g:=h.2.2.2.1;refine AA (P:=λq=>(∃k:Int,q=.inl k/\0<=k/\Nf a r.2.2.1 r.2.2.2.1)\/(q=.inr ()/\¬Nf a r.2.2.1 r.2.2.2.1)) ?_ λq p=>?_
 ·refine CE (λ(s:Int)=>0<=s/\s<=θ a.1/\∀i:Nat,(i:Int)<s->¬(a.1[i]?=δ r.2.2.1/\r.2.2.2.1=ou a i)) (λs=>((θ a.1:Int)-s).toNat) ⟨AY _,o!,λi m=>o!⟩ (λs j=>?_);have⟨e,t,u⟩:=j;unfold Kg;dsimp[len];refine AC (λl=>?_) (λl=>Ao.done (.inr ⟨rfl,?_⟩))
  ·obtain⟨k,rfl⟩:=FY e;rw[lF h (Ar o!),AD,AX];have f:¬(a.1[k]?=δ r.2.2.1/\r.2.2.2.1=ou a k)->Ao (δ (Step.next ((k:Int)+1)):Option (Step Int (Int⊕Unit))) (Kj (λ(s:Int)=>0<=s/\s<=θ a.1/\∀i:Nat,(i:Int)<s->¬(a.1[i]?=δ r.2.2.1/\r.2.2.2.1=ou a i)) (λs=>((θ a.1:Int)-s).toNat) ((θ a.1:Int)-(k:Int)).toNat λq=>(∃k:Int,q=.inl k/\0<=k/\Nf a r.2.2.1 r.2.2.2.1)\/(q=.inr ()/\¬Nf a r.2.2.1 r.2.2.2.1)):=λhn=>by
    refine Ao.next ⟨o!,o!,λi m=>?_⟩ o!
    grind
   refine AT (λb=>?_) (λb=>f λd=>b ?_)
   ·refine AT (λc=>Ao.done (.inl ⟨_,rfl,e,k,?_,?_⟩)) (λc=>f λd=>c d.2.symm);grind;grind
   grind
  rintro⟨i,n,o⟩;grind
 grind[BB,AB,Au]
def AFr{a:AL}{r:Af}(h:BD a.2.1 a.1):Ao (NG (a,r)) λk=>0<=k↔Nf a r.2.2.1 r.2.2.2.1:=by
 have g:=h.2.2.2.1;refine AA (P:=λq=>(∃k:Int,q=.inl k/\0<=k/\Nf a r.2.2.1 r.2.2.2.1)\/(q=.inr ()/\¬Nf a r.2.2.1 r.2.2.2.1)) ?_ λq p=>?_
 ·refine CE (λ(s:Int)=>0<=s/\s<=θ a.1/\∀i:Nat,(i:Int)<s->¬(a.1[i]?=δ r.2.2.1/\r.2.2.2.1=ou a i)) (λs=>((θ a.1:Int)-s).toNat) ⟨AY _,o!,λi m=>o!⟩ (λs j=>?_);have⟨e,t,u⟩:=j;unfold Rh;dsimp[len];refine AC (λl=>?_) (λl=>Ao.done (.inr ⟨rfl,?_⟩))
  ·obtain⟨k,rfl⟩:=FY e;rw[zj h (Ar o!),AD,AX];have f:¬(a.1[k]?=δ r.2.2.1/\r.2.2.2.1=ou a k)->Ao (δ (Step.next ((k:Int)+1)):Option (Step Int (Int⊕Unit))) (Kj (λ(s:Int)=>0<=s/\s<=θ a.1/\∀i:Nat,(i:Int)<s->¬(a.1[i]?=δ r.2.2.1/\r.2.2.2.1=ou a i)) (λs=>((θ a.1:Int)-s).toNat) ((θ a.1:Int)-(k:Int)).toNat λq=>(∃k:Int,q=.inl k/\0<=k/\Nf a r.2.2.1 r.2.2.2.1)\/(q=.inr ()/\¬Nf a r.2.2.1 r.2.2.2.1)):=λhn=>by
    refine Ao.next ⟨o!,o!,λi m=>?_⟩ o!
    grind
   refine AT (λb=>?_) (λb=>f λd=>b ?_)
   ·refine AT (λc=>Ao.done (.inl ⟨_,rfl,e,k,?_,?_⟩)) (λc=>f λd=>c d.2.symm);grind;grind
   grind
  rintro⟨i,n,o⟩;grind
 grind[BB,AB,Au]
def Good(a:AL)(f:AS)(r:Af):Prop:=f.1=1/\f.2.2=SG r/\VR r/\Nf a r.2.2.1 r.2.2.2.1
def Bad(f:AS):Prop:=Z f.2.2<=1099511627776/\∀r,WR r->f.2.2≠SG r
def Good.intact{a}{f}{r}(h:Good a f r)(e:BD a.2.1 a.1):G0 (a,f)=D (r,Y):=by have⟨b,c,d,g⟩:=h;have⟨k,k1,i⟩:=AFr (r:=r) e;unfold G0;rw[b,c,H!,A!,AJb d,AD,show(((r,(0:W)):Af×W).2==0)=Y from rfl,B!];grind
def Good.intR{a}{f}{r}(h:Good a f r)(b:BD a.2.1 a.1):intR a f=D (r,f.2.1):=by unfold Go.Pm.intR;rw[h.intact b]
def Bad.intR{a:AL}{f}(h:Bad f)(d:BD a.2.1 a.1):intR a f=A:=by
 have key:Ao (G0 (a,f)) λr=>r.2=X:=by exact AK (y? rfl) (λ_=>AA (AJc h.1) λv b=>AT (λc=>O! (b c).1 (h.2 _ (b c).2)) (y? rfl))
 have⟨⟨r,o⟩,k1,e⟩:=key;grind[Go.Pm.intR]
def Bad.ref{a:AL}{f}(h:Bad f):∃r,Gl (a,f)=D (r,-1):=by
 have key:Ao (Gl (a,f)) λr=>r.2= -1:=by exact AK (y? rfl) (λ_=>AA (AJj h.1) λv b=>AK (y? rfl) (λc=>O! (b c).1 (h.2 _ (b c).2.wr)))
 have⟨⟨r,o⟩,k1,d⟩:=key;grind
def uu{x y}(b:VR x)(c:VR y)(h:SG x=SG y):x=y:=by have a:=AB6 b;rw[h,AB6 c]at a;injection a with a;exact(Prod.ext_iff.1 a).1.symm
structure AR(L:List EN)(a:AL):Prop where
 vb:VB a
 files:∀f∈a.2.2.1,Bad f\/∃r,Good a f r/\lG L r/\r.2.1<a.2.2.2.1
 dis:AGo (GP a)
def AG(a:AL):Prop:=∀f∈a.2.2.1,∃r,Good a f r
def RC(a:AL)(c:U):Prop:=∀lo,((GP a).filter λe=>e.1.2.2.1==lo).length<=c
def uA{b:Type}:∀(l m:E b),l.Nodup->(∀x∈l,x∈m)->Z l<=Z m
 |[],m,_,_=>Bh _
 |a::l,m,hn,hs=>by
  obtain⟨s,t,rfl⟩:=List.append_of_mem (hs a (A3.2 (.inl rfl)));rw[Gv]at hn;have:=uA l (s++t) hn.2 λx c=>q!
  grind
def AR.mem{L}{a}(h:AR L a){e:NE}(g:e∈GP a):∃f∈a.2.2.1,Good a f e.1/\e.2=f.2.1/\lG L e.1/\e.1.2.1<a.2.2.2.1:=by have⟨f,i,b⟩:=T6.1 g;rcases h.files f i with d|⟨r,c,j,k⟩;rw[d.intR h.vb.1]at b;cases b;rw[c.intR h.vb.1]at b;grind
def gD{a:AL}(b:BD a.2.1 a.1){f:AS}{r}(c:f∈a.2.2.1)(h:Good a f r):(r,f.2.1)∈GP a:=by exact T6.2 ⟨f,c,h.intR b⟩
def Good.size{a}{f}{r}(h:Good a f r):Z f.2.2<=34406441:=by rw[h.2.1];exact h.2.2.1.len
def AR.sa{L}{a}(h:AR L a):SA a:=by have⟨⟨g,i,j,b,k,l,m⟩,a1,a2,a3,a4,a5,a6⟩:=h.vb;refine⟨b,o!,λf e=>?_⟩;rcases h.files f e with d|⟨r,c,_⟩;exact d.1;have:=c.size;omega
def AR.ds{L}{a}(h:AR L a):DS a:=λf b=>by have:=h.sa.2.2 f b;omega
def Nf.uniq{a:AL}(e:BD a.2.1 a.1){d b c}(p:Nf a d b)(q:Nf a d c):b=c:=by obtain⟨i,f,g⟩:=p;obtain⟨j,h,k⟩:=q;have:=e.inj f h;subst this;rw[g,k]
def ABC{l:Ψ EN}{e:EN}(h:Z l<=16777000):Ao (Ck (l,e)) λr=>Z r.1<=Z l+1/\((∀y,y∈r.1↔y∈l\/y=e)\/(r.1=l/\∃z∈l,z.1=e.1)):=by
 unfold Ck;refine AA (RD (x:=(l,e)) ⟨AY _,o!,d!⟩) λp g=>?_;dsimp only at g⊢;have main:Ao (σ (WB l 0 p) λi=>
  σ (WB l p (R l)) λj=>
  σ (app [] i) λk=>
  σ (app k ([e]:Ψ (W×(W×(W×(W×(W×(W×((W×(W×((N×Bc)×(N×Bc))))×Bc))))))))) λv=>
  σ (app v j) λw=>
  D (w,Y)) λr=>Z r.1<=Z l+1/\((∀y,y∈r.1↔y∈l\/y=e)\/(r.1=l/\∃z∈l,z.1=e.1)):=by
  refine AA (Bs (AY _) g.1 g.2) λt a=>AA (Bs g.1 b! i!) λu n=>?_;have B:=a.2;have o:=n.2;simp[R]at o;refine AA (Ac w!) λi b=>?_;have q:=b.2.1;simp[CO]at q;refine AA (Ac w!) λj d=>?_;have s:=d.2.1;simp[CO,CY]at s;refine AA (Ac o!) λk f=>AB ?_;have C:=f.2.1;refine⟨d!,.inl λy=>?_⟩;have m:t=l.take p.toNat:=by rw[a.1];simp
  dsimp only;rw[f.1,d.1,b.1,m,(by grind[List.take_of_length_le,List.length_drop]:u=l.drop p.toNat),Cq];conv=>rhs;rw[<-Cr p.toNat l]
  grind[a!]
 refine AC (λA_=>?_) (λ_=>main);simp[R]at A_;refine AA (AE g.1 A_) λD_ H=>?_;have⟨c,E,F,G⟩:=AIQ D_ e;grind[AT,AA,AE,AB]
def Uq(L:E EN):Prop:=∀x∈L,∀y∈L,x.1=y.1->x=y
theorem uL{L l:E EN}{e:EN}(c:Uq L)(f:∀x∈l,x∈L)(d:e∈L)(h:Z l<=16777000):Ao (Ck (l,e)) λr=>Z r.1<=Z l+1/\∀y,y∈r.1↔y∈l\/y=e:=by
 refine(ABC h).mono λr hr=>⟨hr.1,?_⟩
 rcases hr.2 with hr|⟨b,z,a,i⟩;exact hr;have:=c z (f z a) e d i;subst this;intro y;rw[b];exact⟨.inl,λg=>g.elim id λh=>h▸a⟩
def VR.sorted{r:Af}(h:VR r):r.2.2.2.2.2.Pairwise ltC:=by
 rw[Ek];have step:∀d i:Nat,∀(a:i<θ r.2.2.2.2.2)(b:i+1+d<θ r.2.2.2.2.2),ltC r.2.2.2.2.2[i] r.2.2.2.2.2[i+1+d]:=by
  intro d;induction d with
  |zero=>intro i a b;exact((h.2 (i+1) _ (Ar b)).2.2 _ o! (Ar a)).1
  |succ d e=>intro i a b;exact AD0 (e i a o!) (((h.2 (i+1+(d+1)) _ (Ar b)).2.2 _ o! (Ar (by omega:i+1+d<_))).1)
 intro i j a b c;have:=step (j-(i+1)) i a o!;simp[(by omega:i+1+(j-(i+1))=j)]at this;exact this
def VR.nd{L}{r}(b:Uq L)(h:VR r)(a:∀e∈r.2.2.2.2.2,e∈L):(r.2.2.2.2.2.map (·.1)).Nodup:=by rw[H7,RX];refine h.sorted.imp_of_mem λ{x y} f g d c=>?_;have:=b x (a x f) y (a y g) c;grind[ABp]
def VR.runOf{L}{r}(b:Uq L)(h:VR r)(a:∀e,e∈r.2.2.2.2.2↔e∈L/\ik e=Y/\r.2.2.1<=e.2.2.2.2.2.2.1.1/\e.2.2.2.2.2.2.1.1<=r.2.2.2.1/\r.1<=e.1/\e.1<=r.2.1):lG L r:=⟨a,h.nd b λe c=>((a e).1 c).1⟩
def ACi{v}:ik v=Y↔v.2.1=1\/v.2.1=2:=by grind[ik]
def AGs{L d:Ψ EN}{F T g f i:W}(C:Uq L)(B:∀e∈d,e∈L)(H:Z d≤16777000):
  Ao (Ad (KU (d,F,T,g,f,i)) (X,0,F,T,g,f,i,[])) λr=>∃a:Ψ EN,r.2=(F,T,g,f,i,a)/\Z a<=Z d/\∀y,y∈a↔y∈d/\ik y=Y/\g<=y.2.2.2.2.2.2.1.1/\y.2.2.2.2.2.2.1.1<=f/\F<=y.1/\y.1<=T:=by
 refine CE (λs=>∃(k:U)(a:Ψ EN),s.2=((k:W),F,T,g,f,i,a)/\k<=Z d/\Z a<=k/\∀y,y∈a↔y∈d.take k/\ik y=Y/\g<=y.2.2.2.2.2.2.1.1/\y.2.2.2.2.2.2.1.1<=f/\F<=y.1/\y.1<=T) (Z d-·.2.1.toNat)
  ⟨0,[],rfl,Bh _,Am _,λy=>k!⟩ ?_
 rintro⟨Q,P⟩ ⟨k,a,rfl,I,J,n⟩;unfold KU;dsimp only;simp only[R];refine AC (λw=>?_) (λw=>k? ⟨a,rfl,o!,by rw[BG o!]at n;exact n⟩);refine AA (AE o! w) λv l=>?_;have A_:=l.1;rw[C5]at A_;have q:d.take (k+1)=d.take k++[v]:=by rw[CC,A_];rfl
 rw[AX]
 have c:∀m:Bool,¬(ik v=Y∧g≤v.2.2.2.2.2.2.1.1∧v.2.2.2.2.2.2.1.1≤f∧F≤v.1∧v.1≤T)→
   Ao (D (Step.next (m,(k:W)+1,F,T,g,f,i,a)):V (Step (Bool×(W×Af)) (Bool×Af))) (Kj (λs=>∃(k:U)(a:Ψ EN),s.2=((k:W),F,T,g,f,i,a)/\k<=Z d/\Z a<=k/\∀y,y∈a↔y∈d.take k/\ik y=Y/\g<=y.2.2.2.2.2.2.1.1/\y.2.2.2.2.2.2.1.1<=f/\F<=y.1/\y.1<=T) (Z d-·.2.1.toNat) (Z d-((k:U):W).toNat)
    λr=>∃a:Ψ EN,r.2=(F,T,g,f,i,a)/\Z a<=Z d/\∀y,y∈a↔y∈d/\ik y=Y/\g<=y.2.2.2.2.2.2.1.1/\y.2.2.2.2.2.2.1.1<=f/\F<=y.1/\y.1<=T):=λm hn=>by
  refine y! ⟨k+1,a,rfl,o!,o!,λy=>?_⟩ d!
  grind[a!]
 refine AA CD λb u=>AP (λz=>c _ λj=>?_) (λD_=>?_);rw[u.2 (ACi.1 j.1)]at z;cases z;refine AC (λ_=>c _ λj=>o!) (λK=>AC (λ_=>c _ λj=>o!) (λM=>AC (λ_=>c _ λj=>o!) (λN=>AC (λ_=>c _ λj=>o!) (λO=>AA (Sm ⟨AY _,d!⟩) λG _=>AA (uL C (λx E=>B x (Fv ((n x).1 E).1)) (B v l.2) o!) λt o=>y! ⟨k+1,t.1,rfl,o!,o!,λy=>?_⟩ d!))))
 rw[o.2,n,q,Al,A7];constructor;rintro(⟨h,p⟩|h);exact⟨.inl h,p⟩;subst h;exact⟨.inr rfl,ACi.2 (u.1 D_),o!⟩;rintro⟨h|h,p⟩;exact .inl ⟨h,p⟩;exact .inr h
def AIq{L c:E EN}{F T h g j:W}(n:Uq L)(q:∀e∈c,e∈L)(p:Z c<=16777000):Ao (Jv (c,F,T,h,g,j)) λr=>r.2=0->VR r.1/\∃b:E EN,r.1=(F,T,h,g,j,b)/\∀y,y∈b↔y∈c/\ik y=Y/\h<=y.2.2.2.2.2.2.1.1/\y.2.2.2.2.2.2.1.1<=g/\F<=y.1/\y.1<=T:=by unfold Jv;refine AA It λw _=>AP (y? λa=>O! (show(1:W)=0 from a) g!) (λ_=>?_);refine AA (Sl ⟨AY _,d!⟩) λx m=>BE (λu i=>AB λa=>O! a (m u i)) (λu i=>AA (AGs n q p) λs d=>?_);have⟨b,k,v,l⟩:=d;refine AJ (y? λa=>O! (show(41:W)=0 from a) g!) (λ_=>?_);refine AC (y? λa=>O! (show(21:W)=0 from a) g!) (λ_=>?_);refine AA dP λt f=>AP (y? λa=>O! (show(13:W)=0 from a) g!) (λo=>AB λ_=>⟨f.1 o,b,k,l⟩)
def AIr{x:W×E W}(h:BD x.1 x.2):Ao (Fu x) λr=>r.2=0/\VB r.1/\r.1.2.1=x.1/\r.1.2.2.2.1=1:=by refine AA gg λl c=>AP (λb=>(by rw[c.2 h]at b;cases b)) (λ_=>?_);have k:=h.2.2.2.1;refine AA (Ac w!) λm e=>AB ⟨rfl,⟨?_,u!,u!,u!,u!,k!,⟨λi f d a=>by simp at a,λi f g d a j=>by simp at a⟩⟩,rfl,rfl⟩;grind
def FR.push{l m:E AS}{f:AS}{c}(h:FR l c (Z l))(v:1<=c)(r:f.2.1=c)(u:m=l++[f]):FR m (c+1) (Z m):=by
 subst u;obtain⟨q,t⟩:=h;have p:(l++[f]).length=Z l+1:=k!
 have b:∀(i:U)(g:AS),¬i<Z l->(l++[f])[i]?=D g->g=f:=λi g j a=>by
  have o:=CZ a;rw[p]at o;have s:i=Z l:=o!
  subst s;rw[Cm (Am _)]at a;simp at a;exact a.symm
 refine⟨λi g j a=>?_,λi g k j a n=>?_⟩;by_cases e:i<Z l;rw[CW e]at a;have:=q i g o! a;exact⟨this.1,o!⟩;rw[b i g e a,r];exact o!;rw[p]at j;have e:i<Z l:=o!
 rw[CW e]at a;by_cases d:i+1<Z l;rw[CW d]at n;exact t i g k o! a n;rw[b (i+1) k d n,r];exact(q i g o! a).2
theorem AGw{x:AL×Aa×Int}(h:SA x.1)(l:VB x.1):Ao (GN x) λr=>r.2=0->SA r.1/\VB r.1/\r.1.2.1=x.1.2.1/\(r.1.2.2.2.1=x.1.2.2.2.1\/r.1.2.2.2.1<=x.2.1.2.2+1):=by
 unfold GN;refine AA PD λv0 Q=>?_;refine AP (λ_=>AB λa=>absurd a (by decide)) (λd=>?_);obtain⟨a1,a2,a3,a4,a5,a6,a7,a8,a9⟩:=Q d;refine AA BM λv1 q=>?_;refine AP (λ_=>AB λa=>absurd a (by decide)) (λm=>?_);obtain⟨l1,l2,l3,l4,l5,l6⟩:=q.1 m;refine AC (λ_=>AB λa=>absurd a (by decide)) (λc1=>?_);refine AC (λ_=>AB λa=>absurd a (by decide)) (λc2=>?_);generalize T:(if(x.2.1.1>x.1.2.2.2.1)then x.2.1.1 else x.1.2.2.2.1)=F;have f1:x.2.1.1<=F/\x.1.2.2.2.1<=F/\F<=1099511627777:=by rw[<-T];split<;>omega
 have E:=AX (x:=F+x.2.2) (by omega);have H:=AX (x:=F+x.2.2-1) (by omega);rw[E,H];generalize U:(if(x.2.1.2.2<(F+x.2.2-1))then x.2.1.2.2 else(F+x.2.2-1))=G;have g1:G<=x.2.1.2.2/\G<=F+x.2.2-1:=by rw[<-U];split<;>omega
 refine AC (λ_=>AB λ_=>⟨h,l,rfl,.inl rfl⟩) (λc3=>?_);have I:=AX (x:=F-x.2.1.1) (by omega);have J:=AX (x:=G-x.2.1.1) (by omega);have K:=AX (x:=G-x.2.1.1+1) (by omega);rw[I,J,K];have L:=AX (x:=len x.1.2.2.1+len x.1.1) (by simp only[len];omega);have M:=AX (x:=x.1.2.2.2.2+len x.1.1) (by simp only[len];omega);have N:=AX (x:=G+1) (by omega);rw[L,M,N];have V:G<=1099511627776:=by
  have Y_:x.2.1.2.1.length≠0:=by omega
  obtain⟨i,n⟩: ∃i,x.2.1.2.1[x.2.1.2.1.length-1]? =some i:=⟨_,Ar (by omega)⟩
  have:=l6 _ i n;have q:=this.1;have t:=this.2.2.1;omega
 refine AC (λ_=>AB λa=>absurd a (by decide)) (λC=>?_);refine AC (λ_=>AB λa=>absurd a (by decide)) (λD_=>?_);simp only[len]at C D_;refine AA (Bs (by omega) (by omega) (by omega)) λv2 t=>?_;have X_:=t.2;refine AA (Sp ⟨AY _,by dsimp only;omega,by omega⟩) λv8 S=>?_;refine BE (λu b=>AB λa=>absurd a (S u b)) (λu b=>?_);refine AA (Ac (by simp;omega)) λad j=>?_;have c:=j.1;rw[Cq]at c;refine AA (P:=λr=>(∀u,r= .inl u->u.1≠0)/\ ∀u,r= .inr u->u.2.1=x.1.1/\u.1.length<=256/\(∀f∈u.1,f.2.2.length<=1099511627776)/\u.2.2.1=x.1.2.1/\u.2.2.2.2.1=x.1.2.2.2.2+x.1.1.length/\FR u.1 u.2.2.2.2.1 u.1.length) ?_ λr hr=>BE (λu b=>AB λa=>absurd a (hr.1 u b)) (λu b=>AB λ_=>?_)
 ·refine AW (λ(s:Int×(List AS)×(List Int)×Int×Int×Int×AL)=>0<=s.1/\s.1<=x.1.1.length/\s.2.2.1=x.1.1/\(s.2.1.length:Int)=x.1.2.2.1.length+s.1/\(∀f∈s.2.1,f.2.2.length<=1099511627776)/\s.2.2.2.1=x.1.2.1/\s.2.2.2.2.2.1=x.1.2.2.2.2+s.1/\FR s.2.1 s.2.2.2.2.2.1 s.2.1.length) (λ(s:Int×(List AS)×(List Int)×Int×Int×Int×AL)=>((x.1.1.length:Int)-s.1).toNat) ⟨AY _,by dsimp only;omega,rfl,by dsimp only;rw[c];omega,by dsimp only;rw[c];exact h.2.2,rfl,by dsimp only;omega,by dsimp only;rw[c];exact l.2.2.2.2.2.2⟩ (λs W=>?_);obtain⟨Z,i2,v,i4,y,z,i7,i8⟩:=W;unfold PC;have e:=AX (x:=s.1+1) (by omega);rw[e];refine AC (λd=>?_) (λd=>AB ⟨λu b=>(by cases b),λu b=>(by cases b;simp only[len]at d;exact⟨v,by omega,y,z,by omega,i8⟩)⟩);simp only[len]at d;refine AA (gA a4 ⟨Z,d⟩) λag _=>?_;refine AA (jY (by dsimp only;omega)) λal R=>?_;refine AK (λd=>AB ⟨λu b=>(by cases b;exact d),λu b=>(by cases b)⟩) (λ_=>?_);refine AA dC λao k=>?_;refine AA (Ac (by simp;omega)) λap g=>AB ?_;have p:=g.2.1;simp only[CY,CO]at p;have O:=AX (x:=s.2.2.2.2.2.1+1) (by omega);rw[O];refine⟨⟨by dsimp only;omega,by dsimp only;omega,v,by dsimp only;omega,λf o=>?_,z,by dsimp only;omega,i8.push (by omega) rfl g.1⟩,by dsimp only;omega⟩;dsimp only at o;rw[g.1]at o;rcases Al.1 o with w|w
  ·exact y f w
  ·simp at w;rw[w];exact k
 ·obtain⟨A_,q2,q3,B,q5,q6⟩:=hr.2 u b;refine⟨⟨by dsimp only;rw[A_];exact a4,by dsimp only;omega,q3⟩,⟨?_,by dsimp only;omega,by dsimp only;omega,by dsimp only;omega,by dsimp only;omega,q2,q6⟩,B,.inr (by dsimp only;omega)⟩;dsimp only;rw[A_,B];exact l.1
def FP(l:E AS)(m:W):Prop:=(∀f∈l,0<f.2.1/\f.2.1<m)/\l.Pairwise λf g=>f.2.1<g.2.1
def ABZ{l}{m}(h:FP l m):FR l m (Z l):=by refine⟨λi f e a=>h.1 f (BQ a),λi f g e a d=>?_⟩;have b:=CZ a;have c:=CZ d;have:=Ek.1 h.2 i (i+1) b c o!;grind
def FR.fp{l}{m}(h:FR l m (Z l)):FP l m:=by
 refine⟨λf e=>?_,Ek.2 λi j b c g=>?_⟩;obtain⟨i,b⟩:=HS.1 e;have:=CZ b;exact h.1 i f o! b;obtain⟨d,rfl⟩:∃d,j=i+1+d:=⟨j-(i+1),o!⟩
 induction d with
 |zero=>exact h.2 i _ _ o! (Ar b) (Ar c)
 |succ d k=>
  have a:i+1+d<Z l:=o!
  have n:=k a o!;have o:=h.2 (i+1+d) l[i+1+d] l[i+1+(d+1)] o! (Ar a) (Ar c);omega
def FR.sub{l k:E AS}{m}(h:FR l m (Z l))(a:k.Sublist l):FR k m (Z k):=ABZ ⟨λf b=>h.fp.1 f (a.subset b),h.fp.2.sublist a⟩
end Go.Pm
