/- Texts of wip, joined and shortened by wip/tools/pack.py; nothing is assumed. -/
import Derived.Test.YtkgodfhnofpglaaGreatDoorK7
import Derived.KernelRfl
import Derived.Sort.AssemblyPlain
noncomputable section
set_option linter.all false
set_option maxHeartbeats 1000000
open Option renaming some->D
open List renaming length->Z
open Go renaming Ψ->E
open Bool renaming false->X
open Option renaming none->A
open Bool renaming true->Y
open Go renaming Ω->V
open Option renaming some->δ,none->ε,bind->σ
open Bool renaming true->ζ,false->η
open List renaming length->θ
open Go.IntKind renaming wrap->ι
open BitVec renaming ofInt->κ,toNat->π
open Nat renaming beq->ξ
open Int renaming toNat->ο
open Decidable renaming decide->τ
namespace Go.Pm
open Go Go.Ab
def runN{S R:Type}(f:S->Option (Step S R)):Nat->S->Option R
 |0,_=>ε
 |n+1,s=>
  match f s with
  |some (.next s')=>runN f n s'
  |some (.done r)=>δ r
  |none=>ε
def wn{S R:Type}{f:S->Option (Step S R)}{r:R}:∀{n:Nat}{s:S},runN f n s=δ r->Aa f s=δ r
 |0,s,h=>by cases h
 |n+1,s,h=>by simp only[runN]at h;rw[ES];split at h;rename_i b e;rw[e];exact wn h;rename_i a e;rw[e];exact h;cases h
def Tt:BV:=[80,77,76,71,1,0,0,0,0,0,0,0]
def AFk:Ah (([80,77,76,71]:List UInt8),1,8)=δ Tt:=by rw[(by kernel_rfl:Ah (([80,77,76,71]:List UInt8),1,8)=σ (Aa (GO (([80,77,76,71]:List UInt8),1,8)) (([80,77,76,71]:List UInt8),0)) λa=>δ a),wn (n:=10) (r:=Tt) (by kernel_rfl)];rfl
def AFJ:Au (Tt,4,8)=δ (1,0):=by rw[(by kernel_rfl:Au (Tt,4,8)=σ (Aa (GN (Tt,4,8)) (0,0)) λa=>δ (wi a,0)),wn (n:=10) (r:=1) (by kernel_rfl)];rfl
def mP(a b:List AE):Kj (a++b)=Kj a++Kj b:=by grind[Kj]
def AG8:MW 1=δ (JJ Tt):=by unfold MW;rw[AFk,AD,ai g!,AD]
def AFH{e:AE}(h:L3 e):IY e=δ (JJ (Bq e)):=by grind[IY,pe,ai,R3]
def Dd.ent{l:AZ}(h:Dd l){e:AE}(a:e∈l.2.1):L3 e:=by have⟨k,b⟩:=HC.1 a;exact(h.2.2.2.2.2 k e b).2
def AE3{l:AZ}{a:Int}(h:Dd l)(D_:l.1=1):An (Gv (l,a)) λr=>∃m:Nat,r=JJ Tt++(Kj (l.2.1.take l.2.2.toNat)++(Kj (l.2.1.drop l.2.2.toNat)).take m):=by
 have O:=h.2.2.1;have Q:=h.2.2.2.1;have R:=h.2.2.2.2.1;have b:∀k:List AE,(∀e∈k,e∈l.2.1)->(Kj k).length<=8400*θ k:=λk w=>qu λe d=>h.ent (w e d);have⟨v,H,g⟩:=BP (x:=l);have g:=g.2 h;subst g;unfold Gv;dsimp only;rw[H,AD,Ca,A!,D_,AG8,AD];refine AA (P:=λr=>r=(JJ Tt++Kj (l.2.1.take l.2.2.toNat),Kj (l.2.1.drop l.2.2.toNat))) ?_ λK o=>?_
 ·refine Cb (λ(s:BV×BV×Int)=>∃k:Nat,k<=θ l.2.1/\s=(JJ Tt++Kj ((l.2.1.take k).take l.2.2.toNat),Kj ((l.2.1.take k).drop l.2.2.toNat),(k:Int))) (λs=>θ l.2.1-s.2.2.toNat) ⟨0,Bo _,by simp[Kj]⟩ ?_;rintro s ⟨k,w,rfl⟩;unfold R7;dsimp[len];refine AC (λB=>?_) (λB=>An.done (by rw[BK (l:=l.2.1) (i:=k) o!]));have f:k<θ l.2.1:=o!
  have I:ix l.2.1 (k:Int)=δ l.2.1[k]:=by unfold ix;rw[C! o!,Int.toNat_natCast,List.getElem?_eq_getElem f]
  have j:=h.2.2.2.2.2 k _ (As f);have t:l.2.1.take (k+1)=l.2.1.take k++[l.2.1[k]]:=t!
  have E:(l.2.1.take k).length=k:=q!
  have y:(JJ Tt++Kj ((l.2.1.take k).take l.2.2.toNat)).length<=40000000:=by
   have:=b ((l.2.1.take k).take l.2.2.toNat) λe d=>Iq (Iq d);have c:(JJ Tt).length=20:=by rw[Fv];rfl
   grind[List.length_append,List.length_take]
  have z:(Kj ((l.2.1.take k).drop l.2.2.toNat)).length<=40000000:=q!
  have C:=R3 j.2;rw[I,AD,AD,AD,AFH j.2,AD,AD,AW (x:=(k:Int)+1)];refine AA (P:=λr=>r=(JJ Tt++Kj ((l.2.1.take (k+1)).take l.2.2.toNat),Kj ((l.2.1.take (k+1)).drop l.2.2.toNat))) ?_ λJ n=>?_;apply AC<;>intro S;have q:k+1<=l.2.2.toNat:=o!
  refine AA (Co (by rw[Fv];omega)) λN u=>AB ?_;grind[List.drop_of_length_le,List.length_take,List.take_of_length_le,R4,List.append_assoc];have q:l.2.2.toNat<=k:=o!
  refine AA (Co (by rw[Fv];omega)) λN u=>AB ?_;rw[u.1,t,dp o!,oS o!,R4]
  ·rw[n];exact An.next ⟨k+1,f,by rw[show(k:Int)+1=((k+1:Nat):Int) by omega]⟩ d!
 subst o;dsimp[len];have A_:∃m:Nat,(if(((Kj (l.2.1.drop l.2.2.toNat)).length:Int)<(if(0>a)then 0 else a))then((Kj (l.2.1.drop l.2.2.toNat)).length:Int)else(if(0>a)then 0 else a))=(m:Int)/\m<=(Kj (l.2.1.drop l.2.2.toNat)).length:=by refine⟨(if(((Kj (l.2.1.drop l.2.2.toNat)).length:Int)<(if(0>a)then 0 else a))then((Kj (l.2.1.drop l.2.2.toNat)).length:Int)else(if(0>a)then 0 else a)).toNat,?_,?_⟩;split<;>split<;>omega;split<;>split<;>omega
 have⟨m,F,G⟩:=A_;rw[F];refine AA (C3 (AX _)) λL c=>?_;have y:(JJ Tt++Kj (l.2.1.take l.2.2.toNat)).length<=40000000:=by
  have:=b (l.2.1.take l.2.2.toNat) λe d=>Iq d;have c:(JJ Tt).length=20:=by rw[Fv];rfl
  rw[Af];rw[BJ]at this;omega
 have z:(Kj (l.2.1.drop l.2.2.toNat)).length<=40000000:=by have:=b (l.2.1.drop l.2.2.toNat) λe d=>Xe d;rw[EY]at this;omega
 refine AA (Co (by have:=c.2;omega)) λM p=>AB ⟨m,?_⟩;rw[p.1,c.1,A5];simp
def AHr{n:Nat}(h:n<=8392):dc 4 (n:Int):=⟨λ_=>q!,o!⟩
def AFI{p q s t:BV}(d:θ p<=8392)(e:θ q<=8392)(h:JJ p++s=JJ q++t):p=q/\s=t:=by
 have c:θ p=θ q:=by have a:=h;unfold JJ at a;simp at a;have:=(ML a (by rw[A3,A3])).1;have:=ZU g! (AHr d) (AHr e) this;omega
 have⟨b,f⟩:=ML h (by rw[Fv,Fv,c]);have g:=(ML b q!).2;grind[List.append_inj]
def AHI{b:List AE}{t y z:BV}{d:Nat}(hn:θ b<=4096)(D_:∀(i:Nat)(e:AE),b[i]?=δ e->e.1=1+i/\L3 e)(G:t++y=Kj b)(M:t=Kj (b.take d)++z):An (JO (JJ Tt++t)) λr=>r.2=0->∃k:Nat,k<=θ b/\min d (θ b)<=k/\r.1=(1,b.take k,(k:Int)):=by
 have S:=qu (l:=b) λe A_=>by obtain⟨k,m⟩:=HC.1 A_;exact(D_ k e m).2
 have U:θ t<=40000000:=by have:=E! θ G;rw[Af]at this;omega
 have C:(JJ Tt).length=20:=by rw[Fv];rfl
 have W:(JJ Tt++t).length<=50000000:=by rw[Af];omega
 unfold JO;have o:CV (JJ Tt++t,0)=δ (Tt,20,0):=by refine(VL (a:=[]) (t:=JJ Tt++t) w!).trans (E! δ ?_);rw[lg g!];rfl
 rw[o,AD];dsimp only;rw[show((0:Int) !=0)=η by decide,A!,show(len Tt !=12)=η by decide,A!,show Ui Tt 0 4=δ [80,77,76,71]from rfl,AD,H!,A!,AFJ,AD];dsimp only;rw[F! g!,A!,F! g!,A!,show wi ((1:Int)-1)=0 from rfl];refine AA (P:=λr=>∃k:Nat,k<=θ b/\min d (θ b)<=k/\((∃u,r=.inl u/\u.2=(1,b.take k,(k:Int)))\/∃u,r=.inr u/\(u.2.1,u.1,u.2.2.1)=(1,b.take k,(k:Int)))) ?_ λr hr=>?_
 ·refine Cb (λ(s:Int×List AE×Int×Int×AZ)=>∃(k:Nat)(z:AZ)(c:BV),k<=θ b/\s=(((JJ Tt++Kj (b.take k)).length:Int),b.take k,1,(k:Int),z)/\t=Kj (b.take k)++c) (λs=>θ b-θ s.2.1) ⟨0,(0,[],0),t,Bo _,by simp[Kj,C],by simp[Kj]⟩ ?_;rintro s ⟨k,z,c,m,rfl,hr⟩;have E:(b.take k).length=k:=by rw[BJ];omega
  have H:k<min d (θ b)->∃p R,θ p<=8392/\c=JJ p++R:=λn=>by
   have g:k<θ b:=o!
   have N:b.take d=b.take (k+1)++(b.take d).drop (k+1):=by
    conv=>lhs;rw[<-De (k+1) (b.take d)]
    rw[Ks,QR o!]
   have O:b.take (k+1)=b.take k++[b[k]]:=by rw[CI,As g];rfl
   rw[N,O,mP,R4,A5,A5]at M;exact⟨_,_,R3 (D_ k _ (As g)).2,(ML (hr.symm.trans M) rfl).2⟩
  unfold TZ;dsimp only[len];refine AC (λQ=>?_) (λQ=>An.done ⟨k,m,Nat.le_of_not_lt λn=>?_,.inr ⟨_,rfl,rfl⟩⟩);rotate_left 1;omega;have w:JJ Tt++t=(JJ Tt++Kj (b.take k))++c:=by rw[hr,A5]
  have F:=E! θ w;rw[@Af _ (JJ Tt++Kj (b.take k)) _]at F;have o:CV (JJ Tt++t,((JJ Tt++Kj (b.take k)).length:Int))=δ (UF (JJ Tt++Kj (b.take k)).length c):=by
   conv=>lhs;arg 1;rw[w]
   exact VL o!
  rw[o,AD];refine AK (λB=>An.done ⟨k,m,Nat.le_of_not_lt λn=>?_,.inl ⟨_,rfl,rfl⟩⟩) (λB=>?_);obtain⟨p,R,T,V⟩:=H n;rw[V,lg T]at B;exact B rfl;obtain⟨X_,⟨q,J⟩,Y_⟩:=xL B;have j:Kj b=Kj (b.take k)++Kj (b.drop k):=by rw[<-mP,De]
  have f:c++y=Kj (b.drop k):=by rw[hr,A5,j]at G;exact(ML G rfl).2
  by_cases g:k<θ b
  ·have h:=D_ k _ (As g);rw[Qv g,nT,J,A5]at f;obtain⟨I,Z⟩:=AFI X_ (R3 h.2) f;rw[I,AD0 h.2,AD];dsimp only;rw[show((0:Int) !=0)=η by decide,A!,AW (x:=(k:Int)+1),show(b[k].1 !=(k:Int)+1)=η by rw[h.1];exact bne_eq_false_iff_eq.2 o!,A!];have v:b.take (k+1)=b.take k++[b[k]]:=by rw[CI,As g];rfl
   refine AA (Ac (by rw[Cg,CU];omega)) λv6 L=>An.next ⟨k+1,z,q,g,?_,?_⟩ ?_
   rw[L.1,Y_,I,v,R4,<-A5,Af (bs:=JJ (Bq b[k])),Fv];refine DX ?_ (DX rfl (DX rfl (DX ?_ rfl)));dsimp only;omega;dsimp only;rw[h.1];omega;rw[hr,v,R4,A5,<-I,<-J];dsimp only;rw[L.2.1,E];simp only[Cg,CU];omega
  exfalso;rw[Qx o!]at f;have K:=E! θ f;rw[J,Af,Af,Fv]at K;simp[Kj]at K
 obtain⟨k,m,A_,⟨u,rfl,o⟩|⟨u,rfl,o⟩⟩:=hr;exact BG (AB λ_=>⟨k,m,A_,o⟩);exact Av (AB λ_=>⟨k,m,A_,o⟩)
variable {B:Int->Prop}
def CB(n:Int)(P:List AE)(s:BV):Prop:=∃es t y z,∃d:Nat,s=JJ Tt++t/\t++y=Kj es/\θ es<=4096/\He es/\LI n es/\P=es.take d/\t=Kj (es.take d)++z
def xd{n a:Int}{l:AZ}(h:Dd l)(b:l.1=1)(c:LI n l.2.1):An (Gv (l,a)) (CB n (dl l)):=by
 refine(AE3 h b).mono λr ⟨m,hr⟩=>⟨l.2.1,_,(Kj (l.2.1.drop l.2.2.toNat)).drop m,_,l.2.2.toNat,hr,?_,h.2.2.1,h.num b,c,rfl,rfl⟩
 rw[A5,De,<-mP,De]
def CB.open_{n:Int}{P:List AE}{s:BV}(h:CB n P s):An (JO s) λr=>r.2=0->Dd r.1/\r.1.1=1/\LI n r.1.2.1/\∃m,P=(dl r.1).take m:=by
 obtain⟨b,t,y,z,d,rfl,p,hn,c,g,rfl,j⟩:=h;refine(AHI hn c p j).mono λr hr u=>?_;obtain⟨k,v,o,e⟩:=hr u;rw[e];have w:(b.take k).length=k:=q!
 refine⟨⟨AX _,q!,q!,q!,d!,λi f l=>?_⟩,rfl,?_,min d (θ b),?_⟩;have:=c.take k i f l;exact this;rw[<-De k b]at g;exact g.pre;unfold dl;dsimp only;rw[Cz,Ks,Ks,QR (a:=min d (θ b)) o!,QR o];rcases Nat.le_total d (θ b) with q|q;rw[QR q];rw[Nat.min_eq_right q,BK q,Hi]
def SQB(B:Int->Prop)(n:Int)(s:AS):Prop:=s.1.1=n/\SK B s.1/\Dd s.1.2.2.1/\DJ B s.1.2.2.1 s.2
def SQ(n:Int)(s:AS):Prop:=∃B,SQB B n s
def SQB.sr{n:Int}{s r:AS}(h:SQB B n s)(g:SR B s r):SQ n r:=⟨B,g.1.1.trans h.1,g.1.2.2.1,g.1.2.2.2,g.2⟩
def gB{P:List AE}{x:Bb×BV×Int×Int}(n:CB x.2.2.1 P x.2.1)(o:DP B P x.1):An (Qm x) λr=>r.2=0->SQ x.2.2.1 r.1:=by refine AA n.open_ λu j=>AK (λa=>AB λb=>N! b a) (λc=>?_);obtain⟨f,g,h,m,i⟩:=j c;refine AA (Y6 f g h) λv k=>AK (λa=>AB λb=>N! b a) (λd=>?_);obtain⟨a1,a2,a3,a4,a5⟩:=k d;refine AA (dG (B:=B) f ⟨a2,a3,a4⟩ q! q!) λw l=>AK (λa=>AB λb=>N! b a) (λe=>AB λ_=>?_);obtain⟨p,q,s,t⟩:=l e;exact⟨B,p.trans a1,q,s,DJ.up ⟨g,o.up i⟩ t⟩
def gC{P:List AE}{x:Bb×BV×Int×Int}(b:CB x.2.2.1 P x.2.1)(c:DP B P x.1):An (Qn x) λr=>r.2=0->SQ x.2.2.1 r.1:=by exact AA (gB b c) λd a=>AB a
theorem AHb{n o:BV}{c:Nat}(hn:n.length=256)(p:o.length=256)(h:n.take 8=n.drop 248)(d:o.take 8=o.drop 248)(j:n.take 8=o.take 8->n=o)(b:(n.take c++o.drop c).take 8=(n.take c++o.drop c).drop 248):n.take c++o.drop c=n\/n.take c++o.drop c=o:=by
 have g: ∀i:Nat,(n.take c++o.drop c)[i]? =if i<c then n[i]? else o[i]? :=λi=>by grind
 have q: ∀{l:BV},l.take 8=l.drop 248-> ∀i:Nat,i<8->l[i]? =l[248+i]? :=λ{l} e i a=>by have:=congrArg (λl:BV=>l[i]?) e;rw[JY a,Iu]at this;exact this
 by_cases m:c<8
 ·refine .inr (Is λi=>?_);rw[g i];split
  ·rename_i a;have:=q b i (by omega);rw[g,g,if_pos a,if_neg (by omega),<-q d i (by omega)]at this;exact this
  ·rfl
 ·refine .inl ?_;by_cases k:c<=248
  ·have e:n=o:=j (Is λi=>by
    by_cases a:i<8
    ·have:=q b i a;rw[g,g,if_pos (by omega),if_neg (by omega),<-q d i a]at this;rw[JY a,JY a];exact this
    ·rw[Cf (by rw[BJ];omega),Cf (by rw[BJ];omega)])
   rw[e,De]
  ·refine Is λi=>?_;rw[g i];split
   ·rfl
   ·rename_i a;by_cases f:i<256
    ·have:=q b (i-248) (by omega);rw[g,g,if_pos (by omega),if_neg (by omega),show 248+(i-248)=i by omega,q h (i-248) (by omega),show 248+(i-248)=i by omega]at this;exact this.symm
    ·rw[Cf (by omega),Cf (by omega)]
def AEU:(iZ 256).take 8=(iZ 256).drop 248:=g!
def DP.tear{P:List AE}{d t:Bb}{p:Int}{o n m:BV}{c:Nat}(h:DP B P d)(z:0≤p)(f:B p)(G:DI t)(K:d.1[p.toNat]?=δ o)(J:m=n.take c++o.drop c)(H:t.1=E2 d.1 p m){x:AT}(r:HB x)(hn:n=Hk x)(D_:AGf P p n)(Q:1≤x.2.1)
  (O:∀j,(st (P.take j) p).2.1=x.2.1->st (P.take j) p=x) (M:∀j,HB (st (P.take j) p)):∃A_,DP A_ P t:=by
 have g:=(h.2 _ _ K).1 (by rw[Ir z];exact f);rw[Ir z]at g;have y:∀(i:Nat)(s:BV),i≠p.toNat->t.1[i]?=δ s->d.1[i]?=δ s:=λi s l a=>by rw[H]at a;unfold E2 at a;rwa [DD o!]at a
 have w:∀s:BV,t.1[p.toNat]?=δ s->s=m:=λs a=>by rw[H]at a;unfold E2 at a;grind
 by_cases b:dead m;refine⟨λj=>B j/\j≠p,G,λi s a=>?_⟩;by_cases l:i=p.toNat
 subst l;rw[w s a];exact⟨λf=>N! (Ir z) f.2,.inr b⟩;have:=h.2 i s (y i s l a);exact⟨λf=>this.1 f.1,this.2.imp_left λf=>⟨f,o!⟩⟩;have C:m.take 8=m.drop 248:=by by_cases N:m=iZ 256;rw[N];exact AEU;by_cases L:∃q,HB q/\m=Hk q;obtain⟨q,E,F⟩:=L;rw[F,UB,nM E];exact N! ⟨N,λq E F=>L ⟨q,E,F⟩⟩ b
 have v:o.take 8=o.drop 248/\(n.take 8=o.take 8->n=o):=by rcases g with rfl|⟨j,rfl⟩;refine⟨AEU,λe=>?_⟩;rw[hn,UB]at e;have:=ZU (k:=8) (n:=x.2.1) (m:=0) g! ⟨n!,by have:=r.2.2.1;omega,by have:=r.2.2.2.1;omega⟩ ⟨n!,g!,g!⟩ e;omega;refine⟨UB.trans (nM (M j)).symm,λe=>?_⟩;rw[hn,UB,UB]at e;have I:=M j;have:=ZU (k:=8) g! ⟨n!,by have:=r.2.2.1;omega,by have:=r.2.2.2.1;omega⟩ ⟨n!,by have:=I.2.2.1;omega,by have:=I.2.2.2.1;omega⟩ e;rw[hn,O j this.symm]
 have u:=AHb (c:=c) (by rw[hn];exact bw r) (h.1.2.1 _ _ K) (by rw[hn,UB,nM r]) v.1 v.2 (by rw[<-J];exact C);rw[<-J]at u;refine⟨B,G,λi s a=>?_⟩;by_cases l:i=p.toNat
 subst l;rw[w s a,Ir z];refine⟨λ_=>?_,.inl f⟩;rcases u with e|e<;>rw[e];exact D_;exact g;exact h.2 i s (y i s l a)
def dI{x:AS×Int×Int×Int}(h:SK B x.1.1)(D_:Dd x.1.1.2.2.1)(v:DJ B x.1.1.2.2.1 x.1.2):An (Li x) λr=>∃A_ P,DP A_ P r.1/\CB x.1.1.1 P r.2:=by
 unfold Li;refine AA FJ λi Q=>AC (λO=>?_) (λ_=>AA (xd D_ v.1 h.ki.1) λL E=>AB (⟨B,dl x.1.1.2.2.1,v.2,E⟩:∃A_ P,DP A_ P x.1.2/\CB x.1.1.1 P L));have⟨J,f,G,m⟩:=Q.2.2.1 O;obtain⟨g,M,Y_,c⟩:=AI O Q.2.1;have e:=BH (Y_.symm.trans G);subst e;dsimp only at M m c;rw[M];refine A6 (AA (P:=λr:AP×Bb=>(∃A_,DP A_ (dl r.1.2.2.1) r.2)/\Dd r.1.2.2.1/\r.1.2.2.1.1=1/\LI x.1.1.1 r.1.2.2.1.2.1) ?_ λv8 W=>?_);rotate_left 1;obtain⟨⟨A_,R⟩,S,T,N⟩:=W;refine AA (xd S T N) λv9 X_=>AB ?_;exact⟨A_,dl v8.1.2.2.1,R,X_⟩;refine AJ (λF=>?_) (λ_=>?_);rotate_left 1;apply AB;exact⟨⟨B,v.2⟩,D_,v.1,h.ki.1⟩;have⟨t,n,_⟩:=J.2.2.2.2.2.1 i.toNat g (by have:=Cd G;omega) G;have n:=n F;apply A6;rw[Vt t];refine A6 (A6 (AA (Jn h D_) λu a=>AA (fb v.2.1) λv6 U=>?_));have b:=v.up a.1.2.1;have q:=h.ki.2.2 g c;have K:=a.1.2.2.1.num b.1;have N:=a.1.2.2.1.2.2.1;have C:=a.1.2.2.2.2.2.ki;have s:g.1=st u.2.2.1.2.1 x.2.2.1:=by have:=(C.2.1 x.2.2.1 o! (by rw[a.1.1];dsimp only;omega)).1 g (by rw[a.2.1];exact c) m;exact this
 have I:=WG K (p:=x.2.2.1) ⟨o!,by rw[<-m];exact t.2.1⟩ o!;have y:BQ u.2.2.1.2.1 x.2.2.1=g.1.2.1:=by rw[<-J5,<-s]
 have w:=a.2.2 (by have:=kW D_ g.1.1;have:=E! (λz=>z.2.1) ((h.ki.2.1 g.1.1 q.1 q.2.1).1 g c rfl);rw[J5]at this;dsimp only;omega);refine AA (P:=λd=>∃A_,DP A_ (dl u.2.2.1) d) (AQ (λZ=>AB ?_) (λ_=>AB ⟨B,b.2⟩)) λv7 V=>AB ⟨V,a.1.2.2.1,b.1,by have:=C.1;rw[a.1.1]at this;exact this⟩;obtain⟨t1,o,t2,t3,t4⟩:=U Z;refine b.2.tear t2 (by rw[<-m];exact q.2.2.2) t1 t3 rfl t4 t rfl ?_ o! (λj H=>?_) λj=>?_;refine .inr ⟨(dl u.2.2.1).length,?_⟩;rw[Hi];unfold dl;dsimp only at w⊢;rw[AEJ K o!,<-s];unfold dl at H⊢;rw[Ks]at H⊢;rw[s,<-Hi (l:=u.2.2.1.2.1)];rw[Hi];have:=kh K (p:=x.2.2.1) (j:=min j u.2.2.1.2.2.toNat) (k:=θ u.2.2.1.2.1) (by rw[Hi,y,<-H,J5]);rwa [Hi]at this;unfold dl;rw[Ks];exact I _
def EX{x:Int}:An (Du x) λr=>True:=by exact AK (λ_=>AA Bp λ_ _=>AB trivial) (λ_=>AB trivial)
end Go.Pm
namespace Go.Pm
open Go Go.Ab
def aW{m:Nat}{c:AS×Bool}{s:Int×List Int×AS×Bool}(i:m<=16777216)(h:0<=s.1/\s.1<=m/\θ s.2.1=m/\s.2.2=c):An (Aa O6 s) λr=>θ r.1=m/\r.2=c:=by refine AU (λ(s:Int×List Int×AS×Bool)=>0<=s.1/\s.1<=m/\θ s.2.1=m/\s.2.2=c) (λ(s:Int×List Int×AS×Bool)=>((m:Int)-s.1).toNat) h (λs g=>?_);obtain⟨b,j,d,f⟩:=g;unfold O6;have e:=AW (x:=s.1+1);rw[e];refine AC (λa=>?_) (λ_=>AB ⟨d,f⟩);simp only[len]at a;refine AA (AI b a) λ_ _=>AA (AI b a) λ_ _=>AB ⟨⟨d!,d!,by simp[E2,d],f⟩,d!⟩
def iW{n:Int}{x:AS×List Kq}(h:SQ n x.1):An (Nk x) λr=>SQ n r.1:=by
 unfold Nk;refine AA (P:=λr=>SQ n r.2.2.2.1) ?_ λr hr=>AB hr;refine AU (λ(s:Int×List BS×List Int×List Im×AS×Bool)=>0<=s.1/\s.1<=1000/\θ s.2.1<=s.1/\θ s.2.2.1<=s.1/\θ s.2.2.2.1<=s.1/\SQ n s.2.2.2.2.1) (λ(s:Int×List BS×List Int×List Im×AS×Bool)=>(1000-s.1).toNat) ⟨AX _,d!,k!,k!,k!,h⟩ (λs hI=>?_);obtain⟨i1,i2,i3,i4,i5,o⟩:=hI;obtain⟨B,i⟩:=id o;obtain⟨W,q,E,y⟩:=id i;unfold UX;refine AC (λV=>?_) (λ_=>AB o);refine AC (λad=>?_) (λ_=>AB o);refine AO (λ_=>?_) (λ_=>AB o);simp only[len]at V;have e:=AW (x:=s.1+1);have b:∀(v:BS)(t:List Int×List Im×AS×Bool),θ t.1<=s.1+1->θ t.2.1<=s.1+1->SQ n t.2.2.1->∀Q:Step (Int×(List BS×(List Int×(List Im×(AS×Bool))))) (List BS×(List Int×(List Im×(AS×Bool))))->Prop,(∀a:Int×List BS×List Int×List Im×AS×Bool,(0<=a.1/\a.1<=1000/\θ a.2.1<=a.1/\θ a.2.2.1<=a.1/\θ a.2.2.2.1<=a.1/\SQ n a.2.2.2.2.1)/\(1000-a.1).toNat<(1000-s.1).toNat->Q (.next a))->An (σ (app s.2.1 ([v]:List (Int×(Int×(Int×((Bool×BV)×Int)))))) λG=>δ (.next (wi (s.1+1),G,t))) Q:=by intro v t h1 T J Q L;refine AA (Ac w!) λG h7=>AB (L _ ?_);have l7:=h7.2.1;simp only[Cg,CU]at l7;rw[e];exact⟨⟨d!,d!,d!,d!,d!,J⟩,d!⟩
 have same:∀(v:BS)(Q:Step (Int×(List BS×(List Int×(List Im×(AS×Bool))))) (List BS×(List Int×(List Im×(AS×Bool))))->Prop),(∀a:Int×List BS×List Int×List Im×AS×Bool,(0<=a.1/\a.1<=1000/\θ a.2.1<=a.1/\θ a.2.2.1<=a.1/\θ a.2.2.2.1<=a.1/\SQ n a.2.2.2.2.1)/\(1000-a.1).toNat<(1000-s.1).toNat->Q (.next a))->An (σ (app s.2.1 ([v]:List (Int×(Int×(Int×((Bool×BV)×Int)))))) λG=>δ (.next (wi (s.1+1),G,s.2.2))) Q:=λv Q L=>b v s.2.2 o! o! o Q L;refine AA (AI i1 V) λv1 _=>AQ (λ_=>?_) (λ_=>?_);refine AA (dH q E y) λv2 T=>AA (P:=λr=>θ r.1<=s.1+1/\r.2=s.2.2.2.2) ?_ λv4 U=>?_;refine AQ (λ_=>?_) (λ_=>AB ⟨d!,rfl⟩);refine AA (Ac w!) λv3 J=>AB ⟨?_,rfl⟩;have:=J.2.1;simp at this;dsimp only;omega;refine AA (P:=λr=>SQ n r.1) ?_ λv5 Z=>?_;refine AQ (λf=>AB (i.sr (T f))) (λ_=>AB (by rw[U.2];exact o));refine AA EX λv6 _=>b _ (v4.1,s.2.2.2.1,v5) U.1 d! Z _ (λ_ h=>h);refine AQ (λ_=>?_) (λ_=>?_);refine AC (λ_=>AA Bp λS _=>same _ _ (λ_ h=>h)) (λc1=>AC (λ_=>AA Bp λS _=>same _ _ (λ_ h=>h)) (λX_=>?_));simp only[len]at X_;have Y_:=AW (x:=v1.2.1-1);rw[Y_];refine AA (AI) λaf _=>AA (AI) λag _=>AQ (λ_=>AA Bp λS _=>same _ _ (λ_ h=>h)) (λ_=>AA (AI) λal _=>AA (AI) λao _=>AA (jh q E y) λM H=>?_);have w:=i.sr H;refine AQ (λ_=>same _ _ (λ_ h=>h)) (λ_=>AQ (λ_=>?_) (λ_=>?_));refine AA (P:=λr=>θ r.1<=s.1+1/\SQ n r.2.1) ?_ λN C=>b _ (s.2.2.1,N) d! C.1 C.2 _ (λ_ h=>h);refine AQ (λ_=>?_) (λ_=>AB ⟨d!,w⟩);refine AA GR λap _=>AA (Ac w!) λar I=>AB ⟨?_,w⟩;have:=I.2.1;simp at this;dsimp only;omega;exact b _ (s.2.2.1,s.2.2.2.1,M.1,s.2.2.2.2.2) d! d! w _ (λ_ h=>h);refine AQ (λ_=>?_) (λ_=>?_);refine AA (dJ q E y) λF j=>AA (P:=λr=>SQ n r.1) (AQ (λf=>AB (i.sr (j f))) (λ_=>AB o)) λg d=>AA EX λz _=>b _ (s.2.2.1,s.2.2.2.1,g) d! d! d _ (λ_ h=>h);refine AQ (λ_=>?_) (λ_=>?_);refine AA (Wf q y) λF j=>AA (P:=λr=>SQ n r.1) (AQ (λf=>AB (i.sr (j f))) (λ_=>AB o)) λg d=>AA EX λz _=>b _ (s.2.2.1,s.2.2.2.1,g) d! d! d _ (λ_ h=>h);refine AQ (λ_=>?_) (λ_=>?_);refine AA GR λax _=>AA Jk λa0 k=>AA (P:=λr=>SQ n r.1) (AQ (λf=>AB ⟨B,W,SB.sk q.sb (q.ki.of rfl (k f).2.1 rfl rfl),(k f).1,y.up (LX.of (k f).2.2.1 (k f).2.1 (k f).2.2.2.1)⟩) (λ_=>AB o)) λg d=>AA EX λz _=>b _ (s.2.2.1,s.2.2.2.1,g) d! d! d _ (λ_ h=>h);refine AQ (λ_=>?_) (λ_=>?_);refine AA (dI q E y) λa1 ⟨A_,P,D_⟩=>AA (gC D_.2 D_.1) λO K=>AA (aW (m:=θ s.2.2.1) (c:=s.2.2.2.2) o! ⟨AX _,d!,rfl,rfl⟩) λp u=>AK (λ_=>?_) (λf=>?_);refine AA EX λR _=>b _ (p.1,s.2.2.2.1,p.2.1,ζ) (by have:=u.1;dsimp only;omega) d! (by dsimp only;rw[u.2];exact o) _ (λ_ h=>h);refine AA EX λR _=>?_;have l:=K f;dsimp only at l;rw[W]at l;exact b _ (p.1,s.2.2.2.1,O.1,p.2.2) (by have:=u.1;dsimp only;omega) d! l _ (λ_ h=>h);refine AQ (λ_=>?_) (λ_=>?_);refine AA (gD q E y) λF j=>AA (P:=λr=>SQ n r.1) (AQ (λf=>AB (i.sr (j f))) (λ_=>AB o)) λg d=>AA EX λz _=>b _ (s.2.2.1,s.2.2.2.1,g) d! d! d _ (λ_ h=>h);exact AA Bp λS _=>same _ _ (λ_ h=>h)
def CX(b:Ak):Prop:=0<=b.2/\θ b.1<=16777216/\∀x∈b.1,0<=x/\x<256
def CX.step{b:Ak}(h:CX b)(a:b.2<θ b.1):CX (b.1,wi (b.2+1)):=by have⟨a1,a2,a3⟩:=h;rw[(AW (x:=b.2+1))];exact⟨d!,a2,a3⟩
def Vd{b:Ak}(h:CX b):An (G9 b 256) λr=>CX r.2/\0<=r.1/\r.1<256:=by unfold G9;refine AC (λ_=>AB ⟨h,AX _,by show(0:Int)<256;decide⟩) (λa=>?_);simp[len]at a;refine AC n! (λ_=>AA (AI h.1) λc d=>?_);have⟨f,g⟩:=h.2.2 c d.2;have e:=AW (x:=c);refine AC n! (λ_=>AQ n! (λ_=>AB ⟨h.step o!,?_,?_⟩));grind[Int.tmod_nonneg];grind[Int.tmod_lt_of_pos]
theorem BL{b:Ak}{x:Int}(h:CX b)(j:x<=4611686018427387904):An (BF b x) λr=>CX r.2/\0<=r.1/\(r.1=0\/r.1<x):=by unfold BF;refine AC (λ_=>AB ⟨h,AX _,.inl rfl⟩) (λa=>?_);simp[len]at a;refine AC (λ_=>AB ⟨h,AX _,.inl rfl⟩) (λf=>AA (AI h.1) λc e=>?_);have⟨d,g⟩:=h.2.2 c e.2;rw[(AW (x:=c))];refine AC (λ_=>?_) (λ_=>?_);refine AA (Vd (h.step o!)) λk i=>?_;grind[AQ,AB,AW,Int.tmod_nonneg,Int.tmod_lt_of_pos];refine AQ (λa=>N! a o!) (λ_=>AB ⟨h.step o!,Int.tmod_nonneg _ d,.inr (Int.tmod_lt_of_pos _ o!)⟩)
def W5{b:Ak}{x:Unit}(h:CX b):An (IG b x) λr=>CX r.2:=by unfold IG;refine AA (BL h g!) λt e=>AA (BL e.1 g!) λu m=>AA (P:=λr=>CX r.2/\0<=r.1/\r.1<=14) ?_ λc f=>?_;grind[AQ,AB,AA,BL];have⟨d,a,k⟩:=f;refine AA (P:=λl:List Int=>θ l=0) ⟨_,C! ⟨AX _,a,o!⟩,k!⟩ λv n=>AA (P:=λr=>CX r.2) ?_ λw g=>AB g;refine AU (λ(s:Int×List Int×Ak)=>0<=s.1/\s.1<=c.1/\θ s.2.1<=s.1/\CX s.2.2) (λ(s:Int×List Int×Ak)=>(c.1-s.1).toNat) ⟨AX _,a,d!,d⟩ (λs i=>?_);have⟨o,p,q,j⟩:=i;unfold PS;rw[(AW (x:=s.1+1))];refine AC (λ_=>?_) (λ_=>AB j);grind[AA,BL,Ac,AB,List.length_cons,List.length_nil]
theorem X0{b:Ak}{x:Unit}(h:CX b):An (G3 b x) λr=>CX r.2:=by unfold G3;refine AA (BL h g!) λf a=>AQ (λ_=>AA (BL a.1 g!) λe c=>AB c.1) (λ_=>AQ (λ_=>?_) (λ_=>AA (BL a.1 g!) λe c=>AB c.1));refine AA (BL a.1 g!) λg d=>?_;have:=d.2.2;refine AA (AI d.2.1 w!) λ_ _=>?_;grind[AA,AI,AB]
theorem V4{b:Ak}{x:Int}(h:CX b)(u:x<=1099511627776):An (HX b x) λr=>CX r.2:=by
 unfold HX;refine AA (BL h g!) λv a=>?_;have l:=a.2.2;refine AA (AI a.2.1 w!) λ_ _=>AA (AI a.2.1 w!) λw _=>AA (P:=λ_=>True) (AJ (λ_=>AB trivial) (λ_=>AA (P:=λ_=>True) (AJ (λ_=>AB trivial) (λ_=>AB trivial)) λ_ _=>AB trivial)) λy _=>AA (P:=λr=>CX r.1) ?_ λp e=>?_;refine AJ (λ_=>?_) (λ_=>?_);refine AA (BL a.1 o!) λz m=>AA (BL m.1 g!) λA j=>AA (P:=λr=>CX r.1) ?_ λt i=>AB i;refine AJ (λ_=>?_) (λ_=>AB j.1);refine AA (W5 j.1) λc n=>?_;have k:0<=(if(12<(len c.1))then 12 else(len c.1))/\(if(12<(len c.1))then 12 else(len c.1))<=θ c.1:=by simp[len];split<;>omega
 exact AA (C3 (AX _) k.1 k.2) λB _=>AB n;refine AA (P:=λr=>CX r.1) ?_ λt i=>AB i;exact AJ (λ_=>AA (BL a.1 g!) λo d=>AB d.1) (λ_=>AB a.1);refine AA (BL e g!) λq f=>AA (P:=λr=>CX r.1) ?_ λs g=>AB g;refine AJ (λ_=>?_) (λ_=>AB f.1);grind[AA,X0,AB]
theorem W6{b:Ak}{x:Int×Int×Bool}(h:CX b)(f:0<=x.1/\x.1<=64/\x.2.1<=64):An (IH b x) λr=>CX r.2:=by unfold IH;rw[(AW (x:=x.1+1))];refine AA (BL h g!) λg a=>AA (P:=λ_=>True) (AJ (λ_=>AB trivial) (λ_=>AB trivial)) λi _=>AJ (λ_=>AB a.1) (λ_=>AJ (λ_=>AA (BL a.1 o!) λj c=>AB c.1) (λ_=>AJ (λ_=>AB a.1) (λ_=>AJ (λ_=>AB a.1) (λ_=>AA (P:=λs=>(∃u,s=.inl u/\CX u.1)\/∃u,s=.inr u/\CX u.1) ?_ λs e=>?_))));refine AJ (λ_=>?_) (λ_=>AJ (λ_=>AB (.inl ⟨_,rfl,a.1⟩)) (λ_=>AB (.inr ⟨_,rfl,a.1⟩)));refine AJ (λ_=>?_) (λ_=>AB (.inr ⟨_,rfl,a.1⟩));refine AA (BL a.1 g!) λk d=>?_;grind[AA,BL,AB];grind[BG,AB,Av,AA,BL,V4]
def Un{b:Ak}{x:Int×Int×Bool}(h:CX b)(g:0<=x.1/\x.1<=64/\x.2.1<=1000/\ -1000<=x.2.1):An (Gn b x) λr=>CX r.2:=by unfold Gn;rw[(AW (x:=x.2.1+1))];refine AA (BL h o!) λk a=>?_;have c:=a.2.2;refine AA (P:=λr=>CX r.2) ?_ λl d=>AB d;refine AU (λ(s:Int×List Kq×Ak)=>0<=s.1/\s.1+θ s.2.1<=1010/\CX s.2.2) (λ(s:Int×List Kq×Ak)=>s.1.toNat) ⟨a.2.1,w!,a.1⟩ (λs e=>?_);have⟨i,j,f⟩:=e;unfold MU;rw[(AW (x:=s.1-1))];refine AC (λ_=>?_) (λ_=>AB f);grind[AA,W6,Ac,AB,List.length_cons,List.length_nil]
variable {B:Int->Prop}
def uO:Dd (1,[],0):=⟨g!,g!,k!,g!,k!,λi e h=>by simp at h⟩
def iP{x:Unit}:An (KC x) λr=>r=(1,[],0):=by unfold KC;exact AB rfl
def iU{x:Int×Int}(h:1<=x.1/\x.1<=64/\1<=x.2/\x.2<=64):An (Gk x) λr=>r.2=0/\r.1.1=x.1/\SK (λ_=>True) r.1/\Dd r.1.2.2.1/\r.1.2.2.1.1=1:=by unfold Gk;refine AC (λa=>N! a o!) (λ_=>AC (λa=>N! a o!) (λ_=>AC (λa=>N! a o!) (λ_=>AC (λa=>N! a o!) (λ_=>AA Pp λf c=>AA Pq λg d=>AA iP λi b=>AB ⟨rfl,rfl,⟨⟨k!,k!⟩,k!,k!,?_⟩,?_⟩))));unfold KI FD;dsimp only;rw[c,b];refine⟨LI.nil _,λp _ _=>⟨k!,k!,λw e=>?_⟩,k!⟩;have:=d w (BM e);exact⟨by rw[this];exact AX _,λ_ _=>this⟩;dsimp only;rw[b];exact⟨uO,rfl⟩
def AFB{x:Int}(h:1<=x/\x<=64):An (Fb x) λr=>r.2=0:=by unfold Fb;refine AC (λa=>N! a o!) (λ_=>AC (λa=>N! a o!) (λ_=>AA (M8 o!) λb _=>AB rfl))
def iV{x:Int×Int}(h:1<=x.1/\x.1<=64/\1<=x.2/\x.2<=64):An (Nj x) λr=>SQ x.1 r.1:=by unfold Nj;refine AA (iU h) λe a=>AK (λc=>N! a.1 c) (λ_=>AA ((iN).and (AFB ⟨h.1,h.2.1⟩)) λf b=>AK (λc=>N! b.2 c) (λ_=>AB ?_));exact⟨_,a.2.1,a.2.2.1,a.2.2.2.1,a.2.2.2.2,(b.1 b.2).1,λi s d=>⟨λ_=>.inl (((b.1 b.2).2.2 i s d).trans (lM _)),.inl trivial⟩⟩
def Ve{b:Ak}{x:Int×Bool}(h:CX b)(c:x.1<=1000/\ -1000<=x.1):An (HA b x) λr=>CX r.2/\∃n,1<=n/\n<=4/\SQ n r.1:=by unfold HA;refine AA (BL h g!) λl a=>AA (BL a.1 g!) λm g=>?_;obtain⟨a1,a2,a3⟩:=a;obtain⟨d,o,p⟩:=g;have e:=AW (x:=1+l.1);have f:=AW (x:=1+m.1);rw[e,f];refine AA (iV d!) λq i=>AA (Un d ⟨d!,d!,c.1,c.2⟩) λs j=>AA (iW i) λt k=>AB ⟨j,_,d!,d!,k⟩
def OO{b:Ak}{x:Int×Bool}(h:CX b)(d:x.1<=1000/\ -1000<=x.1):An (HY b x) λr=>CX r.2/\1<=r.1.1/\r.1.1<=4/\LI r.1.1 r.1.2.2.1.2.1/\Dd r.1.2.2.1/\r.1.2.2.1.1=1:=by unfold HY;refine AA (Ve h d) λl a=>AB ?_;obtain⟨c,n,i,j,_,k,e,f,g⟩:=a;exact⟨c,d!,d!,e.ki.1,f,g.1⟩
end Go.Pm
namespace Go.Pm
open Go Go.Ab
def Ge{x:Int×Int×Int×Int×Int}:An (HT x) λr=>r=ζ↔1<=x.1/\x.1<=x.2.1/\x.2.1<=1099511627776/\0<=x.2.2.1/\x.2.2.1<=x.2.2.2.1/\x.2.2.2.1<64/\0<=x.2.2.2.2/\x.2.2.2.2<=8:=by
 unfold HT;exact x!
theorem MG{x:AE×AE}:An (Cu x) λr=>True:=by
 unfold Cu;exact x!
def P8{x:List AE×AE}{s:Int}(h:0<=s/\s<=θ x.1/\(θ x.1:Int)<=16777216):An (Aa (Gd x) s) λr=>0<=r/\r<=θ x.1:=by
 refine AU (λ(s:Int)=>0<=s/\s<=θ x.1/\(θ x.1:Int)<=16777216) (λ(s:Int)=>((θ x.1:Int)-s).toNat) h (λs a=>?_);unfold Gd;exact x!
theorem aY{x:List AE×AE}(h:θ x.1<=16777215):An (CD x) λr=>θ r.1<=θ x.1+1:=by
 refine AA (P8 ⟨AX _,o!⟩) λp a=>?_;have main:An (σ (WJ x.1 0 p) λb=>
  σ (WJ x.1 p (len x.1)) λc=>
  σ (app [] b) λd=>
  σ (app d ([x.2]:List (Int×(Int×(Int×(Int×(Int×(Int×((Int×(Int×((Bool×BV)×(Bool×BV))))×BV))))))))) λe=>
  σ (app e c) λf=>
  δ (f,ζ)) λr=>θ r.1<=θ x.1+1:=by
  refine AA (CA (AX _) a.1 a.2) λj g=>AA (CA a.1 q! q!) λk i=>?_;grind[AA,Ac,AB]
 refine AC (λl=>?_) (λ_=>main);grind[AA,AI,MG,AQ,AB]
def YN{x:AY}{s:Int}(h:0<=s/\s<=θ x.2.2.2.2.2/\(θ x.2.2.2.2.2:Int)<=16777216):An (Aa (G4 x) s) λr=>r≠.inl ζ:=by
 refine AU (λ(s:Int)=>0<=s/\s<=θ x.2.2.2.2.2/\(θ x.2.2.2.2.2:Int)<=16777216) (λ(s:Int)=>((θ x.2.2.2.2.2:Int)-s).toNat) h (λs b=>?_);unfold G4;exact x!
def gv(x:AY):Prop:=1<=x.1/\x.1<=x.2.1/\x.2.1<=1099511627776/\0<=x.2.2.1/\x.2.2.1<=x.2.2.2.1/\x.2.2.2.1<64/\0<=x.2.2.2.2.1/\x.2.2.2.2.1<=8/\θ x.2.2.2.2.2<=4096
def Ti{x:AY}:An (Eg x) λr=>r=ζ->gv x:=by refine AA Ge λe b=>AO (λ_=>AB λa=>by cases a) (λc=>?_);have hn:=b.1 c;refine AC (λ_=>AB λa=>by cases a) (λd=>?_);simp[len]at d;refine AA (YN ⟨AX _,o!⟩) λr hr=>?_;grind[gv,A9,AB]
def RY{x:List AE×Int×Int×Int×Int×Int}{s:Int×AY}(h:0<=s.1/\s.1<=θ x.1/\θ x.1<=16777215):An (Aa (HQ x) s) λr=>∀u,r=.inl u->u.1≠0:=by
 refine AU (λ(s:Int×AY)=>0<=s.1/\s.1<=θ x.1/\θ x.1<=16777215) (λ(s:Int×AY)=>((θ x.1:Int)-s.1).toNat) h (λs b=>?_);unfold HQ;exact x!
def RZ{a:Bool×Int×AY}{b:AE}{s:Bool×Int}(h:0<=s.2/\s.2<=θ a.2.2.2.2.2.2.2/\θ a.2.2.2.2.2.2.2<=16777215):An (Aa (HS a b) s) λr=>True:=by
 refine AU (λ(s:Bool×Int)=>0<=s.2/\s.2<=θ a.2.2.2.2.2.2.2/\θ a.2.2.2.2.2.2.2<=16777215) (λ(s:Bool×Int)=>((θ a.2.2.2.2.2.2.2:Int)-s.2).toNat) h (λs c=>?_);unfold HS;exact x!
def gG{x:List AE×Int×Int×Int×Int×Int}(h:θ x.1<=16777215):An (F8 x) λr=>r.2=0->gv r.1:=by
 refine AA Ge λp _=>AO (λ_=>AB n!) (λ_=>AA (RY ⟨AX _,q!,h⟩) λq g=>A9 (λu e=>AB λa=>N! a (g u e)) (λu e=>AA (P:=λr=>θ r.2.2.2.2.2.2<=16777215) ?_ λl f=>?_));refine AU (λ(s:Bool×Int×AY)=>0<=s.2.1/\s.2.1<=θ x.1/\θ s.2.2.2.2.2.2.2<=s.2.1) (λ(s:Bool×Int×AY)=>((θ x.1:Int)-s.2.1).toNat) ⟨AX _,q!,k!⟩ (λs i=>?_);have⟨j,n,o⟩:=i;unfold Fu;rw[(AW (x:=s.2.1+1))];refine AC (λc=>?_) (λ_=>AB q!);simp[len]at c;have b:((0<=s.2.1+1/\s.2.1+1<=θ x.1/\θ s.2.2.2.2.2.2.2<=s.2.1+1)/\((θ x.1:Int)-(s.2.1+1)).toNat<((θ x.1:Int)-s.2.1).toNat):=⟨o!,o!⟩
 refine AA (AI j c) λt _=>AA Bs λv _=>AO (λ_=>AB b) (λ_=>AC (λ_=>AB b) (λ_=>AC (λ_=>AB b) (λ_=>AC (λ_=>AB b) (λ_=>AC (λ_=>AB b) (λ_=>AA (RZ ⟨AX _,q!,o!⟩) λk _=>?_)))));grind[AA,aY,AB];refine AJ (λ_=>AB n!) (λ_=>AC (λ_=>AB n!) (λ_=>AA Ti λm d=>AO (λ_=>AB n!) (λc=>AB λ_=>d c)))
def gF{x:AY}:An (HP x) λr=>True:=by
 unfold HP;exact x!
def aX{x:AY}:An (Hz x) λr=>θ r.1<=1099511627776:=by refine AA Ti λk b=>AO (λ_=>AB k!) (λa=>?_);have h:=(b a).2.2.2.2.2.2.2.2;refine AA gF λl _=>AA TW λm g=>AA (P:=λr:BV=>θ r<=1099511627776) ?_ λo c=>AB c;refine AU (λ(s:BV×Int)=>0<=s.2/\s.2<=θ x.2.2.2.2.2/\θ s.1<=8408*s.2+8408) (λ(s:BV×Int)=>((θ x.2.2.2.2.2:Int)-s.2).toNat) ⟨AX _,q!,q!⟩ (λs d=>?_);have⟨f,i,j⟩:=d;have e:=AW (x:=s.2+1);refine AC (λa=>?_) (λ_=>AB o!);refine AA (AI f a) λn _=>?_;grind[AA,aG,TW,Co,AB]
def SA(a:AM):Prop:=θ a.1<=16/\θ a.2.2.1<=16777216/\∀f∈a.2.2.1,θ f.2.2<=1099511627776
def VA(a:AM):Prop:=1<=a.2.1/\a.2.1<=64/\1<=θ a.1/\θ a.1<=16/\1<=a.2.2.2.1/\a.2.2.2.1<=1099511627777/\1<=a.2.2.2.2/\a.2.2.2.2<=1073741825/\θ a.2.2.1<=256
def aZ{x:Int×List Int}:An (FL x) λr=>r=ζ->1<=x.1/\x.1<=64/\1<=θ x.2/\θ x.2<=16:=by unfold FL;refine AC (λ_=>AB λa=>by cases a) (λh=>AC (λ_=>AB λa=>by cases a) (λi=>AC (λ_=>AB λa=>by cases a) (λb=>AC (λ_=>AB λa=>by cases a) (λc=>?_))));simp only[len]at b c;refine AA (AI (AX _)) λk _=>AK (λ_=>AB λa=>by cases a) (λ_=>AA (P:=λ_=>True) ?_ λr _=>?_);refine AU (λ(s:Int)=>1<=s/\s<=θ x.2) (λ(s:Int)=>((θ x.2:Int)-s).toNat) ⟨AX _,o!⟩ (λs j=>?_);unfold MI;have d:=AW (x:=s-1);have f:=AW (x:=s+1);rw[d,f];refine AC (λg=>?_) (λ_=>AB trivial);simp only[len]at g;refine AA (AI) λ_ _=>AA (AI) λ_ _=>AC (λ_=>AB trivial) (λ_=>AB ⟨o!,o!⟩);refine A9 (λu _=>AB λ_=>o!) (λu _=>?_);have e:=AW (x:=len x.2-1) i!;rw[e];exact AA (AI i! i!) λl _=>AB λ_=>o!
def YO{x:AM}{s:Int×Int}(h:0<=s.2/\s.2<=θ x.2.2.1/\θ x.2.2.1<=256):An (Aa (JD x) s) λr=>r≠.inl ζ:=by
 refine AU (λ(s:Int×Int)=>0<=s.2/\s.2<=θ x.2.2.1/\θ x.2.2.1<=256) (λ(s:Int×Int)=>((θ x.2.2.1:Int)-s.2).toNat) h (λs b=>?_);unfold JD;exact x!
def OG{x:AM}:An (DQ x) λr=>r=ζ->VA x:=by
 unfold DQ;refine AA aZ λi c=>AO (λ_=>AB λa=>by cases a) (λd=>?_);obtain⟨a1,a2,a3,a4⟩:=c d;refine AC (λ_=>AB λa=>by cases a) (λe=>AC (λ_=>AB λa=>by cases a) (λf=>AC (λ_=>AB λa=>by cases a) (λg=>AC (λ_=>AB λa=>by cases a) (λh=>AC (λ_=>AB λa=>by cases a) (λb=>?_)))));simp only[len]at b;refine AA (YO ⟨AX _,d!,o!⟩) λr hr=>?_;have q:VA x:=⟨a1,a2,a3,a4,o!⟩
 exact A9 (λu _=>AB λ_=>q) (λu _=>AB λ_=>q)
def dK{x:AM×Int}(h:θ x.1.1<=16)(a:0<=x.2/\x.2<θ x.1.1):An (D8 x) λr=>True:=by unfold D8;have e:=AW (x:=x.2+1);rw[e];refine AA (P:=λ_=>True) ?_ λd _=>AA (AI a.1 a.2) λf _=>AB trivial;refine AC (λb=>?_) (λ_=>AB trivial);simp only[len]at b;exact AA (AI o! b) λc _=>AB trivial
def Rb{x:AM×AZ×Int}{a:List AE}{s:Int×AM}(h:0<=s.1/\s.1<=θ a/\θ a<=4096):An (Aa (HU x a) s) λr=>∀u,r=.inl u->u.1≠0:=by
 refine AU (λ(s:Int×AM)=>0<=s.1/\s.1<=θ a/\θ a<=4096) (λ(s:Int×AM)=>((θ a:Int)-s.1).toNat) h (λs c=>?_);unfold HU;exact x!
def ABL{x:AZ×Int}(h:Dd x.1)(c:x.2=x.1.1+θ x.1.2.1-1):An (D7 x) λr=>r.1.2.2=r.1.1+θ r.1.2.1-1/\r.1.1=x.1.1:=by refine AA BP λv e=>AO (λa=>?_) (λ_=>?_);grind;refine AA EM λf b=>?_;rw[h.last]at b;have d:=h.2.2.2.2.1;refine AC (λa=>N! a o!) (λ_=>AB ⟨?_,rfl⟩);grind
def y0{b:Ak}{x:Int}(h:CX b)(g:x<=1000/\ -1000<=x):An (K2 b x) λr=>r.2.1.2.2=r.2.1.1+θ r.2.1.2.1-1/\r.2.1.1=1:=by refine AA (OO h g) λm e=>?_;obtain⟨c,j,k,l,d,i⟩:=e;refine AA GR λn f=>AA (ABL d (f d)) λo a=>AB ⟨a.1,a.2.trans i⟩
def Ris(l:List Int)(n:Int):Prop:=∀(i:Nat)(a b:Int),(i:Int)+1<n->l[i]?=δ a->l[i+1]?=δ b->a<b
def BD(n:Int)(l:List Int):Prop:=1<=n/\n<=64/\1<=θ l/\θ l<=16/\l[0]?=δ 0/\Ris l (θ l)/\∀a,l[θ l-1]?=δ a->a<n
def Xm{x:Int×List Int}:An (FL x) λr=>r=ζ↔BD x.1 x.2:=by
 unfold FL;refine AC (λc=>AB ⟨λd=>(by cases d),λh=>(by have:=h.1;omega)⟩) (λL=>AC (λc=>AB ⟨λd=>(by cases d),λh=>(by have:=h.2.1;omega)⟩) (λM=>AC (λc=>AB ⟨λd=>(by cases d),λh=>(by have:=h.2.2.1;simp only[len]at c;omega)⟩) (λy=>AC (λc=>AB ⟨λd=>(by cases d),λh=>(by have:=h.2.2.2.1;simp only[len]at c;omega)⟩) (λz=>?_))));simp only[len]at y z;refine AA (AI (AX _)) λQ E=>?_;have f:=E.1;refine AK (λc=>AB ⟨λd=>(by cases d),λh=>?_⟩) (λo=>?_);have:=h.2.2.2.2.1;simp only[Int.toNat_zero]at f;rw[f]at this;exact N! (BH this) c;rw[o]at f;refine AA (P:=λr=>(r=.inl η/\¬Ris x.2 (θ x.2))\/(r=.inr ()/\Ris x.2 (θ x.2))) ?_ λr hr=>?_;refine AU (λ(s:Int)=>1<=s/\s<=θ x.2/\Ris x.2 s) (λ(s:Int)=>((θ x.2:Int)-s).toNat) ⟨AX _,o!,λi a b v=>N! v o!⟩ (λs G=>?_);obtain⟨N,O,w⟩:=G;unfold MI;have A_:=AW (x:=s-1);have B:=AW (x:=s+1);rw[A_,B];refine AC (λk=>?_) (λk=>AB (.inr ⟨rfl,?_⟩));simp only[len]at k;refine AA (AI) λa j=>AA (AI o! k) λb u=>?_;have t:(s-1).toNat+1=s.toNat:=o!
 refine AC (λJ=>AB (.inl ⟨rfl,λH=>?_⟩)) (λm=>AB ⟨⟨o!,o!,λi p q v n l=>?_⟩,o!⟩);have:=H (s-1).toNat a b o! j.1 (by rw[t];exact u.1);omega;by_cases I:(i:Int)+1<s;exact w i p q I n l;have C:i=(s-1).toNat:=o!
 subst C;rw[t]at l;rw[j.1]at n;rw[u.1]at l;have:=BH n;have:=BH l;omega;simp only[len]at k;have:s=θ x.2:=o!
 rw[<-this];exact w;rcases hr with⟨rfl,hr⟩|⟨rfl,hr⟩;exact BG (AB ⟨λd=>(by cases d),λh=>N! h.2.2.2.2.2.1 hr⟩);apply Av;have e:=AW (x:=len x.2-1) i!;rw[e];refine AA (AI i! i!) λK F=>AB ?_;have g:=F.1;have D_:(len x.2-1).toNat=θ x.2-1:=i!
 rw[D_]at g;rw[K!];refine⟨λm=>⟨o!,o!,o!,o!,f,hr,λa j=>?_⟩,λh=>h.2.2.2.2.2.2 K g⟩;rw[g]at j;have:=BH j;omega
def FR(l:List Ad)(m n:Int):Prop:=(∀(i:Nat)(f:Ad),(i:Int)<n->l[i]?=δ f->0<f.2.1/\f.2.1<m)/\∀(i:Nat)(f g:Ad),(i:Int)+1<n->l[i]?=δ f->l[i+1]?=δ g->f.2.1<g.2.1
def VB(a:AM):Prop:=BD a.2.1 a.1/\1<=a.2.2.2.1/\a.2.2.2.1<=1099511627777/\1<=a.2.2.2.2/\a.2.2.2.2<=1073741825/\θ a.2.2.1<=256/\FR a.2.2.1 a.2.2.2.2 (θ a.2.2.1)
theorem OL{x:AM}:An (DQ x) λr=>r=ζ↔VB x:=by
 unfold DQ;refine AA Xm λU w=>AO (λj=>AB ⟨λb=>(by cases b),λh=>(by rw[w.2 h.1]at j;cases j)⟩) (λj=>?_);have H:=w.1 j;refine AC (λc=>AB ⟨λb=>(by cases b),λh=>(by have:=h.2.1;omega)⟩) (λN=>AC (λc=>AB ⟨λb=>(by cases b),λh=>(by have:=h.2.2.1;omega)⟩) (λO=>AC (λc=>AB ⟨λb=>(by cases b),λh=>(by have:=h.2.2.2.1;omega)⟩) (λQ=>AC (λc=>AB ⟨λb=>(by cases b),λh=>(by have:=h.2.2.2.2.1;omega)⟩) (λR=>AC (λc=>AB ⟨λb=>(by cases b),λh=>(by have:=h.2.2.2.2.2.1;simp only[len]at c;omega)⟩) (λA_=>?_)))));simp only[len]at A_;refine AA (P:=λr=>(r=.inl η/\¬FR x.2.2.1 x.2.2.2.2 (θ x.2.2.1))\/(r=.inr ()/\FR x.2.2.1 x.2.2.2.2 (θ x.2.2.1))) ?_ λr hr=>?_;refine AU (λ(s:Int×Int)=>0<=s.2/\s.2<=θ x.2.2.1/\FR x.2.2.1 x.2.2.2.2 s.2/\0<=s.1/\(s.2=0->s.1=0)/\∀f,0<s.2->x.2.2.1[(s.2-1).toNat]?=δ f->f.2.1=s.1) (λ(s:Int×Int)=>((θ x.2.2.1:Int)-s.2).toNat) ⟨AX _,d!,⟨λi f k=>N! k d!,λi f g k=>N! k d!⟩,AX _,λ_=>rfl,λf d=>N! d d!⟩ (λs G=>?_);obtain⟨q,S,t,T,L,z⟩:=G;unfold JD;have e:=AW (x:=s.2+1);rw[e];refine AC (λj=>?_) (λj=>AB (.inr ⟨rfl,?_⟩));simp only[len]at j;refine AA (AI q j) λu D_=>?_;have a:=D_.1;refine AC (λJ=>AB (.inl ⟨rfl,λn=>?_⟩)) (λK=>?_);by_cases b:s.2=0;have:=(n.1 s.2.toNat u o! a).1;have:=L b;omega;obtain⟨f,d⟩:∃f,x.2.2.1[(s.2-1).toNat]?=δ f:=⟨_,As o!⟩
 have m:(s.2-1).toNat+1=s.2.toNat:=o!
 have:=n.2 (s.2-1).toNat f u o! d (by rw[m];exact a);have:=z f o! d;omega;refine AA (AI q j) λv E=>?_;have B:v=u:=by have:=E.1;rw[a]at this;exact(BH this).symm
 subst B;refine AC (λI=>AB (.inl ⟨rfl,λn=>?_⟩)) (λy=>?_);have:=(n.1 s.2.toNat v o! a).2;omega;refine AA (AI q j) λM F=>AB ?_;have C:M=v:=by have:=F.1;rw[a]at this;exact(BH this).symm
 subst C;refine⟨⟨d!,d!,⟨λi f k d=>?_,λi f g k d p=>?_⟩,d!,λb=>N! b d!,λf _ d=>?_⟩,d!⟩;dsimp only at k;by_cases l:(i:Int)<s.2;exact t.1 i f l d;have o:i=s.2.toNat:=o!
 subst o;rw[a]at d;have:=BH d;subst this;exact o!;dsimp only at k;by_cases l:(i:Int)+1<s.2;exact t.2 i f g l d p;have o:i=(s.2-1).toNat:=o!
 have m:i+1=s.2.toNat:=o!
 rw[m,a]at p;have:=BH p;subst this;rw[o]at d;have:=z f o! d;omega;dsimp only at d⊢;have m:(s.2+1-1).toNat=s.2.toNat:=o!
 rw[m,a]at d;have:=BH d;rw[this];simp only[len]at j;have:s.2=θ x.2.2.1:=o!
 rw[<-this];exact t;rcases hr with⟨rfl,hr⟩|⟨rfl,hr⟩;exact BG (AB ⟨λb=>(by cases b),λh=>N! h.2.2.2.2.2.2 hr⟩);exact Av (AB ⟨λ_=>⟨H,o!,o!,o!,o!,o!,hr⟩,λ_=>rfl⟩)
def pD{x:Int}:An (Hm x) λr=>r=ζ↔0<=x/\x<64:=by
 unfold Hm;exact x!
theorem cL{x:Dh}:An (Nx x) λr=>r=ζ↔OY x:=by
 unfold Nx OY
 exact x!
def Kn{x:Int×AE}:An (Nz x) λr=>r=ζ↔0<=x.1/\x.1<x.2.1:=by
 unfold Nz;exact x!
def sg{x:Dh}:An (MS x) λr=>r=ζ↔x=Px:=by grind[MS,Px,AB,Prod.ext_iff]
def nZ{x:AE}:An (GC x) λr=>r=ζ:=by grind[GC,AB]
def na{x:AE}:An (Sg x) λr=>r=ζ↔1<=x.2.2.2.2.2.1/\x.2.2.2.2.2.1<=x.2.2.2.1:=by
 unfold Sg;exact x!
def ng{x:Dh}:An (Sh x) λr=>r=ζ↔0<=x.1/\x.1<64/\x.2=Px.2:=by
 unfold Sh Px;have⟨a,b,⟨c,d⟩,e,f⟩:=x;refine AJ (λg=>?_) (λg=>AB ?_);refine AC (λh=>AB ?_) (λh=>AB ?_);simp at g;simp[g,h];try omega
 simp;try omega
 grind[Prod.ext_iff]
theorem J2{x:AE}:An (GB x) λr=>L3 x->r=ζ:=by
 unfold GB;refine AC (λi=>AB λh=>?_) (λs=>?_);have:=h.1;omega;refine AC (λi=>AB λh=>?_) (λt=>?_);have:=h.2.1;omega;refine AC (λi=>AB λh=>?_) (λu=>?_);have:=h.2.2.2.2.2.2.2.2;unfold Ur at this;omega;refine AC (λi=>AB λh=>?_) (λv=>?_);have:=h.2.2.2.2.2.2.2.2;unfold Ur at this;omega;refine AA Kn λw j=>AO (λi=>AB λh=>?_) (λn=>?_);rw[j.2 ⟨h.2.2.1,h.2.2.2.1⟩]at i;cases i;refine AA Kn λy k=>AO (λi=>AB λh=>?_) (λo=>?_);rw[k.2 ⟨h.2.2.2.2.1,h.2.2.2.2.2.1⟩]at i;cases i;refine AA Kn λz l=>AO (λi=>AB λh=>?_) (λp=>?_);rw[l.2 ⟨h.2.2.2.2.2.2.1,h.2.2.2.2.2.2.2.1⟩]at i;cases i;refine An.mono (P:=λr=>Ur x->r=ζ) ?_ λr h q=>h q.2.2.2.2.2.2.2.2;clear j k l n o p;have⟨a,b,c,d,e,f,g,m⟩:=x;unfold Ur;dsimp only at*;refine AC (λi=>N! i o!) (λk0=>?_);exact x!
def gh{x:AZ}:An (CZ x) λr=>r=wi (wi (x.1+len x.2.1)-1):=by grind[CZ,AB]
def Ji{x:AZ}(h:Dd x):An (G8 x) λr=>r=ζ:=by have⟨a1,a2,a3,a4,a5,a6⟩:=id h;unfold G8;refine AC (λa=>N! a o!) (λ_=>AC (λa=>N! a o!) (λ_=>AC (λa=>N! a (by simp[len];omega)) (λ_=>?_)));rw[(AW (x:=x.1-1))];refine AC (λa=>N! a o!) (λ_=>AA gh λf b=>?_);rw[h.last]at b;refine AC (λa=>N! a o!) (λ_=>AA (P:=λr=>∃u,r=.inr u) ?_ λr hr=>?_);refine AU (λ(s:Int)=>0<=s/\s<=θ x.2.1) (λ(s:Int)=>((θ x.2.1:Int)-s).toNat) ⟨AX _,o!⟩ (λs c=>?_);have⟨d,e⟩:=c;unfold Xz;refine AC (λa=>?_) (λ_=>AB ⟨_,rfl⟩);grind[AA,AI,AW,AK,J2,AO,AB];grind[Av,AB]
def cT{x:AZ}(h:Dd x):An (QY x) λr=>r=x.1+θ x.2.1-1:=by unfold QY;refine AA (Ji h) λv c=>AO (λb=>?_) (λ_=>?_);rw[c]at b;cases b;refine AA gh λd a=>AB ?_;rw[h.last]at a;exact a
def HF{x:AM}(h:VB x):An (FW x) λr=>r=true:=by
 obtain⟨⟨M,N,O,Q,t,v,w⟩,a1,a2,a3,a4,a5,a6⟩:=id h;unfold FW;refine AC (λa=>absurd a (by omega)) (λ_=>?_);refine AC (λa=>absurd a (by omega)) (λ_=>?_);refine AC (λa=>absurd a (by simp only[len];omega)) (λ_=>?_);refine AC (λa=>absurd a (by simp only[len];omega)) (λ_=>?_);refine AA (AI (AX _)) λS C=>?_;have b:=C.1;rw[show((0:Int).toNat)=0 from rfl,t]at b;injection b with b;refine AK (λa=>absurd b.symm a) (λ_=>?_);have y:=AW (x:=len x.1-1) (by simp only[len];omega);rw[y];refine AA (AI (by simp only[len];omega) (by simp only[len];omega)) λJ D_=>?_;have c:=D_.1;have z:(len x.1-1).toNat=x.1.length-1:=by simp only[len];omega
 rw[z]at c;refine AC (λa=>absurd a (by have:=w J c;omega)) (λ_=>?_);refine AA (P:=λr=> ∃u,r= .inr u) ?_ λr hr=>?_;refine AU (λ(s:Int)=>1<=s/\s<=x.1.length) (λ(s:Int)=>((x.1.length:Int)-s).toNat) ⟨AX _,by omega⟩ (λs i=>?_);obtain⟨o,G⟩:=i;unfold Wo;refine AC (λa=>?_) (λ_=>AB ⟨_,rfl⟩);simp only[len]at a;have A_:=AW (x:=s-1);have e:=AW (x:=s+1);rw[A_,e];refine AA (AI) λK E=>?_;refine AA (AI (by omega) a) λL F=>?_
 have q:=v (s-1).toNat K L (by omega) E.1 (by have:(s-1).toNat+1=s.toNat:=by omega
                                              rw[this];exact F.1)
 refine AC (λa=>absurd a (by omega)) (λ_=>AB ⟨by omega,by omega⟩);obtain⟨u,rfl⟩:=hr;apply Av;refine AC (λa=>absurd a (by omega)) (λ_=>?_);refine AC (λa=>absurd a (by omega)) (λ_=>?_);refine AC (λa=>absurd a (by omega)) (λ_=>?_);refine AC (λa=>absurd a (by omega)) (λ_=>?_);refine AC (λa=>absurd a (by simp only[len];omega)) (λ_=>?_);refine AA (P:=λr=> ∃u,r= .inr u) ?_ λr hr=>?_;refine AU (λ(s:Int×Int)=>0<=s.2/\s.2<=x.2.2.1.length/\(s.2=0->s.1=0)/\ ∀f:Ad,0<s.2->x.2.2.1[(s.2-1).toNat]? =some f->s.1=f.2.1) (λ(s:Int×Int)=>((x.2.2.1.length:Int)-s.2).toNat) ⟨AX _,by dsimp only;omega,λ_=>rfl,λf m=>by dsimp only at m;omega⟩ (λs i=>?_);obtain⟨o,G,H,I⟩:=i;unfold Wp;refine AC (λa=>?_) (λ_=>AB ⟨_,rfl⟩);simp only[len]at a;have e:=AW (x:=s.2+1);rw[e];refine AA (AI o a) λl g=>?_;have p:=a6.1 s.2.toNat l (by omega) g.1;have R:s.1<l.2.1:=by
  by_cases k:s.2=0;rw[H k];exact p.1;have j:(s.2-1).toNat<x.2.2.1.length:=by omega
  have n:x.2.2.1[(s.2-1).toNat]? =some x.2.2.1[(s.2-1).toNat]:=As j
  have:=a6.2 (s.2-1).toNat _ l (by omega) n (by have:(s.2-1).toNat+1=s.2.toNat:=by omega
                                                rw[this];exact g.1)
  rw[I _ (by omega) n];exact this
 refine AC (λa=>absurd a (by omega)) (λ_=>?_);refine AC (λa=>absurd a (by have:=p.2;omega)) (λ_=>AB ⟨⟨by dsimp only;omega,by dsimp only;omega,λk=>?_,λf m d=>?_⟩,by dsimp only;omega⟩);dsimp only at k;omega;dsimp only at d⊢;have B:(s.2+1-1).toNat=s.2.toNat:=by omega
 rw[B,g.1]at d;injection d with d;rw[d];obtain⟨u,rfl⟩:=hr;exact Av (AB rfl)
def ZQ{x:AM×AZ×Int×Int}(h:VB x.1)(c:Dd x.2.1)(e:0<=x.2.2.1/\x.2.2.1<x.1.2.1/\0<=x.2.2.2):An (PP x) λr=>r=0:=by unfold PP;refine AA (HF h) λv d=>AO (λa=>?_) (λ_=>?_);rw[d]at a;cases a;refine AA (Ji c) λf b=>AO (λa=>?_) (λ_=>?_);rw[b]at a;cases a;refine AC (λa=>N! a o!) (λ_=>AC (λa=>N! a o!) (λ_=>AC (λa=>N! a o!) (λ_=>AB rfl)))
def ab{x p:BV}{c:BV×Int×Int}{k:Nat}(h:CS x p c)(o:θ x<=1099511627776)(u:1<=k)(m:k<=8):An (Bv c (k:Int)) λr=>CS x (p++DZ r.1 k) r.2/\(r.2.2.2=0->dc k r.1)/\(c.2.2≠0->r=(0,c)):=by obtain⟨s,i,e⟩:=c;obtain⟨j,l⟩:=h;subst j;refine AK (λd=>AB ⟨⟨rfl,λb=>N! b d⟩,λb=>N! b d,λ_=>rfl⟩) (λd=>?_);subst d;obtain⟨a,hr,n⟩:=l rfl;subst hr n;rw[Af]at o;rw[XK o! o! o!];by_cases g:(k:Int)<=θ a;rw[C! g,AD,Cz];obtain⟨q,v⟩:=rL (t:=a) (k:=k) o! m;refine AB ⟨⟨rfl,λ_=>⟨a.drop k,?_,?_⟩⟩,λ_=>q,λf=>N! rfl f⟩;simp_all;dsimp only;rw[AW,Af,A3];omega;rw[D! g,AD];exact AB ⟨⟨rfl,λb=>N! (show(5:Int)=0 from b) g!⟩,λb=>N! (show(5:Int)=0 from b) g!,λf=>N! rfl f⟩
def ADq{x p:BV}{c:BV×Int×Int}{n:Int}(h:CS x p c)(l:θ x<=1099511627776)(hn:c.2.2=0->0<=n/\n<4294967296):An (El c n) λr=>CS x (p++r.1) r.2/\(r.2.2.2=0->(θ r.1:Int)=n/\c.2.2=0):=by
 obtain⟨s,f,e⟩:=c;obtain⟨g,i⟩:=h;subst g;unfold El;by_cases d:e=0;subst d;obtain⟨a,hr,j⟩:=i rfl;obtain⟨o,t⟩:=hn rfl;subst hr j;obtain⟨m,rfl⟩:=FC o;rw[Af]at l;rw[show wi (((p++a).length:Int)-(θ p:Int))=θ a by rw[Af,AW];omega];by_cases q:(m:Int)<=θ a;rw[F! o!,A!,AD,show((0:Int) !=0)=η by decide,A!];have k:Ui (p++a) (wi (wi ((θ p:Int)+(m:Int))-(m:Int))) (wi ((θ p:Int)+(m:Int)))=δ (a.take m):=by rw[AW (x:=(θ p:Int)+(m:Int)),AW];unfold Ui;rw[C! q!,show((θ p:Int)+(m:Int)-(m:Int)).toNat=θ p by omega,Qw,show((θ p:Int)+(m:Int)).toNat-θ p=m by omega]
 rw[k,AD];refine AB ⟨⟨rfl,λ_=>⟨a.drop m,?_,?_⟩⟩,λ_=>⟨?_,q!⟩⟩;simp_all;dsimp only;rw[AW,Af,BJ];omega;grind;rw[G! o!,B!,AD,show((5:Int) !=0)=ζ by decide,B!];exact AB ⟨⟨rfl,λb=>N! (show(5:Int)=0 from b) g!⟩,λb=>N! (show(5:Int)=0 from b) g!⟩;rw[beq_false_of_ne d,A!,bne_iff_ne.2 d,B!];exact AB ⟨⟨rfl,λb=>N! b d⟩,λb=>N! b d⟩
def ADo{x p:BV}{c:BV×Int×Int}(h:CS x p c)(j:θ x<=1099511627776):An (Ek c ()) λr=>CS x (p++Yq r.1) r.2/\(r.2.2.2=0->IQ r.1):=by
 refine AA (ab (k:=1) h j g! g!) λv o=>?_;obtain⟨⟨g,l⟩,s,z⟩:=o;refine AK (λd=>AB ⟨⟨g,λa=>N! a d⟩,λa=>N! a d⟩) (λd=>?_);obtain⟨f,hr,i⟩:=l d;have y:=(s d).1 g!;refine AQ (λb=>AB ⟨⟨g,λ_=>⟨f,?_,?_⟩⟩,λ_=>⟨Bo _,.inr rfl⟩⟩) (λb=>?_);dsimp only;rw[b]at hr;exact hr;dsimp only;rw[b]at i;exact i;refine AC (λ_=>AB ⟨⟨g,λa=>N! (show(4:Int)=0 from a) g!⟩,λa=>N! (show(4:Int)=0 from a) g!⟩) (λn=>AA (ADq (x:=x) (p:=p++DZ v.1 1) ⟨g,l⟩ j (λ_=>o!)) λw q=>AB ?_);obtain⟨⟨t,A⟩,u⟩:=q;refine⟨⟨t,λa=>?_⟩,λa=>?_⟩;dsimp only at a⊢;obtain⟨m,_⟩:=u a;have e:Yq (ζ,w.1)=DZ v.1 1++w.1:=by unfold Yq;rw[B!,m]
 grind;dsimp only at a⊢;exact⟨q!,.inl rfl⟩
def YT{x p a:BV}{n:Int}{k:Nat}(c:x=p++(DZ n k++a))(f:θ x<=1099511627776)(e:1<=k)(d:k<=8)(hn:dc k n):Bv (x,(θ p:Int),0) (k:Int)=δ (n,x,((p++DZ n k).length:Int),0):=by
 have b:=E! θ c;simp only[Af,A3]at b;unfold Bv;dsimp only;rw[show((0:Int) !=0)=η by decide,A!];conv=>lhs;arg 1;rw[c]
 rw[XK q! o! o!,C! q!,AD,Cz,Fg (A3 _ _),pW d hn];rw[Af,A3];rw[AW];rfl
def ADp{x p w a:BV}(c:x=p++(w++a))(e:θ x<=1099511627776):El (x,(θ p:Int),0) (θ w:Int)=δ (w,x,((p++w).length:Int),0):=by
 have b:=E! θ c;simp at b;unfold El;rw[show τ (wi ((θ x:Int)-(θ p:Int))<(θ w:Int))=η from F! (by rw[AW];omega),A!];rw[AD,show((0:Int) !=0)=η by decide,A!];dsimp only;have d:Ui x (wi (wi ((θ p:Int)+(θ w:Int))-(θ w:Int))) (wi ((θ p:Int)+(θ w:Int)))=δ w:=by rw[AW (x:=(θ p:Int)+(θ w:Int)),AW];unfold Ui;rw[C! o!,c,show((θ p:Int)+(θ w:Int)-(θ w:Int)).toNat=θ p by omega,Qw,show((θ p:Int)+(θ w:Int)).toNat-θ p=θ w by omega,Xg]
 rw[d,AD,AW,Af];rfl
def ADn{x p a:BV}{c:Ch}(e:x=p++(Yq c++a))(f:θ x<=1099511627776)(j:IQ c):Ek (x,(θ p:Int),0) ()=δ (c,x,((p++Yq c).length:Int),0):=by
 obtain⟨b,d⟩:=c;obtain⟨h,i⟩:=j;dsimp only at h i;unfold Ek;cases b with
 |false=>
  have k:d=[]:=q!
  subst k;rw[show(1:Int)=((1:Nat):Int)from rfl,YT e f g! g! ⟨λ_=>g!,g!,g!⟩];rfl
 |true=>have g:Yq (ζ,d)=DZ (θ d:Int) 1++d:=rfl;rw[g,A5]at e;rw[g];rw[show(1:Int)=((1:Nat):Int)from rfl,YT e f g! g! ⟨λ_=>q!,o!⟩,AD];rw[show((0:Int) !=0)=η by decide,A!,show((θ d:Int)==255)=η by grind,A!,F! o!,A!];rw[ADp (by rw[e,A5]) f,AD,A5]
def AHN{x:BV}(a:θ x<=1099511627776):An (JL x) λr=>r.2=0->x=Bq r.1/\IQ r.1.2.2.2.2.2.2.1.2.2.1/\IQ r.1.2.2.2.2.2.2.1.2.2.2/\dc 4 (θ r.1.2.2.2.2.2.2.2:Int)/\GB r.1=δ ζ:=by
 unfold JL;have J:CS x [] (x,0,0):=⟨rfl,λ_=>⟨x,rfl,rfl⟩⟩
 refine AA (ab (k:=8) J a g! g!) λP z=>AA (ab (k:=1) z.1 a g! g!) λQ A=>AA (ab (k:=4) A.1 a g! g!) λR B=>AA (ab (k:=8) B.1 a g! g!) λS C=>AA (ab (k:=8) C.1 a g! g!) λT D=>AA (ab (k:=8) D.1 a g! g!) λU E=>AA (ab (k:=4) E.1 a g! g!) λV F=>AA (ab (k:=1) F.1 a g! g!) λW G=>D6 (ADo G.1 a) λs N p=>D6 (ADo p.1 a) λt y q=>AA (ab (k:=4) q.1 a g! g!) λl b=>AA (ADq (n:=l.1) b.1 a (λc=>?_)) λK f=>?_;have:=(b.2.1 c).1 g!;rw[show(256:Int)^4=4294967296 by decide]at this;exact this;refine AK (λi=>AB λc=>N! c i) (λi=>AK (λ_=>AB n!) (λH=>D6 (J2) λL j _=>AO (λ_=>AB n!) (λI=>AB λ_=>?_)));subst I;obtain⟨g,d⟩:=f.2 i;have m:t.2.2.2=0:=TD λe=>by have:=b.2.2 e;rw[this]at d;exact e d
 have v:=q.2 m;have M:s.2.2.2=0:=TD λe=>by
  have:t=((η,[]),s.2):=by have:=y;unfold Ek Bv at this;rw[bne_iff_ne.2 e,B!,AD,bne_iff_ne.2 e,B!]at this;injection this with this;exact this.symm
  rw[this]at m;exact e m
 have u:=p.2 M;obtain⟨h,o,O⟩:=f.1.2 i;have hr:h=[]:=by simp only[len]at H;have w:=E! θ o;rw[Af]at w;exact EJ o!
 subst hr;refine⟨?_,u,v,?_,j⟩;rw[o];unfold Bq;dsimp only;rw[g];simp only[A5,CY,Dl];dsimp only;rw[g];exact b.2.1 d
def AHM{e:AE}(h:L3 e):JL (Bq e)=δ (e,0):=by
 obtain⟨s,t,H,w,y,z,A,B,C,D,E⟩:=h.cells;have I:=R3 h;have g:dc 4 (θ e.2.2.2.2.2.2.2:Int):=⟨λ_=>by rw[show(256:Int)^4=4294967296 by decide];omega,o!⟩
 have a:Bq e=[]++(DZ e.1 8++(DZ e.2.1 1++(DZ e.2.2.1 4++(DZ e.2.2.2.1 8++(DZ e.2.2.2.2.1 8++(DZ e.2.2.2.2.2.1 8++(DZ e.2.2.2.2.2.2.1.1 4++(DZ e.2.2.2.2.2.2.1.2.1 1++
 (Yq e.2.2.2.2.2.2.1.2.2.1++(Yq e.2.2.2.2.2.2.1.2.2.2++(DZ (θ e.2.2.2.2.2.2.2:Int) 4++(e.2.2.2.2.2.2.2++[])))))))))))):=by rw[Dl];rfl
 generalize Bq e=x at*;have i:Bv (x,((0:Int)),0) 8=_:=YT (p:=[]) (k:=8) a o! g! g! w;rw[CY]at i;rw[CY]at a;have j:=YT (k:=1) a o! g! g! y;rw[<-A5]at a;have l:=YT (k:=4) a o! g! g! z;rw[<-A5]at a;have m:=YT (k:=8) a o! g! g! A;rw[<-A5]at a;have n:=YT (k:=8) a o! g! g! B;rw[<-A5]at a;have o:=YT (k:=8) a o! g! g! C;rw[<-A5]at a;have q:=YT (k:=4) a o! g! g! D;rw[<-A5]at a;have r:=YT (k:=1) a o! g! g! E;rw[<-A5]at a;have F:=ADn a o! s;rw[<-A5]at a;have G:=ADn a o! t;rw[<-A5]at a;have c:=YT (k:=4) a o! g! g! g;rw[<-A5]at a;have d:=ADp a o!;rw[Dl]at a;rw[<-a]at d;unfold JL;rw[i,AD];rw[show((1:Nat):Int)=1 from rfl]at j r;rw[show((4:Nat):Int)=4 from rfl]at l q c;rw[show((8:Nat):Int)=8 from rfl]at m n o;rw[j,AD,l,AD,m,AD,n,AD,o,AD,q,AD,r,AD,F,AD,G,AD,c,AD,d,AD];obtain⟨b,u,v⟩:=J2 (x:=e);have f:b=ζ:=v h;subst f;dsimp only[len];rw[show((0:Int) !=0)=η by decide,A!,H!,A!];rw[show(e.1,e.2.1,e.2.2.1,e.2.2.2.1,e.2.2.2.2.1,e.2.2.2.2.2.1,(e.2.2.2.2.2.2.1.1,e.2.2.2.2.2.2.1.2.1,e.2.2.2.2.2.2.1.2.2.1,e.2.2.2.2.2.2.1.2.2.2),e.2.2.2.2.2.2.2)=e from rfl,u,AD,Ca,A!]
def zp{a v i:Int}(f:0≤i)(c:i<8)(e:0≤a)(b:a<2^(8*i.toNat))(g:0≤v)(d:v<256):
  0<=ι .u64 (((π ((κ 64 a)|||(κ 64 (ι .u64 ((ι .u64 v)*(2^(min (ο (wi (8*i))) 64))))))):Nat):Int)/\
  ι .u64 (((π ((κ 64 a)|||(κ 64 (ι .u64 ((ι .u64 v)*(2^(min (ο (wi (8*i))) 64))))))):Nat):Int)<2^(8*(wi (i+1)).toNat):=by
 have h:=xu f c e b g d;rw[(by rw[(AW),WI];omega:ι .u64 (wi (8*i))=wi (8*i))]at h;exact h
def AFe{n:Int}(h:n<=1):(2:Int)^(8*n.toNat)<=256:=by
 have:n.toNat=0\/n.toNat=1:=o!
 rcases this with h|h<;>rw[h]<;>decide
def I6{x:BV×Int×Int}(h:θ x.1<=2199023255552):An (Bl x) λr=>(r.2=0->0<=x.2.1/\x.2.1+x.2.2<=θ x.1/\(x.2.2<=4->0<=r.1/\r.1<4294967296)/\(x.2.2<=1->r.1<256))/\(r.2≠0->r.1=0):=by
 unfold Bl;refine AC (λ_=>AB ⟨n!,λ_=>rfl⟩) (λo=>AC (λ_=>AB ⟨n!,λ_=>rfl⟩) (λp=>AC (λ_=>AB ⟨n!,λ_=>rfl⟩) (λq=>AC (λ_=>AB ⟨n!,λ_=>rfl⟩) (λf=>?_))));simp[len]at f⊢;rw[(AW (x:=(θ x.1:Int)-x.2.1))];refine AC (λ_=>AB ⟨n!,λ_=>rfl⟩) (λt=>AA (P:=λr=>0<=r/\r<2^(8*x.2.2.toNat)) ?_ λA_ y=>AB ⟨λ_=>⟨o!,o!,λg=>?_,λc=>?_⟩,λb=>N! rfl b⟩);refine AU (λ(s:Int×Int)=>0<=s.2/\s.2<=x.2.2/\0<=s.1/\s.1<2^(8*s.2.toNat)) (λ(s:Int×Int)=>(x.2.2-s.2).toNat) ⟨AX _,d!,AX _,u!⟩ (λs j=>?_);have⟨m,z,d,e⟩:=j;unfold UJ;refine AC (λk=>?_) (λk=>AB ⟨d,?_⟩);rw[(AW (x:=x.2.1+s.2))];refine AA (UH o! o!) λn c=>AC (λl=>?_) (λ_=>AB ?_);grind[AW];have⟨u,w⟩:=zp (a:=s.1) (v:=n) (i:=s.2) m o! d e c.1 c.2;grind[AW];have:s.2=x.2.2:=o!
 rw[<-this];exact e;have:=AA8 g;grind[AW];have:=AFe c;grind[AW]
def pk(a:BitVec 32):0<=ι .u32 (((π (a&&&κ 32 15):Nat)):Int)/\ι .u32 (((π (a&&&κ 32 15):Nat)):Int)<16:=by grind[vg,BitVec.toNat_and,κ,Nat.and_le_right]
def jZ{x:Unit}:An (Ky x) λr=>True:=by unfold Ky;refine AA (P:=λ_=>True) ?_ λv _=>AB trivial;refine AU (λ(s:Int×(Fin (15+1)->(Ty.int IntKind.u32).D))=>0<=s.1/\s.1<=16) (λ(s:Int×(Fin (15+1)->(Ty.int IntKind.u32).D))=>(16-s.1).toNat) ⟨AX _,g!⟩ (λs a=>?_);have⟨c,d⟩:=a;unfold U4;refine AC (λb=>?_) (λ_=>AB trivial);refine AA (P:=λ_=>True) ?_ λg _=>?_;refine AU (λ(s:Int×Int)=>0<=s.2/\s.2<=4) (λ(s:Int×Int)=>(4-s.2).toNat) ⟨AX _,d!⟩ (λs a=>?_);have⟨e,f⟩:=a;unfold LL;rw[(AW (x:=s.2+1))];refine AC (λb=>?_) (λ_=>AB trivial);refine AA (P:=λ_=>True) (AJ (λ_=>AB trivial) (λ_=>AB trivial)) λv _=>AB ⟨d!,d!⟩;rw[(AW (x:=s.1+1))];refine AA (CQ c b) λh _=>AA (CQ c b) λi _=>AB ⟨d!,d!⟩
theorem uP{x:BV}(h:θ x<=2199023255552):An (ON x) λr=>True:=by unfold ON;refine AA jZ λe _=>AA (P:=λ_=>True) ?_ λv _=>AB trivial;refine AU (λ(s:Int×Int)=>0<=s.2/\s.2<=θ x) (λ(s:Int×Int)=>((θ x:Int)-s.2).toNat) ⟨AX _,d!⟩ (λs b=>?_);have⟨c,d⟩:=b;unfold UK;rw[(AW (x:=s.2+1))];refine AC (λa=>?_) (λ_=>AB trivial);simp[len]at a;refine AA (UH c a) λf _=>AA (CQ (pk _).1 (pk _).2) λg _=>AA (CQ (pk _).1 (pk _).2) λi _=>AA (CQ (pk _).1 (pk _).2) λj _=>AA (CQ (pk _).1 (pk _).2) λk _=>AB ⟨d!,d!⟩
theorem ZO{x:BV×Int}(h:θ x.1<=2199023255552):An (Db x) λr=>r.2.2=0->θ r.1<=8392/\x.2+8+θ r.1=r.2.1/\0<=x.2/\r.2.1<=θ x.1:=by unfold Db;refine AC (λ_=>AB n!) (λg=>AC (λ_=>AB n!) (λe=>?_));simp[len]at e;refine AA (I6 h) λd f=>AK (λb=>AB λa=>N! a b) (λc=>?_);have⟨a1,a2,a3,_⟩:=f.1 c;have a5:=a3 d!;dsimp only at a2;refine AC (λ_=>AB n!) (λi=>?_);rw[(AW (x:=x.2+4)),AW (x:=x.2+4+d.1),(AW (x:=x.2+4+d.1+4))];refine AA (I6 h) λk j=>?_;grind[AK,AB,AA,C3,uP]
def iX{x:BV×BV}:An (Ep x) λr=>True:=by unfold Ep EK;refine AA (P:=λ_=>True) ?_ λv _=>AB trivial;refine AC (λa=>?_) (λ_=>AB trivial);simp[len]at a;exact AA (C3 (AX _) i! (by simp[len];omega)) λv _=>AB trivial
def RB(b:FN):Prop:=θ b.1<=2199023255552/\0<=b.2.1/\b.2.1<=θ b.1
def DE{b:FN}{x:Int}(h:RB b)(j:1<=x/\x<=8):An (Bv b x) λr=>RB r.2/\(x<=4->0<=r.1/\r.1<4294967296):=by have⟨a1,a2,a3⟩:=id h;unfold Bv;refine AK (λ_=>AB ⟨h,λ_=>d!⟩) (λ_=>AA (I6 (by exact a1)) λf a=>?_);dsimp only at a;refine AA (P:=λr=>RB r) ?_ λk d=>AB ⟨d,λe=>?_⟩;refine AQ (λc=>AB ?_) (λ_=>AB ⟨a1,a2,a3⟩);have⟨g,i,_⟩:=a.1 c;rw[AW];exact⟨a1,d!⟩;by_cases c:f.2=0<;>grind
theorem U6{b:FN}{x:Int}(h:RB b)(n:0<=x/\x<4294967296):An (El b x) λr=>RB r.2:=by have⟨a1,a2,a3⟩:=id h;unfold El;refine AQ (λd=>?_) (λl=>?_);rw[(AW (x:=len b.1-b.2.1) (by simp[len];omega))];refine AA (P:=λr=>RB r/\(r.2.2=0->r.2.1+x<=θ r.1)) ?_ λe j=>?_;refine AC (λ_=>AB ⟨⟨a1,a2,a3⟩,λd=>N! d u!⟩) (λk=>AB ⟨h,λ_=>?_⟩);simp[len]at k;omega;have⟨⟨c,f,g⟩,i⟩:=j;refine AK (λ_=>AB ⟨c,f,g⟩) (λa=>?_);have m:=i a;rw[(AW (x:=e.2.1+x)),(AW (x:=e.2.1+x-x))];exact AA (C3) λo _=>AB ⟨c,d!⟩;grind[AK,AB]
def U5{b:FN}{x:Unit}(h:RB b):An (Ek b x) λr=>RB r.2:=by unfold Ek;refine AA (DE h g!) λc a=>AK (λ_=>AB a.1) (λ_=>AQ (λ_=>AB a.1) (λ_=>?_));have q:=a.2 g!;refine AC (λ_=>AB a.1) (λ_=>?_);grind[AA,U6,AB]
theorem pG{x:BV}(h:θ x<=2199023255552):An (JL x) λr=>True:=by unfold JL;refine AA (DE (b:=(x,0,0)) ⟨h,AX _,d!⟩ g!) λs c=>AA (DE c.1 g!) λt d=>AA (DE d.1 g!) λu f=>AA (DE f.1 g!) λv g=>AA (DE g.1 g!) λw i=>AA (DE i.1 g!) λy j=>AA (DE j.1 g!) λz k=>AA (DE k.1 g!) λA l=>AA (U5 l.1) λB m=>AA (U5 m) λC n=>AA (DE n g!) λo a=>AA (U6 a.1 (a.2 g!)) λp e=>AK (λ_=>AB trivial) (λ_=>AK (λ_=>AB trivial) (λ_=>AA J2 λq _=>AO (λ_=>AB trivial) (λ_=>AB trivial)))
theorem Rk{x:Int×Int}:An (D3 x) λr=>True:=by unfold D3 FO;refine A6 (A6 ?_);refine AJ (λ_=>AJ (λ_=>AB trivial) (λ_=>AB trivial)) (λ_=>AJ (λ_=>AB trivial) (λ_=>AC (λ_=>AB trivial) (λ_=>AC (λ_=>AB trivial) (λ_=>AB trivial))))
theorem se{x:List Int}(h:θ x<=16777216):An (KO x) λr=>True:=by unfold KO;refine AA (P:=λ_=>True) ?_ λv _=>A9 (λ_ _=>AB trivial) (λ_ _=>AB trivial);refine AU (λ(s:Int)=>0<=s/\s<=θ x) (λ(s:Int)=>((θ x:Int)-s).toNat) ⟨AX _,o!⟩ (λs a=>?_);have⟨c,d⟩:=a;unfold J1;rw[(AW (x:=s+1))];refine AC (λb=>?_) (λ_=>AB trivial);grind[AA,AI,AK,AB]
def nh{x:AY}:An (MO x) λr=>r=ζ->1<=x.1/\x.1<=x.2.1/\x.2.1<=1099511627776/\0<=x.2.2.1/\x.2.2.1<=x.2.2.2.1/\x.2.2.2.1<64/\0<=x.2.2.2.2.1/\x.2.2.2.2.1<=8:=by
 unfold MO;exact x!
def nY{x:AE}:An (BE x) λr=>True:=by grind[BE,AQ,AB]
def ql{x:AY×AE}:An (Pe x) λr=>True:=by unfold Pe;refine AA nY λv _=>AJ (λ_=>?_) (λ_=>AB trivial);refine AC (λ_=>?_) (λ_=>AB trivial);refine AC (λ_=>?_) (λ_=>AB trivial);exact AC (λ_=>AB trivial) (λ_=>AB trivial)
def pH{x:AE×AE}:An (OI x) λr=>True:=by unfold OI;grind[AA,Rk,se,AB]
def sh{x:AY}:An (Ub x) λr=>r=ζ->gv x:=by
 unfold Ub;refine AA nh λj d=>AO (λ_=>AB λb=>by cases b) (λa=>?_);have hn:=d a;refine AC (λ_=>AB λb=>by cases b) (λf=>?_);simp[len]at f;have q:gv x:=⟨hn.1,hn.2.1,hn.2.2.1,hn.2.2.2.1,hn.2.2.2.2.1,hn.2.2.2.2.2.1,hn.2.2.2.2.2.2.1,hn.2.2.2.2.2.2.2,o!⟩
 refine AA (P:=λ_=>True) ?_ λv _=>A9 (λ_ _=>AB λ_=>q) (λ_ _=>AB λ_=>q);refine AU (λ(s:Int)=>0<=s/\s<=θ x.2.2.2.2.2) (λ(s:Int)=>((θ x.2.2.2.2.2:Int)-s).toNat) ⟨AX _,o!⟩ (λs e=>?_);have⟨h,i⟩:=e;unfold Si;rw[(AW (x:=s+1)),(AW (x:=s-1))];refine AC (λa=>?_) (λ_=>AB trivial);simp[len]at a;have c:((0<=s+1/\s+1<=θ x.2.2.2.2.2)/\((θ x.2.2.2.2.2:Int)-(s+1)).toNat<((θ x.2.2.2.2.2:Int)-s).toNat):=⟨o!,o!⟩
 refine AA (AI h a) λk _=>AA J2 λl _=>AO (λ_=>AB trivial) (λ_=>AA ql λm _=>AO (λ_=>AB trivial) (λ_=>AQ (λ_=>AC (λ_=>AB trivial) (λ_=>AB c)) (λg=>AA (AI) λn _=>AC (λ_=>AC (λ_=>AB trivial) (λ_=>AB c)) (λ_=>AA (AI) λo _=>AA pH λp _=>AC (λ_=>AB trivial) (λ_=>AK (λ_=>AB trivial) (λ_=>AB c))))))
def qj{x:BV}(h:θ x<=2199023255552):An (Kl x) λr=>r.2=0->gv r.1:=by
 unfold Kl;refine AA (ZO (by exact h)) λp k=>AK (λf=>AB λa=>N! a f) (λg=>?_);have⟨a1,a2,a3,a4⟩:=k g;dsimp only at a1 a2 a3 a4;refine AK (λ_=>AB n!) (λl=>AA iX λy _=>AO (λ_=>AB n!) (λ_=>?_));have b:θ p.1<=2199023255552:=o!
 refine AA (I6 b) λz _=>AA (I6 b) λA_ _=>AA (I6 b) λB _=>AA (I6 b) λC _=>AA (I6 b) λD_ _=>AA (I6 b) λi _=>AO (λ_=>AB n!) (λm=>?_);have n:i.1<=4096:=by simpa using m
 refine AA (P:=λr=>∀u,r=.inl u->u.1≠0) ?_ λr hr=>A9 (λu c=>AB λa=>N! a (hr u c)) (λu c=>?_);refine AU (λ(s:Int×(Int×(List AE×(Int×(Int×(Int×(Int×(Int×AY))))))))=>0<=s.2.1/\(s.2.1<=i.1\/s.2.1=0)/\θ s.2.2.1<=s.2.1) (λ(s:Int×(Int×(List AE×(Int×(Int×(Int×(Int×(Int×AY))))))))=>(i.1-s.2.1).toNat) ⟨AX _,.inr rfl,k!⟩ (λs o=>?_);have⟨t,v,w⟩:=o;unfold Ko;refine AC (λj=>?_) (λ_=>AB λu c=>by cases c);have e:=AW (x:=s.2.1+1);grind[AA,ZO,AK,AB,pG,Ac,List.length_cons,List.length_nil];refine AC (λ_=>AB n!) (λ_=>AA sh λq d=>AO (λ_=>AB n!) (λj=>AB λ_=>d j))
abbrev EN:=AE
def zN(x y:Int):D3 (x,y)=δ (if x<y then-1 else if x>y then 1 else 0):=by unfold D3 FO;simp only[H!,AD,A!];by_cases a:x<y;simp[a];by_cases b:x>y;simp[a,b];simp[a,b]
theorem mf{x:Int}(h:0<=x/\x<=1099511627776:=by omega):wi x=x:=AW
theorem wip{i:Nat}(h:i<=16777216:=by omega):wi ((i:Int)+1)=((i+1:Nat):Int):=by grind[mf]
def wim{i:Nat}(h:i<=16777216:=by omega):wi ((i:Int)-1)=(i:Int)-1:=by grind[AW]
def bl8(n:Nat):Nat:=if n=0 then 0 else if n<2 then 1 else if n<4 then 2 else if n<8 then 3 else if n<16 then 4 else if n<32 then 5 else if n<64 then 6 else if n<128 then 7 else 8
def od{n:Nat}(h:n<256):bl8 n<=8/\(1<=n->2^bl8 n<=2*n):=by grind[bl8]
def T8:BV:=(List.range 256).map λn=>UInt8.ofNat (bl8 n)
def AJK{n:Nat}(h:n<256):six T8 (n:Int)=δ ((bl8 n:Nat):Int):=by have a:=(od h).1;unfold six T8;simp[h];omega
noncomputable def Lz(x:Int):Option Int:=
 σ ((
   bif (τ (x>=4294967296))then
    δ ((Int.fdiv x (2^(min (ο 32) 64))),32)
   else
   δ (x,0)):(Option (Int×Int))) λv0=>
 σ ((
   bif (τ (v0.1>=65536))then
    δ ((Int.fdiv v0.1 (2^(min (ο 16) 64))),wi (v0.2+16))
   else
   δ v0):(Option (Int×Int))) λv1=>
 σ ((
   bif (τ (v1.1>=256))then
    δ ((Int.fdiv v1.1 (2^(min (ο 8) 64))),wi (v1.2+8))
   else
   δ v1):(Option (Int×Int))) λv2=>
 σ (six T8 (ι .u8 v2.1)) λv3=>
 δ (wi (v2.2+(wi v3)))
def AHt:P5=Lz:=by kernel_rfl
def AI7(n:Nat):Int.fdiv (n:Int) (2^(min (ο 16) 64))=((n/65536:Nat):Int):=by grind[ο,Int.fdiv_eq_ediv_of_nonneg]
def fd8(n:Nat):Int.fdiv (n:Int) (2^(min (ο 8) 64))=((n/256:Nat):Int):=by grind[ο,Int.fdiv_eq_ediv_of_nonneg]
def vo{y s:Nat}(h:y<256)(c:s<=64):(Option.bind (six T8 (IntKind.wrap .u8 (y:Int))) λa=>some (wi ((s:Int)+(wi a))))=some ((s+bl8 y:Nat):Int):=by have b:=(od h).1;rw[AIi,show(y:Int)%256=(y:Int) by omega,AJK h,AD,mf (x:=((bl8 y:Nat):Int)),mf];exact congrArg some o!
def vk{x:Nat}(h:x<=16777216):∃r:Nat,P5 (x:Int)=δ (r:Int)/\r<=32/\(1<=x->2^r<=2*x):=by
 rw[AHt];unfold Lz;have c:τ ((x:Int)>=4294967296)=η:=w!
 rw[c,A!,AD];by_cases f:x>=65536;have:τ (((x:Int),(0:Int)).1>=65536)=ζ:=w!
 have e:wi (((x:Int),(0:Int)).2+16)=((16:Nat):Int):=by show wi (0+16)=_;decide
 rw[this,B!,AD,e,AI7];by_cases g:x/65536>=256;have:τ (((((x/65536:Nat):Int),((16:Nat):Int)):Int×Int).1>=256)=ζ:=w!
 have e:wi (((((x/65536:Nat):Int),((16:Nat):Int)):Int×Int).2+8)=((24:Nat):Int):=by show wi (((16:Nat):Int)+8)=_;decide
 rw[this,B!,AD,e,fd8];have a:x/65536/256<256:=o!
 have b:=od a;refine⟨_,vo a o!,o!,λ_=>?_⟩;grind[Nat.pow_add];have:τ (((((x/65536:Nat):Int),((16:Nat):Int)):Int×Int).1>=256)=η:=w!
 rw[this,A!,AD];have a:x/65536<256:=o!
 have b:=od a;refine⟨_,vo a o!,o!,λ_=>?_⟩;grind[Nat.pow_add];have:τ (((x:Int),(0:Int)).1>=65536)=η:=w!
 rw[this,A!,AD];by_cases g:x>=256;have:τ (((x:Int),(0:Int)).1>=256)=ζ:=w!
 have e:wi (((x:Int),(0:Int)).2+8)=((8:Nat):Int):=by show wi (0+8)=_;decide
 rw[this,B!,AD,e,fd8];have a:x/256<256:=o!
 have b:=od a;refine⟨_,vo a o!,o!,λ_=>?_⟩;grind[Nat.pow_add];have:τ (((x:Int),(0:Int)).1>=256)=η:=w!
 rw[this,A!,AD];have a:x<256:=o!
 have b:=od a;refine⟨_,vo (s:=0) a o!,o!,λd=>?_⟩;have:=b.2 d;rw[DA];omega
def CP(B:Nat):Prop:=True
def CPa(B:Nat):CP B:=O!
def PT{α:Type}(T:Prop)(o:Option α)(Q:α->Prop):Prop:=(T->∃r,o=δ r)/\∀r,o=δ r->Q r
section
variable {α β γ:Type}{T:Prop}
def PT.some{r:α}{Q:α->Prop}(h:Q r):PT T (.some r) Q:=⟨λ_=>⟨r,rfl⟩,λs e=>q!⟩
def jV{o:Option α}{Q:α->Prop}(h:An o Q):PT T o Q:=by obtain⟨r,rfl,h⟩:=h;exact PT.some h
def PT.bind{o:Option α}{k:α->Option β}{P:α->Prop}{Q:β->Prop}(h:PT T o P)(a:∀r,P r->PT T (k r) Q):PT T (σ o k) Q:=by
 cases o with
 |none=>exact⟨λt=>(by have⟨r,h⟩:=h.1 t;cases h),λr e=>(by cases e)⟩
 |some r=>exact a r (h.2 r rfl)
def PT.cond{c:Bool}{a b:Option α}{Q:α->Prop}(d:c=ζ->PT T a Q)(e:c=η->PT T b Q):PT T (bif c then a else b) Q:=q!
def PT.dec{p:Prop}{_:Decidable p}{a b:Option α}{Q:α->Prop}(c:p->PT T a Q)(d:¬p->PT T b Q):PT T (bif decide p then a else b) Q:=q!
def Z8{n m:Nat}{a b:Option α}{Q:α->Prop}(e:n=m)(h:PT T a Q):PT T (bif ξ n m then a else b) Q:=t!
end
def nX{x:AM×Int}(h:θ x.1.1<=16)(a:0<=x.2/\x.2<θ x.1.1):An (J0 x) λr=>True:=by unfold J0;have e:=AW (x:=x.2+1);rw[e];refine AC (λb=>?_) (λ_=>?_);simp only[len]at b;refine AA (AI a.1 a.2) λc _=>AA (AI o! b) λd _=>AB trivial;exact AA (AI a.1 a.2) λf _=>AB trivial
def lI{x:AM×AY}(h:θ x.1.1<=16):An (MR x) λr=>True:=by
 unfold MR;refine AA (P:=λ_=>True) ?_ λv _=>A9 (λ_ _=>AB trivial) (λ_ _=>AB trivial);refine AU (λ(s:Int)=>0<=s/\s<=θ x.1.1) (λ(s:Int)=>((θ x.1.1:Int)-s).toNat) ⟨AX _,o!⟩ (λs c=>?_);unfold QX;have e:=AW (x:=s+1);rw[e];refine AC (λa=>?_) (λ_=>AB trivial);simp only[len]at a;have b:((0<=s+1/\s+1<=θ x.1.1)/\((θ x.1.1:Int)-(s+1)).toNat<((θ x.1.1:Int)-s).toNat):=⟨o!,o!⟩
 refine AA (nX h ⟨c.1,a⟩) λd _=>AQ (λ_=>?_) (λ_=>AB b);exact AQ (λ_=>AB trivial) (λ_=>AB b)
def lH{x:AM×Ad}(h:θ x.1.1<=16)(c:θ x.2.2.2<=2199023255552):An (Gm x) λr=>r.2=ζ->gv r.1:=by unfold Gm;refine AK (λ_=>AB n!) (λ_=>AA (qj c) λd b=>AQ (λa=>?_) (λ_=>AB λa=>by cases a));exact AA (lI h) λe _=>AB λ_=>b a
def zf{a b:Int}(f:0<=a:=by omega)(g:0<=b:=by omega)(h:a+b<=1099511627776:=by omega):wi (Int.fdiv (IntKind.wrap .u64 (wi (a+b))) (2^(min (Int.toNat 1) 64)))=(a+b)/2:=by
 have c:wi (a+b)=a+b:=AW;have d:IntKind.wrap .u64 (a+b)=a+b:=by rw[WI];omega
 have e:(2:Int)^(min (Int.toNat 1) 64)=2:=by decide
 rw[c,d,e,kC _ (by decide)];exact AW
def cM{x:Int×Int}:An (Ny x) λr=>r=ζ↔x.1<x.2:=by unfold Ny FO;apply A6;refine AJ (λa=>?_) (λ_=>AB k!);simp at a
def MT{α:Type}(b:Bool)(o:Option α)(Q:α->Prop):Prop:=(b=ζ->∃r,o=δ r)/\∀r,o=δ r->Q r
section
variable {α β:Type}{b:Bool}
def MT.some{r:α}{Q:α->Prop}(h:Q r):MT b (.some r) Q:=⟨λ_=>⟨r,rfl⟩,λs e=>by injection e with e;rw[<-e];exact h⟩
def jX{o:Option α}{Q:α->Prop}(h:An o Q):MT b o Q:=⟨λ_=>by have⟨r,e,_⟩:=h;exact⟨r,e⟩,λr e=>h.get e⟩
def MT.bind{o:Option α}{k:α->Option β}{P:α->Prop}{Q:β->Prop}(h:MT b o P)(d:∀r,P r->MT b (k r) Q):MT b (σ o k) Q:=by refine⟨λc=>?_,λr e=>?_⟩;have⟨r,e⟩:=h.1 c;have⟨s,a⟩:=(d r (h.2 r e)).1 c;exact⟨s,by rw[e];exact a⟩;have⟨s,f,a⟩:=DB.1 e;exact(d s (h.2 s f)).2 r a
def MT.cond{c:Bool}{x y:Option α}{Q:α->Prop}(a:c=ζ->MT b x Q)(d:c=η->MT b y Q):MT b (bif c then x else y) Q:=by cases c<;>grind
def MT.dec{p:Prop}{_:Decidable p}{x y:Option α}{Q:α->Prop}(a:p->MT b x Q)(c:¬p->MT b y Q):MT b (bif decide p then x else y) Q:=by simp_all[MT.cond]
end
def tJ{a:Type}{l:List a}{i:Int}{x:a}:(E2 l i x).length=θ l:=by simp[E2]
abbrev NL:=List Aw
def DS(a:AM):Prop:=∀f∈a.2.2.1,θ f.2.2<=2199023255552
def SpL(l:List Es):Prop:=θ l<=16777216/\∀s∈l,1<=s.1
theorem dP{n:Int}{v:EN}:∀{m:List (Int×EN)},(m.map (·.1)).Nodup->∀q,q∈Pv n v m↔q=(n,v)\/(q∈m/\q.1≠n)
 |[],_,q=>by simp[Pv]
 |p::r,h,q=>by
  rw[Bn,Gg]at h;unfold Pv;by_cases b:p.1=n;grind[List.mem_cons_of_mem,List.mem_map_of_mem];have:(p.1==n)=η:=by simp[b]
  rw[this,A!];constructor;intro a;rcases A1.1 a with a|a;grind;rcases(dP h.2 q).1 a with a|⟨a,hn⟩;exact .inl a;grind[List.mem_cons_of_mem];rintro(a|⟨a,hn⟩);exact CN _ ((dP h.2 q).2 (.inl a));rcases A1.1 a with a|a;grind;exact CN _ ((dP h.2 q).2 (.inr ⟨a,hn⟩))
def vK{n:Int}{v:EN}:∀{m:List (Int×EN)},(m.map (·.1)).Nodup->((Pv n v m).map (·.1)).Nodup
 |[],_=>by simp[Pv]
 |p::r,h=>by
  have b:=h;rw[Bn,Gg]at h;unfold Pv;by_cases a:p.1=n;grind[List.nodup_cons];have:(p.1==n)=η:=by simp[a]
  rw[this,A!,Bn,Gg];refine⟨λc=>?_,vK h.2⟩;grind[dP,List.mem_map_of_mem]
def vI{n:Int}{e:EN}:∀{m:List (Int×EN)},LB n m=δ e->(n,e)∈m
 |[],h=>by cases h
 |p::r,h=>by
  unfold LB at h;by_cases a:p.1=n;grind;have:(p.1==n)=η:=by simp[a]
  rw[this,A!]at h;exact CN _ (vI h)
def vH{n:Int}:∀{m:List (Int×EN)},LB n m=ε->∀q∈m,q.1≠n
 |[],_,q,a=>by cases a
 |p::r,h,q,a=>by
  unfold LB at h;by_cases b:p.1=n;have:(p.1==n)=ζ:=by simp[b]
  rw[this,B!]at h;cases h;have:(p.1==n)=η:=by simp[b]
  rw[this,A!]at h;rcases A1.1 a with a|a;rw[a];exact b;exact vH h q a
def QJ(m:List (Int×EN))(P:EN->Prop):Prop:=(m.map (·.1)).Nodup/\(∀q∈m,q.1=q.2.1)/\∀e,(e.1,e)∈m↔P e
def QJ.nil:QJ [] λ_=>False:=⟨QP,k!,k!⟩
def QJ.put{m:List (Int×EN)}{P:EN->Prop}{v:EN}(h:QJ m P):QJ (Pv v.1 v m) λe=>e=v\/(P e/\e.1≠v.1):=by refine⟨vK h.1,λq a=>?_,λe=>?_⟩;rcases(dP h.1 q).1 a with a|⟨a,_⟩;rw[a];exact h.2.1 q a;rw[dP h.1];constructor;rintro(a|⟨a,hn⟩);injection a with _ a;exact .inl a;exact .inr ⟨(h.2.2 e).1 a,hn⟩;rintro(rfl|⟨a,hn⟩);exact .inl rfl;exact .inr ⟨(h.2.2 e).2 a,hn⟩
def QJ.congr{m:List (Int×EN)}{P Q:EN->Prop}(h:QJ m P)(a:∀e,P e↔Q e):QJ m Q:=⟨h.1,h.2.1,λe=>(h.2.2 e).trans (a e)⟩
def QJ.get{m:List (Int×EN)}{P:EN->Prop}(h:QJ m P){e:EN}(g:P e):LB e.1 m=δ e:=by
 have d:=(h.2.2 e).2 g;cases c:LB e.1 m with
 |none=>exact N! rfl (vH c _ d)
 |some f=>
  have i:∀{l:List (Int×EN)},(l.map (·.1)).Nodup->∀{n:Int}{a b:EN},(n,a)∈l->(n,b)∈l->a=b:=by intro l;induction l<;>grind
  rw[i h.1 d (vI c)]
def ZK(e:EN):Bool:=(e.2.1==1)||(e.2.1==2)
def mG(e:EN):BE e=δ (ZK e):=by grind[BE,ZK]
def J6(p i j:Int)(e:EN):Bool:=ZK e&&((e.2.2.2.2.2.2.1.1==p)&&(τ (e.1>i)&&τ (e.1<=j)))
def Pu(s:Int×Int)(n:Int):Bool:=τ (n>=s.1)&&τ (n<=s.2)
def has_eq(s:Int×Int)(n:Int):Iw (s,n)=δ (Pu s n):=by grind[Iw,Pu]
def AIJ{e:EN}{l:List (Int×Int)}(j:θ l<=16777216):An (Aa (WV e l) 0) λr=>(∀u,r=.inl u->0<=u/\(l.any λs=>Pu s e.1)=ζ)/\(∀u,r=.inr u->(l.any λs=>Pu s e.1)=η):=by refine AU (λ(s:Int)=>0<=s/\s<=θ l/\∀x∈l.take s.toNat,Pu x e.1=η) (λ(s:Int)=>((θ l:Int)-s).toNat) ⟨AX _,o!,k!⟩ (λs d=>?_);have⟨g,m,h⟩:=d;unfold WV;refine AC (λa=>?_) (λa=>AB ⟨λu b=>(by cases b),λu _=>?_⟩);simp[len]at a;rw[(AW (x:=s+1))];refine AA (AI g a) λn c=>?_;rw[has_eq,AD];refine AJ (λk=>AB ⟨λu b=>?_,λu b=>(by cases b)⟩) (λi=>AB ⟨⟨o!,o!,λx f=>?_⟩,o!⟩);grind[List.any_eq_true];rw[show(s+1).toNat=s.toNat+1 by omega,CI,c.1]at f;grind[Option.toList_some,List.mem_singleton];simp[len]at a;rw[BK o!]at h;rw[oM];grind[List.any_eq_true]
def AII{a:AM}{l:AZ}{p i j:Int}{d:List (Int×Int)}(R:Dd l)(hv:1≤θ d)(S:θ d≤16777216):
  An (Aa (WU (a,l,p,i,j) d) (0,0,[])) λr=>r.1=((l.2.1.filter λe=>J6 p i j e&&(d.tail.any λs=>Pu s e.1)).length:Int)/\QJ r.2 λe=>e∈l.2.1/\J6 p i j e=ζ:=by
 obtain⟨l1,l2,l3,l4,l5,K⟩:=R;refine AU (λ(s:Int×(Int×List (Int×EN)))=>0<=s.1/\s.1<=θ l.2.1/\s.2.1=(((l.2.1.take s.1.toNat).filter λe=>J6 p i j e&&(d.tail.any λs=>Pu s e.1)).length:Int)/\QJ s.2.2 λe=>e∈l.2.1.take s.1.toNat/\J6 p i j e=ζ) (λs=>((θ l.2.1:Int)-s.1).toNat)
  ⟨AX _,d!,k!,QJ.nil.congr λe=>k!⟩ (λs O=>?_)
 obtain⟨T,i2,A_,B⟩:=O;unfold WU;dsimp only;refine AC (λy=>?_) (λy=>AB ?_);simp only[len]at y;have L:=AW (x:=s.1+1);rw[L];refine AA (AI T y) λq I=>?_;rw[mG,AD];have g:l.2.1.take (s.1+1).toNat=l.2.1.take s.1.toNat++[q]:=by rw[show(s.1+1).toNat=s.1.toNat+1 by omega,CI,I.1];rfl
 have f:J6 p i j q=η->(0<=s.1+1/\s.1+1<=θ l.2.1/\s.2.1=(((l.2.1.take (s.1+1).toNat).filter λe=>J6 p i j e&&(d.tail.any λs=>Pu s e.1)).length:Int)/\QJ s.2.2 λe=>e∈l.2.1.take (s.1+1).toNat/\J6 p i j e=ζ)/\((θ l.2.1:Int)-(s.1+1)).toNat<((θ l.2.1:Int)-s.1).toNat:=λw=>by
  refine⟨⟨o!,o!,?_,?_⟩,o!⟩;rw[g,Gr,A_];simp[w];rw[g];refine B.congr λe=>⟨λh=>⟨Ao.2 (.inl h.1),h.2⟩,λh=>⟨?_,h.2⟩⟩
  rcases Ao.1 h.1 with m|m;exact m;rw[A7.1 m,w]at h;cases h.2
 refine AJ (λC=>?_) (λC=>AB (f (by simp[J6,C])));refine AJ (λD_=>?_) (λD_=>AB (f (by simp[J6,D_])));refine AJ (λE=>?_) (λE=>AB (f (by unfold J6;rw[E];simp)));refine AJ (λF=>?_) (λF=>AB (f (by unfold J6;rw[F];simp)));have w:J6 p i j q=ζ:=by unfold J6;rw[C,D_,E,F];rfl
 refine AA (CA (lo:=1) (hi:=(θ d:Int))) λV N=>?_;have H:V=d.tail:=by
  rw[N.1,BK (by rw[EY];omega)];cases d with
  |nil=>rfl
  |cons a r=>rfl
 subst H;refine AA (AIJ (by rw[List.length_tail];omega)) λU o=>?_;have M:=K s.1.toNat q I.1;have n:QJ (Pv q.1 q s.2.2) λe=>e∈l.2.1.take (s.1+1).toNat/\J6 p i j e=ζ:=by
  rw[g];refine B.put.congr λe=>⟨?_,λh=>?_⟩
  rintro(rfl|⟨h,_⟩);exact⟨Ao.2 (.inr (A7.2 rfl)),w⟩;exact⟨Ao.2 (.inl h.1),h.2⟩;rcases Ao.1 h.1 with m|m;refine .inr ⟨⟨m,h.2⟩,λZ=>?_⟩;obtain⟨k,Q,v⟩:=VM.1 m;rw[BJ]at Q;rw[List.getElem_take]at v;have:=(K k e (by rw[<-v];exact As o!)).1;omega;exact .inl (A7.1 m)
 have t:∀b:Bool,(d.tail.any λs=>Pu s q.1)=b->((((l.2.1.take (s.1+1).toNat).filter λe=>J6 p i j e&&(d.tail.any λs=>Pu s e.1)).length:Nat):Int)=s.2.1+(if b=ζ then 1 else 0):=λb P=>by rw[g,Gr,Af,A_];cases b<;>simp[w,P]
 have J:(((l.2.1.take s.1.toNat).filter λe=>J6 p i j e&&(d.tail.any λs=>Pu s e.1)).length:Int)<=4096:=by have W:=FT (λe=>J6 p i j e&&(d.tail.any λs=>Pu s e.1)) (l.2.1.take s.1.toNat);have X_:=di s.1.toNat l.2.1;have Y_:=List.length_take_le' s.1.toNat l.2.1;omega
 have G:=AW (x:=s.2.1+1);rw[G];refine A9 (λu z=>?_) (λu z=>AB ⟨⟨d!,d!,?_,n⟩,d!⟩);refine AC (λ_=>AB ⟨⟨d!,d!,?_,n⟩,d!⟩) (λc=>N! (o.1 u z).1 c);rw[t ζ (o.1 u z).2];rfl;rw[t η (o.2 u z)];simp;simp only[len]at y;rw[BK o!]at A_ B;exact⟨A_,B⟩
def iY(f e:EN):Prop:=f.2.2.2.2.2.2.1.1<e.2.2.2.2.2.2.1.1\/(f.2.2.2.2.2.2.1.1=e.2.2.2.2.2.2.1.1/\f.1<e.1)
theorem mT(e:EN):¬iY e e:=by unfold iY;omega
def kY{a b c:EN}(h:iY a b)(g:iY b c):iY a c:=by unfold iY at*;omega
def AAk(f e:EN):∃c:Int,Cu (f,e)=δ c/\(c<0↔iY f e)/\(c=0↔f.2.2.2.2.2.2.1.1=e.2.2.2.2.2.2.1.1/\f.1=e.1):=by
 have:An (Cu (f,e)) λc=>(c<0↔iY f e)/\(c=0↔f.2.2.2.2.2.2.1.1=e.2.2.2.2.2.2.1.1/\f.1=e.1):=by
  unfold Cu;unfold iY;dsimp only;repeat' with_reducible first|intro a|apply AC|apply AQ|apply AJ|apply AB
  all_goals omega
 exact this
def w9(x:AY)(i:Nat):Prop:=∀e,x.2.2.2.2.2[i]?=δ e->
 (L3 e/\ZK e=ζ/\x.1<=e.1/\e.1<=x.2.1/\x.2.2.1<=e.2.2.2.2.2.2.1.1/\e.2.2.2.2.2.2.1.1<=x.2.2.2.1)/\(i=0->e.2.2.2.2.1<x.1)/\
 ∀f,0<i->x.2.2.2.2.2[i-1]?=δ f->iY f e/\(f.2.2.2.2.2.2.1.1=e.2.2.2.2.2.2.1.1->e.2.2.2.2.1=f.1)/\(f.2.2.2.2.2.2.1.1≠e.2.2.2.2.2.2.1.1->e.2.2.2.2.1<x.1)
def VR(x:AY):Prop:=gv x/\∀i,w9 x i
def VR.ent{x:AY}(h:VR x){e:EN}(a:e∈x.2.2.2.2.2):L3 e/\ZK e=ζ/\x.1<=e.1/\e.1<=x.2.1/\x.2.2.1<=e.2.2.2.2.2.2.1.1/\e.2.2.2.2.2.2.1.1<=x.2.2.2.1:=by obtain⟨i,b,rfl⟩:=VM.1 a;exact(h.2 i _ (As b)).1
def zA{x:AY}(U:θ x.2.2.2.2.2<=4096):An (Aa (G4 x) 0) λr=>(r=.inl η/\¬ ∀i,w9 x i)\/(r=.inr ()/\∀i,w9 x i):=by
 refine Cb (λ(s:Int)=>0<=s/\s<=θ x.2.2.2.2.2/\∀i:Nat,(i:Int)<s->w9 x i) (λ(s:Int)=>((θ x.2.2.2.2.2:Int)-s).toNat) ⟨AX _,o!,λi z=>o!⟩ (λs L=>?_);obtain⟨H,V,I⟩:=L;unfold G4;simp only[len];refine AC (λF=>?_) (λF=>An.done (.inr ⟨rfl,λi=>?_⟩))
 case refine_2=>by_cases z:(i:Int)<s;exact I i z;intro e m;rw[Cf o!]at m;cases m
 obtain⟨k,rfl⟩:=FC H;refine AA (AI H F) λv d=>?_;have d:=d.1;rw[Cz]at d;have a:(w9 x k->False)->An (δ (Step.done (.inl η)):Option (Step Int (Bool⊕Unit))) (Ls (λ(s:Int)=>0<=s/\s<=θ x.2.2.2.2.2/\∀i:Nat,(i:Int)<s->w9 x i) (λ(s:Int)=>((θ x.2.2.2.2.2:Int)-s).toNat) ((θ x.2.2.2.2.2:Int)-(k:Int)).toNat λr=>(r=.inl η/\¬ ∀i,w9 x i)\/(r=.inr ()/\∀i,w9 x i)):=λh=>An.done (.inl ⟨rfl,λu=>h (u k)⟩);have j:w9 x k->An (δ (Step.next (wi ((k:Int)+1))):Option (Step Int (Bool⊕Unit))) (Ls (λ(s:Int)=>0<=s/\s<=θ x.2.2.2.2.2/\∀i:Nat,(i:Int)<s->w9 x i) (λ(s:Int)=>((θ x.2.2.2.2.2:Int)-s).toNat) ((θ x.2.2.2.2.2:Int)-(k:Int)).toNat λr=>(r=.inl η/\¬ ∀i,w9 x i)\/(r=.inr ()/\∀i,w9 x i)):=λh=>by
  rw[AW];refine An.next ⟨o!,o!,λi z=>?_⟩ o!
  by_cases A_:i=k;rw[A_];exact h;exact I i o!
 refine AA CG λS D_=>AO (λl=>a λok=>?_) (λl=>?_);have:=D_.2 (ok v d).1.1;rw[l]at this;cases this;have Q:=D_.1 l;refine AA Bs λT E=>?_;have q:ZK v=ζ↔v.2.1=1\/v.2.1=2:=by unfold ZK;simp
 refine AO (λl=>a λok=>?_) (λl=>?_);have:=E.2 (q.1 (ok v d).1.2.1);rw[l]at this;cases this;have R:=q.2 (E.1 l);refine AC (λt=>a λok=>?_) (λW=>?_);have:=(ok v d).1.2.2;omega;refine AC (λt=>a λok=>?_) (λX_=>?_);have:=(ok v d).1.2.2;omega;refine AC (λt=>a λok=>?_) (λY_=>?_);have:=(ok v d).1.2.2;omega;refine AC (λt=>a λok=>?_) (λZ=>?_);have:=(ok v d).1.2.2;omega;have C:L3 v/\ZK v=ζ/\x.1<=v.1/\v.1<=x.2.1/\x.2.2.1<=v.2.2.2.2.2.2.1.1/\v.2.2.2.2.2.2.1.1<=x.2.2.2.1:=⟨Q,R,o!⟩
 apply AC<;>intro N;have O:wi ((k:Int)-1)=((k-1:Nat):Int):=by rw[AW];omega
 have G:k-1<θ x.2.2.2.2.2:=o!
 have w:ix x.2.2.2.2.2 (wi ((k:Int)-1))=δ (x.2.2.2.2.2[k-1]):=by rw[O];unfold ix;rw[C! o!,Cz,As G]
 have n:x.2.2.2.2.2[k-1]?=δ (x.2.2.2.2.2[k-1]):=As G;generalize x.2.2.2.2.2[k-1]=f at w n;obtain⟨c,y,p,M⟩:=AAk f v;rw[w,AD,y,AD];refine AC (λt=>a λok=>?_) (λt=>?_);have:=p.2 ((ok v d).2.2 f o! n).1;omega;have J:=p.1 o!;rw[G! o!,B!,AD];refine AA (P:=λr:Bool⊕Unit=>(r=.inl η/\¬w9 x k)\/(r=.inr ()/\w9 x k)) ?_ λr hr=>?_;apply AQ<;>intro m;rw[AD];refine AK (λhn=>AB (.inl ⟨rfl,λok=>hn (((ok v d).2.2 f o! n).2.1 m)⟩)) (λhn=>AB (.inr ⟨rfl,λe g=>?_⟩));rw[d]at g;injection g with g;subst g;refine⟨C,λo=>N! o o!,λK _ b=>?_⟩;rw[n]at b;injection b with b;subst b;exact⟨J,λ_=>hn,λu=>N! m u⟩;refine AC (λhn=>AB (.inl ⟨rfl,λok=>?_⟩)) (λhn=>AB (.inr ⟨rfl,λe g=>?_⟩));have:=((ok v d).2.2 f o! n).2.2 m;omega;rw[d]at g;injection g with g;subst g;refine⟨C,λo=>N! o o!,λK _ b=>?_⟩;rw[n]at b;injection b with b;subst b;exact⟨J,λu=>N! u m,λ_=>o!⟩;rcases hr with⟨rfl,hr⟩|⟨rfl,hr⟩;exact BG (a hr);exact Av (j hr);rw[F! N,A!];have B:k=0:=o!
 apply BZ;apply AC<;>intro hn;rw[AD];refine BG (a λok=>?_);have:=(ok v d).2.1 B;omega;rw[AD];refine Av (j λe g=>?_);rw[d]at g;injection g with g;subst g;exact⟨C,λ_=>o!,λf o=>N! o o!⟩
def XO{x:AY}:An (Eg x) λr=>r=ζ↔VR x:=by unfold Eg;refine AA Ge λf c=>AO (λb=>AB ⟨λa=>(by cases a),λa=>?_⟩) (λb=>?_);obtain⟨⟨a1,a2,a3,a4,a5,a6,a7,a8,a9⟩,_⟩:=a;have:=c.2 ⟨a1,a2,a3,a4,a5,a6,a7,a8⟩;rw[b]at this;cases this;have hn:=c.1 b;dsimp only at hn;refine AC (λd=>AB ⟨λa=>(by cases a),λa=>?_⟩) (λe=>?_);have:=a.1.2.2.2.2.2.2.2.2;simp only[len]at d;omega;simp only[len]at e;refine AA (zA o!) λr hr=>?_;rcases hr with⟨rfl,hr⟩|⟨rfl,hr⟩;exact BG (AB ⟨λa=>(by cases a),λa=>N! a.2 hr⟩);exact Av (AB ⟨λ_=>⟨⟨hn.1,hn.2.1,hn.2.2.1,hn.2.2.2.1,hn.2.2.2.2.1,hn.2.2.2.2.2.1,hn.2.2.2.2.2.2.1,hn.2.2.2.2.2.2.2,o!⟩,hr⟩,λ_=>rfl⟩)
abbrev NE:=Aw
def lN(x y:NE):Bool:=τ (x.1.2.2.1<y.1.2.2.1\/(x.1.2.2.1=y.1.2.2.1/\(x.1.1<y.1.1\/(x.1.1=y.1.1/\x.2<y.2))))
def tm:Sort.SWO lN where
 irrefl x:=by simp[lN]
 trans x y z h1 h2:=by simp[lN,K!]at*;omega
 ntrans x y z h1 h2:=by simp[lN,decide_eq_false_iff_not]at*;omega
def nz{l:List Int}{k:Nat}{v:Int}(h:l[k]?=δ v)(b:k<1000)(c:θ l<1000):Aa (J1 l) (k:Int)=if v=0 then Aa (J1 l) ((k+1:Nat):Int)else δ (.inl v):=by
 rw[ES];have a:=(Fp.1 h).1;have d:τ ((k:Int)<len l)=ζ:=w!
 have e:ix l (k:Int)=δ v:=by unfold ix;rw[C! o!];simpa using h
 grind[wip,J1]
def AIP(a b c:Int):KO [a,b,c]=δ (if a≠0 then a else if b≠0 then b else c):=by unfold KO;rw[show(0:Int)=((0:Nat):Int)from rfl,nz (k:=0) (v:=a) rfl o! k!];by_cases d:a=0;rw[C! d,nz (k:=1) (v:=b) rfl o! k!];by_cases e:b=0;rw[C! e,nz (k:=2) (v:=c) rfl o! k!];grind[ES,J1];rw[D! e];simp[d,e];rw[D! d];simp[d]
def AFt(x y:NE):∃v,Hl (x,y)=δ v/\τ (v<0)=lN x y:=by
 unfold Hl;dsimp only;simp only[zN,AD,AIP];refine⟨_,rfl,?_⟩;unfold lN;apply decide_eq_decide.2;repeat' split
 all_goals omega
section
variable {α:Type} [Inhabited α]
theorem zX{d:Array α}{i:Int}{k:Nat}(a:i=k)(b:k<d.size:=by omega):ix d.toList i=some d[k]! :=by subst a;unfold ix;rw[if_pos (by omega)];simp[b]
omit [Inhabited α] in
theorem AHS{d:Array α}{i:Int}{k:Nat}(a:i=k)(x:α):E2 d.toList i x=(d.setIfInBounds k x).toList:=by subst a;unfold E2;simp
def AF5{d:Array α}{i j:Int}{a b:Nat}(c:i=a)(e:j=b):E2 (E2 d.toList i d[b]!) j d[a]! =(Sort.swp d a b).toList:=by rw[AHS c,AHS e];rfl
def AFM{d:Array α}{i j:Int}{a b:Nat}{x:α}(e:i=a)(f:j=b)(c:b<d.size:=by omega):ix (E2 d.toList i x) j=some (d.setIfInBounds a x)[b]! :=by grind[AHS,zX]
theorem jp(lt:α->α->Bool)(k:Nat):∀(j:Nat)(d:Array α),(Sort.insInner lt k j d).size=d.size
 |0,_=>rfl
 |j+1,d=>by unfold Sort.insInner;split;rw[jp lt k j,Sort.size_swp];rfl
end
theorem AA0{a b:Int}{k:Nat}(g:a=k): ∀(j:Nat) (d:Array NE),j<d.size->d.size<=16777216->Aa (DW (a,b)) ((j:Int),d.toList)=some (Sort.insInner lN k j d).toList
 |0,d,hj,hd=>by
  rw[ES];have:decide (((0:Nat):Int)>a)=false:=by simp;omega
  simp only[DW,this,cond_false];rfl
 |j+1,d,hj,hd=>by
  rw[ES];have⟨v,e,f⟩:=AFt d[j+1]! d[j]!;simp only[DW,(by grind[mf]:wi (((j+1:Nat):Int)-1)=(j:Int)),(zX rfl hj),(zX rfl:ix d.toList (j:Int)=some d[j]!),(AFM rfl rfl:ix (E2 d.toList ((j+1:Nat):Int) d[j]!) (j:Int)=some (d.setIfInBounds (j+1) d[j]!)[j]!),AD,e,f,AF5 (d:=d) (a:=j+1) (b:=j) rfl rfl];unfold Sort.insInner;by_cases c:j+1>k;have:decide (((j+1:Nat):Int)>a)=true:=by simp;omega
  rw[this];cases h:lN d[j+1]! d[j]! with
  |true=>simp[cond_true,c,decide_true,XP,if_true];exact AA0 g j _ (by rw[Sort.size_swp];omega) (by rw[Sort.size_swp];omega)
  |false=>simp[c]
  have:decide (((j+1:Nat):Int)>a)=false:=by simp;omega
  rw[this];simp[c]
def ADM{a b:Int}{k m:Nat}(g:a=k)(h:b=m):∀(n i:Nat)(d:Array NE),m-i<=n->m<=d.size->d.size<=16777216->Aa (DU (a,b)) ((i:Int),d.toList)=δ (Sort.insOuter lN k m i d).toList:=by
 intro n;induction n with
 |zero=>grind[ES,Sort.insOuter,DU]
 |succ n j=>intro i d c e f;rw[ES,Sort.insOuter];grind[mf,jp,DU,AA0]
def AAz{d:Array NE}{a b:Int}{k m:Nat}(c:a=k)(e:b=m)(g:m<=d.size)(h:k<=m)(f:d.size<=16777216):Cv d.toList (a,b)=δ (Sort.insertionSort lN d k m).toList:=by unfold Cv;dsimp only;rw[(by grind[mf]:wi (a+1)=((k+1:Nat):Int)),ADM c e (m-(k+1)) (k+1) d o! g f];rfl
def swR(a b n:Nat)(d:Array NE)(k:Nat):NE:=if a<=k/\k<a+n then d[b+(k-a)]! else if b<=k/\k<b+n then d[a+(k-b)]! else d[k]!
def wy{d:Array NE}{a b n:Nat}(m:a+n≤b)(q:b+n≤d.size)(u:d.size≤16777216):
  An (Ck d.toList ((a:Int),((b:Int),(n:Int)))) λr=> ∃e:Array NE,r=e.toList/\e.size=d.size/\ ∀k,k<d.size->e[k]! =swR a b n d k:=by
 unfold Ck;refine AA (P:=λr=> ∃e:Array NE,r=e.toList/\e.size=d.size/\ ∀k,k<d.size->e[k]! =swR a b n d k) ?_ λr h=>AB h;refine AU (λ(s:Int×List NE)=> ∃(t:Nat) (e:Array NE),s.1=t/\s.2=e.toList/\t<=n/\e.size=d.size/\ ∀k,k<d.size->e[k]! =swR a b t d k) (λs=>n-s.1.toNat) ⟨0,d,rfl,rfl,Bo _,rfl,λk _=>by unfold swR;rw[if_neg (by omega),if_neg (by omega)]⟩ ?_;rintro⟨y,A_⟩ ⟨t,e,g,j,x,l,c⟩;dsimp only at g j;subst g j;unfold Ha;dsimp only;refine AC (λo=>?_) (λo=>AB ⟨e,rfl,l,?_⟩);have v:t<n:=by omega
 simp only[(by grind[mf]:wi ((b:Int)+(t:Int))=((b+t:Nat):Int)),(by grind[mf]:wi ((a:Int)+(t:Int))=((a+t:Nat):Int)),(zX rfl:ix e.toList ((b+t:Nat):Int)=some e[b+t]!),(zX rfl:ix e.toList ((a+t:Nat):Int)=some e[a+t]!),(AFM rfl rfl:ix (E2 e.toList ((a+t:Nat):Int) e[b+t]!) ((b+t:Nat):Int)=some (e.setIfInBounds (a+t) e[b+t]!)[b+t]!),AD,wip (i:=t),AF5 (d:=e) (a:=a+t) (b:=b+t) rfl rfl];refine AB ⟨⟨t+1,_,rfl,rfl,by omega,by rw[Sort.size_swp,l],λk p=>?_⟩,?_⟩;rw[Sort.swp_get e (by omega) (by omega)];rw[(c (a+t) (by omega)),(c (b+t) (by omega)),(c k p)];unfold swR;by_cases k1:k=a+t;subst k1;rw[if_neg (by omega),if_pos rfl,if_neg (by omega),if_neg (by omega),if_pos (by omega)];exact congrArg (λz=>d[z]!) (by omega);by_cases f:k=b+t;subst f;rw[if_pos rfl,if_neg (by omega),if_neg (by omega),if_neg (by omega),if_pos (by omega)];exact congrArg (λz=>d[z]!) (by omega);rw[if_neg f,if_neg k1];by_cases w:a<=k/\k<a+t<;>grind;show n-((t+1:Nat):Int).toNat<n-((t:Nat):Int).toNat
 omega;have:t=n:=by omega
 rw[<-this];exact c
def gJ(x:AY):BV:=[80,77,82,78]++(DZ x.1 8++(DZ x.2.1 8++(DZ x.2.2.1 4++(DZ x.2.2.2.1 4++(DZ x.2.2.2.2.1 1++DZ (θ x.2.2.2.2.2:Int) 4)))))
def Q5(x:AY):BV:=JJ (gJ x)++Kj x.2.2.2.2.2
theorem kV(x:AY):(gJ x).length=33:=rfl
def gv.inr{x:AY}(h:gv x):dc 8 x.1/\dc 8 x.2.1/\dc 4 x.2.2.1/\dc 4 x.2.2.2.1/\dc 1 x.2.2.2.2.1/\dc 4 (θ x.2.2.2.2.2:Int):=by have⟨a1,a2,a3,a4,a5,a6,a7,a8,a9⟩:=h;grind[dc]
def VR.len{x:AY}(h:VR x):(Q5 x).length<=34406441:=by have b:=qu (l:=x.2.2.2.2.2) λe a=>(h.ent a).1;have c:=h.1.2.2.2.2.2.2.2.2;grind[Q5,List.length_append,Fv,kV]
def AEc{x:AY}(h:gv x):HP x=δ (gJ x):=by unfold HP;rw[HZ k! g! g!,AD];rw[HZ (by simp only[Af,A3];simp) g! g!,AD];rw[HZ (by simp only[Af,A3];simp) g! g!,AD];rw[HZ (by simp only[Af,A3];simp) g! g!,AD];rw[HZ (by simp only[Af,A3];simp) g! g!,AD];rw[HZ (by simp only[Af,A3];simp) g! g!,AD];rfl
def ph{x:AY}(h:VR x):Hz x=δ (Q5 x,0):=by
 have q:=h.1.2.2.2.2.2.2.2.2;have⟨b,g,d⟩:=XO (x:=x);have c:=d.2 h;subst c;unfold Hz;rw[g,AD,Ca,A!,AEc h.1,AD,ai (by rw[kV];decide),AD];have key:An (Aa (MH x) (JJ (gJ x),0)) λr=>r=Q5 x:=by
  refine Cb (λ(s:BV×Int)=>∃k:Nat,s.2=k/\k<=θ x.2.2.2.2.2/\s.1=JJ (gJ x)++Kj (x.2.2.2.2.2.take k)) (λs=>θ x.2.2.2.2.2-s.2.toNat) ⟨0,rfl,Bo _,by simp[Kj]⟩ ?_;rintro⟨y,z⟩ ⟨k,o,u,p⟩;subst o p;unfold MH;simp only[len];refine AC (λf=>?_) (λf=>An.done (by rw[BK o!];rfl));refine AA (AI o! f) λv d=>?_;have a:=(h.ent d.2).1;have m:=R3 a;have j:=qu (l:=x.2.2.2.2.2.take k) λe i=>(h.ent (Iq i)).1;have n:(x.2.2.2.2.2.take k).length<=4096:=q!
  rw[pe a,AD,ai m,AD];refine AA (Co (by rw[Af,Fv,Fv,kV];omega)) λw t=>?_;rw[AW];refine An.next ⟨k+1,q!,o!,?_⟩ q!
  grind[Int.toNat_natCast,List.take_add_one,Option.toList_some,R4,List.append_assoc]
 obtain⟨r,hr,rfl⟩:=key;rw[hr];rfl
def WR(x:AY):Prop:=gv x/\∀e∈x.2.2.2.2.2,IQ e.2.2.2.2.2.2.1.2.2.1/\IQ e.2.2.2.2.2.2.1.2.2.2/\e.2.2.2.2.2.2.2=[]
def ACx{e:EN}(h:L3 e)(b:ZK e=ζ):e.2.2.2.2.2.2.2=[]:=by
 have a:e.2.1=1\/e.2.1=2:=by grind[ZK]
 have⟨_,_,_,_,_,_,_,_,c⟩:=h;grind[Ur]
def VR.wr{x:AY}(h:VR x):WR x:=⟨h.1,λe b=>by have a:=h.ent b;exact⟨a.1.cells.1,a.1.cells.2.1,ACx a.1 a.2.1⟩⟩
def ABw{e:EN}(h:GB e=δ ζ)(f:ZK e=ζ):e.2.2.2.2.2.2.2=[]:=by
 have d:e.2.1=1\/e.2.1=2:=by unfold ZK at f;simpa using f
 have key:∀r,GB e=δ r->r=ζ->e.2.2.2.2.2.2.2=[]:=by
  have main:MT η (GB e) λr=>r=ζ->e.2.2.2.2.2.2.2=[]:=by
   have o:∀{Q:Bool->Prop},(∀r,r=η->Q r)->MT η (δ η) Q:=λm=>MT.some (m _ rfl);have a:MT η (δ η) λr=>r=ζ->e.2.2.2.2.2.2.2=[]:=MT.some λb=>by cases b
   unfold GB;refine MT.dec (λ_=>a) λ_=>MT.dec (λ_=>a) λ_=>MT.dec (λ_=>a) λ_=>MT.dec (λ_=>a) λ_=>MT.bind (jX Kn) λp _=>MT.cond (λ_=>a) λ_=>MT.bind (jX Kn) λq _=>MT.cond (λ_=>a) λ_=>MT.bind (jX Kn) λs _=>MT.cond (λ_=>a) λ_=>MT.dec (λg=>N! g o!) λ_=>MT.dec (λi=>?_) λi=>?_;refine MT.dec (λ_=>a) λ_=>MT.bind (P:=λ_=>True) (MT.dec (λ_=>MT.some trivial) λ_=>MT.some trivial) λn _=>MT.cond (λ_=>a) λ_=>MT.bind (P:=λr=>r=η->e.2.2.2.2.2.2.2=[]) ?_ λt k=>?_;refine MT.cond (λl=>MT.some λb=>?_) λ_=>MT.some λb=>?_;rw[l]at b;cases b;simpa using b;refine MT.cond (λ_=>a) λb=>?_;exact⟨λc=>(by cases c),λr _ _=>k b⟩;refine MT.dec (λj=>?_) λj=>N! d o!;refine MT.dec (λ_=>a) λ_=>MT.bind (P:=λ_=>True) (MT.dec (λ_=>MT.some trivial) λ_=>MT.some trivial) λn _=>MT.cond (λ_=>a) λ_=>MT.cond (λ_=>a) λb=>?_;exact⟨λc=>(by cases c),λr _ _=>by simpa using b⟩
  exact main.2
 exact key ζ h rfl
def zm{e:EN}:BE e=δ (ZK e):=by unfold BE ZK;grind
def yR{x:AY}:An (MO x) λr=>r=ζ↔1<=x.1/\x.1<=x.2.1/\x.2.1<=1099511627776/\0<=x.2.2.1/\x.2.2.1<=x.2.2.2.1/\x.2.2.2.1<64/\0<=x.2.2.2.2.1/\x.2.2.2.2.1<=8:=by
 unfold MO;exact x!
def ABy{x:AY}{e:EN}:An (Pe (x,e)) λr=>r=ζ↔ZK e=ζ/\x.2.2.1<=e.2.2.2.2.2.2.1.1/\e.2.2.2.2.2.2.1.1<=x.2.2.2.1/\x.1<=e.1/\e.1<=x.2.1:=by
 unfold Pe;rw[zm,AD];refine AJ (λa=>?_) (λa=>AB ⟨λb=>(by cases b),λb=>q!⟩);exact x!
def AHJ(a b:Int):KO [a,b]=δ (if a≠0 then a else b):=by unfold KO;rw[show(0:Int)=((0:Nat):Int)from rfl,nz (k:=0) (v:=a) rfl o! k!];by_cases c:a=0;rw[C! c,nz (k:=1) (v:=b) rfl o! k!];grind[ES,J1];grind
def zn(f e:EN):∃c:Int,OI (f,e)=δ c/\(c<0↔iY f e):=by unfold OI;rw[zN,zN,AD,AD,AHJ,AD];unfold iY;grind
def ABx{x:AY}(I:θ x.2.2.2.2.2<=4096):An (Aa (Si x) 0) λr=>(r=.inl η/\¬ ∀i,w9 x i)\/(r=.inr ()/\∀e∈x.2.2.2.2.2,ZK e=ζ/\e.2.2.2.2.2.2.2=[]):=by
 refine Cb (λ(s:Int)=>0<=s/\s<=θ x.2.2.2.2.2/\∀e∈x.2.2.2.2.2.take s.toNat,ZK e=ζ/\e.2.2.2.2.2.2.2=[]) (λ(s:Int)=>((θ x.2.2.2.2.2:Int)-s).toNat) ⟨AX _,o!,λe p=>by simp at p⟩ (λs C=>?_);have⟨w,J,y⟩:=C;unfold Si;simp only[len];refine AC (λu=>?_) (λu=>An.done (.inr ⟨rfl,by rw[BK o!]at y;exact y⟩));obtain⟨k,rfl⟩:=FC w;refine AA (AI w u) λv d=>?_;have d:=d.1;rw[Cz]at d;have a:(w9 x k->False)->An (δ (Step.done (.inl η)):Option (Step Int (Bool⊕Unit))) (Ls (λ(s:Int)=>0<=s/\s<=θ x.2.2.2.2.2/\∀e∈x.2.2.2.2.2.take s.toNat,ZK e=ζ/\e.2.2.2.2.2.2.2=[]) (λ(s:Int)=>((θ x.2.2.2.2.2:Int)-s).toNat) ((θ x.2.2.2.2.2:Int)-(k:Int)).toNat λr=>(r=.inl η/\¬ ∀i,w9 x i)\/(r=.inr ()/\∀e∈x.2.2.2.2.2,ZK e=ζ/\e.2.2.2.2.2.2.2=[])):=λh=>An.done (.inl ⟨rfl,λD_=>h (D_ k)⟩);refine D6 J2 λG z B=>AO (λj=>a λok=>?_) (λj=>?_);have:=B (ok v d).1.1;rw[j]at this;cases this;refine AA ABy λH t=>AO (λj=>a λok=>?_) (λm=>?_);have q:=(ok v d).1;have:=t.2 ⟨q.2.1,q.2.2.2.2.1,q.2.2.2.2.2,q.2.2.1,q.2.2.2.1⟩;rw[j]at this;cases this;have K:=ABw (by rw[z,j]) ((t.1 m).1);have b:An (δ (Step.next (wi ((k:Int)+1))):Option (Step Int (Bool⊕Unit))) (Ls (λ(s:Int)=>0<=s/\s<=θ x.2.2.2.2.2/\∀e∈x.2.2.2.2.2.take s.toNat,ZK e=ζ/\e.2.2.2.2.2.2.2=[]) (λ(s:Int)=>((θ x.2.2.2.2.2:Int)-s).toNat) ((θ x.2.2.2.2.2:Int)-(k:Int)).toNat λr=>(r=.inl η/\¬ ∀i,w9 x i)\/(r=.inr ()/\∀e∈x.2.2.2.2.2,ZK e=ζ/\e.2.2.2.2.2.2.2=[])):=by
  rw[AW];refine An.next ⟨o!,o!,λe p=>?_⟩ o!
  rw[show((k:Int)+1).toNat=k+1 by omega,CI,d]at p;grind[Option.toList_some,List.mem_singleton]
 have F:∀f,0<k->x.2.2.2.2.2[k-1]?=δ f->ix x.2.2.2.2.2 (wi ((k:Int)-1))=δ f:=λf A_ g=>by rw[show wi ((k:Int)-1)=((k-1:Nat):Int) by rw[AW];omega];unfold ix;grind[Int.toNat_natCast]
 apply AQ<;>intro A_;refine AC (λo=>a λok=>?_) (λ_=>b);have:=(ok v d).2.1 o!;omega;have g:x.2.2.2.2.2[k-1]?=δ (x.2.2.2.2.2[k-1]):=As o!;generalize x.2.2.2.2.2[k-1]=f at g;rw[F f o! g,AD];apply AC<;>intro E;refine AC (λo=>a λok=>?_) (λ_=>b);have:=((ok v d).2.2 f o! g).2.2 o!;omega;have⟨c,n,l⟩:=zn f v;rw[AD,n,AD];refine AC (λo=>a λok=>?_) (λo=>?_);have:=l.2 ((ok v d).2.2 f o! g).1;omega;refine AK (λhn=>a λok=>hn ?_) (λ_=>b);have:=l.1 o!;unfold iY at this;exact((ok v d).2.2 f o! g).2.1 o!
def yS{x:AY}:An (Ub x) λr=>(VR x->r=ζ)/\(r=ζ->gv x/\∀e∈x.2.2.2.2.2,ZK e=ζ/\e.2.2.2.2.2.2.2=[]):=by refine AA yR λg c=>AO (λb=>AB ⟨λa=>?_,λa=>(by cases a)⟩) (λb=>?_);have⟨⟨a1,a2,a3,a4,a5,a6,a7,a8,a9⟩,_⟩:=a;grind;have hn:=c.1 b;refine AC (λf=>AB ⟨λa=>?_,λa=>(by cases a)⟩) (λd=>?_);have:=a.1.2.2.2.2.2.2.2.2;grind;simp[len]at d;refine AA (ABx o!) λr hr=>?_;rcases hr with⟨rfl,hr⟩|⟨rfl,hr⟩;exact BG (AB ⟨λa=>N! a.2 hr,λa=>(by cases a)⟩);exact Av (AB ⟨λ_=>rfl,λ_=>⟨⟨hn.1,hn.2.1,hn.2.2.1,hn.2.2.2.1,hn.2.2.2.2.1,hn.2.2.2.2.2.1,hn.2.2.2.2.2.2.1,hn.2.2.2.2.2.2.2,o!⟩,hr⟩⟩)
def yX{p:BV}(h:θ p=33):Ep (p,([80,77,82,78]:List UInt8))=δ (p.take 4==[80,77,82,78]):=by grind[Ep,EK,Ui,σ]
abbrev ZR:=Int×(Int×(Int×(Int×(Int×AY))))
def u5{p:BV}(x:θ p=33)(t:p.take 4=[80,77,82,78]):∃b c d e f a:Int,(Au (p,4,8)=δ (b,0)∧Au (p,12,8)=δ (c,0)∧Au (p,20,4)=δ (d,0)∧Au (p,24,4)=δ (e,0)∧Au (p,28,1)=δ (f,0)∧Au (p,29,4)=δ (a,0))∧
  (Bl (p,4,8)=δ (b,0)/\Bl (p,12,8)=δ (c,0)/\Bl (p,20,4)=δ (d,0)/\Bl (p,24,4)=δ (e,0)/\Bl (p,28,1)=δ (f,0)/\Bl (p,29,4)=δ (a,0))/\
  p=[80,77,82,78]++(DZ b 8++(DZ c 8++(DZ d 4++(DZ e 4++(DZ f 1++DZ a 4)))))/\0<=a:=by
 have D_:(p.drop 4).length=29:=by rw[EY];omega
 have⟨b,J,a2,g,n,y,l2⟩:=ABl (k:=8) (at_:=4) (by rw[<-t,De]:p=[80,77,82,78]++p.drop 4) g! o! g! g! o!;have⟨c,K,a3,h,o,z,E⟩:=ABl (k:=8) (at_:=12) n (by simp only[Af,A3];decide) o! g! g! o!;have⟨d,L,a4,i,q,A_,F⟩:=ABl (k:=4) (at_:=20) o (by simp only[Af,A3];decide) o! g! g! o!;have⟨e,M,a5,j,r,B,G⟩:=ABl (k:=4) (at_:=24) q (by simp only[Af,A3];decide) o! g! g! o!;have⟨f,N,a6,l,s,C,H⟩:=ABl (k:=1) (at_:=28) r (by simp only[Af,A3];decide) o! g! g! o!;have⟨a,v,a7,m,w,u,I⟩:=ABl (k:=4) (at_:=29) s (by simp only[Af,A3];decide) o! g! g! o!;have:v=[]:=EJ o!;subst this;refine⟨b,c,d,e,f,a,⟨a2,a3,a4,a5,a6,a7⟩,⟨g,h,i,j,l,m⟩,?_,(u.1 g!).1⟩;grind[List.append_assoc]
def xy{x:AY}(h:gv x):(Au (gJ x,4,8)=δ (x.1,0)∧Au (gJ x,12,8)=δ (x.2.1,0)∧Au (gJ x,20,4)=δ (x.2.2.1,0)∧Au (gJ x,24,4)=δ (x.2.2.2.1,0)∧Au (gJ x,28,1)=δ (x.2.2.2.2.1,0)∧Au (gJ x,29,4)=δ ((θ x.2.2.2.2.2:Int),0))∧
  (Bl (gJ x,4,8)=δ (x.1,0)/\Bl (gJ x,12,8)=δ (x.2.1,0)/\Bl (gJ x,20,4)=δ (x.2.2.1,0)/\Bl (gJ x,24,4)=δ (x.2.2.2.1,0)/\Bl (gJ x,28,1)=δ (x.2.2.2.2.1,0)/\Bl (gJ x,29,4)=δ ((θ x.2.2.2.2.2:Int),0)):=by
 have⟨i,j,l,m,n,o⟩:=h.inr;have q:=kV x;have a:gJ x=[80,77,82,78]++(DZ x.1 8++(DZ x.2.1 8++(DZ x.2.2.1 4++(DZ x.2.2.2.1 4++(DZ x.2.2.2.2.1 1++(DZ (θ x.2.2.2.2.2:Int) 4++[])))))):=by rw[Dl];rfl
 generalize gJ x=p at*;have b:=jj (k:=8) (at_:=4) a g! o! g! g! i;rw[<-A5]at a;have c:=jj (k:=8) (at_:=12) a (by simp only[Af,A3];decide) o! g! g! j;rw[<-A5]at a;have d:=jj (k:=4) (at_:=20) a (by simp only[Af,A3];decide) o! g! g! l;rw[<-A5]at a;have e:=jj (k:=4) (at_:=24) a (by simp only[Af,A3];decide) o! g! g! m;rw[<-A5]at a;have f:=jj (k:=1) (at_:=28) a (by simp only[Af,A3];decide) o! g! g! n;rw[<-A5]at a;have g:=jj (k:=4) (at_:=29) a (by simp only[Af,A3];decide) o! g! g! o;exact⟨⟨b.1,c.1,d.1,e.1,f.1,g.1⟩,b.2,c.2,d.2,e.2,f.2,g.2⟩
def AIV{x p:BV}{n:Int}{z:ZR}{j:BV}(D_:θ x≤1099511627776)(l:x=JJ p++j)(hn:0≤n)(o:n≤4096):An (Aa (Gc x n) (((JJ p).length:Int),0,[],z)) λr=>(∃u,r=.inl u∧u.1≠0)∨
  ∃a b,r=.inr (((JJ p++Kj a).length:Int),a,z)/\(θ a:Int)=n/\x=(JJ p++Kj a)++b/\∀e∈a,IQ e.2.2.2.2.2.2.1.2.2.1/\IQ e.2.2.2.2.2.2.1.2.2.2:=by
 refine Cb (λ(s:Int×(Int×(List EN×ZR)))=>∃a b,s=(((JJ p++Kj a).length:Int),(θ a:Int),a,z)/\(θ a:Int)<=n/\x=(JJ p++Kj a)++b/\∀e∈a,IQ e.2.2.2.2.2.2.1.2.2.1/\IQ e.2.2.2.2.2.2.1.2.2.2) (λs=>(n-s.2.1).toNat)
  ⟨[],j,by simp[Kj],by simpa using hn,by simpa[Kj]using l,λe c=>by cases c⟩ ?_
 rintro s ⟨a,b,rfl,E,h,i⟩;unfold Gc;dsimp only;refine AC (λm=>?_) (λm=>An.done (.inr ⟨a,b,rfl,o!,h,i⟩));have g:=E! θ h;rw[Af]at g;rw[(by grind[VL]:CV (x,((JJ p++Kj a).length:Int))=δ (UF (JJ p++Kj a).length b)),AD];refine AK (λc=>An.done (.inl ⟨_,rfl,c⟩)) (λc=>?_);have⟨H,⟨d,t⟩,I⟩:=xL c;refine AA (AHV o!) λv q=>AK (λc=>An.done (.inl ⟨_,rfl,c⟩)) (λf=>?_);have⟨y,A_,B,J,K⟩:=q f;refine AA (Ac w!) λw C=>?_;have k:JJ p++Kj (a++[v.1])=(JJ p++Kj a)++JJ (Bq v.1):=by rw[R4,A5]
 rw[AW];refine An.next ⟨a++[v.1],d,?_,by rw[Af,Cg,CU];omega,?_,λe c=>?_⟩ d!
 have F:((JJ p++Kj (a++[v.1])).length:Int)=((JJ p++Kj a).length:Int)+8+((UF (JJ p++Kj a).length b).1.length:Int):=by grind[List.length_append,JJ,Kj,Fv]
 have G:((a++[v.1]).length:Int)=(θ a:Int)+1:=by grind[List.length_append,List.length_cons,List.length_nil]
 grind[Prod.ext];rw[k,<-y,A5,<-t];exact h;rcases Ao.1 c with c|c;exact i e c;rw[A7.1 c];exact⟨A_,B⟩
def AHW{x:BV}(w:θ x<=1099511627776):An (GW x) λr=>r.2=0->x=Q5 r.1/\VR r.1:=by unfold GW;have q:CV (x,0)=δ (UF 0 x):=VL (a:=[]) (t:=x) w!;rw[q,AD];refine AK (λh=>AB λb=>N! b h) (λh=>?_);have⟨Q,⟨P,z⟩,A_⟩:=xL h;generalize UF 0 x=v0 at*;refine AK (λ_=>AB λb=>N! (show(4:Int)=0 from b) g!) (λg=>?_);simp[len]at g;rw[(by grind[Ui]:Ui v0.1 0 4=δ (v0.1.take 4)),AD];refine AK (λ_=>AB λb=>N! (show(4:Int)=0 from b) g!) (λm=>?_);have⟨K,L,M,N,O,y,⟨a2,a3,a4,a5,a6,a7⟩,⟨C,D_,E,F,G,H⟩,J,j⟩:=u5 (by omega:θ v0.1=33) (by simpa using m);unfold Dv;rw[a2,a3,a4,a5,a6,a7];simp only[AD];refine AC (λ_=>AB λb=>N! (show(4:Int)=0 from b) g!) (λo=>?_);rw[(by rw[A_,Fv];omega:v0.2.1=((JJ v0.1).length:Int))];refine AA (AIV (n:=y) w z j (by first|omega|(dsimp only;omega))) λr hr=>?_;rcases hr with⟨u,rfl,s⟩|⟨I,e,rfl,i,k,p⟩;grind[BG,AB];apply Av;dsimp only at i⊢;have l:=E! θ k;rw[Af]at l;refine AK (λ_=>AB λb=>N! (show(4:Int)=0 from b) g!) (λd=>?_);have c:e=[]:=EJ (by simp only[len]at d;omega);subst c;refine AA (XO) λB f=>AO (λ_=>AB λb=>N! (show(40:Int)=0 from b) g!) (λv=>AB λ_=>⟨?_,f.1 v⟩);grind[Q5,gJ]
def zw{x:AY}(h:VR x):GW (Q5 x)=δ (x,0):=by
 have D_:=h.1.2.2.2.2.2.2.2.2;have j:=h.len;have o:=kV x;have⟨⟨a2,a3,a4,a5,a6,a7⟩,v,y,z,A_,B,C⟩:=xy h.1;unfold GW;have p:CV (Q5 x,0)=δ (gJ x,((JJ (gJ x)).length:Int),0):=by refine(VL (a:=[]) (t:=Q5 x) w!).trans (E! δ ?_);grind[Q5,lg,Fv,Prod.ext,List.length_nil]
 have l:(gJ x).take 4=[80,77,82,78]:=rfl;rw[p,AD];dsimp only[len];rw[show((0:Int) !=0)=η by decide,A!,o,show(((33:Nat):Int) !=33)=η by decide,A!];rw[(by grind[Ui]:Ui (gJ x) 0 4=δ ((gJ x).take 4)),AD,l,H!,A!];unfold Dv;rw[a2,a3,a4,a5,a6,a7];simp only[AD];rw[F! o!,A!];have key:An (Aa (Gc (Q5 x) (θ x.2.2.2.2.2:Int)) (((JJ (gJ x)).length:Int),0,[],x.1,x.2.1,x.2.2.1,x.2.2.2.1,x.2.2.2.2.1,0,0,0,0,0,[])) λr=>r=.inr (((Q5 x).length:Int),x.2.2.2.2.2,x.1,x.2.1,x.2.2.1,x.2.2.2.1,x.2.2.2.2.1,0,0,0,0,0,[]):=by
  refine Cb (λ(s:Int×(Int×(List EN×ZR)))=>∃k:Nat,k<=θ x.2.2.2.2.2/\s=(((JJ (gJ x)++Kj (x.2.2.2.2.2.take k)).length:Int),(k:Int),x.2.2.2.2.2.take k,x.1,x.2.1,x.2.2.1,x.2.2.2.1,x.2.2.2.2.1,0,0,0,0,0,[])) (λs=>θ x.2.2.2.2.2-s.2.1.toNat)
   ⟨0,Bo _,by simp[Kj]⟩ ?_
  rintro s ⟨k,F,rfl⟩;unfold Gc;dsimp only;refine AC (λn=>?_) (λn=>An.done ?_)
  ·have i:k<θ x.2.2.2.2.2:=o!
   have c:=(h.ent (Pa i)).1;have e:Kj x.2.2.2.2.2=Kj (x.2.2.2.2.2.take k)++(JJ (Bq x.2.2.2.2.2[k])++Kj (x.2.2.2.2.2.drop (k+1))):=by grind[nT,List.drop_eq_getElem_cons,Kj,List.flatten_append,List.take_append_drop]
   have d:Q5 x=(JJ (gJ x)++Kj (x.2.2.2.2.2.take k))++(JJ (Bq x.2.2.2.2.2[k])++Kj (x.2.2.2.2.2.drop (k+1))):=by grind[Q5,List.append_assoc]
   have g:=E! θ d;rw[Af]at g;have f:CV (Q5 x,((JJ (gJ x)++Kj (x.2.2.2.2.2.take k)).length:Int))=δ (Bq x.2.2.2.2.2[k],((JJ (gJ x)++Kj (x.2.2.2.2.2.take k)).length:Int)+8+((Bq x.2.2.2.2.2[k]).length:Int),0):=by
    conv=>lhs;arg 1;rw[d]
    rw[VL o!,lg (R3 c)]
   rw[f,AD];dsimp only;rw[show((0:Int) !=0)=η by decide,A!,AD0 c,AD];dsimp only;rw[show((0:Int) !=0)=η by decide,A!];refine AA (Ac (by rw[BJ];simp;omega)) λw u=>?_;rw[AW];refine An.next ⟨k+1,o!,?_⟩ d!
   rw[u.1,CI,As i,lz,R4,<-A5,Af (bs:=JJ (Bq x.2.2.2.2.2[k])),Fv];grind[Prod.ext]
  rw[BK o!];rfl
 obtain⟨r,hr,rfl⟩:=key;rw[hr,AD,mA];dsimp only;rw[show(((Q5 x).length:Int) !=len (Q5 x))=η from H! _,A!];obtain⟨b,E,q⟩:=(XO)
 have m:b=ζ:=q.2 h;grind[Bool.not_true]
def AIQ{x p:BV}{n:(Int×Int)}{z:ZR}{j:BV}(D_:θ x≤1099511627776)(l:x=JJ p++j)(hn:0≤n.1)(o:n.1≤4096):An (Aa (Ko x n) (((JJ p).length:Int),0,[],z)) λr=>(∃u,r=.inl u∧u.1≠0)∨
  ∃a b,r=.inr (((JJ p++Kj a).length:Int),a,z)/\(θ a:Int)=n.1/\x=(JJ p++Kj a)++b/\∀e∈a,IQ e.2.2.2.2.2.2.1.2.2.1/\IQ e.2.2.2.2.2.2.1.2.2.2:=by
 refine Cb (λ(s:Int×(Int×(List EN×ZR)))=>∃a b,s=(((JJ p++Kj a).length:Int),(θ a:Int),a,z)/\(θ a:Int)<=n.1/\x=(JJ p++Kj a)++b/\∀e∈a,IQ e.2.2.2.2.2.2.1.2.2.1/\IQ e.2.2.2.2.2.2.1.2.2.2) (λs=>(n.1-s.2.1).toNat)
  ⟨[],j,by simp[Kj],by simpa using hn,by simpa[Kj]using l,λe c=>by cases c⟩ ?_
 rintro s ⟨a,b,rfl,E,h,i⟩;unfold Ko;dsimp only;refine AC (λm=>?_) (λm=>An.done (.inr ⟨a,b,rfl,o!,h,i⟩));have g:=E! θ h;rw[Af]at g;rw[(by grind[WB]:Db (x,((JJ p++Kj a).length:Int))=δ (UF (JJ p++Kj a).length b)),AD];refine AK (λc=>An.done (.inl ⟨_,rfl,c⟩)) (λc=>?_);have⟨H,⟨d,t⟩,I⟩:=xL c;refine AA (AHN o!) λv q=>AK (λc=>An.done (.inl ⟨_,rfl,c⟩)) (λf=>?_);have⟨y,A_,B,J,K⟩:=q f;refine AA (Ac w!) λw C=>?_;have k:JJ p++Kj (a++[v.1])=(JJ p++Kj a)++JJ (Bq v.1):=by rw[R4,A5]
 rw[AW];refine An.next ⟨a++[v.1],d,?_,by rw[Af,Cg,CU];omega,?_,λe c=>?_⟩ d!
 have F:((JJ p++Kj (a++[v.1])).length:Int)=((JJ p++Kj a).length:Int)+8+((UF (JJ p++Kj a).length b).1.length:Int):=by grind[List.length_append,JJ,Kj,Fv]
 have G:((a++[v.1]).length:Int)=(θ a:Int)+1:=by grind[List.length_append,List.length_cons,List.length_nil]
 grind[Prod.ext];rw[k,<-y,A5,<-t];exact h;rcases Ao.1 c with c|c;exact i e c;rw[A7.1 c];exact⟨A_,B⟩
def AHP{x:BV}(H:θ x<=1099511627776):An (Kl x) λr=>r.2=0->x=Q5 r.1/\WR r.1:=by
 unfold Kl;have E:Db (x,0)=δ (UF 0 x):=WB (a:=[]) (t:=x) w!;rw[E,AD];refine AK (λc=>AB λb=>N! b c) (λc=>?_);have⟨U,⟨T,J⟩,K⟩:=xL c;generalize UF 0 x=v0 at*;refine AK (λ_=>AB λb=>N! (show(4:Int)=0 from b) g!) (λk=>?_);simp[len]at k;have q:θ v0.1=33:=o!
 rw[yX q,AD];refine AO (λ_=>AB λb=>N! (show(4:Int)=0 from b) g!) (λD_=>?_);have⟨O,P,Q,R,S,I,⟨a2,a3,a4,a5,a6,a7⟩,⟨s,v,w,y,z,A_⟩,N,m⟩:=u5 q (by simpa using D_);rw[show wi (4+8)=12 from rfl,show wi (12+8)=20 from rfl,show wi (20+4)=24 from rfl,show wi (24+4)=28 from rfl,show wi (28+1)=29 from rfl];rw[s,v,w,y,z,A_];simp only[AD];refine AO (λ_=>AB λb=>N! (show(4:Int)=0 from b) g!) (λf=>?_);have f:=M! f;rw[(by rw[K,Fv];omega:v0.2.1=((JJ v0.1).length:Int))];refine AA (AIQ (n:=(I,0)) H J m (by first|omega|(dsimp only;omega))) λr hr=>?_;rcases hr with⟨u,rfl,F⟩|⟨M,i,rfl,l,o,g⟩;grind[BG,AB];apply Av;dsimp only at l⊢;have p:=E! θ o;rw[Af]at p;refine AC (λ_=>AB λb=>N! (show(4:Int)=0 from b) g!) (λh=>?_);have d:i=[]:=EJ (by simp only[len]at h;omega);subst d;refine AA (yS) λL j=>AO (λ_=>AB λb=>N! (show(40:Int)=0 from b) g!) (λG=>AB λ_=>⟨?_,?_⟩);grind[Q5,gJ];have⟨B,C⟩:=j.2 G;exact⟨B,λe c=>⟨(g e c).1,(g e c).2,(C e c).2⟩⟩
def AHO{x:AY}(h:VR x):Kl (Q5 x)=δ (x,0):=by
 have E:=h.1.2.2.2.2.2.2.2.2;have j:=h.len;have l:=kV x;have⟨⟨a2,a3,a4,a5,a6,a7⟩,m,n,o,p,q,u⟩:=xy h.1;unfold Kl;have B:Db (Q5 x,0)=δ (gJ x,((JJ (gJ x)).length:Int),0):=by refine(WB (a:=[]) (t:=Q5 x) w!).trans (E! δ ?_);grind[Q5,lg,Fv,Prod.ext,List.length_nil]
 have v:(gJ x).take 4=[80,77,82,78]:=rfl;rw[B,AD];dsimp only[len];rw[show((0:Int) !=0)=η by decide,A!,l,show(((33:Nat):Int) !=33)=η by decide,A!];rw[yX l,AD,v,L!,Ca,A!];rw[show wi (4+8)=12 from rfl,show wi (12+8)=20 from rfl,show wi (20+4)=24 from rfl,show wi (24+4)=28 from rfl,show wi (28+1)=29 from rfl];rw[m,n,o,p,q,u];simp only[AD];rw[G! o!,Ca,A!];have key:An (Aa (Ko (Q5 x) ((θ x.2.2.2.2.2:Int),0)) (((JJ (gJ x)).length:Int),0,[],x.1,x.2.1,x.2.2.1,x.2.2.2.1,x.2.2.2.2.1,0,0,0,0,0,[])) λr=>r=.inr (((Q5 x).length:Int),x.2.2.2.2.2,x.1,x.2.1,x.2.2.1,x.2.2.2.1,x.2.2.2.2.1,0,0,0,0,0,[]):=by
  refine Cb (λ(s:Int×(Int×(List EN×ZR)))=>∃k:Nat,k<=θ x.2.2.2.2.2/\s=(((JJ (gJ x)++Kj (x.2.2.2.2.2.take k)).length:Int),(k:Int),x.2.2.2.2.2.take k,x.1,x.2.1,x.2.2.1,x.2.2.2.1,x.2.2.2.2.1,0,0,0,0,0,[])) (λs=>θ x.2.2.2.2.2-s.2.1.toNat)
   ⟨0,Bo _,by simp[Kj]⟩ ?_
  rintro s ⟨k,F,rfl⟩;unfold Ko;dsimp only;refine AC (λz=>?_) (λz=>An.done ?_)
  ·have i:k<θ x.2.2.2.2.2:=o!
   have c:=(h.ent (Pa i)).1;have A_:=R3 c;have d:Kj x.2.2.2.2.2=Kj (x.2.2.2.2.2.take k)++(JJ (Bq x.2.2.2.2.2[k])++Kj (x.2.2.2.2.2.drop (k+1))):=by grind[nT,List.drop_eq_getElem_cons,Kj,List.flatten_append,List.take_append_drop]
   have g:Q5 x=(JJ (gJ x)++Kj (x.2.2.2.2.2.take k))++(JJ (Bq x.2.2.2.2.2[k])++Kj (x.2.2.2.2.2.drop (k+1))):=by grind[Q5,List.append_assoc]
   have f:=E! θ g;rw[Af]at f;rw[(by grind[WB,lg]:Db (Q5 x,((JJ (gJ x)++Kj (x.2.2.2.2.2.take k)).length:Int))=δ (Bq x.2.2.2.2.2[k],((JJ (gJ x)++Kj (x.2.2.2.2.2.take k)).length:Int)+8+((Bq x.2.2.2.2.2[k]).length:Int),0)),AD];dsimp only;rw[show((0:Int) !=0)=η by decide,A!,AHM c,AD];dsimp only;rw[show((0:Int) !=0)=η by decide,A!];refine AA (Ac (by rw[BJ];simp;omega)) λw D_=>?_;rw[AW];refine An.next ⟨k+1,o!,?_⟩ d!
   rw[D_.1,CI,As i,lz,R4,<-A5,Af (bs:=JJ (Bq x.2.2.2.2.2[k])),Fv];grind[Prod.ext]
  rw[BK o!];rfl
 obtain⟨r,hr,rfl⟩:=key;rw[hr,AD,mA];dsimp only;rw[F! (by first|omega|(simp[len];omega)),A!];obtain⟨b,y,C⟩:=(yS)
 have e:b=ζ:=C.1 h;subst e;rw[y,AD,Ca,A!]
def AEN{a b n k:Nat}{d:Array NE}(h:a<=k:=by omega)(c:k<a+n:=by omega):swR a b n d k=d[b+(k-a)]! :=if_pos ⟨h,c⟩
def AEO{a b n k:Nat}{d:Array NE}(e:a+n<=b)(h:b<=k:=by omega)(c:k<b+n:=by omega):swR a b n d k=d[a+(k-b)]! :=by unfold swR;rw[if_neg (by omega),if_pos ⟨h,c⟩]
def qY{a b n k:Nat}{d:Array NE}(h:k<a\/a+n<=k:=by omega)(c:k<b\/b+n<=k:=by omega):swR a b n d k=d[k]! :=by unfold swR;rw[if_neg (by omega),if_neg (by omega)]
def wm(s m e:Nat)(d:Array NE)(k:Nat):NE:=if s<=k/\k<s+(e-m)then d[m+(k-s)]! else if s+(e-m)<=k/\k<e then d[s+(k-(s+(e-m)))]! else d[k]!
def jw{s m e k:Nat}{d:Array NE}(h:s<=k:=by omega)(a:k<s+(e-m):=by omega):wm s m e d k=d[m+(k-s)]! :=if_pos ⟨h,a⟩
def oC{s m e k:Nat}{d:Array NE}(h:s+(e-m)<=k:=by omega)(a:k<e:=by omega):wm s m e d k=d[s+(k-(s+(e-m)))]! :=by unfold wm;rw[if_neg (by omega),if_pos ⟨h,a⟩]
theorem Ug{s m e k:Nat}{d:Array NE}(a:s<=m:=by omega)(b:m<=e:=by omega)(h:k<s\/e<=k:=by omega):wm s m e d k=d[k]! :=by unfold wm;rw[if_neg (by omega),if_neg (by omega)]
def pp{d:Array NE}{x y:Nat}(h:x=y):d[x]! =d[y]! :=by rw[h]
def AD6{m i j k:Nat}{d e:Array NE}(o:i<=m)(p:1<=j)(l:j<i)(n:m+j<=d.size)(a: ∀k,k<d.size->e[k]! =swR (m-i) m j d k)(b:k<d.size):wm (m-(i-j)) m (m+j) e k=wm (m-i) m (m+j) d k:=by rcases Ar k (m-i)with c|c;rw[Ug,Ug,a k b,qY];rcases Ar k (m-i+j)with f|f;rw[Ug,jw,a k b,AEN];rcases Ar k (m-(i-j)+j)with g|g;rw[jw,oC,a _ (by omega),AEO (by omega)];exact pp (by omega);rcases Ar k (m+j)with h|h;rw[oC,oC,a _ (by omega),qY];exact pp (by omega);rw[Ug,Ug,a k b,qY]
def AD7{m i j k:Nat}{d e:Array NE}(p:i<=m)(n:1<=i)(l:i<j)(o:m+j<=d.size)(a: ∀k,k<d.size->e[k]! =swR (m-i) (m+j-i) i d k)(b:k<d.size):wm (m-i) m (m+(j-i)) e k=wm (m-i) m (m+j) d k:=by rcases Ar k (m-i)with c|c;rw[Ug,Ug,a k b,qY];rcases Ar k (m-i+(j-i))with f|f;rw[jw,jw,a _ (by omega),qY];rcases Ar k (m+(j-i))with g|g;rw[oC,jw,a _ (by omega),AEN];exact pp (by omega);rcases Ar k (m+j)with h|h;rw[Ug,oC,a _ (by omega),AEO (by omega)];exact pp (by omega);rw[Ug,Ug,a k b,qY]
def AB7{d:Array NE}{a m b:Nat}(L:a<m)(M:m<b)(N:b≤d.size)(Q:d.size≤16777216):
  An (Eb d.toList ((a:Int),((m:Int),(b:Int)))) λr=> ∃e:Array NE,r=e.toList/\e.size=d.size/\ ∀k,k<d.size->e[k]! =wm a m b d k:=by
 unfold Eb;have C:wi ((m:Int)-(a:Int))=((m-a:Nat):Int):=by rw[mf];omega
 have D_:wi ((b:Int)-(m:Int))=((b-m:Nat):Int):=by rw[mf];omega
 dsimp only;rw[C,D_];refine AA (P:=λ(r:Int×List NE)=> ∃(i:Nat) (e:Array NE),r.1=i/\r.2=e.toList/\1<=i/\i<=m-a/\m+i<=b/\e.size=d.size/\ ∀k,k<d.size->wm (m-i) m (m+i) e k=wm a m b d k) ?_ ?_;refine AU (λ(s:Int×(Int×List NE))=> ∃(i j:Nat) (e:Array NE),s.1=i/\s.2.1=j/\s.2.2=e.toList/\1<=i/\1<=j/\i<=m-a/\m+j<=b/\e.size=d.size/\ ∀k,k<d.size->wm (m-i) m (m+j) e k=wm a m b d k) (λs=>(s.1+s.2.1).toNat)
  ⟨m-a,b-m,d,rfl,rfl,rfl,by omega,by omega,Ai _,by omega,rfl,λk _=>by rw[show m-(m-a)=a by omega,show m+(b-m)=b by omega]⟩ ?_
 rintro⟨R,S,T⟩ ⟨i,j,e,o,p,w,q,y,z,A_,K,B⟩;dsimp only at o p w;subst o p w;unfold Ih;dsimp only;have t:wi ((m:Int)-(i:Int))=((m-i:Nat):Int):=by rw[mf];omega
 rw[t];refine AK (λJ=>?_) (λI=>AB ⟨i,e,rfl,rfl,q,z,by omega,K,λk g=>?_⟩);apply AC<;>intro O;apply AA (wy (d:=e) (a:=m-i) (b:=m) (n:=j) (by omega) (by omega) (by omega));rintro v ⟨f,rfl,h,l⟩;have c:Nat.beq (List.length f.toList) (List.length e.toList)=true:=by rw[Dk,Dk,h];exact HD _
 have u:wi ((i:Int)-(j:Int))=((i-j:Nat):Int):=by rw[mf];omega
 rw[c,cond_true,u];refine AB ⟨⟨i-j,j,f,rfl,rfl,rfl,by omega,y,by omega,A_,by omega,λk g=>?_⟩,?_⟩;rw[AD6 (by omega) y (by omega) (by omega) l (by omega),B k g];show(((i-j:Nat):Int)+(j:Int)).toNat<((i:Int)+(j:Int)).toNat
 omega;have E:wi (wi ((m:Int)+(j:Int))-(i:Int))=((m+j-i:Nat):Int):=by rw[mf (x:=(m:Int)+(j:Int)),mf];omega
 rw[E];apply AA (wy (d:=e) (a:=m-i) (b:=m+j-i) (n:=i) (by omega) (by omega) (by omega));rintro v ⟨f,rfl,h,l⟩;have c:Nat.beq (List.length f.toList) (List.length e.toList)=true:=by rw[Dk,Dk,h];exact HD _
 have u:wi ((j:Int)-(i:Int))=((j-i:Nat):Int):=by rw[mf];omega
 rw[c,cond_true,u];refine AB ⟨⟨i,j-i,f,rfl,rfl,rfl,q,by omega,z,by omega,by omega,λk g=>?_⟩,?_⟩;rw[AD7 (by omega) q (by omega) (by omega) l (by omega),B k g];show((i:Int)+((j-i:Nat):Int)).toNat<((i:Int)+(j:Int)).toNat
 omega;have:j=i:=by omega
 subst this;exact B k g;rintro⟨U,V⟩ ⟨i,e,o,p,w,q,y,z,A_⟩;dsimp only at o p;subst o p;dsimp only;have t:wi ((m:Int)-(i:Int))=((m-i:Nat):Int):=by rw[mf];omega
 rw[t];apply AA (wy (d:=e) (a:=m-i) (b:=m) (n:=i) (by omega) (by omega) (by omega));rintro v ⟨f,rfl,h,l⟩;have c:Nat.beq (List.length f.toList) (List.length e.toList)=true:=by rw[Dk,Dk,h];exact HD _
 rw[c,cond_true];refine AB ⟨f,rfl,by omega,λk g=>?_⟩;rw[<-A_ k g,l k (by omega)];rcases Ar k (m-i)with F|F;rw[qY,Ug];rcases Ar k m with G|G;rw[AEN,jw];rcases Ar k (m+i)with H|H;rw[AEO (by omega),oC];exact pp (by omega);rw[qY,Ug]
theorem yN{i j:Nat}(h:i+j<=1099511627776):wi (Int.fdiv (IntKind.wrap .u64 (wi ((i:Int)+(j:Int)))) (2^(min (Int.toNat 1) 64)))=(((i+j)/2:Nat):Int):=by rw[zf (by omega) (by omega) (by omega)];omega
def bs{body:Int×Int→Option (Step (Int×Int) Int)}{P:Nat→Bool}{b a:Nat}(m:∀i:Nat,body ((i:Int),(i:Int))=δ (.done (i:Int)))
  (s:∀i j:Nat,b<=i->i<j->j<=a->body ((i:Int),(j:Int))=δ (.next (if P ((i+j)/2)=ζ then((((i+j)/2+1:Nat):Int),(j:Int))else((i:Int),(((i+j)/2:Nat):Int))))) (l:b<=a):
  ∃r:Nat,Aa body ((b:Int),(a:Int))=δ (r:Int)/\b<=r/\r<=a/\(b<r->P (r-1)=ζ)/\(r<a->P r=η):=by
 suffices h:∀n i j:Nat,j-i<=n->b<=i->i<=j->j<=a->(b<i->P (i-1)=ζ)->(j<a->P j=η)->∃r:Nat,Aa body ((i:Int),(j:Int))=δ (r:Int)/\b<=r/\r<=a/\(b<r->P (r-1)=ζ)/\(r<a->P r=η)from
  h _ b a (Ai _) (Ai _) l (Ai _) (λh=>N! h o!) (λh=>N! h o!)
 intro n;induction n with
 |zero=>
  intro i j p c q d e f;have:i=j:=o!
  subst this;rw[ES,m];exact⟨i,rfl,c,d,e,f⟩
 |succ n o=>intro i j p c q d e f;rw[ES];by_cases k:i=j;subst k;rw[m];exact⟨i,rfl,c,d,e,f⟩;rw[s i j c o! d];by_cases g:P ((i+j)/2)=ζ;rw[C! g];exact o _ j o! o! o! d (λ_=>by rw[Nat.add_sub_cancel];exact g) f;rw[D! g];exact o i _ o! c o! o! e (λ_=>by simpa using g)
def AIZ{d:Array NE}{a m b:Nat}(o:a<d.size)(g:m≤b)(p:b≤d.size)(q:d.size≤16777216)(c:Int×Int):
  ∃r:Nat,Aa (C6 d.toList ((a:Int),c)) ((m:Int),(b:Int))=some (r:Int)/\m<=r/\r<=b/\(m<r->lN d[r-1]! d[a]! =true)/\(r<b->lN d[r]! d[a]! =false):=by
 refine bs (P:=λk=>lN d[k]! d[a]!) (λi=>?_) (λi j h l n=>?_) g;unfold C6;have:decide ((i:Int)<(i:Int))=false:=by simp
 dsimp only;rw[this,cond_false];unfold C6;have:decide ((i:Int)<(j:Int))=true:=by simp;omega
 dsimp only;rw[this,cond_true,yN (by omega)];obtain⟨v,e,f⟩:=AFt d[(i+j)/2]! d[a]!;rw[zX (k:=(i+j)/2) rfl,zX (k:=a) rfl];simp only[AD,e,f,wip (i:=(i+j)/2)];cases lN d[(i+j)/2]! d[a]! <;>rfl
def AIa{d:Array NE}{a r b:Nat}(h:a<r)(hr:r≤b)(D_:b≤d.size)(E:d.size≤16777216):
  An (Aa (Dw (r:Int)) ((a:Int),d.toList)) λq=> ∃e:Array NE,q=e.toList/\Sort.PermIn a b d e/\(∀t,a<=t->t<r-1->e[t]! =d[t+1]!)/\e[r-1]! =d[a]! /\ ∀t,r<=t->e[t]! =d[t]! :=by
 refine AU (λ(s:Int×List NE)=> ∃(k:Nat) (e:Array NE),s.1=k/\s.2=e.toList/\a<=k/\k<r/\Sort.PermIn a b d e/\(∀t,a<=t->t<k->e[t]! =d[t+1]!)/\e[k]! =d[a]! /\ ∀t,k<t->e[t]! =d[t]!) (λs=>r-s.1.toNat) ⟨a,d,rfl,rfl,Ai _,h,Sort.permIn_refl _ _ _,λt _ _=>o!,rfl,λt _=>rfl⟩ ?_;rintro⟨H,I⟩ ⟨k,e,n,o,C,G,l,p,u,m⟩;dsimp only at n o;subst n o;have F:=l.1;unfold Dw;dsimp only;have v:wi ((r:Int)-1)=((r-1:Nat):Int):=by rw[wim];omega
 rw[v];refine AC (λx=>?_) (λx=>AB ⟨e,rfl,l,λt g w=>p t g o!,?_,λt y=>m t o!⟩);have z:ix e.toList ((k+1:Nat):Int)=some e[k+1]! :=zX rfl;have A_:ix e.toList (k:Int)=some e[k]! :=zX rfl;have B:ix (E2 e.toList (k:Int) e[k+1]!) ((k+1:Nat):Int)=some (e.setIfInBounds k e[k+1]!)[k+1]! :=AFM rfl rfl;simp only[wip (i:=k),z,A_,B,AD,AF5 (d:=e) (a:=k) (b:=k+1) rfl rfl];have c:=Sort.swp_get e (i:=k) (j:=k+1) o! o!;refine AB ⟨⟨k+1,_,rfl,rfl,o!,o!,Sort.permIn_trans _ _ _ _ _ l (Sort.swp_permIn e a b k (k+1) C o! o! o! o!),λt g w=>?_,?_,λt y=>?_⟩,?_⟩;rw[c,if_neg o!];by_cases f:t=k;subst f;rw[if_pos rfl];exact m _ o!;rw[if_neg f];exact p t g o!;rw[c,if_pos rfl];exact u;rw[c,if_neg o!,if_neg o!];exact m t o!;show r-((k+1:Nat):Int).toNat<r-((k:Nat):Int).toNat
 omega;have:k=r-1:=o!
 rw[<-this];exact u
def AEF{d:Array NE}{a b:Nat}(o:a+1≤b)(z:b≤d.size)(A_:d.size≤16777216)(k:Sort.SortedIn lN (a+1) b d)(c:Int×Int):
  An (σ (Aa (C6 d.toList ((a:Int),c)) (((a+1:Nat):Int),(b:Int))) λv=>σ (Aa (Dw v) ((a:Int),d.toList)) λw=>δ w) λq=>∃e:Array NE,q=e.toList/\Sort.PermIn a b d e/\Sort.SortedIn lN a b e:=by
 obtain⟨r,g,H,I,J,K⟩:=AIZ (d:=d) (a:=a) (m:=a+1) (b:=b) o! o z A_ c;rw[g,AD];apply AA (AIa (d:=d) (a:=a) (r:=r) (b:=b) o! I z A_);rintro q ⟨e,rfl,G,n,B,C⟩;refine AB ⟨e,rfl,G,λx y p s u=>?_⟩;have W:=tm;have F:∀t,a+1<=t->t<r->lN d[a]! d[t]! =η:=λt h l=>by
  have f:=J o!;cases D_:lN d[a]! d[t]! with
  |false=>rfl
  |true=>have i:=W.trans _ _ _ f D_;rcases Ar t (r-1)with j|j;exact N! i (by rw[k t (r-1) h j o!];decide);rw[show t=r-1 by omega,W.irrefl]at i;cases i
 have E:∀t,r<=t->t<b->lN d[t]! d[a]! =η:=λt h l=>by have f:=K o!;rcases Ar r t with j|j;exact W.ntrans _ _ _ (k r t H j l) f;rw[show t=r by omega];exact f
 rcases Ar y (r-1)with h|h;rw[n x p o!,n y o! h];exact k (x+1) (y+1) o! o! o!;rcases Ar (r-1) y with l|l;rw[C y o!];rcases Ar x (r-1)with f|f;rw[n x p f];exact k (x+1) y o! o! u;rcases Ar (r-1) x with i|i;rw[C x o!];exact k x y o! s u;rw[show x=r-1 by omega,B];exact E y o! u;rw[show y=r-1 by omega,B,n x p o!];exact F (x+1) o! o!
def AIb{d:Array NE}{a m:Nat}(l:a≤m)(w:m<d.size)(u:d.size≤16777216)(b:Int):
  ∃r:Nat,Aa (CE d.toList ((a:Int),((m:Int),b))) ((a:Int),(m:Int))=some (r:Int)/\a<=r/\r<=m/\(a<r->lN d[m]! d[r-1]! =false)/\(r<m->lN d[m]! d[r]! =true):=by
 have c: ∀i:Nat,CE d.toList ((a:Int),((m:Int),b)) ((i:Int),(i:Int))=some (.done (i:Int)):=λi=>by
  unfold CE;have:decide ((i:Int)<(i:Int))=false:=by simp
  dsimp only;rw[this,cond_false]
 have e: ∀i j:Nat,a<=i->i<j->j<=m->CE d.toList ((a:Int),((m:Int),b)) ((i:Int),(j:Int))=some (.next (if(!lN d[m]! d[(i+j)/2]!)=true then((((i+j)/2+1:Nat):Int),(j:Int))else((i:Int),(((i+j)/2:Nat):Int)))):=λi j q s t=>by
  unfold CE;have:decide ((i:Int)<(j:Int))=true:=by simp;omega
  dsimp only;rw[this,cond_true,yN (by omega)];obtain⟨v,f,g⟩:=AFt d[m]! d[(i+j)/2]!;rw[zX (k:=(i+j)/2) rfl,zX (k:=m) rfl];simp only[AD,f,g,wip (i:=(i+j)/2)];cases lN d[m]! d[(i+j)/2]! <;>rfl
 obtain⟨r,f,g,n,o,p⟩:=bs (P:=λk=>!lN d[m]! d[k]!) c e l;exact⟨r,f,g,n,λh=>by simpa using o h,λh=>by simpa using p h⟩
def AIc{d:Array NE}{a r m:Nat}(x:a≤r)(hr:r≤m)(E:m<d.size)(D_:d.size≤16777216):
  An (Aa (Dx (r:Int)) ((m:Int),d.toList)) λq=>∃e:Array NE,q=e.toList/\Sort.PermIn a (m+1) d e/\(∀t,r<t->t<=m->e[t]! =d[t-1]!)/\e[r]! =d[m]! /\∀t,t<r->e[t]! =d[t]! :=by
 refine AU (λ(s:Int×List NE)=>∃(k:Nat)(e:Array NE),s.1=k/\s.2=e.toList/\r<=k/\k<=m/\Sort.PermIn a (m+1) d e/\(∀t,k<t->t<=m->e[t]! =d[t-1]!)/\e[k]! =d[m]! /\∀t,t<k->e[t]! =d[t]!) (λs=>s.1.toNat) ⟨m,d,rfl,rfl,hr,Ai _,Sort.permIn_refl _ _ _,λt _ _=>o!,rfl,λt _=>rfl⟩ ?_;rintro⟨I,J⟩ ⟨k,e,n,o,G,H,h,p,u,l⟩;dsimp only at n o;subst n o;have F:=h.1;unfold Dx;dsimp only;refine AC (λy=>?_) (λy=>AB ⟨e,rfl,h,λt w g=>p t o! g,?_,λt z=>l t o!⟩);have v:wi ((k:Int)-1)=((k-1:Nat):Int):=by rw[wim];omega
 have A_:ix e.toList ((k-1:Nat):Int)=δ e[k-1]! :=zX rfl;have B:ix e.toList (k:Int)=δ e[k]! :=zX rfl;have C:ix (E2 e.toList (k:Int) e[k-1]!) ((k-1:Nat):Int)=δ (e.setIfInBounds k e[k-1]!)[k-1]! :=AFM rfl rfl;simp only[v,A_,B,C,AD,AF5 (d:=e) (a:=k) (b:=k-1) rfl rfl];have c:=Sort.swp_get e (i:=k) (j:=k-1) o! o!;refine AB ⟨⟨k-1,_,rfl,rfl,o!,o!,Sort.permIn_trans _ _ _ _ _ h (Sort.swp_permIn e a (m+1) k (k-1) o! o! o! o! o!),λt w g=>?_,?_,λt z=>?_⟩,?_⟩;rw[c,D! o!];by_cases f:t=k;subst f;rw[C! rfl];exact l _ o!;rw[D! f];exact p t o! g;rw[c,C! rfl];exact u;rw[c,D! o!,D! o!];exact l t o!;show((k-1:Nat):Int).toNat<((k:Nat):Int).toNat
 omega;have:k=r:=o!
 rw[<-this];exact u
def AF0{d:Array NE}{a m:Nat}(n:a≤m)(u:m<d.size)(s:d.size≤16777216)(k:Sort.SortedIn lN a m d)(b:Int):
  An (σ (Aa (CE d.toList ((a:Int),(m:Int),b)) ((a:Int),(m:Int))) λv=>σ (Aa (Dx v) ((m:Int),d.toList)) λw=>δ w) λq=>∃e:Array NE,q=e.toList/\Sort.PermIn a (m+1) d e/\Sort.SortedIn lN a (m+1) e:=by
 obtain⟨r,g,B,G,H,I⟩:=AIb (d:=d) (a:=a) (m:=m) n u s b;rw[g,AD];apply AA (AIc (d:=d) (a:=a) (r:=r) (m:=m) B G u s);rintro q ⟨e,rfl,F,z,A_,l⟩;refine AB ⟨e,rfl,F,λx y o p J=>?_⟩;have W:=tm;have E:∀t,a<=t->t<r->lN d[m]! d[t]! =η:=λt h i=>by have c:=H o!;rcases Ar t (r-1)with j|j;exact W.ntrans _ _ _ c (k t (r-1) h j o!);rw[show t=r-1 by omega];exact c
 have D_:∀t,r<=t->t<m->lN d[t]! d[m]! =η:=λt h i=>by
  have c:=I o!;cases C:lN d[t]! d[m]! with
  |false=>rfl
  |true=>have f:=W.trans _ _ _ C c;rcases Ar r t with j|j;exact N! f (by rw[k r t B j i];decide);rw[show t=r by omega,W.irrefl]at f;cases f
 rcases Ar y r with h|h;rw[l x o!,l y h];exact k x y o p o!;rcases Ar r y with i|i;rw[z y i o!];rcases Ar x r with c|c;rw[l x c];exact k x (y-1) o o! o!;rcases Ar r x with f|f;rw[z x f o!];exact k (x-1) (y-1) o! o! o!;rw[show x=r by omega,A_];exact D_ (y-1) o! o!;rw[show y=r by omega,A_,l x o!];exact E x o o!
def AId{d:Array NE}{a m b lo hi:Nat}(l:lo≤hi)(s:a≤lo)(t:hi≤m)(u:(a+b)/2+m-lo≤b)(y:hi≤(a+b)/2+m)(w:m≤b)(z:b≤d.size)(A:d.size≤16777216):
  ∃r:Nat,Aa (Cc d.toList ((a:Int),((m:Int),(b:Int)))) ((lo:Int),(hi:Int))=some (r:Int)/\lo<=r/\r<=hi/\(lo<r->lN d[(a+b)/2+m-1-(r-1)]! d[r-1]! =false)/\(r<hi->lN d[(a+b)/2+m-1-r]! d[r]! =true):=by
 have c: ∀i:Nat,Cc d.toList ((a:Int),((m:Int),(b:Int))) ((i:Int),(i:Int))=some (.done (i:Int)):=λi=>by
  unfold Cc;have:decide ((i:Int)<(i:Int))=false:=by simp
  dsimp only;rw[this,cond_false]
 have e: ∀i j:Nat,lo<=i->i<j->j<=hi->Cc d.toList ((a:Int),((m:Int),(b:Int))) ((i:Int),(j:Int))=some (.next (if(!lN d[(a+b)/2+m-1-(i+j)/2]! d[(i+j)/2]!)=true then((((i+j)/2+1:Nat):Int),(j:Int))else((i:Int),(((i+j)/2:Nat):Int)))):=λi j s t u=>by
  unfold Cc;have:decide ((i:Int)<(j:Int))=true:=by simp;omega
  dsimp only;rw[this,cond_true,yN (i:=i) (j:=j) (by omega),yN (i:=a) (j:=b) (by omega)];have n:wi (wi (wi ((((a+b)/2:Nat):Int)+(m:Int))-1)-(((i+j)/2:Nat):Int))=(((a+b)/2+m-1-(i+j)/2:Nat):Int):=by rw[mf (x:=(((a+b)/2:Nat):Int)+(m:Int)),mf (x:=(((a+b)/2:Nat):Int)+(m:Int)-1),mf];omega
  obtain⟨v,f,g⟩:=AFt d[(a+b)/2+m-1-(i+j)/2]! d[(i+j)/2]!;rw[n,zX (k:=(i+j)/2) rfl,zX (k:=(a+b)/2+m-1-(i+j)/2) rfl];simp only[AD,f,g,wip (i:=(i+j)/2)];cases lN d[(a+b)/2+m-1-(i+j)/2]! d[(i+j)/2]! <;>rfl
 obtain⟨r,f,g,o,p,q⟩:=bs (P:=λk=>!lN d[(a+b)/2+m-1-k]! d[k]!) c e l;exact⟨r,f,g,o,λh=>by simpa using p h,λh=>by simpa using q h⟩
def AFs{s m e:Nat}{d f:Array NE}(o:s<=m)(p:m<=e)(b:e<=d.size)(c:f.size=d.size)(h:∀k,k<d.size->f[k]! =wm s m e d k):Sort.PermIn s e d f:=by
 refine⟨c,λi a=>?_,?_⟩;grind[Nat.lt_or_ge,Ug];have key:∀(g:Nat->NE)(s n:Nat),(List.range' s n).map g=(List.range n).map λi=>g (s+i):=λg s n=>by rw[List.range'_eq_map_range,QM];rfl
 rw[Sort.extract_toList f s e o!,Sort.extract_toList d s e b];have j:List.range' s (e-s)=List.range' s (e-m)++List.range' (s+(e-m)) (m-s):=q!
 have l:List.range' s (e-s)=List.range' s (m-s)++List.range' (s+(m-s)) (e-m):=q!
 have l1:(List.range' s (e-m)).map (λi=>f[i]!)=(List.range' (s+(m-s)) (e-m)).map λi=>d[i]! :=by rw[key,key];refine Ms λi a=>?_;have:=Hh.1 a;rw[h _ o!,jw];simp_all
 have l2:(List.range' (s+(e-m)) (m-s)).map (λi=>f[i]!)=(List.range' s (m-s)).map λi=>d[i]! :=by rw[key,key];refine Ms λi a=>?_;have:=Hh.1 a;rw[h _ o!,oC];simp_all
 grind
def xG(a b:Nat)(d e:Array NE):Prop:=Sort.PermIn a b d e/\Sort.SortedIn lN a b e
def oD{a m b:Nat}{d:Array NE}(h:m<=a\/b<=m)(c:Sort.SortedIn lN a m d)(e:Sort.SortedIn lN m b d)(f:a<=m)(g:m<=b):Sort.SortedIn lN a b d:=by
 rcases h with h|h;have:m=a:=o!
 rw[<-this];exact e;have:m=b:=o!
 rw[<-this];exact c
def AJL{G:List NE×(Int×(Int×Int))→Option (List NE)}{N a m b:Nat}{d:Array NE}(a5:a<m)(a6:m<b)(hb:b≤d.size)(hd:d.size≤16777216)(C:Sort.SortedIn lN a m d)(D_:Sort.SortedIn lN m b d)
  (S: ∀(V:Array NE) (Z m' U:Nat),Z<m'->m'<U->U<=V.size->V.size<=16777216->Sort.SortedIn lN Z m' V->Sort.SortedIn lN m' U V->PT (U-Z<=N) (G (V.toList,((Z:Int),((m':Int),(U:Int))))) λr=> ∃e:Array NE,r=e.toList/\xG Z U V e):
  PT (b-a<=N+1) (B5 G d.toList ((a:Int),((m:Int),(b:Int)))) λr=> ∃e:Array NE,r=e.toList/\xG a b d e:=by
 have W:=tm;unfold B5;have e0:wi ((m:Int)-(a:Int))=((m-a:Nat):Int):=by grind[mf]
 have e1:wi ((b:Int)-(m:Int))=((b-m:Nat):Int):=by grind[mf]
 dsimp only;rw[e0,e1,yN (i:=a) (j:=b) (by omega)];apply PT.cond<;>intro T;have T:m=a+1:=by have:=eq_of_beq T;omega
 subst T;exact jV (AEF (by omega) hb hd D_ _);apply PT.cond<;>intro o;have o:b=m+1:=by have:=eq_of_beq o;omega
 subst o;exact jV (AF0 (by omega) hb hd C _);have n1:m-a≠1:=λh=>by rw[h]at T;exact absurd T (by decide)
 have n2:b-m≠1:=λh=>by rw[h]at o;exact absurd o (by decide)
 have af:a<(a+b)/2/\(a+b)/2<b:=by omega
 generalize hM:(a+b)/2=M at af⊢;have e2:wi ((M:Int)+(m:Int))=((M+m:Nat):Int):=by rw[mf];omega
 rw[e2];refine PT.bind (P:=λv=> ∃R O:Nat,v=((R:Int),(O:Int))/\R<=O/\a<=R/\O<=m/\O<=M/\M+m-R<=b/\(R=a\/M+m-R=b)/\(O=m\/O=M)) ?_ ?_;refine PT.dec (λhc=>PT.some ⟨M+m-b,M,?_,by omega⟩) (λhc=>PT.some ⟨a,m,rfl,by omega⟩);rw[mf];exact congrArg (λz=>(z,(M:Int))) (by omega);rintro v ⟨R,O,rfl,f1,f2,f3,f4,f5,f6,f7⟩;have⟨r,g,r1,r2,r3,r4⟩:=AId (d:=d) (a:=a) (m:=m) (b:=b) (lo:=R) (hi:=O) f1 f2 f3 (by omega) (by omega) (by omega) hb hd;rw[hM]at r3 r4;rw[g,AD];have e3:wi (((M+m:Nat):Int)-(r:Int))=((M+m-r:Nat):Int):=by rw[mf];omega
 simp only[e3];obtain⟨E,hE⟩: ∃E,E=M+m-r:=⟨_,rfl⟩
 rw[<-hE];have c1:a<r->E<b->lN d[E]! d[r-1]! =false:=λT o=>by have:=r3 (by omega);rw[show M+m-1-(r-1)=E by omega]at this;exact this
 have c2:r<m->m<E->lN d[E-1]! d[r]! =true:=λT o=>by have:=r4 (by omega);rw[show M+m-1-r=E-1 by omega]at this;exact this
 have s3: ∀c n:Array NE,Sort.PermIn a b d c->(∀k,k<d.size->c[k]! =wm r m E d k)->xG a M c n->PT (b-a<=N+1) (bif decide ((M:Int)<(E:Int))then Option.bind (bif decide ((E:Int)<(b:Int))then Option.bind (G (n.toList,((M:Int),((E:Int),(b:Int))))) λv=>bif Nat.beq (List.length v) (List.length n.toList)then some v else none else some n.toList) λv=>some v else some n.toList) λq=> ∃e:Array NE,q=e.toList/\xG a b d e:=by
  intro c n Y_ f o;have z1:c.size=d.size:=Y_.1;have z2:n.size=c.size:=o.1.1;have ax: ∀k,k<r->c[k]! =d[k]! :=λk hk=>by rw[f k (by omega),Ug]
  have a0: ∀k,r<=k->k<M->c[k]! =d[m+(k-r)]! :=λk h h'=>by rw[f k (by omega),jw]
  have K: ∀k,M<=k->k<E->c[k]! =d[r+(k-M)]! :=λk h h'=>by rw[f k (by omega),oC];exact pp (by omega)
  have L: ∀k,E<=k->k<b->c[k]! =d[k]! :=λk h h'=>by rw[f k (by omega),Ug]
  have a1: ∀x y,a<=x->x<M->M<=y->y<b->lN c[y]! c[x]! =false:=by
   intro x y I a4 J Q;rcases Ar x r with A_|A_;rw[ax x A_];rcases Ar y E with l|l;rw[K y J l];exact C x _ I (by omega) (by omega);rw[L y l Q];have k1:lN d[y]! d[E]! =false:=by rcases Ar E y with B|B;exact D_ E y (by omega) B Q;rw[show y=E by omega];exact W.irrefl _
   have k2:lN d[r-1]! d[x]! =false:=by rcases Ar x (r-1)with B|B;exact C x (r-1) I B (by omega);rw[show r-1=x by omega];exact W.irrefl _
   exact W.ntrans _ _ _ (W.ntrans _ _ _ k1 (c1 (by omega) (by omega))) k2;rw[a0 x A_ a4];rcases Ar y E with l|l;rw[K y J l];have hc:=c2 (by omega) (by omega);have k1:lN d[E-1]! d[m+(x-r)]! =false:=by rcases Ar (m+(x-r)) (E-1)with B|B;exact D_ _ (E-1) (by omega) B (by omega);rw[show m+(x-r)=E-1 by omega];exact W.irrefl _
   refine W.ntrans _ d[E-1]! _ ?_ k1;cases hk:lN d[r+(y-M)]! d[E-1]! with
   |false=>rfl
   |true=>have k2:=W.trans _ _ _ hk hc;rcases Ar r (r+(y-M))with B|B;exact absurd k2 (by rw[C r _ (by omega) B (by omega)];decide);rw[show r+(y-M)=r by omega,W.irrefl]at k2;cases k2
   rw[L y l Q];exact D_ _ y (by omega) (by omega) Q
  have ad: ∀d3:Array NE,xG M b n d3->xG a b d d3:=λd3 X_=>by refine⟨Sort.permIn_trans _ _ _ _ _ Y_ (Sort.permIn_trans _ _ _ _ _ (Sort.permIn_mono _ _ a M a b (by omega) (by omega) (by omega) o.1) (Sort.permIn_mono _ _ M b a b (by omega) (by omega) (by omega) X_.1)),λx y I F J=>?_⟩;rcases Ar y M with A_|A_;rw[X_.1.2.1 x (by omega),X_.1.2.1 y (by omega)];exact o.2 x y I F A_;rcases Ar x M with l|l;rw[X_.1.2.1 x (by omega)];refine Sort.permIn_all n d3 M b (λz=>lN z n[x]! =false) (by omega) X_.1 (λw hw a3=>?_) y A_ J;rw[o.1.2.1 w (by omega)];exact Sort.permIn_all c n a M (λz=>lN c[w]! z=false) (by omega) o.1 (λu hu a2=>a1 u w hu a2 hw a3) x I l;exact X_.2 x y l F J
  have ap:Sort.SortedIn lN M E n:=λx y I F J=>by rw[o.1.2.1 x (by omega),o.1.2.1 y (by omega),K x I (by omega),K y (by omega) J];exact C _ _ (by omega) (by omega) (by omega)
  have ar:Sort.SortedIn lN E b n:=λx y I F J=>by rw[o.1.2.1 x (by omega),o.1.2.1 y (by omega),L x I (by omega),L y (by omega) J];exact D_ _ _ (by omega) (by omega) (by omega)
  have s:E<=M\/b<=E->xG a b d n:=λh=>ad n ⟨Sort.permIn_refl _ _ _,oD h ap ar (by omega) (by omega)⟩;refine PT.dec (λA_=>PT.bind (P:=λq=> ∃e:Array NE,q=e.toList/\xG a b d e) (PT.dec (λl=>?_) (λl=>PT.some ⟨n,rfl,s (by omega)⟩)) λr h=>PT.some h) (λA_=>PT.some ⟨n,rfl,s (by omega)⟩);have hr:=S n M E b (by omega) (by omega) (by omega) (by omega) ap ar;refine PT.bind (P:=λq=> ∃e:Array NE,q=e.toList/\xG M b n e) ⟨λt=>hr.1 (by omega),hr.2⟩ ?_;rintro q ⟨e,rfl,H⟩;exact Z8 (by rw[Dk,Dk,H.1.1]) (PT.some ⟨e,rfl,ad e H⟩)
 have s2: ∀c:Array NE,Sort.PermIn a b d c->(∀k,k<d.size->c[k]! =wm r m E d k)->PT (b-a<=N+1) (bif decide ((a:Int)<(r:Int))then Option.bind (bif decide ((r:Int)<(M:Int))then Option.bind (G (c.toList,((a:Int),((r:Int),(M:Int))))) λv=>bif Nat.beq (List.length v) (List.length c.toList)then some v else none else some c.toList) λv=>(bif decide ((M:Int)<(E:Int))then Option.bind (bif decide ((E:Int)<(b:Int))then Option.bind (G (v,((M:Int),((E:Int),(b:Int))))) λw=>bif Nat.beq (List.length w) (List.length v)then some w else none else some v) λw=>some w else some v)else(bif decide ((M:Int)<(E:Int))then Option.bind (bif decide ((E:Int)<(b:Int))then Option.bind (G (c.toList,((M:Int),((E:Int),(b:Int))))) λw=>bif Nat.beq (List.length w) (List.length c.toList)then some w else none else some c.toList) λw=>some w else some c.toList)) λq=> ∃e:Array NE,q=e.toList/\xG a b d e:=by
  intro c Y_ f;have z1:c.size=d.size:=Y_.1;have al:Sort.SortedIn lN a r c:=λx y I F J=>by rw[f x (by omega),f y (by omega),Ug,Ug];exact C _ _ (by omega) (by omega) (by omega)
  have ao:Sort.SortedIn lN r M c:=λx y I F J=>by rw[f x (by omega),f y (by omega),jw,jw];exact D_ _ _ (by omega) (by omega) (by omega)
  have s:r<=a\/M<=r->xG a M c c:=λh=>⟨Sort.permIn_refl _ _ _,oD h al ao (by omega) (by omega)⟩
  refine PT.dec (λA_=>PT.bind (P:=λq=> ∃e:Array NE,q=e.toList/\xG a M c e) ?_ ?_) (λA_=>s3 c c Y_ f (s (by omega)));refine PT.dec (λl=>?_) (λl=>PT.some ⟨c,rfl,s (by omega)⟩);have hr:=S c a r M (by omega) (by omega) (by omega) (by omega) al ao;refine PT.bind (P:=λq=> ∃e:Array NE,q=e.toList/\xG a M c e) ⟨λt=>hr.1 (by omega),hr.2⟩ ?_;rintro q ⟨e,rfl,H⟩;exact Z8 (by rw[Dk,Dk,H.1.1]) (PT.some ⟨e,rfl,H⟩);rintro q ⟨e,rfl,H⟩;exact s3 c e Y_ f H
 have ag:r=m\/E=m-> ∀k,k<d.size->d[k]! =wm r m E d k:=λh k hk=>by rcases Ar k r with A_|A_;rw[Ug];rcases Ar k (r+(E-m))with l|l;rw[jw A_ l];exact pp (by omega);rcases Ar k E with B|B;rw[oC l B];exact pp (by omega);rw[Ug]
 refine PT.dec (λA_=>PT.bind (P:=λq=> ∃e:Array NE,q=e.toList/\Sort.PermIn a b d e/\ ∀k,k<d.size->e[k]! =wm r m E d k) ?_ ?_) (λA_=>s2 d (Sort.permIn_refl _ _ _) (ag (by omega)));refine PT.dec (λl=>PT.bind (jV (AB7 (d:=d) (a:=r) (m:=m) (b:=E) (by omega) (by omega) (by omega) hd)) ?_) (λl=>PT.some ⟨d,rfl,Sort.permIn_refl _ _ _,ag (by omega)⟩);rintro q ⟨e,rfl,z,H⟩;exact Z8 (by rw[Dk,Dk,z]) (PT.some ⟨e,rfl,Sort.permIn_mono _ _ r E a b (by omega) (by omega) hb (AFs (by omega) (by omega) (by omega) z H),H⟩);rintro q ⟨e,rfl,p,H⟩;exact s2 e p H
def AHZ(n:Nat)(p:List NE×(Int×(Int×Int))):nP (λg (p:List NE×(Int×(Int×Int)))=>B5 g p.1 p.2) (n+1) p=B5 (nP (λg (p:List NE×(Int×(Int×Int)))=>B5 g p.1 p.2) n) p.1 p.2:=rfl
def AAM:∀(N:Nat)(d:Array NE)(a m b:Nat),a<m→m<b→b≤d.size→d.size≤16777216→Sort.SortedIn lN a m d→Sort.SortedIn lN m b d→
  PT (b-a<=N) (nP (λg (p:List NE×(Int×(Int×Int)))=>B5 g p.1 p.2) N (d.toList,(a:Int),(m:Int),(b:Int))) λr=>∃e:Array NE,r=e.toList/\xG a b d e
 |0,d,a,m,b,h1,h2,h3,h4,h5,h6=>⟨λt=>N! t o!,λr e=>by cases e⟩
 |N+1,d,a,m,b,h1,h2,h3,h4,h5,h6=>by rw[AHZ];exact AJL h1 h2 h3 h4 h5 h6 (AAM N)
def AGR{d:Array NE}{a m b:Nat}(c:a<m)(f:m<b)(g:b≤d.size)(h:d.size≤16777216)(i:Sort.SortedIn lN a m d)(j:Sort.SortedIn lN m b d):
  An (EG d.toList ((a:Int),(m:Int),(b:Int))) λr=>∃e:Array NE,r=e.toList/\xG a b d e:=by
 have⟨r,hr⟩:=(AAM (b-a) d a m b c f g h i j).1 (Ai _);have⟨s,k⟩:=fX hr;have⟨N,l⟩:=cD k;exact⟨s,k,(AAM N d a m b c f g h i j).2 s l⟩
def Mul(s a:Nat):Prop:=∃k,a=k*s
def Mul.zero{s:Nat}:Mul s 0:=⟨0,k!⟩
def Mul.add{s a:Nat}(h:Mul s a):Mul s (a+s):=by obtain⟨k,rfl⟩:=h;exact⟨k+1,q!⟩
def Mul.half{s a:Nat}(h:Mul (2*s) a):Mul s a:=by obtain⟨k,rfl⟩:=h;exact⟨k*2,q!⟩
def Mul.lt{s a b:Nat}(c:Mul s a)(d:Mul s b)(h:a<b):a+s<=b:=by obtain⟨k,rfl⟩:=c;obtain⟨j,rfl⟩:=d;have:k<j:=Nat.lt_of_mul_lt_mul_right h;have:=Mu s (Nat.succ_le_of_lt this);grind
theorem ZY{a b c:Nat}{d:Array NE}(h:Sort.SortedIn lN a b d)(i:c<=b):Sort.SortedIn lN a c d:=λx y e f g=>h x y e f o!
def WF{a b x y:Nat}{d e:Array NE}(h:Sort.SortedIn lN a b d)(c:Sort.PermIn x y d e)(l:b<=x\/y<=a):Sort.SortedIn lN a b e:=λi j f g k=>by rw[c.2.1 i o!,c.2.1 j o!];exact h i j f g k
def Blk(s n:Nat)(d:Array NE):Prop:=∀a b,Mul s a->b<=a+s->b<=n->Sort.SortedIn lN a b d
def ACC{d0:Array NE}{n:Nat}(hn:n=d0.size)(hd:n<=1048576):An (Ec d0.toList (n:Int)) λr=>∃e:Array NE,r=e.toList/\xG 0 n d0 e:=by
 unfold Ec;refine AA (P:=λ(r:Int×List NE)=>∃(a:Nat)(d:Array NE),r.1=a/\r.2=d.toList/\a<=n/\n<a+20/\Mul 20 a/\Sort.PermIn 0 n d0 d/\∀c,Mul 20 c->c<a->Sort.SortedIn lN c (c+20) d) ?_ ?_;refine AU (λ(s:Int×(Int×List NE))=>∃(a:Nat)(d:Array NE),s.1=a/\s.2.1=((a+20:Nat):Int)/\s.2.2=d.toList/\a<=n/\Mul 20 a/\Sort.PermIn 0 n d0 d/\∀c,Mul 20 c->c<a->Sort.SortedIn lN c (c+20) d) (λs=>n-s.1.toNat) ⟨0,d0,rfl,rfl,rfl,Bo _,Mul.zero,Sort.permIn_refl _ _ _,λc _ h=>N! h o!⟩ ?_;rintro⟨s1,s2,s3⟩ ⟨a,d,J,K,Q,q4,D_,F,R⟩;dsimp only at J K Q;subst J K Q;have hz:d.size=n:=by rw[F.1,hn]
 unfold Ii;dsimp only;refine AC (λV=>?_) (λV=>AB ⟨a,d,rfl,rfl,q4,o!,D_,F,R⟩);have A_:=Sort.insertionSort_holds tm d a (a+20) o! o!;rw[AAz (d:=d) (k:=a) (m:=a+20) rfl rfl o! o! o!,AD];have j:ξ (θ (Sort.insertionSort lN d a (a+20)).toList) (θ d.toList)=ζ:=by rw[Dk,Dk,A_.1.1];exact HD _
 have e1:wi (((a+20:Nat):Int)+20)=((a+20+20:Nat):Int):=by grind[mf]
 rw[j,B!,e1];refine AB ⟨⟨a+20,_,rfl,rfl,rfl,o!,D_.add,Sort.permIn_trans _ _ _ _ _ F (Sort.permIn_mono _ _ a (a+20) 0 n o! o! o! A_.1),λc g w=>?_⟩,?_⟩;rcases Ar c a with l|l;exact WF (R c g l) A_.1 (.inl (g.lt D_ l));have:c=a:=by rcases Ar a c with i|i;have:=D_.lt g i;omega;omega
 rw[this];exact A_.2;show n-((a+20:Nat):Int).toNat<n-((a:Nat):Int).toNat
 omega;rintro⟨r1,r2⟩ ⟨a,d,J,K,Q,q4,D_,F,R⟩;dsimp only at J K;subst J K;have hz:d.size=n:=by rw[F.1,hn]
 dsimp only;have A_:=Sort.insertionSort_holds tm d a n Q o!;rw[AAz (d:=d) (k:=a) (m:=n) rfl rfl o! o! o!,AD];have j:ξ (θ (Sort.insertionSort lN d a n).toList) (θ d.toList)=ζ:=by rw[Dk,Dk,A_.1.1];exact HD _
 rw[j,B!];have C:Sort.PermIn 0 n d0 (Sort.insertionSort lN d a n):=Sort.permIn_trans _ _ _ _ _ F (Sort.permIn_mono _ _ a n 0 n o! o! o! A_.1);have u:Blk 20 n (Sort.insertionSort lN d a n):=λc o g w l=>by rcases Ar c a with i|i;exact ZY (WF (R c g i) A_.1 (.inl (g.lt D_ i))) w;rcases Ar a c with G|G;have:=D_.lt g G;exact λx y L M N=>N! N o!;grind[ZY]
 revert C u;generalize Sort.insertionSort lN d a n=d1;intro C u;refine AA (P:=λr=>∃e:Array NE,r=e.toList/\xG 0 n d0 e) (AU (λ(s:Int×List NE)=>∃(t:Nat)(e:Array NE),s.1=t/\s.2=e.toList/\1<=t/\t<=2097172/\Sort.PermIn 0 n d0 e/\Blk t n e) (λs=>n-s.1.toNat) ⟨20,d1,rfl,rfl,o!,o!,C,u⟩ ?_) λr h=>AB h;rintro⟨s1,s2⟩ ⟨t,e,L,M,N,g4,g5,g6⟩;dsimp only at L M;subst L M;unfold Ij;dsimp only;refine AC (λV=>?_) (λV=>AB ⟨e,rfl,g5,g6 0 n Mul.zero o! (Ai _)⟩);have e2:wi (2*(t:Int))=((2*t:Nat):Int):=by rw[mf];omega
 have e3:wi ((t:Int)*2)=((2*t:Nat):Int):=by rw[mf];omega
 rw[e2,e3];refine AA (P:=λ(r:Int×List NE)=>∃(a:Nat)(f:Array NE),r.1=a/\r.2=f.toList/\a<=n/\n<a+2*t/\Mul (2*t) a/\Sort.PermIn 0 n d0 f/\(∀c,Mul (2*t) c->c<a->Sort.SortedIn lN c (c+2*t) f)/\∀c o,Mul t c->a<=c->o<=c+t->o<=n->Sort.SortedIn lN c o f) ?_ ?_;refine AU (λ(s:Int×(Int×List NE))=>∃(a:Nat)(f:Array NE),s.1=a/\s.2.1=((a+2*t:Nat):Int)/\s.2.2=f.toList/\a<=n/\Mul (2*t) a/\Sort.PermIn 0 n d0 f/\(∀c,Mul (2*t) c->c<a->Sort.SortedIn lN c (c+2*t) f)/\∀c o,Mul t c->a<=c->o<=c+t->o<=n->Sort.SortedIn lN c o f) (λs=>n-s.1.toNat)
  ⟨0,e,rfl,k!,rfl,Bo _,Mul.zero,g5,λc _ h=>N! h o!,λc o g _ w l=>g6 c o g w l⟩ ?_
 rintro⟨s1,s2,s3⟩ ⟨a,f,k1,I,Z,k4,p,E,O,B⟩;dsimp only at k1 I Z;subst k1 I Z;have Y_:f.size=n:=by rw[E.1,hn]
 unfold Ik;dsimp only;refine AC (λW=>?_) (λW=>AB ⟨a,f,rfl,rfl,k4,o!,p,E,O,B⟩);have U:wi ((a:Int)+(t:Int))=((a+t:Nat):Int):=by rw[mf];omega
 have e5:wi (((a+2*t:Nat):Int)+((2*t:Nat):Int))=((a+2*t+2*t:Nat):Int):=by rw[mf];omega
 rw[U,e2,e5];apply AA (AGR (d:=f) (a:=a) (m:=a+t) (b:=a+2*t) o! o! o! o! (B a (a+t) p.half (Ai _) (Ai _) o!) (B (a+t) (a+2*t) p.half.add o! o! o!));rintro r ⟨q,rfl,v,H⟩;have j:ξ (θ q.toList) (θ f.toList)=ζ:=by rw[Dk,Dk,v.1];exact HD _
 rw[j,B!];refine AB ⟨⟨a+2*t,q,rfl,rfl,rfl,o!,p.add,Sort.permIn_trans _ _ _ _ _ E (Sort.permIn_mono _ _ a (a+2*t) 0 n o! o! o! v),λc g w=>?_,λc o g w l i=>WF (B c o g o! l i) v (.inr w)⟩,?_⟩;rcases Ar c a with l|l;exact WF (O c g l) v (.inl (g.lt p l));have:c=a:=by rcases Ar a c with i|i;have:=p.lt g i;omega;omega
 rw[this];exact H;show n-((a+2*t:Nat):Int).toNat<n-((a:Nat):Int).toNat
 omega;rintro⟨v1,v2⟩ ⟨a,f,k1,I,Z,k4,p,E,O,B⟩;dsimp only at k1 I;subst k1 I;have Y_:f.size=n:=by rw[E.1,hn]
 dsimp only;have U:wi ((a:Int)+(t:Int))=((a+t:Nat):Int):=by rw[mf];omega
 rw[U];have z:∀q:Array NE,Sort.PermIn a n f q->Sort.SortedIn lN a n q->(∃(S:Nat)(T:Array NE),((2*t:Nat):Int)=S/\q.toList=T.toList/\1<=S/\S<=2097172/\Sort.PermIn 0 n d0 T/\Blk S n T)/\n-((2*t:Nat):Int).toNat<n-((t:Nat):Int).toNat:=λq v H=>by refine⟨⟨2*t,q,rfl,rfl,o!,o!,Sort.permIn_trans _ _ _ _ _ E (Sort.permIn_mono _ _ a n 0 n o! o! o! v),λc o g w l=>?_⟩,o!⟩;rcases Ar c a with i|i;exact ZY (WF (O c g i) v (.inl (g.lt p i))) w;rcases Ar a c with G|G;have:=p.lt g G;exact λx y L M N=>N! N o!;rw[show c=a by omega];exact ZY H l
 refine AC (λX_=>AA (AGR (d:=f) (a:=a) (m:=a+t) (b:=n) o! o! o! o! (B a (a+t) p.half (Ai _) (Ai _) o!) (B (a+t) n p.half.add o! o! (Ai _))) ?_) (λX_=>AB (z f (Sort.permIn_refl _ _ _) (B a n p.half (Ai _) o! (Ai _))));rintro r ⟨q,rfl,v,H⟩;have j:ξ (θ q.toList) (θ f.toList)=ζ:=by rw[Dk,Dk,v.1];exact HD _
 rw[j,B!];exact AB (z q v H)
def AF3{l:List NE}(h:θ l<=1048576):An (Cr l ()) λr=>r.Perm l/\r.Pairwise λx y=>lN y x=η:=by
 unfold Cr;apply AA (ACC (d0:=l.toArray) (n:=θ l) k! h);rintro r ⟨R,rfl,d,f⟩;have e:R.size=θ l:=by rw[d.1];simp
 have g:ξ (θ R.toList) (θ l)=ζ:=by simp[e]
 rw[g,B!];refine AB ⟨?_,?_⟩;have:=d.2.2;rw[show R.extract 0 (θ l)=R by rw[<-e];exact mi,show l.toArray.extract 0 (θ l)=l.toArray by rw[show θ l=l.toArray.size by simp];exact mi]at this;exact this;rw[EU];intro i j k m b;have a:i<R.size:=by simpa using k
 have c:j<R.size:=by simpa using m
 have:=f i j (Bo _) b o!;rw[getElem!_pos R j c,getElem!_pos R i a]at this;simpa using this
def AEb(l:List NE):Prop:=∀x∈l,∀y∈l,x≠y->x.1.2.2.1=y.1.2.2.1->x.1.2.1<y.1.1\/y.1.2.1<x.1.1
def AFv{R a:List NE}(h5:R.length=a.length)(H:a.length≤256)(J: ∀e∈a,1≤e.1.1∧e.1.1≤e.1.2.1∧e.1.2.1≤1099511627776∧0≤e.1.2.2.1)(T:a.Pairwise λx y=>lN y x=false)(hn:a.Nodup)(S:AEb a):
  An (Aa (S4 R a) (0,((-1),(0,([],[]))))) λr=>r=(a.map (·.1),a.map (·.2)):=by
 refine AU (λ(s:Int×(Int×(Int×(List AY×List Int))))=> ∃k:Nat,s.1=k/\k<=a.length/\s.2.2.2=((a.take k).map (·.1),(a.take k).map (·.2))/\((k=0/\s.2.1= -1)\/ ∃e,0<k/\a[k-1]? =some e/\s.2.1=e.1.2.2.1/\s.2.2.1=e.1.2.1)) (λs=>a.length-s.1.toNat) ⟨0,rfl,Bo _,rfl,.inl ⟨rfl,rfl⟩⟩ ?_;rintro⟨s1,X_,s3,s4⟩ ⟨k,O,q2,P,q⟩;dsimp only at O P q;subst O P;unfold S4;dsimp only;refine AC (λz=>?_) (λz=>AB ?_)
 ·simp only[len]at z;refine AA (AI) λv8 _=>AA (AI) λv h=>?_;have A_:a[k]? =some v:=by simpa using h.1
  obtain⟨Y_,Z,b3,b4⟩:=J v h.2;have D_:a.take (k+1)=a.take k++[v]:=by rw[CI,A_];rfl
  have hl:(a.take k).length<=256:=by rw[BJ];omega
  have j: ∀E:Int,E=v.1.2.2.1→An (Option.bind (app ((a.take k).map (·.1)) [v.1]) λf=>Option.bind (app ((a.take k).map (·.2)) [v.2]) λg=>some (Step.next (wi ((k:Int)+1),(E,(v.1.2.1,(f,g)))))) λ(st:Step (Int×(Int×(Int×(List AY×List Int)))) (List AY×List Int))=>match st with
    | .next i=>(∃d:Nat,i.1=d/\d<=a.length/\i.2.2.2=((a.take d).map (·.1),(a.take d).map (·.2))/\((d=0/\i.2.1= -1)\/ ∃e,0<d/\a[d-1]? =some e/\i.2.1=e.1.2.2.1/\i.2.2.1=e.1.2.1))/\a.length-i.1.toNat<a.length-((k:Nat):Int).toNat
    | .done r=>r=(a.map (·.1),a.map (·.2)):=λE B=>by
   refine AA (Ac w!) λf u=>AA (Ac w!) λg w=>AB ⟨⟨k+1,?_,o!,?_,.inr ⟨v,o!,by rw[Nat.add_sub_cancel];exact A_,B,rfl⟩⟩,?_⟩;show wi ((k:Int)+1)=_;rw[wip];show(f,g)=_;rw[u.1,w.1,D_,Mr,Mr];rfl;show a.length-(wi ((k:Int)+1)).toNat<a.length-((k:Nat):Int).toNat
   rw[wip];omega
  have b: ∀n:Int,n<v.1.1->Nw (v.1,n)=some v.1:=λn hn=>by unfold Nw;have:decide (v.1.1>n)=true:=decide_eq_true hn;dsimp only;rw[this,cond_true]
  refine AK (λm=>?_) (λc=>?_);refine AC (λt=>absurd t o!) (λ_=>?_);rw[b 0 o!,AD];obtain⟨st,F,G⟩:=j v.1.2.2.1 rfl;exact⟨st,F,by cases st<;>exact G⟩;rcases q with⟨_,q⟩|⟨e,q5,Q,V,W⟩;exact absurd (c.trans q) o!;have C:e.1.2.1<v.1.1:=by
   have I:=BM Q;obtain⟨K,L⟩:=Fp.1 Q;obtain⟨M,N⟩:=Fp.1 A_;have m:e≠v:=λp=>by have:=(EU.1 (Jy.1 hn)) (k-1) k K M o!;rw[L,N]at this;exact this p
   have o:=(EU.1 T) (k-1) k K M o!;rw[L,N]at o;have U:=J e I;have l:e.1.2.2.1=v.1.2.2.1:=by rw[<-V];exact c.symm
   rcases S e I v h.2 m l with p|p;exact p;simp only[lN,decide_eq_false_iff_not]at o;omega
  rw[W];refine AC (λt=>absurd t o!) (λ_=>?_);rw[b _ C,AD];obtain⟨st,F,G⟩:=j X_ c.symm;exact⟨st,F,by cases st<;>exact G⟩
 simp only[len]at z;rw[BK o!]
noncomputable def intR(a:AM)(f:Ad):Option NE:=
 match Gm (a,f)with
 |some (r,ζ)=>δ (r,f.2.1)
 |_=>ε
noncomputable def F9(a:AM):List NE:=a.2.2.1.filterMap (intR a)
def AFu{x:AM}(h:VB x)(t:DS x):An (Aa (S3 x) (0,[])) λr=>r=F9 x/\θ r<=256/\∀e∈r,gv e.1:=by
 obtain⟨⟨v,w,y,n,z,A_,B⟩,a1,a2,a3,a4,a5,a6⟩:=id h;refine AU (λ(s:Int×NL)=>0<=s.1/\s.1<=θ x.2.2.1/\θ s.2<=s.1/\(∀e∈s.2,gv e.1)/\s.2=(x.2.2.1.take s.1.toNat).filterMap (intR x)) (λ(s:Int×NL)=>((θ x.2.2.1:Int)-s.1).toNat) ⟨AX _,d!,k!,λe a=>by simp at a,k!⟩ (λs q=>?_);obtain⟨u,C,D_,j,k⟩:=q;unfold S3;refine AC (λf=>?_) (λf=>AB ⟨?_,o!,j⟩);simp only[len]at f;have e:=AW (x:=s.1+1);rw[e];refine AA (AI u f) λg m=>?_;have c:x.2.2.1.take (s.1+1).toNat=x.2.2.1.take s.1.toNat++[g]:=by rw[show(s.1+1).toNat=s.1.toNat+1 by omega,CI,m.1];rfl
 refine D6 (lH n (t _ m.2)) λl d p=>AJ (λb=>?_) (λb=>AB ⟨⟨d!,d!,d!,j,?_⟩,d!⟩);have hr:intR x g=δ (l.1,g.2.1):=by unfold intR;rw[d];obtain⟨r,o⟩:=l;dsimp only at b;subst b;rfl
 refine AA (Ac w!) λE i=>AB ⟨⟨d!,d!,?_,λe a=>?_,?_⟩,d!⟩;have:=i.2.1;simp only[Cg,CU]at this;dsimp only;omega;dsimp only at a;rw[i.1]at a;rcases Ao.1 a with a|a;exact j e a;rw[A7.1 a];exact p b;dsimp only;rw[c,uZ,i.1,k];simp[hr];have hr:intR x g=ε:=by unfold intR;rw[d];obtain⟨r,o⟩:=l;dsimp only at b;subst b;rfl
 dsimp only;rw[c,uZ,k];simp[hr];simp only[len]at f;rw[k,BK o!];rfl
def y8{x:AM}(h:VB x)(m:DS x)(hn:(F9 x).Nodup)(b:AEb (F9 x)):An (G6 x) λr=>∃v:List NE,v.Perm (F9 x)/\(v.Pairwise λp q=>lN q p=η)/\r=(v.map (·.1),v.map (·.2))/\θ v<=256/\∀e∈v,gv e.1:=by
 unfold G6;refine AA (HF h) λt j=>?_;rw[j,Ca,A!];refine AA (AFu h m) λu k=>?_;obtain⟨rfl,g,s⟩:=k;refine AA (AF3 o!) λf a=>?_;have i:=a.1.length_eq;have l:ξ (θ f) (θ (F9 x))=ζ:=by rw[i];exact HD _
 rw[l,B!];have c:∀e∈f,gv e.1:=λe d=>s e (a.1.mem_iff.1 d);refine AA (AFv i.symm o! (λe d=>?_) a.2 (a.1.nodup_iff.2 hn) (λp n q o=>b p (a.1.mem_iff.1 n) q (a.1.mem_iff.1 o))) λr hr=>AB ⟨f,a.1,a.2,hr,o!,c⟩;have:=c e d;exact⟨this.1,this.2.1,this.2.2.1,this.2.2.2.1⟩
def xc(l:List (Int×Int))(n:Int):Prop:=∃s∈l,s.1<=n/\n<=s.2
def ADE{l:List (Int×Int)}{u b:Int}(p:θ l<=16777216):An (Aa (S5 (l,u)) (0,b)) λr=>(∀q,r=.inl q->0<=q.1/\q.1<θ l/\q.2=b/\∀e,l[q.1.toNat]?=δ e->e.1<=b/\b<=e.2)/\(∀q,r=.inr q->q=b/\¬xc l b):=by refine AU (λ(s:Int×Int)=>0<=s.1/\s.1<=θ l/\s.2=b/\∀e∈l.take s.1.toNat,¬(e.1<=b/\b<=e.2)) (λ(s:Int×Int)=>((θ l:Int)-s.1).toNat) ⟨AX _,d!,rfl,k!⟩ (λt n=>?_);obtain⟨k,v,m,g⟩:=n;unfold S5;refine AC (λd=>?_) (λd=>AB ⟨λu c=>(by cases c),λu c=>?_⟩);simp only[len]at d;have e:=AW (x:=t.1+1);rw[e];refine AA (AI k d) λw h=>?_;unfold UM;rw[has_eq,AD,AD,m];refine AJ (λf=>AB ⟨λu c=>?_,λu c=>(by cases c)⟩) (λi=>AB ⟨⟨d!,d!,rfl,λe a=>?_⟩,d!⟩);cases c;refine⟨k,d,rfl,λe a=>?_⟩;dsimp only at a;rw[h.1]at a;injection a with a;subst a;unfold Pu at f;simp only[BN,K!]at f;exact f;dsimp only at a;rw[show(t.1+1).toNat=t.1.toNat+1 by omega,CI,h.1]at a;rcases Ao.1 a with a|a;exact g e a;rw[lz,A7]at a;subst a;intro j;unfold Pu at i;simp only[uX,decide_eq_false_iff_not]at i;omega;cases c;simp only[len]at d;rw[BK o!]at g;exact⟨m,by rw[show xc l b↔∃s∈l,s.1<=b/\b<=s.2 from Iff.rfl];rintro⟨s,o,j⟩;exact g s o j⟩
def zS{l:List (Int×Int)}{u:Int}(h:SpL l)(w:0<=u)(A_:u<=1099511627776):An (MN (l,u)) λr=>0<=r/\r<=u/\(∀n,r<n->n<=u->xc l n)/\(r=0\/¬xc l r):=by obtain⟨a1,a2⟩:=h;unfold MN;refine AA (P:=λr=>0<=r/\r<=u/\(∀n,r<n->n<=u->xc l n)/\(r=0\/¬xc l r)) ?_ λr hr=>AB hr;refine AU (λ(s:Int)=>0<=s/\s<=u/\∀n,s<n->n<=u->xc l n) (λ(s:Int)=>s.toNat) ⟨w,AX _,λn k m=>by dsimp only at k;omega⟩ (λs v=>?_);obtain⟨p,t,g⟩:=v;unfold Xy;refine AA (ADE (b:=s) a1) λr hr=>A9 (λq f=>?_) (λq f=>?_);obtain⟨i,j,y,z⟩:=hr.1 q f;refine AC (λd=>N! d o!) (λ_=>AC (λd=>AB ?_) (λB=>?_));rw[y]at d⊢;exact⟨p,t,g,.inl o!⟩;refine AA (AI i j) λa c=>?_;have C:=z a c.1;have D_:=a2 a c.2;have e:=AW (x:=a.1-1);rw[e];refine AB ⟨⟨o!,o!,λn k m=>?_⟩,o!⟩;rcases kE s n with o|o;exact g n o m;exact⟨a,c.2,o!⟩;obtain⟨i,j⟩:=hr.2 q f;rw[i];exact AB ⟨p,t,g,.inr j⟩
def ur{x:AM}(h:VB x):x.2.2.1.Pairwise λf g=>f.2.1<g.2.1:=by
 have c:=h.2.2.2.2.2.2.2;rw[EU];have step:∀n i:Nat,∀(a:i<θ x.2.2.1)(b:i+1+n<θ x.2.2.1),(x.2.2.1[i]).2.1<(x.2.2.1[i+1+n]).2.1:=by
  intro n;induction n with
  |zero=>intro i a b;exact c i _ _ o! (As a) (As b)
  |succ n m=>intro i a b;have d:=m i a o!;have k:=c (i+1+n) _ _ o! (As o!) (As b);exact Int.lt_trans d k
 intro i j a b l;have:=step (j-(i+1)) i a o!;have e:i+1+(j-(i+1))=j:=o!
 simp only[e]at this;exact this
def AB9{x:AM}(h:VB x):((F9 x).map (·.2)).Pairwise (· < ·):=by
 unfold F9;rw[QQ,List.pairwise_filterMap];refine(ur h).imp λ{f g} b y a z c=>?_;have one:∀(f:Ad)(y:NE),intR x f=δ y->y.2=f.2.1:=λf y a=>by unfold intR at a;split at a;injection a with a;rw[<-a];cases a
 rw[one f y a,one g z c];exact b
def WC{x:AM}(h:VB x):(F9 x).Nodup:=by have:=AB9 h;rw[QQ]at this;exact Jy.2 (this.imp λh e=>by rw[e]at h;omega)
def AIM{a:AM}{l:AZ}{p i j:Int}{Q:List (Int×Int)}{d:Int×Int}{r:AY}{W:List (Int×EN)}{u:Int}{P:EN→Prop}(hr:θ r.2.2.2.2.2≤4096)(Y_:Q[0]?=δ d)(hm:QJ W P)(hn:0≤u∧u≤1099511627776)
  (S:∀v∈r.2.2.2.2.2,J6 p i j v=ζ->(Pu d v.1=ζ->P v)/\∀e,(P e\/(e∈r.2.2.2.2.2/\J6 p i j e=ζ))->e.1=v.1->e=v):
  An (Aa (WX (a,l,p,i,j) Q r) (0,W,u,[],0)) λq=>∃m n,q=.inl (m,n,[],0)/\QJ m (λe=>P e\/(e∈r.2.2.2.2.2/\J6 p i j e=ζ))/\n=u+((r.2.2.2.2.2.filter λe=>J6 p i j e&&Pu d e.1).length:Int):=by
 generalize hL:r.2.2.2.2.2=L at hr S⊢;refine AU (λ(s:Int×(List (Int×EN)×(Int×(List EN×Int))))=>0<=s.1/\s.1<=θ L/\s.2.2.2=([],0)/\s.2.2.1=u+(((L.take s.1.toNat).filter λe=>J6 p i j e&&Pu d e.1).length:Int)/\QJ s.2.1 λe=>P e\/(e∈L.take s.1.toNat/\J6 p i j e=ζ)) (λs=>((θ L:Int)-s.1).toNat)
  ⟨AX _,d!,rfl,k!,hm.congr λe=>k!⟩ (λs Z=>?_)
 obtain⟨c,E,F,s4⟩:=s;obtain⟨U,i2,V,C,z⟩:=Z;dsimp only at U i2 V C z;subst V;unfold WX;dsimp only;rw[hL];refine AC (λf=>?_) (λf=>AB ?_);simp only[len]at f;have X_:=AW (x:=c+1);rw[X_];refine AA (AI U f) λv R=>?_;rw[mG,AD];have o:L.take (c+1).toNat=L.take c.toNat++[v]:=by rw[show(c+1).toNat=c.toNat+1 by omega,CI,R.1];rfl
 have k:J6 p i j v=η->(0<=c+1/\c+1<=θ L/\(([],0):List EN×Int)=([],0)/\F=u+(((L.take (c+1).toNat).filter λe=>J6 p i j e&&Pu d e.1).length:Int)/\QJ E λe=>P e\/(e∈L.take (c+1).toNat/\J6 p i j e=ζ))/\((θ L:Int)-(c+1)).toNat<((θ L:Int)-c).toNat:=λy=>by
  refine⟨⟨o!,o!,rfl,?_,?_⟩,o!⟩;rw[o,Gr,C];simp[y];rw[o];refine z.congr λe=>⟨?_,?_⟩
  rintro(h|h);exact .inl h;exact .inr ⟨Ao.2 (.inl h.1),h.2⟩;rintro(h|⟨h,w⟩);exact .inl h;rcases Ao.1 h with h|h;exact .inr ⟨h,w⟩;rw[A7.1 h,y]at w;cases w
 refine AJ (λG=>?_) (λG=>AB (k (by simp[J6,G])));refine AJ (λH=>?_) (λH=>AB (k (by simp[J6,H])));refine AJ (λI=>?_) (λI=>AB (k (by unfold J6;rw[I];simp)));refine AO (λJ=>AB (k (by unfold J6;rw[J];simp))) (λJ=>?_);have y:J6 p i j v=ζ:=by unfold J6;rw[G,H,I,J];rfl
 have O:ix Q 0=δ d:=by unfold ix;rw[C! (AX _)];exact Y_
 rw[O,AD,has_eq,AD];obtain⟨M,A_⟩:=S v R.2 y;have t:QJ (Pv v.1 v E) λe=>P e\/(e∈L.take (c+1).toNat/\J6 p i j e=ζ):=by
  rw[o];refine z.put.congr λe=>⟨?_,λh=>?_⟩
  rintro(rfl|⟨h|h,_⟩);exact .inr ⟨Ao.2 (.inr (A7.2 rfl)),y⟩;exact .inl h;exact .inr ⟨Ao.2 (.inl h.1),h.2⟩;by_cases g:e=v;exact .inl g;rcases h with h|⟨h,w⟩;exact .inr ⟨.inl h,λN=>g (A_ e (.inl h) N)⟩;rcases Ao.1 h with h|h;exact .inr ⟨.inr ⟨h,w⟩,λN=>g (A_ e (.inr ⟨Iq h,w⟩) N)⟩;exact N! (A7.1 h) g
 have T:(((L.take c.toNat).filter λe=>J6 p i j e&&Pu d e.1).length:Int)<=4096:=by have h1:=FT (λe=>J6 p i j e&&Pu d e.1) (L.take c.toNat);have h3:=List.length_take_le' c.toNat L;omega
 have K:=AW (x:=F+1);rw[K];have B:∀b:Bool,Pu d v.1=b->u+((((L.take (c+1).toNat).filter λe=>J6 p i j e&&Pu d e.1).length:Nat):Int)=F+(if b=ζ then 1 else 0):=λb hb=>by rw[o,Gr,Af,C];cases b<;>simp[y,hb]<;>omega
 refine AJ (λD_=>?_) (λD_=>AB ⟨⟨d!,d!,rfl,?_,t⟩,d!⟩);have hg:LB v.1 E=δ v:=z.get (.inl (M D_));rw[hg];simp only[Option.isSome_some,Ca,A!,lw,L!,XP];refine AB ⟨⟨d!,d!,rfl,?_,t⟩,d!⟩;rw[B ζ D_];rfl;rw[B η D_];simp;simp only[len]at f;rw[BK o!]at C z;exact⟨E,F,rfl,z,C⟩
def J8(low:Int)(rs:List AY):List EN:=(rs.filter λr=>r.2.2.1==low).flatMap λr=>r.2.2.2.2.2
def AIL{a:AM}{l:AZ}{p i j:Int}{X_:List (Int×Int)}{sp:Int×Int}{b:Int×(Int×Bool)}{c:List AY}{E:List Int}{W:List (Int×EN)}{P:EN→Prop}(Z:X_[0]?=δ sp)(hm:QJ W P)
  (U:θ c=θ E) (T:θ c<=256) (hr:∀r∈c,θ r.2.2.2.2.2<=4096)
  (hc:∀v∈J8 b.1 c,J6 p i j v=ζ->(Pu sp v.1=ζ->P v)/\∀e,(P e\/(e∈J8 b.1 c/\J6 p i j e=ζ))->e.1=v.1->e=v):
  An (Aa (WW (a,l,p,i,j) X_ b (c,E)) (0,W,0,[],0)) λq=>∃m n,q=.inl (m,n,[],0)/\QJ m (λe=>P e\/(e∈J8 b.1 c/\J6 p i j e=ζ))/\n=(((J8 b.1 c).filter λe=>J6 p i j e&&Pu sp e.1).length:Int):=by
 have B:∀k:Nat,(J8 b.1 (c.take k)).length<=k*4096:=by
  intro k;induction k with
  |zero=>simp[J8]
  |succ k ih=>rw[CI];grind[J8,List.length_append,Nat.succ_mul,Nat.add_le_add]
 refine AU (λ(s:Int×(List (Int×EN)×(Int×(List EN×Int))))=>0<=s.1/\s.1<=θ c/\s.2.2.2=([],0)/\s.2.2.1=(((J8 b.1 (c.take s.1.toNat)).filter λe=>J6 p i j e&&Pu sp e.1).length:Int)/\QJ s.2.1 λe=>P e\/(e∈J8 b.1 (c.take s.1.toNat)/\J6 p i j e=ζ)) (λs=>((θ c:Int)-s.1).toNat)
  ⟨AX _,d!,rfl,by simp[J8],hm.congr λe=>by simp[J8]⟩ (λs hI=>?_)
 have⟨d,s2,S,s4⟩:=s;have⟨R,i2,V,C,D_⟩:=hI;dsimp only at R i2 V C D_;subst V;unfold WW;dsimp only;refine AC (λo=>?_) (λo=>AB ?_);simp[len]at o;have Y_:=AW (x:=d+1);rw[Y_];refine AA (AI R o) λv G=>?_;have t:c.take (d+1).toNat=c.take d.toNat++[v]:=by rw[show(d+1).toNat=d.toNat+1 by omega,CI,G.1];rfl
 refine AJ (λF=>?_) (λF=>AB ⟨⟨d!,d!,rfl,?_,?_⟩,d!⟩);refine AA (AI R) λad _=>?_;have u:∀e∈v.2.2.2.2.2,e∈J8 b.1 c:=λe g=>Gf.2 ⟨v,BU.2 ⟨G.2,F⟩,g⟩;have z:∀e∈J8 b.1 (c.take d.toNat),e∈J8 b.1 c:=λe g=>by have⟨r,L,M⟩:=Gf.1 g;have⟨N,O⟩:=BU.1 L;exact Gf.2 ⟨r,BU.2 ⟨Iq N,O⟩,M⟩
 have K:0<=S/\S<=1099511627776:=by
  have h1:=FT (λe=>J6 p i j e&&Pu sp e.1) (J8 b.1 (c.take d.toNat));have h2:=B d.toNat
  omega
 have f:J8 b.1 (c.take d.toNat++[v])=J8 b.1 (c.take d.toNat)++v.2.2.2.2.2:=by grind[J8]
 refine AA (AIM (hr v G.2) Z D_ K λw hw Q=>?_) ?_;have⟨q1,q2⟩:=hc w (u w hw) Q;refine⟨λh=>.inl (q1 h),λe g H=>q2 e ?_ H⟩;rcases g with(g|⟨g,y⟩)|⟨g,y⟩;exact .inl g;exact .inr ⟨z e g,y⟩;exact .inr ⟨u e g,y⟩;rintro q ⟨m,n,rfl,I,J⟩;refine BG (AB ⟨⟨d!,d!,rfl,?_,?_⟩,d!⟩);dsimp only;rw[t,f,J,C,Gr,Af];omega;dsimp only;rw[t,f];refine I.congr λe=>?_;rw[Ao];constructor;rintro((h|⟨h,A_⟩)|⟨h,A_⟩);exact .inl h;exact .inr ⟨.inl h,A_⟩;exact .inr ⟨.inr h,A_⟩;rintro(h|⟨h|h,A_⟩);exact .inl (.inl h);exact .inl (.inr ⟨h,A_⟩);exact .inr ⟨h,A_⟩;have f:J8 b.1 (c.take d.toNat++[v])=J8 b.1 (c.take d.toNat):=by unfold J8;rw[Gr,an];simp[F]
 dsimp only;rw[t,f];exact C;have f:J8 b.1 (c.take d.toNat++[v])=J8 b.1 (c.take d.toNat):=by unfold J8;rw[Gr,an];simp[F]
 dsimp only;rw[t,f];exact D_;simp[len]at o;rw[BK o!]at C D_;exact⟨s2,S,rfl,D_,C⟩
def Ue{l:List EN}:(l.map (·.1)).Nodup->∀{a b:EN},a∈l->b∈l->a.1=b.1->a=b:=by
 induction l with
 |nil=>intro _ a b d;cases d
 |cons p r f=>intro e a b d c h;rw[Bn,Gg]at e;rcases A1.1 d with d|d;rcases A1.1 c with c|c;rw[d,c];exact N! (by rw[<-d,h];exact Sr c) e.1;rcases A1.1 c with c|c;exact N! (by rw[<-c,<-h];exact Sr d) e.1;exact f e.2 d c h
def AFb{B:Nat}(j:CP B){l:List EN}(h:θ l<=B)(k:θ l<=16777216)(hn:(l.map (·.1)).Nodup):An (tY C0 l) λr=>r.Perm l/\r.Pairwise λa b=>a.1<b.1:=by
 have n:=List.pairwise_mergeSort (le:=λa b:EN=>decide (a.1<=b.1)) (λa b c o p=>by simp only[K!]at*;omega) (λa b=>by simp only[VU,K!];omega) l;have i:(l.mergeSort λa b:EN=>decide (a.1<=b.1)).Perm l:=List.mergeSort_perm _ _;have g:(l.mergeSort λa b:EN=>decide (a.1<=b.1)).Pairwise λa b=>a.1<=b.1:=n.imp λh=>M! h;have key:∀m,l.Perm m->C0 m ()=δ (l.mergeSort λa b:EN=>decide (a.1<=b.1)):=λm f=>by have d:(m.map (·.1)).Nodup:=(f.map (·.1)).nodup_iff.1 hn;unfold C0 ABE;rw[C! ⟨d,by rw[<-f.length_eq];exact k⟩,<-AAN (key:=λe:EN=>e.1) d (i.trans f) g]
 refine⟨_,?_,i,?_⟩;unfold tY;rw[C!];exact key l (oQ l);intro m f;rw[key m f,key l (oQ l)];have d:=(i.map (·.1)).nodup_iff.2 hn;rw[Jy,QQ]at d;exact(g.and d).imp λh=>o!
def vM:∀(n:Nat)(i:Int)(l:List Int),l.Nodup->(∀x∈l,i<x/\x<=i+n)->θ l<=n
 |0,i,l,_,h=>by
  cases l with
  |nil=>exact Ai _
  |cons a r=>have:=h a (A1.2 (.inl rfl));omega
 |n+1,i,l,hl,h=>by
  have d:=vM n i (l.erase (i+(n+1:Nat))) (hl.erase _) λx c=>by have b:=(hl.mem_erase_iff).1 c;have:=h x b.2;have:=b.1;omega
  have e:θ l<=(l.erase (i+(n+1:Nat))).length+1:=by rw[List.length_erase];split<;>omega
  omega
def XZ(i:Int)(s:List EN):Prop:=∀(k:Nat)(e:EN),s[k]?=δ e->(k=0->e.2.2.2.2.1<=i)/\∀f,0<k->s[k-1]?=δ f->e.2.2.2.2.1=f.1
def AIK{a:AM}{l:AZ}{p i j:Int}{s:List EN}(O:θ s≤16777216):
  An (Aa (PO (a,l,p,i,j) s) (0,[],0)) λr=>(r=.inl ([],0)/\XZ i s)\/(r=.inr ([],13)/\¬XZ i s):=by
 refine AU (λ(t:Int×(List EN×Int))=>0<=t.1/\t.1<=θ s/\t.2=([],0)/\∀(k:Nat)(e:EN),k<t.1->s[k]?=δ e->(k=0->e.2.2.2.2.1<=i)/\∀f,0<k->s[k-1]?=δ f->e.2.2.2.2.1=f.1) (λt=>((θ s:Int)-t.1).toNat)
  ⟨AX _,d!,rfl,λk e F=>(by dsimp only at F;omega)⟩ (λt K=>?_)
 obtain⟨b,P⟩:=t;obtain⟨C,L,G,D_⟩:=K;dsimp only at C L G D_;subst G;unfold PO;dsimp only;refine AC (λn=>?_) (λn=>AB (.inl ⟨rfl,λk e d=>D_ k e ?_ d⟩));simp only[len]at n;have I:=AW (x:=b+1);rw[I];refine AA (AI C n) λM _=>AA (AI C n) λv h=>?_;have o:((b=0->v.2.2.2.2.1<=i)/\∀f,0<b->s[b.toNat-1]?=δ f->v.2.2.2.2.1=f.1)->(0<=b+1/\b+1<=θ s/\(([],0):List EN×Int)=([],0)/\∀(k:Nat)(e:EN),k<b+1->s[k]?=δ e->(k=0->e.2.2.2.2.1<=i)/\∀f,0<k->s[k-1]?=δ f->e.2.2.2.2.1=f.1)/\((θ s:Int)-(b+1)).toNat<((θ s:Int)-b).toNat:=λE=>by
  refine⟨⟨o!,o!,rfl,λk e F d=>?_⟩,o!⟩;by_cases B:(k:Int)<b;exact D_ k e B d;have H:k=b.toNat:=o!
  subst H;rw[h.1]at d;injection d with d;subst d;exact⟨λy=>E.1 o!,λf y g=>E.2 f o! g⟩
 apply AQ<;>intro y;refine AC (λu=>AB (.inr ⟨rfl,λA_=>?_⟩)) (λu=>?_);have:=(A_ b.toNat v h.1).1 o!;omega;refine AC (λm=>N! m o!) (λ_=>AB (o ⟨λ_=>o!,λf g=>N! g o!⟩));refine AC (λu=>?_) (λu=>N! u o!);have w:=AW (x:=b-1);rw[w];refine AA (AI) λN _=>AA (AI) λq z=>?_;have c:s[b.toNat-1]?=δ q:=by rw[show b.toNat-1=(b-1).toNat by omega];exact z.1
 refine AK (λm=>AB (.inr ⟨rfl,λA_=>m ((A_ b.toNat v h.1).2 q o! c)⟩)) (λm=>AB (o ⟨λJ=>N! J y,λf _ g=>?_⟩));rw[c]at g;injection g with g;rw[<-g];exact m;simp only[len]at n;have:=(Fp.1 d).1;omega
def AIN{a:AM}{l:AZ}{p i j:Int}{s:List EN}(b:θ s≤16777216):
  An (Aa (PO (a,l,p,i,j) s) (0,[],0)) λr=>(r=.inl ([],0)/\XZ i s)\/(r=.inr ([],13)/\¬XZ i s):=AIK b
def Uh(l:AZ)(low:Int)(rs:List AY):List (Int×Int):=(l.1,l.1+θ l.2.1-1)::(rs.filter λr=>r.2.2.1==low).map λr=>(r.1,r.2.1)
def yl{a:AM}{l:AZ}{p:Int}{e:Int×(Int×Bool)}{b:List AY}{d:List Int}(A_:Dd l)(k:GA (a,p)=δ e)(B:e.2.2=ζ)(m:G6 a=δ (b,d))(s:θ b=θ d)(o:θ b≤256):
  PQ (a,l,p)=δ (Uh l e.1 b):=by
 obtain⟨H,w,y⟩:=cT A_;unfold PQ;dsimp only;rw[w,AD,k,AD,B,Ca,A!,m,AD,y];have main:An (Aa (S6 e (b,d)) (0,([(l.1,l.1+θ l.2.1-1)]:List (Int×Int)))) λr=>r=Uh l e.1 b:=by
  refine AU (λ(t:Int×List (Int×Int))=>0<=t.1/\t.1<=θ b/\θ t.2<=t.1.toNat+1/\t.2=Uh l e.1 (b.take t.1.toNat)) (λt=>((θ b:Int)-t.1).toNat) ⟨AX _,d!,k!,rfl⟩ (λt z=>?_);obtain⟨g,G⟩:=t;obtain⟨n,C,D_,j⟩:=z;dsimp only at n C D_ j;unfold S6;dsimp only;refine AC (λi=>?_) (λi=>AB ?_);simp only[len]at i;have u:=AW (x:=g+1);rw[u];refine AA (AI n i) λv h=>?_;have f:b.take (g+1).toNat=b.take g.toNat++[v]:=by rw[show(g+1).toNat=g.toNat+1 by omega,CI,h.1];rfl
  refine AJ (λc=>?_) (λc=>AB ⟨⟨d!,d!,d!,?_⟩,d!⟩);refine AA (AI n) λI _=>AA (Ac (by simp only[Cg,CU];omega)) λJ q=>AB ⟨⟨d!,d!,?_,?_⟩,d!⟩;have:=q.2.1;simp only[Cg,CU]at this;dsimp only;omega;dsimp only;rw[q.1,j,f];unfold Uh;rw[Gr,Mr,ub (by exact c)];rfl;dsimp only;rw[j,f];unfold Uh;rw[Gr,ua (by rw[c];decide)];simp;simp only[len]at i;rw[j,BK o!]
 obtain⟨r,E,F⟩:=main;rw[E,AD,F]
def nv{l:List EN}:(l.map (·.1)).Nodup->l.Nodup:=by
 induction l with
 |nil=>intro _;exact QP
 |cons p r b=>intro a;rw[Bn,Gg]at a;exact Gg.2 ⟨λh=>a.1 (Sr h),b a.2⟩
def Dd.nodup{l:AZ}(h:Dd l):(l.2.1.map (·.1)).Nodup:=by obtain⟨l1,l2,i,j,k,a⟩:=h;rw[Jy,QQ,EU];intro x y b d c g;have e:=(a x _ (As b)).1;have f:=(a y _ (As d)).1;omega
def Dd.has{l:AZ}(h:Dd l){e:EN}(a:e∈l.2.1):Pu (l.1,l.1+θ l.2.1-1) e.1=ζ:=by obtain⟨k,b,a⟩:=VM.1 a;have c:=(h.2.2.2.2.2 k e (by rw[<-a];exact As b)).1;unfold Pu;simp only[BN,K!];omega
structure AGA(l:AZ)(low p i j:Int)(rs:List AY):Prop where
 fromLog:∀f∈J8 low rs,J6 p i j f=true->Pu (l.1,l.1+l.2.1.length-1) f.1=true->f∈l.2.1
 inRuns:∀e∈l.2.1,J6 p i j e=true->((rs.filter λr=>r.2.2.1==low).any λr=>Pu (r.1,r.2.1) e.1)=true->e∈J8 low rs
 own:∀r∈rs,∀f∈r.2.2.2.2.2,Pu (r.1,r.2.1) f.1=true
 once:((J8 low rs).map (·.1)).Nodup
def AIz{B:Nat}{a:AM}{l:AZ}{p i j R:Int}{c:Int×(Int×Bool)}{b:List AY}{P:List Int}(V:CP B)(hB:B≤16777216)(ag:j-i≤B)(hi:0≤i)(hj:i≤j)
  (h:VB a) (D_:Dd l) (hp:0<=p/\p<a.2.1) (L:GA (a,p)=δ c) (ht:c.2.2=ζ) (N:G6 a=δ (b,P)) (w:θ b=θ P) (t:θ b<=256)
  (hr:∀r∈b,θ r.2.2.2.2.2<=4096) (W:MN (Uh l c.1 b,j)=δ R) (z:AGA l c.1 p i j b):
  An (Hn (a,l,p,i,j)) λr=>(R>i/\r=([],42))\/(R<=i/\∃s:List EN,(s.Pairwise λx y=>x.1<y.1)/\(∀e,e∈s↔(e∈l.2.1\/e∈J8 c.1 b)/\J6 p i j e=ζ)/\((XZ i s/\r=(s,0))\/(¬XZ i s/\r=([],13)))):=by
 have K:=D_.nodup;unfold Hn;dsimp only;refine AA (ZQ (x:=(a,l,p,i)) h D_ ⟨hp.1,hp.2,hi⟩) λv0 h0=>AK (λk=>N! h0 k) (λ_=>AC (λk=>N! k o!) (λ_=>?_));rw[yl D_ L ht N w t,AD,W,AD];refine AC (λhf=>AB (.inl ⟨hf,rfl⟩)) (λhf=>AA (AII D_ (by simp[Uh]) (by have:=FT (λr:AY=>r.2.2.1==c.1) b;simp only[Uh,Cg,B7];omega)) λaf H=>?_);rw[L,AD,ht,Ca,A!,N,AD];have hP:∀v∈J8 c.1 b,J6 p i j v=ζ->(Pu (l.1,l.1+θ l.2.1-1) v.1=ζ->(v∈l.2.1/\J6 p i j v=ζ))/\∀e,((e∈l.2.1/\J6 p i j e=ζ)\/(e∈J8 c.1 b/\J6 p i j e=ζ))->e.1=v.1->e=v:=λv hv E=>by refine⟨λk=>⟨z.fromLog v hv E k,E⟩,λe u A_=>?_⟩;rcases u with⟨u,_⟩|⟨u,_⟩;have ad:=z.fromLog v hv E (by rw[<-A_];exact D_.has u);exact Ue K u ad A_;exact Ue z.once u hv A_
 apply AA (AIL (sp:=(l.1,l.1+θ l.2.1-1)) rfl H.2 w t hr hP);rintro q ⟨m,n,rfl,o,hn⟩;apply BG;dsimp only;have f:af.1=n:=by
  rw[H.1,hn];refine E! Int.ofNat (List.Perm.length_eq ?_)
  refine(ln ((nv K).filter _) ((nv z.once).filter _)).2 λe=>?_;rw[BU,BU];simp only[BN];have I:((Uh l c.1 b).tail.any λs=>Pu s e.1)=((b.filter λr=>r.2.2.1==c.1).any λr=>Pu (r.1,r.2.1) e.1):=by unfold Uh;rw[List.tail_cons,List.any_map];rfl
  rw[I];constructor;rintro⟨F,G,S⟩;exact⟨z.inRuns e F G S,G,D_.has F⟩;rintro⟨F,G,S⟩;obtain⟨r,M,Y_⟩:=Gf.1 F;exact⟨z.fromLog e F G S,G,ak.2 ⟨r,M,z.own r (BU.1 M).1 e Y_⟩⟩
 refine AK (λk=>N! f k) (λ_=>?_);have J:∀q∈m,J6 p i j q.2=ζ:=λq d=>by
  have:(q.2.1,q.2)∈m:=by rw[<-o.2.1 q d];exact d
  rcases(o.2.2 q.2).1 this with g|g;exact g.2;exact g.2
 have X_:θ m<=B:=by
  have:=vM (j-i).toNat i (m.map (·.1)) o.1 λx hx=>by obtain⟨q,d,rfl⟩:=Bk.1 hx;have E:=J q d;have hk:=o.2.1 q d;unfold J6 at E;simp only[BN,K!]at E;omega
  rw[B7]at this;omega
 refine AC (λ_=>?_) (λk=>N! k (by show¬ ¬((θ m:Int)<=16777216);omega));have C:((m.map (·.2)).map (·.1))=m.map (·.1):=by rw[QM];exact Ms λq d=>(o.2.1 q d).symm
 refine AA (AFb V (l:=m.map (·.2)) (by rw[B7];exact X_) (by rw[B7];omega) (by rw[C];exact o.1)) λs Q=>?_;have Z:θ s=θ m:=by rw[Q.1.length_eq,B7]
 have U:ξ (θ s) (θ m)=ζ:=by rw[Z];exact HD _
 rw[U,B!];have O:∀e,e∈s↔(e∈l.2.1\/e∈J8 c.1 b)/\J6 p i j e=ζ:=λe=>by
  rw[Q.1.mem_iff];constructor;intro u;obtain⟨q,d,rfl⟩:=Bk.1 u;have:(q.2.1,q.2)∈m:=by rw[<-o.2.1 q d];exact d
  rcases(o.2.2 q.2).1 this with g|g;exact⟨.inl g.1,g.2⟩;exact⟨.inr g.1,g.2⟩;rintro⟨g,g'⟩;exact Bk.2 ⟨(e.1,e),(o.2.2 e).2 (g.imp (λg=>⟨g,g'⟩) (λg=>⟨g,g'⟩)),rfl⟩
 refine AA (AIN o!) λr hr=>?_;rcases hr with⟨rfl,T⟩|⟨rfl,T⟩;exact BG (AB (.inr ⟨o!,s,Q.2,O,.inl ⟨T,rfl⟩⟩));exact Av (AB (.inr ⟨o!,s,Q.2,O,.inr ⟨T,rfl⟩⟩))
def jz{s t:List EN}(c:s.Pairwise λx y=>x.1<y.1)(d:t.Pairwise λx y=>x.1<y.1)(h:∀e,e∈s↔e∈t):s=t:=by have nd:∀{u:List EN},(u.Pairwise λx y=>x.1<y.1)->u.Nodup:=λg=>Jy.2 (g.imp λh e=>by rw[e]at h;omega);have f:=(ln (nd c) (nd d)).2 h;exact oP (le:=λa b=>a.1<b.1) (λa b _ _ i j=>o!) c d f
structure il(L:List EN)(r:AY):Prop where
 mem:∀e,e∈r.2.2.2.2.2↔e∈L/\ZK e=true/\r.2.2.1<=e.2.2.2.2.2.2.1.1/\e.2.2.2.2.2.2.1.1<=r.2.2.2.1/\r.1<=e.1/\e.1<=r.2.1
 nd:(r.2.2.2.2.2.map (·.1)).Nodup
def ACk{L:List EN}{l:AZ}{k:List AY}{b p i j:Int}(a:∀e,e∈l.2.1↔e∈L∧l.1≤e.1∧e.1≤l.1+θ l.2.1-1)(hr:∀r∈k,il L r)
  (t:∀r∈k,r.2.2.1=b->b<=p/\p<=r.2.2.2.1) (h:(k.filter λr=>r.2.2.1==b).Pairwise λr s=>r.2.1<s.1\/s.2.1<r.1):AGA l b p i j k where
 fromLog f hf hw hh:=by obtain⟨r,c,g⟩:=Gf.1 hf;have d:=((hr r (BU.1 c).1).mem f).1 g;unfold Pu at hh;simp only[BN,K!]at hh;exact(a f).2 ⟨d.1,o!⟩
 inRuns e o hw ha:=by obtain⟨r,c,g⟩:=ak.1 ha;have d:=BU.1 c;have q:r.2.2.1=b:=eq_of_beq d.2;have A:=t r d.1 q;unfold J6 at hw;unfold Pu at g;simp only[BN,K!,J!]at hw g;exact Gf.2 ⟨r,c,((hr r d.1).mem e).2 ⟨((a e).1 o).1,hw.1,o!⟩⟩
 own r hrr f hf:=by have d:=((hr r hrr).mem f).1 hf;unfold Pu;simp only[BN,K!];omega
 once:=by unfold J8;rw[List.map_flatMap,Jy,List.pairwise_flatMap];refine⟨λr c=>Jy.1 (hr r (BU.1 c).1).nd,?_⟩;refine oO ?_ h;intro r s c g d x u y v o;obtain⟨e,m,rfl⟩:=Bk.1 u;obtain⟨f,n,rfl⟩:=Bk.1 v;have w:=((hr r (BU.1 c).1).mem e).1 m;have z:=((hr s (BU.1 g).1).mem f).1 n;omega
def xl{L:List EN}{d:List AY}{a p i j:Int}(hr:∀r∈d,il L r)(n:∀r∈d,r.2.2.1=a→a≤p∧p≤r.2.2.2.1){e:EN}(l:J6 p i j e=ζ):
  e∈J8 a d↔e∈L/\∃r∈d,r.2.2.1=a/\r.1<=e.1/\e.1<=r.2.1:=by
 unfold J6 at l;simp only[BN,K!,J!]at l;constructor;intro h;obtain⟨r,f,b⟩:=Gf.1 h;obtain⟨c,k⟩:=BU.1 f;have g:=((hr r c).mem e).1 b;exact⟨g.1,r,c,eq_of_beq k,g.2.2.2.2.1,g.2.2.2.2.2⟩;rintro⟨f,r,b,c,k,m⟩;have g:=n r b c;exact Gf.2 ⟨r,BU.2 ⟨b,by simp[c]⟩,((hr r b).mem e).2 ⟨f,l.1,o!,o!,k,m⟩⟩
def fT(a:AM)(l:AZ)(low n:Int):Prop:=(l.1<=n/\n<=l.1+θ l.2.1-1)\/∃e∈F9 a,e.1.2.2.1=low/\e.1.1<=n/\n<=e.1.2.1
def AGZ{B:Nat}{a:AM}{l:AZ}{L:List EN}{p i j:Int}{c:Int×(Int×Bool)}(O:CP B)(hB:B≤16777216)(P:j-i≤B)(Y_:0≤i)(Z:i≤j)(hJ:j≤1099511627776)
  (h:VB a) (hd:DS a) (J:Dd l) (S:0<=p/\p<a.2.1) (G:GA (a,p)=δ c) (ht:c.2.2=ζ) (K:L.Pairwise λx y=>x.1<y.1) (b:∀e,e∈l.2.1↔e∈L/\l.1<=e.1/\e.1<=l.1+θ l.2.1-1)
  (hR:∀e∈F9 a,il L e.1) (z:AEb (F9 a)) (T:∀e∈F9 a,e.1.2.2.1=c.1->c.1<=p/\p<=e.1.2.2.2.1):
  ∃k,(0<=k/\k<=j/\(∀n,k<n->n<=j->fT a l c.1 n)/\(k=0\/¬fT a l c.1 k))/\P4 (a,l,p,i,j)=δ (τ (k<=i))/\An (Hn (a,l,p,i,j)) λr=>(k>i/\r=([],42))\/(k<=i/\((XZ i (L.filter (J6 p i j))/\r=(L.filter (J6 p i j),0))\/(¬XZ i (L.filter (J6 p i j))/\r=([],13)))):=by
 obtain⟨q,H,v,E,w2,rfl,w4,w5⟩:=y8 h hd (WC h) z;have o:∀r∈v.map (·.1),∃e∈F9 a,e.1=r:=λr hr=>by obtain⟨e,d,rfl⟩:=Bk.1 hr;exact⟨e,E.mem_iff.1 d,rfl⟩
 have D_:∀r∈v.map (·.1),il L r:=λr hr=>by obtain⟨e,d,rfl⟩:=o r hr;exact hR e d
 have C:∀r∈v.map (·.1),r.2.2.1=c.1->c.1<=p/\p<=r.2.2.2.1:=λr hr=>by obtain⟨e,d,rfl⟩:=o r hr;exact T e d
 have U:((v.map (·.1)).filter λr=>r.2.2.1==c.1).Pairwise λr s=>r.2.1<s.1\/s.2.1<r.1:=by rw[List.filter_map,QQ];have R:v.Pairwise λx y=>x≠y:=Jy.1 (E.nodup_iff.2 (WC h));refine oO ?_ (R.filter _);intro x y hx hy Q;obtain⟨x1,x2⟩:=BU.1 hx;obtain⟨V,W⟩:=BU.1 hy;exact z x (E.mem_iff.1 x1) y (E.mem_iff.1 V) Q ((eq_of_beq x2).trans (eq_of_beq W).symm)
 have ad:(Uh l c.1 (v.map (·.1))).length<=257:=by have:=FT (λr:AY=>r.2.2.1==c.1) (v.map (·.1));rw[B7]at this;simp only[Uh,Cg,B7];omega
 have M:SpL (Uh l c.1 (v.map (·.1))):=by refine⟨o!,λs f=>?_⟩;rcases A1.1 f with f|f;rw[f];exact J.1;obtain⟨r,hr,rfl⟩:=Bk.1 f;obtain⟨e,d,rfl⟩:=Bk.1 (BU.1 hr).1;exact(w5 e d).1
 have m:∀n,xc (Uh l c.1 (v.map (·.1))) n↔fT a l c.1 n:=λn=>by constructor;rintro⟨s,f,t,w⟩;rcases A1.1 f with f|f;rw[f]at t w;exact .inl ⟨t,w⟩;obtain⟨r,hr,rfl⟩:=Bk.1 f;obtain⟨g1,I⟩:=BU.1 hr;obtain⟨e,d,rfl⟩:=o r g1;exact .inr ⟨e,d,eq_of_beq I,t,w⟩;rintro(⟨t,w⟩|⟨e,d,h0,t,w⟩);exact⟨_,A1.2 (.inl rfl),t,w⟩;exact⟨(e.1.1,e.1.2.1),A1.2 (.inr (Bk.2 ⟨e.1,BU.2 ⟨Sr (E.mem_iff.2 d),by simp[h0]⟩,rfl⟩)),t,w⟩
 obtain⟨k,F,f1,f2,X_,f4⟩:=zS M (u:=j) o! hJ;refine⟨k,⟨f1,f2,λn t w=>(m n).1 (X_ n t w),f4.imp id λhh N=>hh ((m k).2 N)⟩,?_,?_⟩;obtain⟨v0,ev,hv⟩:=ZQ (x:=(a,l,p,i)) h J ⟨S.1,S.2,Y_⟩;unfold P4;dsimp only;rw[ev,AD,beq_iff_eq.2 hv,B!,G! Z,B!,yl J G ht H (by rw[B7,B7]) (by rw[B7];exact w4),AD,F,AD];refine(AIz O hB P Y_ Z h J S G ht H (by rw[B7,B7]) (by rw[B7];exact w4) (λr hr=>?_) F (ACk b D_ C U)).mono λr hr=>?_;obtain⟨e,d,rfl⟩:=Bk.1 hr;exact(w5 e d).2.2.2.2.2.2.2.2;rcases hr with hr|⟨hr,s,s1,s2,s3⟩;exact .inl hr;refine .inr ⟨hr,?_⟩;have f:s=L.filter (J6 p i j):=jz s1 (K.filter _) λe=>by rw[s2,BU];constructor;rintro⟨g|g,A_⟩;exact⟨((b e).1 g).1,A_⟩;exact⟨((xl D_ C A_).1 g).1,A_⟩;rintro⟨g,A_⟩;refine⟨?_,A_⟩;have I:=A_;unfold J6 at I;simp only[BN,K!]at I;rcases(m e.1).1 (X_ e.1 o! o!)with N|⟨y,V,W,y3,y4⟩;exact .inl ((b e).2 ⟨g,N⟩);exact .inr ((xl D_ C A_).2 ⟨g,y.1,Sr (E.mem_iff.2 V),W,y3,y4⟩)
 rw[<-f];exact s3
def BD.lt{n:Int}{l:List Int}(h:BD n l):∀(d i:Nat)(x y:Int),l[i]?=δ x->l[i+1+d]?=δ y->x<y
 |0,i,x,y,hx,hy=>by have:=Cd hy;exact h.2.2.2.2.2.1 i x y o! hx hy
 |d+1,i,x,y,hx,hy=>by have e:=Cd hy;have a:l[i+1+d]?=δ (l[i+1+d]' o!):=As o!;have b:=BD.lt h d i x _ hx a;have c:=h.2.2.2.2.2.1 (i+1+d) _ y o! a q!;omega
def BD.le{n:Int}{l:List Int}(h:BD n l){i j:Nat}{x y:Int}(a:i<=j)(b:l[i]?=δ x)(c:l[j]?=δ y):x<=y:=by
 by_cases e:i=j;grind;obtain⟨d,rfl⟩:∃d,j=i+1+d:=⟨j-(i+1),o!⟩
 have:=h.lt d i x y b c;omega
def BD.mem{n:Int}{l:List Int}(h:BD n l){i:Nat}{x:Int}(a:l[i]?=δ x):0<=x/\x<n:=by have f:=Cd a;have b:l[θ l-1]?=δ (l[θ l-1]' o!):=As o!;have c:=h.le (Bo i) h.2.2.2.2.1 a;have d:=h.le (by omega:i<=θ l-1) a b;have e:=h.2.2.2.2.2.2 _ b;omega
def BD.inj{n:Int}{l:List Int}(h:BD n l){i j:Nat}{x:Int}(b:l[i]?=δ x)(c:l[j]?=δ x):i=j:=by
 rcases Ob i j with a|a|a;obtain⟨d,rfl⟩:∃d,j=i+1+d:=⟨j-(i+1),o!⟩
 have:=h.lt d i x x b c;omega;exact a;obtain⟨d,rfl⟩:∃d,i=j+1+d:=⟨i-(j+1),o!⟩
 have:=h.lt d j x x c b;omega
def nl(a:AM)(i:Nat):Int:=match a.1[i+1]? with
 |some h=>h-1
 |none=>a.2.1-1
def Mq(a:AM)(lo hi:Int):Prop:=∃i:Nat,a.1[i]?=δ lo/\hi=nl a i
def ADI{a:AM}(h:BD a.2.1 a.1){i:Nat}(c:i<θ a.1):(∀w,a.1[i+1]?=δ w->wi (w-1)=nl a i)/\(θ a.1<=i+1->wi (a.2.1-1)=nl a i):=by refine⟨λw b=>?_,λd=>?_⟩;have:=h.mem b;have:=h.2.1;grind[nl,AW];have:=h.1;have:=h.2.1;grind[nl,List.getElem?_eq_none,AW]
def ik{a:AM}(h:BD a.2.1 a.1){i:Nat}{lo:Int}(b:a.1[i]?=δ lo):D8 (a,(i:Int))=δ (lo,nl a i):=by
 have e:=Cd b;have c:=h.2.2.2.1;have⟨g,j⟩:=ADI h e;unfold D8;rw[AW (x:=(i:Int)+1),(by unfold ix;rw[C! o!,Int.toNat_natCast,b]:ix a.1 (i:Int)=δ lo)];by_cases d:i+1<θ a.1;have f:ix a.1 ((i:Int)+1)=δ a.1[i+1]:=by unfold ix;rw[C! o!,show((i:Int)+1).toNat=i+1 by omega,(List.getElem?_eq_getElem d)]
 grind;grind
def xO{a:AM}(h:BD a.2.1 a.1){i:Nat}{b:Int}(c:a.1[i]?=δ b):J0 (a,(i:Int))=δ (b,nl a i):=by
 have f:=Cd c;have d:=h.2.2.2.1;have⟨j,k⟩:=ADI h f;unfold J0;rw[AW (x:=(i:Int)+1),(by unfold ix;rw[C! o!,Int.toNat_natCast,c]:ix a.1 (i:Int)=δ b)];by_cases e:i+1<θ a.1;have g:ix a.1 ((i:Int)+1)=δ a.1[i+1]:=by unfold ix;rw[C! o!,show((i:Int)+1).toNat=i+1 by omega,(List.getElem?_eq_getElem e)]
 grind;grind
def yU{a:AM}{r:AY}(h:BD a.2.1 a.1):An (IN (a,r)) λk=>0<=k↔Mq a r.2.2.1 r.2.2.2.1:=by
 have g:=h.2.2.2.1;refine AA (P:=λq=>(∃k:Int,q=.inl k/\0<=k/\Mq a r.2.2.1 r.2.2.2.1)\/(q=.inr ()/\¬Mq a r.2.2.1 r.2.2.2.1)) ?_ λq p=>?_
 ·refine Cb (λ(s:Int)=>0<=s/\s<=θ a.1/\∀i:Nat,(i:Int)<s->¬(a.1[i]?=δ r.2.2.1/\r.2.2.2.1=nl a i)) (λs=>((θ a.1:Int)-s).toNat) ⟨AX _,o!,λi m=>o!⟩ (λs j=>?_);have⟨e,t,u⟩:=j;unfold J4;dsimp[len];refine AC (λl=>?_) (λl=>An.done (.inr ⟨rfl,?_⟩))
  ·obtain⟨k,rfl⟩:=FC e;rw[ik h (As o!),AD,AW];have f:¬(a.1[k]?=δ r.2.2.1/\r.2.2.2.1=nl a k)->An (δ (Step.next ((k:Int)+1)):Option (Step Int (Int⊕Unit))) (Ls (λ(s:Int)=>0<=s/\s<=θ a.1/\∀i:Nat,(i:Int)<s->¬(a.1[i]?=δ r.2.2.1/\r.2.2.2.1=nl a i)) (λs=>((θ a.1:Int)-s).toNat) ((θ a.1:Int)-(k:Int)).toNat λq=>(∃k:Int,q=.inl k/\0<=k/\Mq a r.2.2.1 r.2.2.2.1)\/(q=.inr ()/\¬Mq a r.2.2.1 r.2.2.2.1)):=λhn=>by
    refine An.next ⟨o!,o!,λi m=>?_⟩ o!
    grind
   refine AQ (λb=>?_) (λb=>f λd=>b ?_)
   ·refine AQ (λc=>An.done (.inl ⟨_,rfl,e,k,?_,?_⟩)) (λc=>f λd=>c d.2.symm);grind;grind
   grind
  rintro⟨i,n,o⟩;grind
 grind[BG,AB,Av]
def ADh{a:AM}{r:AY}(h:BD a.2.1 a.1):An (MR (a,r)) λk=>0<=k↔Mq a r.2.2.1 r.2.2.2.1:=by
 have g:=h.2.2.2.1;refine AA (P:=λq=>(∃k:Int,q=.inl k/\0<=k/\Mq a r.2.2.1 r.2.2.2.1)\/(q=.inr ()/\¬Mq a r.2.2.1 r.2.2.2.1)) ?_ λq p=>?_
 ·refine Cb (λ(s:Int)=>0<=s/\s<=θ a.1/\∀i:Nat,(i:Int)<s->¬(a.1[i]?=δ r.2.2.1/\r.2.2.2.1=nl a i)) (λs=>((θ a.1:Int)-s).toNat) ⟨AX _,o!,λi m=>o!⟩ (λs j=>?_);have⟨e,t,u⟩:=j;unfold QX;dsimp[len];refine AC (λl=>?_) (λl=>An.done (.inr ⟨rfl,?_⟩))
  ·obtain⟨k,rfl⟩:=FC e;rw[xO h (As o!),AD,AW];have f:¬(a.1[k]?=δ r.2.2.1/\r.2.2.2.1=nl a k)->An (δ (Step.next ((k:Int)+1)):Option (Step Int (Int⊕Unit))) (Ls (λ(s:Int)=>0<=s/\s<=θ a.1/\∀i:Nat,(i:Int)<s->¬(a.1[i]?=δ r.2.2.1/\r.2.2.2.1=nl a i)) (λs=>((θ a.1:Int)-s).toNat) ((θ a.1:Int)-(k:Int)).toNat λq=>(∃k:Int,q=.inl k/\0<=k/\Mq a r.2.2.1 r.2.2.2.1)\/(q=.inr ()/\¬Mq a r.2.2.1 r.2.2.2.1)):=λhn=>by
    refine An.next ⟨o!,o!,λi m=>?_⟩ o!
    grind
   refine AQ (λb=>?_) (λb=>f λd=>b ?_)
   ·refine AQ (λc=>An.done (.inl ⟨_,rfl,e,k,?_,?_⟩)) (λc=>f λd=>c d.2.symm);grind;grind
   grind
  rintro⟨i,n,o⟩;grind
 grind[BG,AB,Av]
def Good(a:AM)(f:Ad)(r:AY):Prop:=f.1=1/\f.2.2=Q5 r/\VR r/\Mq a r.2.2.1 r.2.2.2.1
def Bad(f:Ad):Prop:=θ f.2.2<=1099511627776/\∀r,WR r->f.2.2≠Q5 r
def Good.intact{a:AM}{f:Ad}{r:AY}(h:Good a f r)(e:BD a.2.1 a.1):Gm (a,f)=δ (r,ζ):=by have⟨b,c,d,g⟩:=h;have⟨k,k1,i⟩:=ADh (r:=r) e;unfold Gm;rw[b,c,H!,A!,AHO d,AD,show(((r,(0:Int)):AY×Int).2==0)=ζ from rfl,B!];grind
def Good.intR{a:AM}{f:Ad}{r:AY}(h:Good a f r)(b:BD a.2.1 a.1):intR a f=δ (r,f.2.1):=by unfold Go.Pm.intR;rw[h.intact b]
def Bad.intR{a:AM}{f:Ad}(h:Bad f)(d:BD a.2.1 a.1):intR a f=ε:=by
 have key:An (Gm (a,f)) λr=>r.2=η:=by exact AK (λ_=>AB rfl) (λ_=>AA (AHP h.1) λv b=>AQ (λc=>N! (b c).1 (h.2 _ (b c).2)) (λ_=>AB rfl))
 have⟨⟨r,o⟩,k1,e⟩:=key;grind[Go.Pm.intR]
def Bad.ref{a:AM}{f:Ad}(h:Bad f):∃r,GX (a,f)=δ (r,-1):=by
 have key:An (GX (a,f)) λr=>r.2= -1:=by exact AK (λ_=>AB rfl) (λ_=>AA (AHW h.1) λv b=>AK (λ_=>AB rfl) (λc=>N! (b c).1 (h.2 _ (b c).2.wr)))
 have⟨⟨r,o⟩,k1,d⟩:=key;grind
def sN{x y:AY}(b:VR x)(c:VR y)(h:Q5 x=Q5 y):x=y:=by have a:=zw b;rw[h,zw c]at a;injection a with a;exact(Prod.ext_iff.1 a).1.symm
structure AR(L:List EN)(a:AM):Prop where
 vb:VB a
 files:∀f∈a.2.2.1,Bad f\/∃r,Good a f r/\il L r/\r.2.1<a.2.2.2.1
 dis:AEb (F9 a)
def AG(a:AM):Prop:=∀f∈a.2.2.1,∃r,Good a f r
def RC(a:AM)(c:Nat):Prop:=∀lo,((F9 a).filter λe=>e.1.2.2.1==lo).length<=c
def rD{b:Type}:∀(l m:List b),l.Nodup->(∀x∈l,x∈m)->θ l<=θ m
 |[],m,_,_=>Bo _
 |a::l,m,hn,hs=>by
  obtain⟨s,t,rfl⟩:=List.append_of_mem (hs a (A1.2 (.inl rfl)));rw[Gg]at hn;have:=rD l (s++t) hn.2 λx c=>q!
  grind
def AR.mem{L:List EN}{a:AM}(h:AR L a){e:NE}(g:e∈F9 a):∃f∈a.2.2.1,Good a f e.1/\e.2=f.2.1/\il L e.1/\e.1.2.1<a.2.2.2.1:=by have⟨f,i,b⟩:=Sq.1 g;rcases h.files f i with d|⟨r,c,j,k⟩;rw[d.intR h.vb.1]at b;cases b;rw[c.intR h.vb.1]at b;grind
def dO{a:AM}(b:BD a.2.1 a.1){f:Ad}{r:AY}(c:f∈a.2.2.1)(h:Good a f r):(r,f.2.1)∈F9 a:=by exact Sq.2 ⟨f,c,h.intR b⟩
def Good.size{a:AM}{f:Ad}{r:AY}(h:Good a f r):θ f.2.2<=34406441:=by rw[h.2.1];exact h.2.2.1.len
def AR.sa{L:List EN}{a:AM}(h:AR L a):SA a:=by have⟨⟨g,i,j,b,k,l,m⟩,a1,a2,a3,a4,a5,a6⟩:=h.vb;refine⟨b,o!,λf e=>?_⟩;rcases h.files f e with d|⟨r,c,_⟩;exact d.1;have:=c.size;omega
def AR.ds{L:List EN}{a:AM}(h:AR L a):DS a:=λf b=>by have:=h.sa.2.2 f b;omega
def Mq.uniq{a:AM}(e:BD a.2.1 a.1){d b c:Int}(p:Mq a d b)(q:Mq a d c):b=c:=by obtain⟨i,f,g⟩:=p;obtain⟨j,h,k⟩:=q;have:=e.inj f h;subst this;rw[g,k]
def yz{l:List EN}{e:EN}(h:θ l<=16777000):An (CD (l,e)) λr=>θ r.1<=θ l+1/\((∀y,y∈r.1↔y∈l\/y=e)\/(r.1=l/\∃z∈l,z.1=e.1)):=by
 unfold CD;refine AA (P8 (x:=(l,e)) ⟨AX _,o!,d!⟩) λp g=>?_;dsimp only at g⊢;have main:An (σ (WJ l 0 p) λi=>
  σ (WJ l p (len l)) λj=>
  σ (app [] i) λk=>
  σ (app k ([e]:List (Int×(Int×(Int×(Int×(Int×(Int×((Int×(Int×((Bool×BV)×(Bool×BV))))×BV))))))))) λv=>
  σ (app v j) λw=>
  δ (w,ζ)) λr=>θ r.1<=θ l+1/\((∀y,y∈r.1↔y∈l\/y=e)\/(r.1=l/\∃z∈l,z.1=e.1)):=by
  refine AA (CA (AX _) g.1 g.2) λt a=>AA (CA g.1 (by simp[len];omega) i!) λu n=>?_;have B:=a.2;have o:=n.2;simp[len]at o;refine AA (Ac w!) λi b=>?_;have q:=b.2.1;simp[CU]at q;refine AA (Ac w!) λj d=>?_;have s:=d.2.1;simp[CU,Cg]at s;refine AA (Ac o!) λk f=>AB ?_;have C:=f.2.1;refine⟨d!,.inl λy=>?_⟩;have m:t=l.take p.toNat:=by rw[a.1];simp
  dsimp only;rw[f.1,d.1,b.1,m,(by grind[List.take_of_length_le,List.length_drop]:u=l.drop p.toNat),CY];conv=>rhs;rw[<-De p.toNat l]
  grind[List.mem_singleton]
 refine AC (λA_=>?_) (λ_=>main);simp[len]at A_;refine AA (AI g.1 A_) λD_ H=>?_;have⟨c,E,F,G⟩:=AAk D_ e;grind[AQ,AA,AI,AB]
def Uq(L:List EN):Prop:=∀x∈L,∀y∈L,x.1=y.1->x=y
theorem rM{L l:List EN}{e:EN}(c:Uq L)(f:∀x∈l,x∈L)(d:e∈L)(h:θ l<=16777000):An (CD (l,e)) λr=>θ r.1<=θ l+1/\∀y,y∈r.1↔y∈l\/y=e:=by
 refine(yz h).mono λr hr=>⟨hr.1,?_⟩
 rcases hr.2 with hr|⟨b,z,a,i⟩;exact hr;have:=c z (f z a) e d i;subst this;intro y;rw[b];exact⟨.inl,λg=>g.elim id λh=>h▸a⟩
def VR.sorted{r:AY}(h:VR r):r.2.2.2.2.2.Pairwise iY:=by
 rw[EU];have step:∀d i:Nat,∀(a:i<θ r.2.2.2.2.2)(b:i+1+d<θ r.2.2.2.2.2),iY r.2.2.2.2.2[i] r.2.2.2.2.2[i+1+d]:=by
  intro d;induction d with
  |zero=>intro i a b;exact((h.2 (i+1) _ (As b)).2.2 _ o! (As a)).1
  |succ d e=>intro i a b;exact kY (e i a o!) (((h.2 (i+1+(d+1)) _ (As b)).2.2 _ o! (As (by omega:i+1+d<_))).1)
 intro i j a b c;have:=step (j-(i+1)) i a o!;simp[(by omega:i+1+(j-(i+1))=j)]at this;exact this
def VR.nd{L:List EN}{r:AY}(b:Uq L)(h:VR r)(a:∀e∈r.2.2.2.2.2,e∈L):(r.2.2.2.2.2.map (·.1)).Nodup:=by rw[Jy,QQ];refine h.sorted.imp_of_mem λ{x y} f g d c=>?_;have:=b x (a x f) y (a y g) c;grind[mT]
def VR.runOf{L:List EN}{r:AY}(b:Uq L)(h:VR r)(a:∀e,e∈r.2.2.2.2.2↔e∈L/\ZK e=ζ/\r.2.2.1<=e.2.2.2.2.2.2.1.1/\e.2.2.2.2.2.2.1.1<=r.2.2.2.1/\r.1<=e.1/\e.1<=r.2.1):il L r:=⟨a,h.nd b λe c=>((a e).1 c).1⟩
def ZL{v:EN}:ZK v=ζ↔v.2.1=1\/v.2.1=2:=by grind[ZK]
def AEh{L d:List EN}{F T g f i:Int}(C:Uq L)(B:∀e∈d,e∈L)(H:θ d≤16777000):
  An (Aa (Fu (d,F,T,g,f,i)) (η,0,F,T,g,f,i,[])) λr=>∃a:List EN,r.2=(F,T,g,f,i,a)/\θ a<=θ d/\∀y,y∈a↔y∈d/\ZK y=ζ/\g<=y.2.2.2.2.2.2.1.1/\y.2.2.2.2.2.2.1.1<=f/\F<=y.1/\y.1<=T:=by
 refine Cb (λ(s:Bool×(Int×AY))=>∃(k:Nat)(a:List EN),s.2=((k:Int),F,T,g,f,i,a)/\k<=θ d/\θ a<=k/\∀y,y∈a↔y∈d.take k/\ZK y=ζ/\g<=y.2.2.2.2.2.2.1.1/\y.2.2.2.2.2.2.1.1<=f/\F<=y.1/\y.1<=T) (λs=>θ d-s.2.1.toNat)
  ⟨0,[],rfl,Bo _,Ai _,λy=>k!⟩ ?_
 rintro⟨Q,P⟩ ⟨k,a,rfl,I,J,n⟩;unfold Fu;dsimp only;simp only[len];refine AC (λw=>?_) (λw=>An.done ⟨a,rfl,o!,by rw[BK o!]at n;exact n⟩);refine AA (AI o! w) λv l=>?_;have A_:=l.1;rw[Cz]at A_;have q:d.take (k+1)=d.take k++[v]:=by rw[CI,A_];rfl
 rw[AW]
 have c:∀m:Bool,¬(ZK v=ζ∧g≤v.2.2.2.2.2.2.1.1∧v.2.2.2.2.2.2.1.1≤f∧F≤v.1∧v.1≤T)→
   An (δ (Step.next (m,(k:Int)+1,F,T,g,f,i,a)):Option (Step (Bool×(Int×AY)) (Bool×AY))) (Ls (λ(s:Bool×(Int×AY))=>∃(k:Nat)(a:List EN),s.2=((k:Int),F,T,g,f,i,a)/\k<=θ d/\θ a<=k/\∀y,y∈a↔y∈d.take k/\ZK y=ζ/\g<=y.2.2.2.2.2.2.1.1/\y.2.2.2.2.2.2.1.1<=f/\F<=y.1/\y.1<=T) (λs=>θ d-s.2.1.toNat) (θ d-((k:Nat):Int).toNat)
    λr=>∃a:List EN,r.2=(F,T,g,f,i,a)/\θ a<=θ d/\∀y,y∈a↔y∈d/\ZK y=ζ/\g<=y.2.2.2.2.2.2.1.1/\y.2.2.2.2.2.2.1.1<=f/\F<=y.1/\y.1<=T):=λm hn=>by
  refine An.next ⟨k+1,a,rfl,o!,o!,λy=>?_⟩ d!
  grind[List.mem_singleton]
 refine AA Bs λb u=>AO (λz=>c _ λj=>?_) (λD_=>?_);rw[u.2 (ZL.1 j.1)]at z;cases z;refine AC (λ_=>c _ λj=>o!) (λK=>AC (λ_=>c _ λj=>o!) (λM=>AC (λ_=>c _ λj=>o!) (λN=>AC (λ_=>c _ λj=>o!) (λO=>AA (RZ ⟨AX _,d!⟩) λG _=>AA (rM C (λx E=>B x (Iq ((n x).1 E).1)) (B v l.2) o!) λt o=>An.next ⟨k+1,t.1,rfl,o!,o!,λy=>?_⟩ d!))))
 rw[o.2,n,q,Ao,A7];constructor;rintro(⟨h,p⟩|h);exact⟨.inl h,p⟩;subst h;exact⟨.inr rfl,ZL.2 (u.1 D_),o!⟩;rintro⟨h|h,p⟩;exact .inl ⟨h,p⟩;exact .inr h
def ACV{L c:List EN}{F T h g j:Int}(n:Uq L)(q:∀e∈c,e∈L)(p:θ c<=16777000):An (F8 (c,F,T,h,g,j)) λr=>r.2=0->VR r.1/\∃b:List EN,r.1=(F,T,h,g,j,b)/\∀y,y∈b↔y∈c/\ZK y=ζ/\h<=y.2.2.2.2.2.2.1.1/\y.2.2.2.2.2.2.1.1<=g/\F<=y.1/\y.1<=T:=by unfold F8;refine AA Ge λw _=>AO (λ_=>AB λa=>N! (show(1:Int)=0 from a) g!) (λ_=>?_);refine AA (RY ⟨AX _,d!⟩) λx m=>A9 (λu i=>AB λa=>N! a (m u i)) (λu i=>AA (AEh n q p) λs d=>?_);have⟨b,k,v,l⟩:=d;refine AJ (λ_=>AB λa=>N! (show(41:Int)=0 from a) g!) (λ_=>?_);refine AC (λ_=>AB λa=>N! (show(21:Int)=0 from a) g!) (λ_=>?_);refine AA XO λt f=>AO (λ_=>AB λa=>N! (show(13:Int)=0 from a) g!) (λo=>AB λ_=>⟨f.1 o,b,k,l⟩)
def AGb{x:Int×List Int}(h:BD x.1 x.2):An (EE x) λr=>r.2=0/\VB r.1/\r.1.2.1=x.1/\r.1.2.2.2.1=1:=by refine AA Xm λl c=>AO (λb=>(by rw[c.2 h]at b;cases b)) (λ_=>?_);have k:=h.2.2.2.1;refine AA (Ac w!) λm e=>AB ⟨rfl,⟨?_,u!,u!,u!,u!,k!,⟨λi f d a=>by simp at a,λi f g d a j=>by simp at a⟩⟩,rfl,rfl⟩;grind
def FR.push{l m:List Ad}{f:Ad}{c:Int}(h:FR l c (θ l))(v:1<=c)(r:f.2.1=c)(u:m=l++[f]):FR m (c+1) (θ m):=by
 subst u;obtain⟨q,t⟩:=h;have p:(l++[f]).length=θ l+1:=k!
 have b:∀(i:Nat)(g:Ad),¬i<θ l->(l++[f])[i]?=δ g->g=f:=λi g j a=>by
  have o:=Cd a;rw[p]at o;have s:i=θ l:=o!
  subst s;rw[Ce (Ai _)]at a;simp at a;exact a.symm
 refine⟨λi g j a=>?_,λi g k j a n=>?_⟩;by_cases e:i<θ l;rw[CO e]at a;have:=q i g o! a;exact⟨this.1,o!⟩;rw[b i g e a,r];exact o!;rw[p]at j;have e:i<θ l:=o!
 rw[CO e]at a;by_cases d:i+1<θ l;rw[CO d]at n;exact t i g k o! a n;rw[b (i+1) k d n,r];exact(q i g o! a).2
def AEm{x:AM×AZ×Int}(h:SA x.1)(l:VB x.1):An (ER x) λr=>r.2=0->SA r.1/\VB r.1/\r.1.2.1=x.1.2.1/\(r.1.2.2.2.1=x.1.2.2.2.1\/r.1.2.2.2.1<=x.2.1.2.2+1):=by
 unfold ER;refine AA OG λv0 R=>AO (λ_=>AB n!) (λd=>?_);obtain⟨a1,a2,a3,a4,a5,a6,a7,a8,a9⟩:=R d;refine AA BP λv1 q=>AO (λ_=>AB n!) (λm=>?_);obtain⟨l1,l2,l3,l4,l5,l6⟩:=q.1 m;refine AC (λ_=>AB n!) (λc1=>AC (λ_=>AB n!) (λc2=>?_));generalize U:(if(x.2.1.1>x.1.2.2.2.1)then x.2.1.1 else x.1.2.2.2.1)=F;have f1:x.2.1.1<=F/\x.1.2.2.2.1<=F/\F<=1099511627777:=by rw[<-U];split<;>omega
 have H:=AW (x:=F+x.2.2);have I:=AW (x:=F+x.2.2-1);rw[H,I];generalize V:(if(x.2.1.2.2<(F+x.2.2-1))then x.2.1.2.2 else(F+x.2.2-1))=G;have g1:G<=x.2.1.2.2/\G<=F+x.2.2-1:=by rw[<-V];split<;>omega
 refine AC (λ_=>AB λ_=>⟨h,l,rfl,.inl rfl⟩) (λc3=>?_);have J:=AW (x:=F-x.2.1.1);have K:=AW (x:=G-x.2.1.1);have L:=AW (x:=G-x.2.1.1+1);rw[J,K,L];have M:=AW (x:=len x.1.2.2.1+len x.1.1) i!;have N:=AW (x:=x.1.2.2.2.2+len x.1.1) i!;have O:=AW (x:=G+1);rw[M,N,O];have W:G<=1099511627776:=by
  have Z:θ x.2.1.2.1≠0:=o!
  obtain⟨i,n⟩:∃i,x.2.1.2.1[θ x.2.1.2.1-1]?=δ i:=⟨_,As o!⟩
  have:=l6 _ i n;have q:=this.1;have t:=this.2.2.1;omega
 refine AC (λ_=>AB n!) (λD_=>AC (λ_=>AB n!) (λE=>?_));simp only[len]at D_ E;refine AA (CA) λv2 t=>?_;have Y_:=t.2;refine AA (Rb ⟨AX _,d!,o!⟩) λv8 T=>A9 (λu b=>AB λa=>N! a (T u b)) (λu b=>AA (Ac w!) λad j=>?_);have c:=j.1;rw[CY]at c;refine AA (P:=λr=>(∀u,r=.inl u->u.1≠0)/\∀u,r=.inr u->u.2.1=x.1.1/\θ u.1<=256/\(∀f∈u.1,θ f.2.2<=1099511627776)/\u.2.2.1=x.1.2.1/\u.2.2.2.2.1=x.1.2.2.2.2+θ x.1.1/\FR u.1 u.2.2.2.2.1 (θ u.1)) ?_ λr hr=>A9 (λu b=>AB λa=>N! a (hr.1 u b)) (λu b=>AB λ_=>?_);refine AU (λ(s:Int×List Ad×List Int×Int×Int×Int×AM)=>0<=s.1/\s.1<=θ x.1.1/\s.2.2.1=x.1.1/\(θ s.2.1:Int)=θ x.1.2.2.1+s.1/\(∀f∈s.2.1,θ f.2.2<=1099511627776)/\s.2.2.2.1=x.1.2.1/\s.2.2.2.2.2.1=x.1.2.2.2.2+s.1/\FR s.2.1 s.2.2.2.2.2.1 (θ s.2.1)) (λ(s:Int×List Ad×List Int×Int×Int×Int×AM)=>((θ x.1.1:Int)-s.1).toNat) ⟨AX _,d!,rfl,by dsimp only;rw[c];omega,by dsimp only;rw[c];exact h.2.2,rfl,d!,by dsimp only;rw[c];exact l.2.2.2.2.2.2⟩ (λs X_=>?_);obtain⟨i1,i2,v,i4,y,z,i7,A_⟩:=X_;unfold Ju;have e:=AW (x:=s.1+1);rw[e];refine AC (λd=>?_) (λd=>AB ⟨λu b=>(by cases b),λu b=>(by cases b;simp only[len]at d;exact⟨v,o!,y,z,o!,A_⟩)⟩);simp only[len]at d;refine AA (dK a4 ⟨i1,d⟩) λaf _=>AA (gG d!) λag S=>AK (λd=>AB ⟨λu b=>(by cases b;exact d),λu b=>(by cases b)⟩) (λ_=>AA aX λal k=>AA (Ac w!) λao g=>AB ?_);have p:=g.2.1;simp only[Cg,CU]at p;have Q:=AW (x:=s.2.2.2.2.2.1+1);rw[Q];refine⟨⟨d!,d!,v,d!,λf o=>?_,z,d!,A_.push o! rfl g.1⟩,d!⟩;dsimp only at o;rw[g.1]at o;rcases Ao.1 o with w|w;exact y f w;simp at w;rw[w];exact k;obtain⟨B,q2,q3,C,q5,q6⟩:=hr.2 u b;refine⟨⟨by dsimp only;rw[B];exact a4,d!,q3⟩,⟨?_,d!,d!,d!,d!,q2,q6⟩,C,.inr d!⟩;dsimp only;rw[B,C];exact l.1
def FP(l:List Ad)(m:Int):Prop:=(∀f∈l,0<f.2.1/\f.2.1<m)/\l.Pairwise λf g=>f.2.1<g.2.1
def zR{l:List Ad}{m:Int}(h:FP l m):FR l m (θ l):=by refine⟨λi f e a=>h.1 f (BM a),λi f g e a d=>?_⟩;have b:=Cd a;have c:=Cd d;have:=EU.1 h.2 i (i+1) b c o!;grind
def FR.fp{l:List Ad}{m:Int}(h:FR l m (θ l)):FP l m:=by
 refine⟨λf e=>?_,EU.2 λi j b c g=>?_⟩;obtain⟨i,b⟩:=HC.1 e;have:=Cd b;exact h.1 i f o! b;obtain⟨d,rfl⟩:∃d,j=i+1+d:=⟨j-(i+1),o!⟩
 induction d with
 |zero=>exact h.2 i _ _ o! (As b) (As c)
 |succ d k=>
  have a:i+1+d<θ l:=o!
  have n:=k a o!;have o:=h.2 (i+1+d) l[i+1+d] l[i+1+(d+1)] o! (As a) (As c);omega
def FR.sub{l k:List Ad}{m:Int}(h:FR l m (θ l))(a:k.Sublist l):FR k m (θ k):=zR ⟨λf b=>h.fp.1 f (a.subset b),h.fp.2.sublist a⟩
end Go.Pm
