import Derived.Test.YtdbincbpjobdpaaGreatK9
noncomputable section
set_option linter.all false
set_option maxHeartbeats 1000000
set_option maxRecDepth 100000
open Option renaming some->Y
open List renaming length->W
open Go renaming Ψ->S
open Bool renaming false->X
open Bool renaming true->E
open Go renaming Ω->Z
open Option renaming some->δ,bind->σ
open Bool renaming true->ζ,false->η
open List renaming length->θ
open Sum renaming elim->ν
open Nat renaming beq->ξ
open Decidable renaming decide->τ
open _root_ renaming Int->U,cond->y
namespace Go.Pm
open Go Go.Ab
noncomputable section

end
def ACl{L:List EN}(h:Gv L)(c:L.length<=1099511627776){d:U}{m:Nat}(hn:1<=m/\m<=64){x:Aq}(a:PI L d m x):Fq (encI x)=some (x,0):=by have⟨j,b,e,f,g⟩:=a;grind[AAp]
theorem AAt{L:List EN}(h:Gv L)(K:L.length<=1099511627776){d:Int}{m:Nat}(hn:1<=m/\m<=64){a:List Am}(h8:a.length<=8)(hf: ∀f∈a,FB Fq L d m f):Ao (Gq a) λr=>r.length<=8/\ ∀x,x∈r↔Q1 L d m a a.length x:=by
 unfold Gq;refine AA (P:=λr=>r.length<=8/\ ∀x,x∈r↔Q1 L d m a a.length x) ?_ λr hr=>AB hr;refine CQ (λ(s:List Aq×Int)=> ∃n:Nat,s.2=n/\n<=a.length/\s.1.length<=n/\ ∀x,x∈s.1↔Q1 L d m a n x) (λs=>((a.length:Int)-s.2).toNat) ⟨0,rfl,BU _,Al _,λx=>⟨λq=>(by cases q),λ⟨k,g,k0,_⟩=>absurd k0 (Nat.not_lt_zero _)⟩⟩ ?_;rintro⟨A,_⟩ ⟨n,rfl,n1,i2,T⟩;dsimp only at i2 T;unfold Sa;dsimp[len];refine AC (λD_=>?_) (λD_=>Ao.done ⟨by omega,by rw[show a.length=n by omega];exact T⟩);rw[AY (x:=(n:Int)+1) (by omega)];refine AA (AI (by omega) D_) λu h1=>?_;have C:=h1.1;rw[CO]at C;have c: ∀v,a[(n:Int).toNat]? =some v/\v∈a->v=u:=λv hv=>by grind[Option.some.inj]
 have e:(∀x,¬zC L d m a n u x)->Ao (some (Step.next (A,(n:Int)+1)):Option (Step (List Aq×Int) (List Aq))) (MX (λ(s:List Aq×Int)=> ∃n:Nat,s.2=n/\n<=a.length/\s.1.length<=n/\ ∀x,x∈s.1↔Q1 L d m a n x) (λs=>((a.length:Int)-s.2).toNat) ((a.length:Int)-n).toNat λr=>r.length<=8/\ ∀x,x∈r↔Q1 L d m a a.length x):=λo=>Ao.next ⟨n+1,rfl,by omega,by dsimp only;omega,λx=>by dsimp only;rw[Q1.step C,T x];exact⟨.inl,λq=>q.elim id λq=>absurd q (o x)⟩⟩ (by dsimp only;omega)
 refine AA (P:=λb=>b=true↔u.1=2/\ ∀(k:Nat) (g:Am),k<n->a[k]? =some g->g.1=2->g.2.1≠u.2.1) ?_ λv6 h6=>AO (λS=>e λx q=>by rw[h6.2 ⟨q.1,q.2.1⟩]at S;cases S) (λS=>?_)
 ·refine CQ (λ(t:Bool×Int)=> ∃j:Nat,t.2=j/\j<=n/\(t.1=true↔u.1=2/\ ∀(k:Nat) (g:Am),k<j->a[k]? =some g->g.1=2->g.2.1≠u.2.1)) (λt=>((n:Int)-t.2).toNat) ⟨0,rfl,BU _,⟨λq=>⟨eq_of_beq q,λk g k0=>absurd k0 (Nat.not_lt_zero _)⟩,λq=>beq_iff_eq.2 q.1⟩⟩ ?_;rintro⟨b,_⟩ ⟨j,rfl,j1,U⟩;dsimp only at U;unfold Sb;dsimp only;refine AC (λI=>?_) (λI=>Ao.done (by rw[show n=j by omega];exact U));rw[AY (by omega)];refine AK (λao=>?_) (λal=>Ao.next ⟨j+1,rfl,by omega,⟨λq=>(by cases q),λq=>?_⟩⟩ (by dsimp only;omega))
  ·have⟨q1,q2⟩:=U.1 ao;refine AA (AI (by omega) (by omega)) λv3 h3=>?_;have R:=h3.1;rw[CO]at R;refine AL (λJ=>Ao.next ⟨j+1,rfl,by omega,⟨λ_=>⟨q1,λk g k0 k1 V=>?_⟩,λ_=>rfl⟩⟩ (by dsimp only;omega)) (λJ=>AA (AI (by omega) (by omega)) λv4 h4=>AA (AI (by omega) (by omega)) λv5 h5=>Ao.next ⟨j+1,rfl,by omega,?_⟩ (by dsimp only;omega))
   ·by_cases p:k=j
    ·subst p;rw[R]at k1;cases k1;exact absurd V J
    ·exact q2 k g (by omega) k1 V
   ·have e4:v4=v3:=by have:=h4.1;rw[h3.1]at this;exact(BW this).symm
    have e5:v5=u:=c v5 h5;dsimp only;rw[e4,e5,bne_iff_ne];refine⟨λap=>⟨q1,λk g k0 k1 V=>?_⟩,λq=>q.2 j v3 (by omega) R J⟩;by_cases p:k=j
    ·subst p;rw[R]at k1;cases k1;exact ap
    ·exact q2 k g (by omega) k1 V
  ·have:=U.2 ⟨q.1,λk g k0=>q.2 k g (by omega)⟩;rw[al]at this;cases this
 ·have⟨J,l⟩:=h6.1 S;refine AA (AI (by omega) D_) λv7 h7=>?_;rw[c v7 h7];rcases hf _ h1.2 with⟨x,N,p⟩|o
  ·have⟨j,j1,x1,x2,xe⟩:=id N;rw[p,ACl h K hn N,AD];refine AL (λD_=>absurd rfl D_) (λ_=>?_);have hw:=ACv h K (k:=j) ⟨x1,x2⟩ hn;rw[<-xe]at hw;dsimp only;rw[hw,AD,By,cond_false];refine AA (AI (by omega) D_) λar Y_=>?_;rw[c ar Y_];refine AL (λB=>e λy hy=>B ?_) (λB=>?_)
   ·rw[<-kw h K hn hy.2.2.1 N (hy.2.2.2.1.symm.trans p)];exact hy.2.2.2.2
   refine AA (P:=λr:Int=>0<=r/\r<=A.length) ?_ λi w=>?_
   ·refine CQ (λ(t:Int)=>0<=t/\t<=A.length) (λt=>t.toNat) ⟨by omega,by omega⟩ (λt hI=>?_);have⟨t0,t1⟩:=hI;unfold Sc;refine AC (λI=>?_) (λ_=>Ao.done ⟨t0,t1⟩);rw[AY (by omega)];exact AA (AI (by omega) (by dsimp only;omega)) λa2 _=>AC (λ_=>Ao.next ⟨by omega,by omega⟩ (by omega)) (λ_=>Ao.done ⟨t0,t1⟩)
   ·refine AA (BX (Ae _) w.1 w.2) λO F=>AA (BX w.1 (by omega) (by omega)) λQ G=>?_;have a0:=F.2;have a1:=G.2;refine AA (Ac (by simp;omega)) λa3 z=>AA (Ac (by rw[z.1];simp;omega)) λa4 H=>AA (Ac (by rw[H.1,z.1];simp;omega)) λax Z=>?_;have E_:ax=O++[x]++Q:=by rw[Z.1,H.1,z.1];rfl
    have W:O=A.take i.toNat:=by rw[F.1];rfl
    have X_:Q=A.drop i.toNat:=by rw[G.1];exact BN (by rw[C2];omega)
    refine Ao.next ⟨n+1,rfl,by omega,by dsimp only;rw[E_];simp[AZ,Yq];omega,λy=>?_⟩ (by dsimp only;omega)
    dsimp only;rw[Q1.step C,E_,W,X_,<-T y];have hA:y∈A↔y∈A.take i.toNat\/y∈A.drop i.toNat:=by
     conv=>lhs;rw[<-DG i.toNat A]
     exact Ak
    rw[Ak,Ak,A9,hA];constructor
    ·rintro((q|q)|q)
     ·exact .inl (.inl q)
     ·rw[q];exact .inr ⟨J,l,N,p,B⟩
     ·exact .inl (.inr q)
    ·rintro((q|q)|q)
     ·exact .inl (.inl q)
     ·exact .inr q
     ·exact .inl (.inr (kw h K hn q.2.2.1 N (q.2.2.2.1.symm.trans p)))
  ·have M: ∀x,¬zC L d m a n u x:=λx q=>by have⟨r,hr,hz⟩:=o;rw[q.2.2.2.1,ACl h K hn q.2.2.1]at hr;cases hr;exact hz rfl
   exact AA o λv8 ad=>AL (λ_=>e M) (λhz=>absurd hz ad)
noncomputable section

end
def Ln{a:Type}{l:S a}{i:Nat}(h:i<W l):ix l (i:U)=Y l[i]:=by unfold ix;grind
def Hol(F:Nat->U)(i j:Nat):Prop:=(∀a b,a<b->b<=i->a≠j->b≠j->F a<=F b)/\∀b,j<b->b<=i->F j<=F b
def mU{l:S U}{i:Nat}(h:i<W l):l.getD i 0=l[i]:=by grind
def ADQ{l:S U}{j:Nat}(c:j<W l)(b:0<j)(a:Nat):((l.set j (l.getD (j-1) 0)).set (j-1) (l.getD j 0)).getD a 0=if a=j-1 then l.getD j 0 else if a=j then l.getD (j-1) 0 else l.getD a 0:=by grind
def AJC{l:List U}(I:l.length<=12):Ao (ABJ OU (λG=>G) l (0,(l.length:U))) λr=>r.Perm l/\ ∀a b,a<b->b<l.length->r.getD a 0<=r.getD b 0:=by
 unfold ABJ;refine AA (P:=λr=>r.Perm l/\ ∀a b,a<b->b<l.length->r.getD a 0<=r.getD b 0) ?_ λr hr=>AB hr;refine CQ (λ(s:U×List U)=> ∃i:Nat,s.1=i/\1<=i/\i<=l.length+1/\s.2.Perm l/\ ∀a b,a<b->b<i->s.2.getD a 0<=s.2.getD b 0) (λs=>l.length+1-s.1.toNat) ⟨1,by show wi (0+1)=_;rw[AY];rfl,Al _,o!,mD _,λa b c d=>o!⟩ ?_;rintro⟨_,b⟩ ⟨i,rfl,J,K,m,v⟩;dsimp only at m v;have C:=m.length_eq;dsimp only;refine AC (λF=>AA (P:=λr=>r.Perm l/\ ∀a b,a<b->b<i+1->r.getD a 0<=r.getD b 0) ?_ λr hr=>?_) (λF=>Ao.done ⟨m,λa b c d=>v a b c o!⟩)
 ·refine CQ (λ(t:U×List U)=> ∃j:Nat,t.1=j/\j<=i/\t.2.Perm l/\Hol (λa=>t.2.getD a 0) i j) (λt=>t.1.toNat) ⟨i,rfl,Al _,m,λa b c d A B=>v a b c o!,λb c d=>o!⟩ ?_;rintro⟨_,t⟩ ⟨j,rfl,H,z,y⟩;dsimp only at z y;have M:=z.length_eq;unfold AE5;dsimp only;refine AA (P:=λr:Unit ⊕ Unit=>(r= .inr ()/\0<j/\t.getD j 0<t.getD (j-1) 0)\/(r= .inl ()/\(j=0\/t.getD (j-1) 0<=t.getD j 0))) ?_ λr hr=>?_;refine AC (λg=>?_) (λg=>AB (.inr ⟨rfl,.inl o!⟩));rw[AY (x:=(j:U)-1),show(j:U)-1=((j-1:Nat):U) by omega,Ln (show j<t.length by omega),AD,AD,Ln (show j-1<t.length by omega),AD,AD];refine AA Wn λN p=>?_;dsimp only at p;rw[mU o!,mU o!];exact AK (λh=>AB (.inl ⟨rfl,o!,p.1 h⟩)) (λh=>AB (.inr ⟨rfl,.inr (Int.not_lt.1 λq=>by rw[p.2 q]at h;cases h)⟩))
  ·rcases hr with⟨rfl,E_,u⟩|⟨rfl,hr⟩
   ·apply A0;rw[AY (x:=(j:U)-1),show(j:U)-1=((j-1:Nat):U) by omega,Ln (show j-1<t.length by omega),AD,AD,Ln (show j<t.length by omega),AD,AD,AD,AD];have L:(ER t (j:U) t[j-1]).length=t.length:=pj;rw[Ln (show j-1<(ER t (j:U) t[j-1]).length by omega),AD,AD];refine Ao.next ⟨j-1,rfl,o!,?_,?_⟩ d!
    grind[ER,Int.toNat_natCast,List.set_set_perm];unfold ER;dsimp only;rw[CO,CO,<-mU (show j-1<t.length by omega),<-mU (show j<t.length by omega)];have n:=ADQ (l:=t) (show j<t.length by omega) E_;have⟨f,w⟩:=y;refine⟨λa b c d A B=>?_,λb c d=>?_⟩;dsimp only;rw[n,n,if_neg A,if_neg B];split;rename_i e;rw[if_neg o!];exact f (j-1) b o! d o! o!;rename_i e;split;exact f a (j-1) o! o! e o!;rename_i k;exact f a b c d e k;dsimp only;rw[n,n,if_pos rfl,if_neg o!];split;exact Int.le_of_lt u;exact w b o! d
   ·refine BF (Ao.done ⟨z,λa b c d=>?_⟩);have⟨f,w⟩:=y;by_cases o:a=j;subst o;exact w b c o!;by_cases k:b=j;subst k;have hr:=hr.resolve_left o!;by_cases D_:a=b-1;subst D_;exact hr;exact Yb (f a (b-1) o! o! o o!) hr;exact f a b c o! o k
 ·rw[AY (x:=(i:U)+1)];exact Ao.next ⟨i+1,rfl,o!,o!,hr.1,hr.2⟩ d!
def AKZ{a:Type}{Q:S a->Prop}{f:S a->U×U->Z (S a)}{l:S a}(d:Ao (f l (0,(W l:U))) λr=>r.Perm l/\Q r)(h:W l<=12)(n:U):Ao (sy (λ(_:S a×(U×(U×U))->Z (S a)) p=>pdG f p.1 p.2) (l,0,len l,n)) λr=>r.Perm l/\Q r:=by
 have step:Ao (pdG f l (0,len l,n)) λr=>r.Perm l/\Q r:=by unfold pdG;rw[HV];unfold AJV;dsimp[len];rw[AY,G! o!,B!];have⟨r,hr,e⟩:=d;grind[cp]
 have⟨r,hr,e⟩:=step;have⟨s,c⟩:=iG (f:=λ(_:S a×(U×(U×U))->Z (S a)) p=>pdG f p.1 p.2) (x:=(l,0,len l,n)) (n:=1) hr;have⟨N,b⟩:=eL c;refine⟨s,c,?_⟩;cases N with
 |zero=>cases b
 |succ N=>exact step.get b
def AKm{a:Type}{Q:S a->Prop}{f:S a->U×(U×U)->Z (S a)}{l:S a}(b:∀n,Ao (f l (0,len l,n)) λr=>r.Perm l/\Q r)(h:W l<=12):Ao (soG f l) λr=>r.Perm l/\Q r:=by unfold soG Tg;obtain⟨n,g,-,-⟩:=AB6 (x:=W l) o!;grind[cp,Xa,AA,AB]
def AHt{l:S U}(h:W l<=12):Ao (MW l ()) λr=>r.Perm l/\r.Pairwise (· <= ·):=(AKm (AKZ (AJC h) h ·) h).mono λr q=>⟨q.1,EI.2 λi j c b a=>by have:=q.2 i j a (by rw[<-q.1.length_eq];exact b);rwa[mU c,mU b]at this⟩
def vi(l:Aa)(i:U):U:=if l.1>i+1 then l.1 else i+1
def vj(l:Aa)(k:U):U:=if l.1+W l.2.1-1<k then l.1+W l.2.1-1 else k
def rV(l:Aa)(lo i k:U)(e:NE):Bool:=letI b:=(if e.1.2.1<k then e.1.2.1 else k);letI a:=(if e.1.1>i+1 then e.1.1 else i+1);e.1.2.2.1==lo&&τ (a<=b)&&(τ (vi l i>vj l k)||decide (a<vi l i)||decide (b>vj l k))
def AEL{L S:List EN}{a:AJ}{l:Aa}{p i k b hi:Int}{c:Nat}(h:AR L a)(hl:O2 L l)(hp:0<=p/\p<a.2.1)(B:RC a c)(A:c<=12)(p1:OK a p b hi)(al:0<=i)(ao:i<=1099511627776)(ho:HZ (a,(l,(p,(i,k))))=some (S,0)):Ao (IQ (a,(l,(p,(i,k))))) λu=>u.2.2.2=0/\(u.1.Perm (((DU a).filter (rV l b i k)).map (·.2))/\u.1.Pairwise (· <= ·))/\((vj l k<vi l i/\u.2.1=0/\u.2.2.1=0)\/(vi l i<=vj l k/\u.2.1=vi l i/\u.2.2.1=vj l k)):=by
 unfold IQ;dsimp only;rw[ho,AD,bne_self_eq_false,cond_false];refine AA (Rw hl.vl) λv1 W=>?_;have⟨ar,ad,E_,p2⟩:=xf h.vb hp;have C:=p1.uniq h.vb.1 rfl rfl p2;subst C;rw[E_,AD,By,cond_false];obtain⟨q,F,v,R,w2,rfl,w4,w5⟩:=tj h.vb h.ds (LK h.vb) h.dis;rw[F,AD,AY (x:=i+1)];have Z:(v.filter λe=>e.1.2.2.1==b).length<=12:=by rw[(R.filter _).length_eq];exact Cq (B b) A
 have t: ∀j,((v.take j).filter (rV l b i k)).length<=12:=λj=>by
  refine Cq (Cq ((fo j v).filter _).length_le ?_) Z;have e:v.filter (rV l b i k)=(v.filter λe=>e.1.2.2.1==b).filter (rV l b i k):=by rw[List.filter_filter];grind[List.filter_congr,rV]
  grind[List.length_filter_le]
 have N:v1=l.1+l.2.1.length-1:=W;refine AA (P:=λf=>f=(v.filter (rV l b i k)).map (·.2)) ?_ λK y=>?_
 ·refine CQ (λ(s:Int×List Int)=> ∃j:Nat,s.1=j/\s.2=((v.take j).filter (rV l b i k)).map (·.2)/\j<=v.length) (λs=>v.length-s.1.toNat) ⟨0,rfl,rfl,BU _⟩ ?_;rintro⟨_,o⟩ ⟨j,rfl,ok,hk⟩;dsimp only at ok;unfold VS;dsimp[len];have ap:(v.map (·.1)).length=v.length:=Ba _;refine AC (λB=>?_) (λB=>Ao.done (by rw[BN o!]at ok;exact ok));have m:j<v.length:=o!
  have z:v.take (j+1)=v.take j++[v[j]]:=by grind[List.take_add_one,List.getElem?_eq_getElem]
  have G:ix (v.map (·.1)) (j:Int)=some v[j].1:=by unfold ix;rw[if_pos o!,Int.toNat_natCast,List.getElem?_map,List.getElem?_eq_getElem m];rfl
  have H:ix (v.map (·.2)) (j:Int)=some v[j].2:=by unfold ix;rw[if_pos o!,Int.toNat_natCast,List.getElem?_map,List.getElem?_eq_getElem m];rfl
  rw[G,AD,H,AY (x:=(j:Int)+1)];have J:rV l b i k v[j]=false->Ao (some (Step.next ((j:Int)+1,o)):Option (Step (Int×List Int) (List Int))) (MX (λ(s:Int×List Int)=> ∃j:Nat,s.1=j/\s.2=((v.take j).filter (rV l b i k)).map (·.2)/\j<=v.length) (λs=>v.length-s.1.toNat) (v.length-j) λf=>f=(v.filter (rV l b i k)).map (·.2)):=λn=>Ao.next ⟨j+1,rfl,by dsimp only;rw[z,GL,Mu,n];simpa using ok,m⟩ d!
  have w:rV l b i k v[j]=true->Ao (Option.bind (app o [v[j].2]) λQ=>some (Step.next ((j:Int)+1,Q)):Option (Step (Int×List Int) (List Int))) (MX (λ(s:Int×List Int)=> ∃j:Nat,s.1=j/\s.2=((v.take j).filter (rV l b i k)).map (·.2)/\j<=v.length) (λs=>v.length-s.1.toNat) (v.length-j) λf=>f=(v.filter (rV l b i k)).map (·.2)):=λn=>by
   have ol:o.length<=12:=by rw[ok,Ba];exact t j
   refine AA (Ac w!) λQ X_=>Ao.next ⟨j+1,rfl,?_,m⟩ d!
   dsimp only;rw[X_.1,z,GL,Mu,n,ok];simp
  refine AP (λY_=>?_) (λD_=>J (by unfold rV;rw[beq_eq_false_iff_ne.2 D_];rfl));rw[AD,N,AY (x:=i+1)];have n:rV l b i k v[j]=(decide ((if v[j].1.1>i+1 then v[j].1.1 else i+1)<=(if v[j].1.2.1<k then v[j].1.2.1 else k))&&(decide (vi l i>vj l k)||decide ((if v[j].1.1>i+1 then v[j].1.1 else i+1)<vi l i)||decide ((if v[j].1.2.1<k then v[j].1.2.1 else k)>vj l k))):=by unfold rV;rw[Y_,beq_self_eq_true,Ya]
  refine AC (λg=>J ?_) (λg1=>AC (λg=>w ?_) (λT=>AC (λg=>w ?_) (λU=>AC (λg=>w ?_) (λV=>J ?_))));rw[n,decide_eq_false o!,qD];rw[n,decide_eq_true o!,decide_eq_true (p:=vi l i>vj l k) g];rfl;rw[n,decide_eq_true o!,decide_eq_true (p:=(if v[j].1.1>i+1 then v[j].1.1 else i+1)<vi l i) g];simp;rw[n,decide_eq_true o!,decide_eq_true (p:=(if v[j].1.2.1<k then v[j].1.2.1 else k)>vj l k) g];simp;rw[n,decide_eq_false (p:=vi l i>vj l k) T,decide_eq_false (p:=(if v[j].1.1>i+1 then v[j].1.1 else i+1)<vi l i) U,decide_eq_false (p:=(if v[j].1.2.1<k then v[j].1.2.1 else k)>vj l k) V];simp
 have I:K.length<=12:=by have:=t v.length;rw[Hk]at this;rw[y,Ba];exact this
 refine AA (AHt I) λM d=>?_;have r:=d.2;have d:=d.1;rw[cp d,cond_true,N];have O:M.Perm (((DU a).filter (rV l b i k)).map (·.2)):=d.trans (by rw[y];exact(R.filter _).map _);exact AC (λg=>AB ⟨rfl,⟨O,r⟩,.inl ⟨g,rfl,rfl⟩⟩) (λg=>AB ⟨rfl,⟨O,r⟩,.inr ⟨Int.not_lt.1 g,rfl,rfl⟩⟩)
structure xg(L:List EN)(d:Int)(m:Nat)(fs:List Am)(a:AJ)(l:Aa)(p:Int)(k:Nat)(fl:Int)(z:BO):Prop where
 page:z.1=p
 want:z.2.2.2.1=k
 fl:fl<=z.2.2.1
 img:∃j:Nat,z.2.2.1=BY (L.take j) p/\BY (L.take j) p<=k/\((z.2.1=0/\j=0)\/∃x,Q1 L d m fs fs.length x/\x.1=z.2.1/\(j:Int)<=d/\x=(x.1,(m:Int),img (L.take j) m))
 used:IQ (a,l,p,z.2.2.1,(k:Int))=some (z.2.2.2.2.1,z.2.2.2.2.2.1,z.2.2.2.2.2.2,0)
def wI{n d:Int}{L:List EN}{a:AJ}{l:Aa}{p:Int}{k m c:Nat}{fs:List Am}(hL:LI n L)(C:Gv L)(R:AR L a)(I:O2 L l)(hr:RC a c)(N:c<=12)(hk:k<=L.length)(hm:(m:Int)=a.2.1)(hn:1<=m/\m<=64)(h8:fs.length<=8)(hf: ∀f∈fs,FB IR L d m f)(J:0<=p/\p<a.2.1): ∃K S fl,OK a p K S/\sh (bf a l K) k fl/\Ao (CV (fs,(a,(l,(p,(k:Int)))))) λr=>(r.2.2=49/\r.2.1.2.2.2.2.1=[])\/(r.2.2=0/\r.1=st (L.take k) p/\xg L d m fs a l p k fl r.2.1):=by
 have ad:=I.len;have Y_:0<=p/\p<64:=⟨J.1,o!⟩
 have pm:0<=p/\p<m:=⟨J.1,o!⟩
 have⟨K,S,fl,p1,O,_,_⟩:=td (p:=p) (i:=0) (j:=(k:Int)) (CPa 4096) g! hL o! (Ae _) o! o! R I J;refine⟨K,S,fl,p1,O,?_⟩;obtain⟨v,hv,rfl⟩:=Fg R.vb;obtain⟨w,hw,rfl⟩:=G8 I.vl;have pg:=λj (hq:BY (L.take j) p<=k)=>AKa hL C R I hr N hk J Y_.2 p1 O (j:=j) hq;have⟨V,hV,v8,H⟩:=rM C o! hn h8 hf;have hP: ∀x∈V,PI L d m x:=λx hx=>by have⟨i,f,_,_,q⟩:=(H x).1 hx;exact q.2.2.1
 unfold CV;dsimp only;rw[hv,AD,By,cond_false,hw,AD,By,cond_false,decide_eq_false o!,cond_false,decide_eq_false o!,cond_false,decide_eq_false o!,cond_false,hV,AD];refine AA (yz C o! hn hV v8 hP pm) λh t=>?_;have⟨r8,E_⟩:=t;refine AA (P:=λ(r:(Int×AQ×BO)⊕ (AQ×BO))=>(∃z,r= .inr z)\/ ∃y:BO,r= .inl (0,(st (L.take k) p,y))/\xg L d m fs a l p k fl y) ?_ λr U=>?_
 ·refine CQ (λ(s:Int×AQ×BO)=>0<=s.1/\s.1<=h.length) (λs=>((h.length:Int)-s.1).toNat) ⟨Ae _,d!⟩ ?_;rintro⟨i,s⟩ ⟨i0,i1⟩;dsimp only at i0 i1;unfold Sn;dsimp[len];refine AC (λD_=>?_) (λD_=>Ao.done (.inl ⟨_,rfl⟩));rw[AY (x:=i+1)];refine AA (AI i0 D_) λv5 h5=>?_;have⟨x,M,xk,xe⟩:=(E_ v5).1 h5.2;have⟨j,hj,x1,x2,ex⟩:=hP x M;have al:dI x p=BY (L.take j) p:=by grind[zQ]
  refine AA (AII v8 (y:=v5) ⟨x,M,by rw[xe]⟩) λv9 h9=>?_;obtain⟨g,G,rfl,g0,gx,Q⟩:=h9;have W:G=x:=Q1.uniq C o! hn ((H G).1 (BP gx)) ((H x).1 M) (Q.trans (by rw[xe]));subst W;apply BF;have T:ix V g=some G:=by unfold ix;rw[if_pos g0,gx]
  have b:=xa C (by omega:L.length<=1099511627776) (j:=j) ⟨x1,x2⟩ hn pm;rw[<-ex]at b;rw[T,AD,b,AD,bne_self_eq_false,cond_false,Jf];rcases pg j o! with⟨A,B,e⟩|⟨A,B⟩
  ·rw[B,AD,bne_self_eq_false,cond_false];have⟨u,e,F⟩:=e;rw[e,AD,F,beq_self_eq_true,cond_true];exact Ao.done (.inr ⟨_,rfl,rfl,rfl,A,⟨j,rfl,o!,.inr ⟨G,(H G).1 M,by rw[xe],hj,ex⟩⟩,by dsimp only;rw[e,<-F]⟩)
  ·refine AA B λZ o=>AL (λ_=>Ao.next d! d!) (λX_=>absurd X_ o)
 rcases U with⟨z,rfl⟩|⟨y,rfl,A⟩;apply A0;have l0:BY (L.take 0) p=0:=rfl;have f0:=O.1;rw[show Cu p=some (st (L.take 0) p)from rfl,AD,Jf];rcases pg 0 (by rw[l0];omega)with⟨A,B,e⟩|⟨A,B⟩;rw[B,AD,bne_self_eq_false,cond_false];have⟨u,e,F⟩:=e;rw[e,AD,F,beq_self_eq_true,cond_true];exact AB (.inr ⟨rfl,rfl,rfl,rfl,A,⟨0,rfl,by rw[l0];omega,.inl ⟨rfl,rfl⟩⟩,by dsimp only;rw[e,<-F]⟩);exact AA B λZ o=>AL (λ_=>AB (.inl ⟨rfl,rfl⟩)) (λX_=>absurd X_ o);exact BF (AB (.inr ⟨rfl,rfl,A⟩))
def cvr(P:S A3)(n:U):Prop:=∃s∈P,s.1<=n/\n<=s.2.1
def ACw{x:List A3×BO}{s:U×Bool}(h:x.1.length<=1000):Ao (Ag (MV x s) 0) λr=>(∃(i:Nat) (u:A3),r= .inl (i:U)/\x.1[i]? =some u/\u.1<=s.1/\s.1<=u.2.1)\/(r= .inr ()/\ ¬cvr x.1 s.1):=by
 refine CQ (λ(t:U)=> ∃i:Nat,t=i/\i<=x.1.length/\ ∀u∈x.1.take i,¬(u.1<=s.1/\s.1<=u.2.1)) (λt=>x.1.length-t.toNat) ⟨0,rfl,BU _,λu d=>by simp at d⟩ ?_;rintro _ ⟨i,rfl,g,d⟩;unfold MV;dsimp[len];refine AC (λe=>?_) (λe=>Ao.done (.inr ⟨rfl,?_⟩))
 ·have a:i<x.1.length:=o!
  rw[Ln a,AD,AY (x:=(i:U)+1)];have key: ¬(x.1[i].1<=s.1/\s.1<=x.1[i].2.1)-> ∀u∈x.1.take (i+1),¬(u.1<=s.1/\s.1<=u.2.1):=λhn u f=>by grind[List.take_add_one]
  exact AC (λb=>AC (λc=>Ao.done (.inl ⟨i,x.1[i],rfl,Au a,b,c⟩)) (λc=>Ao.next ⟨i+1,rfl,a,key λq=>c q.2⟩ o!)) (λb=>Ao.next ⟨i+1,rfl,a,key λq=>b q.1⟩ o!)
 rintro⟨u,f,q⟩;grind
def AH3{x:S A3×BO}(h:W x.1<=1000)(o:∀u∈x.1,u.2.1<=1099511627776)(B:0<=x.2.2.2.1)(C:x.2.2.2.1<=1099511627776)(D_:x.2.2.2.2.1<=1099511627776):Ao (Hp x) λb=>b=E↔∀n,x.2.2.2.1<n->n<=x.2.2.2.2.1->cvr x.1 n:=by
 unfold Hp;rw[AY (x:=x.2.2.2.1+1)];have step:∀{s:U}{i:Nat}{u:A3},(∀n,x.2.2.2.1<n->n<s->cvr x.1 n)->x.1[i]?=Y u->u.1<=s->s<=u.2.1->∀n,x.2.2.2.1<n->n<u.2.1+1->cvr x.1 n:=λ{s i u} t a g k n c m=>by by_cases hn:n<s;exact t n c hn;exact⟨u,BP a,o!⟩
 refine AC (λd=>?_) (λd=>AB ⟨λ_ n c m=>o!,λ_=>rfl⟩);rw[show WN x=MV x (wi (x.2.2.2.1+1),X)from rfl,AY (x:=x.2.2.2.1+1)];refine AA (ACw h) λr hr=>?_;rcases hr with⟨i,u,rfl,a,g,k⟩|⟨rfl,hn⟩
 ·apply BF;dsimp only at g k;have v:=o u (BP a);rw[G! o!,B!,Ln (Ei.1 a).1,AD,(Ei.1 a).2,AY (x:=u.2.1+1)];refine AA (P:=λr=>(∃b,r=.inl b/\∀n,x.2.2.2.1<n->n<=x.2.2.2.2.1->cvr x.1 n)\/(r=.inr X/\¬ ∀n,x.2.2.2.1<n->n<=x.2.2.2.2.1->cvr x.1 n)) ?_ λr hr=>?_
  ·refine CQ (λs=>x.2.2.2.1<s.1/\s.1<=1099511627777/\∀n,x.2.2.2.1<n->n<s.1->cvr x.1 n) (λs=>(x.2.2.2.2.1+1-s.1).toNat) ⟨d!,d!,step (s:=x.2.2.2.1+1) (λn c m=>o!) a g k⟩ ?_;rintro⟨s,b⟩ ⟨z,A,l⟩;dsimp only at z A l;unfold WO;dsimp only;refine AC (λd=>AA (ACw (s:=(s,b)) h) λr hr=>?_) (λd=>k? (.inl ⟨_,rfl,λn c m=>l n c o!⟩));rcases hr with⟨j,w,rfl,f,k1,p⟩|⟨rfl,hn⟩
   ·apply BF;dsimp only at k1 p;have y:=o w (BP f);rw[G! o!,B!,Ln (Ei.1 f).1,AD,(Ei.1 f).2,AY (x:=w.2.1+1)];exact y! ⟨d!,d!,step l f k1 p⟩ d!
   ·grind[A0,k?]
  grind[BF,AB,A0]
 refine A0 (AB ⟨λe=>by (first|cases e|simp at e),λq=>O! (q _ o! d) hn⟩)
def AGQ{a:List U}{d:U}(h:a.length<=1000):Ao (Pv (a,d)) λr=>(r= -1/\d∉a)\/ ∃i:Nat,r=i/\a[i]? =some d:=by
 refine AA (P:=λ(r:U ⊕ Unit)=>(∃i:Nat,r= .inl (i:U)/\a[i]? =some d)\/(r= .inr ()/\d∉a)) ?_ λr hr=>?_
 ·refine CQ (λ(t:U)=> ∃i:Nat,t=i/\i<=a.length/\d∉a.take i) (λt=>a.length-t.toNat) ⟨0,rfl,BU _,q!⟩ ?_;rintro _ ⟨i,rfl,f,j⟩;unfold Sd;dsimp[len];refine AC (λc=>?_) (λc=>Ao.done (.inr ⟨rfl,k!⟩));have b:i<a.length:=o!
  rw[Ln b,AD,AY (x:=(i:U)+1)];refine AP (λe=>Ao.done (.inl ⟨i,rfl,k!⟩)) (λe=>Ao.next ⟨i+1,rfl,b,λg=>?_⟩ o!);grind[List.take_add_one]
 grind[AB]
def oS(e:NE):A3:=(e.1.1,e.1.2.1,e.1.2.2.2.2.2)
def aJ(l:Aa)(f t:U):S A3:=if f=0 then []else [(f,t,(l.2.1.drop (f-l.1).toNat).take (t-f+1).toNat)]
def xU{L:List EN}{a:AJ}{l:Aa}{z:BO}{B p:Int}(h:AR L a)(f:Dg l)(M:0≤z.1∧z.1<a.2.1)(V:OK a z.1 B p){E_:List NE}(F: ∀e∈E_,e∈DU a∧e.1.2.2.1=B)(Q:z.2.2.2.2.1=E_.map (·.2))(K:E_.length≤1000)
  (J:z.2.2.2.2.2.1=0\/(l.1<=z.2.2.2.2.2.1/\z.2.2.2.2.2.1<=z.2.2.2.2.2.2/\z.2.2.2.2.2.2<=l.1+l.2.1.length-1)):IB (a,(l,z))=some (E_.map oS++aJ l z.2.2.2.2.2.1 z.2.2.2.2.2.2,true):=by
 suffices N:Ao (IB (a,(l,z))) λr=>r=(E_.map oS++aJ l z.2.2.2.2.2.1 z.2.2.2.2.2.2,true) by obtain⟨r,hr,rfl⟩:=N;exact hr
 have G:=f.1;unfold IB;dsimp only;have⟨S,c,u,W⟩:=xf h.vb M;have t:=V.uniq h.vb.1 rfl rfl W;subst t;rw[u,AD,By,cond_false];obtain⟨q,w,v,C,w2,rfl,w4,w5⟩:=tj h.vb h.ds (LK h.vb) h.dis;rw[w,AD];have nd:(v.map (·.2)).Nodup:=((C.map (·.2)).nodup_iff).2 (Hj.2 ((mc h.vb).imp λh e=>o!));refine AA (P:=λr=>r= .inr (E_.map oS)) ?_ λr hr=>?_
 ·refine CQ (λ(s:Int×List A3)=> ∃j:Nat,s.1=j/\s.2=(E_.take j).map oS/\j<=E_.length) (λs=>E_.length-s.1.toNat) ⟨0,rfl,rfl,BU _⟩ ?_;rintro⟨_,o⟩ ⟨j,rfl,ok,hk⟩;dsimp only at ok;unfold Us;dsimp[len];rw[Q];refine AC (λn=>?_) (λn=>Ao.done (by rw[Ba]at n;rw[BN o!]at ok;rw[ok]));rw[Ba]at n;have b:j<E_.length:=o!
  have⟨T,U⟩:=F E_[j] (Gz b);rw[Ln (l:=E_.map (·.2)) (by rw[Ba];exact b),AD,List.getElem_map];refine AA (AGQ (by rw[Ba];omega)) λr hr=>?_;have O:E_[j]∈v:=C.mem_iff.2 T;rcases hr with⟨_,hn⟩|⟨i,rfl,p⟩;grind
  ·have d:i<v.length:=by grind[List.getElem?_eq_some_iff,List.length_map]
   have I:v[i]=E_[j]:=by have⟨R,c,A⟩:=List.getElem_of_mem O;have:=(qP (l:=v.map (·.2)) (i:=i) (j:=R) (by rw[Ba];exact d) nd).1 (by rw[p,CT,Au c,A];rfl);subst this;exact A
   rw[decide_eq_false o!,cond_false,Ln (l:=v.map (·.1)) (by rw[Ba];exact d),AD,List.getElem_map,I,U,bne_self_eq_false,cond_false,AD,AD,AD];refine AA (Ac (by rw[ok,Ba,BQ,Yq];omega)) λv9 D_=>?_;rw[AY (x:=(j:Int)+1)];refine Ao.next ⟨j+1,rfl,?_,b⟩ d!
   rw[D_.1,ok,Cl,Au b,LR];rfl
 rw[hr];refine A0 (AP (λe=>AB (by unfold aJ;rw[if_pos e,List.append_nil])) (λe=>?_));have⟨f1,f2,f3⟩:=J.resolve_left e;rw[decide_eq_false o!,cond_false];refine AA (Rw f) λy g=>?_;have Z:y=l.1+l.2.1.length-1:=g;have hb:=f.2.1;have H:=f.2.2.1;rw[decide_eq_false o!,cond_false,AY (x:=z.2.2.2.2.2.1-l.1),AY (x:=z.2.2.2.2.2.2-l.1),AY (x:=z.2.2.2.2.2.2-l.1+1)];refine AA (BX) λX_ k=>AA (Ac (by rw[Ba,Yq];omega)) λY_ m=>AB ?_;rw[m.1,k.1];unfold aJ;rw[if_neg e,show(z.2.2.2.2.2.2-l.1+1).toNat-(z.2.2.2.2.2.1-l.1).toNat=(z.2.2.2.2.2.2-z.2.2.2.2.2.1+1).toNat by omega]
def AGi{a:List Am}{z:BO}{V:List Aq}{g:AQ}(c:Ip a=some V)(p:V.length<=1000)(n: ∀x∈V,∀y∈V,x.1=y.1->x=y)(h:(z.2.1=0/\Cu z.1=some g)\/(z.2.1≠0/\ ∃x∈V,x.1=z.2.1/\Ru (x,z.1)=some (g,0)/\g.2.1=z.2.2.1)):Ho (a,z)=some (g,true):=by
 unfold Ho;rcases h with⟨b,f⟩|⟨b,x,k,q,f,t⟩;grind;rw[beq_eq_false_iff_ne.2 b,cond_false,c,AD];suffices i:Ao (Ag (QY (a,z) V) (0,(0,(0,(GG.all (false,[])))))) λr=>r= .inl (true,g) by obtain⟨r,hr,rfl⟩:=i;rw[hr];rfl
 refine CQ (λ(s:U×AQ)=> ∃j:Nat,s.1=j/\j<=V.length/\x∉V.take j) (λs=>V.length-s.1.toNat) ⟨0,rfl,BU _,q!⟩ ?_;rintro⟨_,o⟩ ⟨j,rfl,l,hn⟩;unfold QY;dsimp[len];refine AC (λd=>?_) (λd=>absurd k k!);rw[Ln o!,AD];apply AP<;>intro e
 ·grind[List.getElem_mem,Ao.done]
 ·rw[AY (x:=(j:U)+1)];refine Ao.next ⟨j+1,rfl,o!,λm=>?_⟩ k!
  grind[List.take_add_one,List.getElem?_eq_getElem,List.mem_singleton]
def ADq{b:AU}(h:CX b):Ao (L3 b ()) λr=>1<=r.1/\r.1<=4/\r.2.1.2.1=r.1/\AR r.2.2.2.1.2.1 r.2.1/\RC r.2.1 10/\O2 r.2.2.2.1.2.1 r.2.2.1/\Gv r.2.2.2.1.2.1/\r.2.2.1.1+r.2.2.1.2.1.length-1=r.2.2.2.1.2.1.length/\r.2.2.2.1.2.2=r.2.2.2.1.2.1.length/\CX r.2.2.2.2.2/\r.2.2.2.2.1.length<=8/\(∃m:Nat,(m:Int)=r.1/\ ∀f∈r.2.2.2.2.1,FI r.2.2.2.1.2.1 r.2.2.2.1.2.2 m f)/\Dg r.2.2.2.1/\r.2.2.2.1.1=1/\ ∃n,LI n r.2.2.2.1.2.1:=by
 unfold L3;refine AA ((lJ h (x:=25) o!).and (AAv h (x:=25) o!)) λa D_=>?_;have⟨⟨c0,w,O,c,n,v⟩,C,o⟩:=D_;refine AA (AAo (x:=(a.1,a.2.1)) c0 ⟨w,d!⟩ c) λR E_=>?_;have⟨y,g,T,⟨kc,I,J⟩,U,Q,A,_⟩:=E_;dsimp only at g Q A;have t:=c.2.2.1;have q:=c.num o;have⟨x1,x2,x3,x4,x5,x6⟩:=id c;have H:RC R.1 10:=λN=>Cq (I N) o!;have y3:=g.vb.2.1;have y4:=g.vb.2.2.1;have⟨m,u⟩:=Ef (show 0<=a.1 by omega);have B:a.2.1.2.2=a.2.1.2.1.length:=o!
 have l:(m:Int)=a.1:=u.symm;refine AA (P:=λr=>CX r.2/\r.1.length<=8/\ ∀f∈r.1,FI a.2.1.2.1 a.2.1.2.2 m f) (by rw[u];exact AEA y v q g (Xj c) o! o! o!) λv2 F=>?_;have⟨z,L,M⟩:=F;refine AA (Ah z (x:=2) o!) λv3 p=>AA (P:=λ(r:AU×Aa)=>CX r.1/\O2 a.2.1.2.1 r.2/\r.2.2.2=a.2.1.2.2/\r.2.1+r.2.2.1.length-1=a.2.1.2.1.length) ?_ λv6 k=>?_;refine AP (λ_=>AA (Ah p.1 o!) λS G=>?_) (λ_=>AB ⟨p.1,Xj c,rfl,d!⟩);have⟨q1,q2,q3⟩:=G;rw[AY (x:=1+S.1)];refine AA (AJy c C o! o! o!) λe d=>AB ⟨q1,d.1,d.2.2,?_⟩;have V:=d.1.vl.2.2.2.2.1;have W:=d.2.2;have X_:=d.2.1;have K:e.1.1+e.1.2.1.length-1<=a.2.1.2.1.length:=by by_cases hz:e.1.2.1.length=0;omega;have s:=Au (show e.1.2.1.length-1<e.1.2.1.length by omega);have Y_:=(d.1.vl.2.2.2.2.2 _ _ s).1;have⟨i,hi⟩:=Db ((d.1.tail _).1 (BP s)).1;grind[Cv]
 dsimp only;omega;refine AA (Ah k.1 (x:=3) o!) λv7 Z=>AA (P:=λ(r:AU×AJ)=>CX r.1/\AR a.2.1.2.1 r.2/\RC r.2 10/\r.2.2.1=a.1) ?_ λv9 j=>?_;grind[AP,AA,AC0,AB];exact AB ⟨w,O,j.2.2.2,j.2.1,j.2.2.1,k.2.1,q,k.2.2.2,B,j.1,L,⟨m,l,M⟩,c,o,n,v⟩
def AGh:I6 ()=Y E:=by
 suffices A:Ao (I6 ()) λr=>r=E by obtain⟨r,hr,rfl⟩:=A;exact hr
 have G:Dg ((1,[],0):Aa):=⟨g!,g!,g!,g!,g!,λi e h=>by simp at h⟩
 have hn:G3 ()=Y (1,[],0):=rfl;unfold I6;refine AA (AEF (L:=[]) (x:=(2,[0])) ⟨g!,g!,g!,g!,rfl,λi a b D_ o S=>by simp at o S,λa o=>by simp at o;omega⟩) λv h=>?_;have⟨l,z2,B,z4,g,z6⟩:=h;dsimp only at g;have n:O2 [] ((1,[],0):Aa):=Xj G;rw[hn,AD];have⟨lo,D_,fl,p1,f1,V⟩:=wI (fs:=[]) (p:=1) (m:=2) (k:=0) (d:=0) (LI.nil 0) Gv.nil l n B g! (Al _) g.symm g! g! (λf s=>by simp at s) ⟨g!,by rw[g];decide⟩;have⟨r,e,r1,r2⟩:=AC3 (fs:=[]) (p:=1) (m:=2) (k:=0) (d:=0) (LI.nil 0) Gv.nil l n (AEm (L:=[]) rfl (BU _)) B g! (Al _) g.symm g! g! (λf s=>by simp at s) ⟨g!,by rw[g];decide⟩;have⟨r',I,hr⟩:=V;have K:=e.symm.trans I;cases K;rcases hr with⟨q,_⟩|⟨_,_,R⟩;omega;have⟨h1,h2,h3,⟨j,P,h5,Q⟩,C⟩:=R;have J:CV ([],v.1,(1,[],0),1,0)=Y r:=e;have q0:r.2.1.2.2.1=0:=by rw[P,List.take_nil];rfl
 have i0:r.2.1.2.1=0:=by rcases Q with q|⟨x,⟨i,f,D_,_⟩,_⟩;exact q.1;simp_all[Nat.not_lt_zero]
 rw[q0]at C;have⟨ad,U,O,H,M,_,y⟩:=td (p:=1) (i:=0) (j:=((0:Nat):Int)) (CPa 4096) g! (LI.nil 0) g! (Ae _) g! g! l n ⟨g!,by rw[g];decide⟩;have N:=M.2.1;have⟨u,F,u1,u2,u3⟩:=AEL l n ⟨g!,by rw[g];decide⟩ B g! H (Ae _) g! (y.resolve_left λq=>o!).2;rw[C]at F;cases F;have Z:r.2.1.2.2.2.2.1=[]:=by grind[List.Perm.eq_nil,List.filter_eq_nil_iff,List.Perm.nil,rV]
 have ft:r.2.1.2.2.2.2.2.1=0/\r.2.1.2.2.2.2.2.2=0:=by rcases u3 with q|q;exact q.2;exact O! q.1 g!
 have Y_:r.2.1=(1,0,0,0,[],0,0):=by grind[Prod.ext]
 have c:Ja (1,0,0,0,[],0,0)=Y E:=by unfold Ja;rw[HV];rfl
 have⟨q,W,q1⟩:=Fg l.vb;have⟨w,X_,w1⟩:=G8 G;have t:F7 ([],v.1,(1,[],0),1,0,0,0,[],0,0)=Y (st (([]:Ψ EN).take 0) 1,0):=by
  unfold F7;dsimp only;rw[W,q1,AD,By,A!,X_,w1,AD,By,A!,c,AD,By,A!];rw[show Ho (([]:Ψ Am),((1,0,0,0,[],0,0):BO))=Y (st (([]:Ψ EN).take 0) 1,E)from rfl,AD];rw[xU (z:=(1,0,0,0,[],0,0)) (E_:=[]) l n.vl ⟨g!,by rw[g];decide⟩ H (λe T=>by simp at T) rfl g! (.inl rfl),AD];dsimp only;rw[By,A!,A!];rw[show Hp (List.map oS []++aJ (1,[],0) 0 0,((1,0,0,0,[],0,0):BO))=Y E from rfl,AD,By,A!];rw[HV,show LF ([],v.1,(1,[],0),1,0,0,0,[],0,0) (List.map oS []++aJ (1,[],0) 0 0,E) (0,(0,0,GG.all (X,[])),[])=Y (.done (.inr ((0,0,GG.all (X,[])),[])))from rfl];dsimp[p?,Sum.elim_inr];have A:F5 [] ()=Y []:=by unfold F5 AAd;grind[List.mergeSort_nil]
  rw[A];dsimp[p?,List.length_nil,len];rw[show ξ 0 0=E from rfl,B!,G! g!,B!,yg (es:=[]) trivial g!];rfl
 unfold Lm;rw[J,AD,AD,r2,L!,B!,Y_,L!,B!,c,AD,B!,AD];rw[show Cu 1=Y (st (([]:Ψ EN).take 0) 1)from rfl,AD];unfold Ll;dsimp only;rw[t,AD,L!,B!,xJ];exact AB rfl
structure GP(z:BO):Prop where
 page:0<=z.1/\z.1<64
 img:0<=z.2.1/\z.2.1<=1073741824
 lsn:0<=z.2.2.1/\z.2.2.1<=z.2.2.2.1/\z.2.2.2.1<=1099511627776
 none:z.2.1=0->z.2.2.1=0
 asc:z.2.2.2.2.1.Pairwise (· < ·)
 pos:∀d∈z.2.2.2.2.1,1<=d
 log:(z.2.2.2.2.2.1=0/\z.2.2.2.2.2.2=0)\/(1<=z.2.2.2.2.2.1/\z.2.2.2.2.2.1<=z.2.2.2.2.2.2)
theorem AGb{z:BO}(h:z.2.2.2.2.1.length<=1000):Ao (Ag (JK z) (0,0)) λr=>r= .inr ()\/(r= .inl false/\ ¬GP z):=by
 refine CQ (λ(s:U×U)=> ∃j:Nat,s.2=j/\j<=z.2.2.2.2.1.length/\((j=0/\s.1=0)\/ ∃i,j=i+1/\z.2.2.2.2.1[i]? =some s.1)) (λs=>z.2.2.2.2.1.length-s.2.toNat) ⟨0,rfl,BU _,.inl ⟨rfl,rfl⟩⟩ ?_;rintro⟨l,_⟩ ⟨j,rfl,k,f⟩;unfold JK;dsimp[len];refine AC (λd=>?_) (λd=>Ao.done (.inl rfl));have a:j<z.2.2.2.2.1.length:=o!
 rw[Ln a,AD,AY (x:=(j:U)+1)];refine AC (λc=>Ao.done (.inr ⟨rfl,λg=>?_⟩)) (λc=>Ao.next ⟨j+1,rfl,a,.inr ⟨j,rfl,Au a⟩⟩ k!);rcases f with⟨_,rfl⟩|⟨i,rfl,e⟩;have:=g.pos _ (Gz a);omega;have b:=(Ei.1 e)
 have:=EI.1 g.asc i (i+1) b.1 a o!;grind
def AGc{z:BO}(h:W z.2.2.2.2.1<=1000):Ao (Ja z) λb=>GP z->b=E:=by
 have d:Ao (y (z.2.2.2.2.2.1==0) (y (z.2.2.2.2.2.2==0) (Y E)<|y (τ (z.2.2.2.2.2.1>=1)) (Y (τ (z.2.2.2.2.2.1<=z.2.2.2.2.2.2)))<|Y X)<|y (τ (z.2.2.2.2.2.1>=1)) (Y (τ (z.2.2.2.2.2.1<=z.2.2.2.2.2.2)))<|Y X) λb=>GP z->b=E:=by refine AP (λc=>AP (λ_=>AB λ_=>rfl) (λk=>AC (λ_=>AB λg=>?_) (λ_=>AB λg=>?_))) (λc=>AC (λ_=>AB λg=>?_) (λ_=>AB λg=>?_));grind;have:=g.log;omega;have:=g.log;exact G! o!;have:=g.log;omega
 have lp:Ao (σ (Ag (JK z) (0,0)) λj=>ν (Y ·) (λl=>y (z.2.2.2.2.2.1==0) (y (z.2.2.2.2.2.2==0) (Y E)<|y (τ (z.2.2.2.2.2.1>=1)) (Y (τ (z.2.2.2.2.2.1<=z.2.2.2.2.2.2)))<|Y X)<|y (τ (z.2.2.2.2.2.1>=1)) (Y (τ (z.2.2.2.2.2.1<=z.2.2.2.2.2.2)))<|Y X) j) λb=>GP z->b=E:=by grind[AA,AGb,AB]
 have a:∀{P:Prop},(GP z->¬P)->P->Ao (Y X) λb=>GP z->b=E:=λhn f=>AB λg=>O! f (hn g);refine AC (a λg=>by have:=g.page;omega) λ_=>AC (a λg=>by have:=g.page;omega) λ_=>AC (a λg=>by have:=g.img;omega) λ_=>AC (a λg=>by have:=g.img;omega) λ_=>AC (a λg=>by have:=g.lsn;omega) λ_=>AC (a λg=>by have:=g.lsn;omega) λ_=>AC (a λg=>by have:=g.lsn;omega) λ_=>AP (λe=>AC (a λg=>by have:=g.none e;omega) λ_=>lp) λ_=>lp
def GR(R:U->Z (AQ×BO×U)):Nat->S BO
 |0=>[]
 |j+1=>GR R j++(match R j with|some r=>if r.2.2=0 then [r.2.1]else []|none=>[])
def Is(R:U->Z (AQ×BO×U)):Nat->S U
 |0=>[]
 |j+1=>Is R j++(match R j with|some r=>if r.2.2=0 then []else [(j:U)]|none=>[])
def af(R:U->Z (AQ×BO×U)):∀j,(GR R j).length<=j/\(Is R j).length<=j
 |0=>⟨Al _,Al _⟩
 |j+1=>by have⟨a,b⟩:=af R j;grind[GR,Is]
def AJu{b:List Am}{a:AJ}{l:Aa}{k:U}{m:Nat}(f:VB a)(i:Dg l)(v:0<=k)(y:(m:U)=a.2.1)(e:m<=64)(g: ∀p:Nat,p<m->Ao (CV (b,(a,(l,((p:U),k))))) λ_=>True):Oz (b,(a,(l,k)))=some (GR (λp=>CV (b,(a,(l,(p,k))))) m,(Is (λp=>CV (b,(a,(l,(p,k))))) m,0)):=by
 suffices c:Ao (Oz (b,(a,(l,k)))) λr=>r=(GR (λp=>CV (b,(a,(l,(p,k))))) m,(Is (λp=>CV (b,(a,(l,(p,k))))) m,0)) by obtain⟨r,hr,rfl⟩:=c;exact hr
 have⟨q,n,q1⟩:=Fg f;have⟨w,d,t⟩:=G8 i;unfold Oz;dsimp only;rw[n,q1,AD,By,cond_false,d,t,AD,By,cond_false,decide_eq_false o!,cond_false];refine AA (P:=λr=>r=(GR (λp=>CV (b,(a,(l,(p,k))))) m,Is (λp=>CV (b,(a,(l,(p,k))))) m)) (CQ (λ(s:U×(List BO×List U))=> ∃j:Nat,s.1=j/\j<=m/\s.2=(GR (λp=>CV (b,(a,(l,(p,k))))) j,Is (λp=>CV (b,(a,(l,(p,k))))) j)) (λs=>m-s.1.toNat) ⟨0,rfl,BU _,rfl⟩ ?_) λr hr=>AB (by rw[hr]);rintro⟨_,o⟩ ⟨j,rfl,u,z⟩;have⟨l1,l2⟩:=af (λp=>CV (b,(a,(l,(p,k))))) j;unfold X8;dsimp only;refine AC (λh=>?_) (λh=>Ao.done k!);have⟨r,hr,_⟩:=g j o!;unfold Lm;rw[hr,AD,AD,AY (x:=(j:U)+1)];refine AA (P:=λs=>s=(GR (λp=>CV (b,(a,(l,(p,k))))) (j+1),Is (λp=>CV (b,(a,(l,(p,k))))) (j+1))) ?_ λs c=>Ao.next ⟨j+1,rfl,o!,c⟩ k!
 grind[GR,Is,AP,AA,Ac,List.length_singleton,AB]
def ADg{i k:Type}{f:i->k}{l l2:S k}(h:l.Perm l2):∀m:S i,l2=m.map f->∃d:S i,d.Perm m/\d.map f=l:=by
 induction h with
 |nil=>simp_all
 |cons x h o=>
  intro m c;cases m with
  |nil=>cases c
  |cons a m=>injection c with n j;have⟨d,p,q⟩:=o m j;exact⟨a::d,p.cons a,k!⟩
 |swap x y l=>
  intro m c;match m with
  |a::b::m=>exact⟨b::a::m,.swap a b m,k!⟩
 |trans n j e g=>intro m c;have⟨r,t,q1⟩:=g m c;have⟨s,u,q2⟩:=e r q1.symm;exact⟨s,u.trans t,q2⟩
def ACn{L}{a}(h:AR L a):∀e∈DU a,aq e.1:=by have⟨q,b,v,c,d,_,f,g⟩:=tj h.vb h.ds (LK h.vb) h.dis;grind
def AIW{l}{c i k}{e}(h:rV l c i k e=E):e.1.2.2.1=c/\∃n,i<n/\n<=k/\e.1.1<=n/\n<=e.1.2.1/\¬(vi l i<=n/\n<=vj l k):=by
 unfold rV at h;simp only[BZ,QI,K!,J!]at h;obtain⟨⟨d,b⟩,a⟩:=h;refine⟨d,?_⟩;generalize f:(if e.1.1>i+1 then e.1.1 else i+1)=pa at b a;generalize g:(if e.1.2.1<k then e.1.2.1 else k)=pb at b a;have a1:i<pa/\e.1.1<=pa:=by split at f<;>omega
 have j:pb<=k/\pb<=e.1.2.1:=by split at g<;>omega
 rcases a with(a|a)|a;exact⟨pa,o!⟩;exact⟨pa,o!⟩;exact⟨pb,o!⟩
def AJX{n d:Int}{L:Ψ EN}{a:AJ}{l:Aa}{p b V fl:Int}{k m c:Nat}{w:Ψ Am}(S:LI n L)(T:Gv L)(r:AR L a)(B:O2 L l)(hr:RC a c)(o:c≤12)(hk:k≤θ L)(hm:(m:Int)=a.2.1)(hn:1≤m∧m≤64)(h8:θ w≤8)(hf:∀f∈w,FI L d m f)(K:0≤p∧p<a.2.1)
  (M:OK a p b V) (N:sh (bf a l b) k fl) {z:BO} (X_:xg L d m w a l p k fl z):∃E_:Ψ NE,E_.map (·.2)=z.2.2.2.2.1/\θ E_<=12/\E_.Nodup/\(∀e,e∈E_↔e∈DU a/\rV l b z.2.2.1 k e=E)/\((vj l k<vi l z.2.2.1/\z.2.2.2.2.2.1=0/\z.2.2.2.2.2.2=0)\/(vi l z.2.2.1<=vj l k/\z.2.2.2.2.2.1=vi l z.2.2.1/\z.2.2.2.2.2.2=vj l k))/\(z.2.2.2.2.2.1=0\/(l.1<=z.2.2.2.2.2.1/\z.2.2.2.2.2.1<=z.2.2.2.2.2.2/\z.2.2.2.2.2.2<=l.1+θ l.2.1-1))/\z.2.2.2.2.1.Pairwise (· <= ·)/\z.2.2.2.2.1.Nodup:=by
 have J:=B.len;obtain⟨h1,h2,h3,⟨j,h4,h5,h6⟩,Q⟩:=X_;have q0:=Ry T p j;obtain⟨Y_,W,P,Z,O,_,F⟩:=td (p:=p) (i:=z.2.2.1) (j:=(k:Int)) (CPa 4096) g! S o! o! o! o! r B K;have D_:=M.uniq r.vb.1 rfl rfl Z;subst D_;have A:=N.uniq (λ_=>Wb) O;subst A;obtain⟨u,t,u1,v,H⟩:=AEL r B K hr o M o! o! (F.resolve_left λq=>o!).2;rw[Q]at t;injection t with t;subst t;dsimp only at u1 v H;obtain⟨g,s,I⟩:=ADg v.1 _ rfl;have R:∀e∈g,e∈DU a/\rV l b z.2.2.1 k e=E:=λe U=>BR.1 (s.mem_iff.1 U);have C:θ g=θ z.2.2.2.2.1:=by rw[<-I,Ba]
 have y:θ g<=12:=by rw[s.length_eq];refine Cq ?_ (Cq (hr b) o);rw[show(DU a).filter (rV l b z.2.2.1 k)=((DU a).filter λe=>e.1.2.2.1==b).filter (rV l b z.2.2.1 k) by rw[List.filter_filter];refine List.filter_congr λx _=>?_;unfold rV;cases (x.1.2.2.1==b)<;>simp];exact EH _ _
 have G:g.Nodup:=(s.nodup_iff).2 ((LK r.vb).filter _);refine⟨g,I,y,G,λe=>by rw[s.mem_iff,BR],H,?_,v.2,(v.1.nodup_iff).2 (((Hj.2 ((mc r.vb).imp λh e=>o!)).sublist ((Wd).map _)))⟩;rcases H with q|⟨q1,q2,q3⟩;exact .inl q.2.1;refine .inr ⟨?_,o!,?_⟩;rw[q2];unfold vi;split<;>omega;rw[q3];unfold vj;split<;>omega
end Go.Pm
