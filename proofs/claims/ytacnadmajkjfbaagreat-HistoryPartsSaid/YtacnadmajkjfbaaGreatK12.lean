/- What these functions answer, part 12. Texts of the folder wip, laid in few files with shorter names by a program (wip/tools/pack.py); nothing is assumed. -/
import Derived.Test.YtacnadmajkjfbaaGreatK11
noncomputable section
set_option linter.unusedVariables false
set_option linter.unusedSimpArgs false
set_option linter.unusedSectionVars false
set_option linter.defProp false
set_option linter.unnecessarySimpa false
set_option linter.deprecated false
namespace Go.Pm
open Go Go.Ab
set_option maxHeartbeats 400000
def Sc(v1:List AT×List Int×List Bool)(i n:Nat):List NE:=((v1.1.zip v1.2.1).drop i).take n
def oy{a:List AT×List Int×List Bool}{i n k:Nat}{e:NE}(b:k<n):(Sc a i n)[k]? =some e↔a.1[i+k]? =some e.1/\a.2.1[i+k]? =some e.2:=by unfold Sc;grind
def yO{x:AK×Int}{a:List AT×List Int×List Bool}{i n j:Nat}{f:BL}{z:AK}{w:List BL×List Int×Int×Int×Int}(hn:x.2=n)(u:n<=8)(A:a.2.1.length=a.1.length)(v:i+n<=a.1.length)(t:a.1.length<=4096)(m:x.1.2.2.1[j]? =some f):Az (Ad (NQ x a ((i:Int),z) ((j:Int),w)) (false,(i:Int))) λr=>r=(Sc a i n).any λe=>e.2==f.2.1:=by
 have p:(Sc a i n).length=n:=by unfold Sc;rw[List.length_take,List.length_drop,List.length_zip];omega
 have d:ix x.1.2.2.1 (j:Int)=some f:=by unfold ix;rw[if_pos (by omega),Int.toNat_natCast,m]
 refine Ix (λ(s:Bool×Int)=> ∃k:Nat,s=(((Sc a i n).take k).any (λe=>e.2==f.2.1),((i+k:Nat):Int))/\k<=n) (λs=>i+n-s.2.toNat) ⟨0,by simp,B8 _⟩ ?_;rintro s ⟨k,rfl,y⟩;unfold NQ;dsimp only;rw[hn,AW (x:=(i:Int)+(n:Int)),AW (x:=((i+k:Nat):Int)+1)];refine AC (λl=>?_) (λl=>Az.done (by grind));have b:k<n:=by omega
 have hr:a.1[i+k]? =some (a.1[i+k]'(by omega)):=Ay (by omega);have h:a.2.1[i+k]? =some (a.2.1[i+k]'(by omega)):=Ay (by omega);have o:=(oy (e:=(a.1[i+k]'(by omega),a.2.1[i+k]'(by omega))) b).2 ⟨hr,h⟩;have c:ix a.2.1 ((i+k:Nat):Int)=some (a.2.1[i+k]'(by omega)):=by unfold ix;rw[if_pos (by omega),Int.toNat_natCast,h]
 have q:(Sc a i n).take (k+1)=(Sc a i n).take k++[(a.1[i+k]'(by omega),a.2.1[i+k]'(by omega))]:=by rw[D3,o];rfl
 refine AI (λg=>Az.next ⟨k+1,?_,b⟩ (by grind)) (λg=>?_);grind
 ·rw[c,AF,d,AF];refine Az.next ⟨k+1,?_,b⟩ (by omega)
  rw[q,List.any_append,g,Bool.false_or];refine HZ ?_ (by grind);dsimp only;rw[List.any_cons,List.any_nil,Bool.or_false]
def yN{x:AK×Int}{a:List AT×List Int×List Bool}{i n:Nat}{z:AK}(hn:x.2=n)(m:n<=8)(u:a.2.1.length=a.1.length)(p:i+n<=a.1.length)(l:a.1.length<=4096)(y:x.1.2.2.1.length<=256):Az (Ad (NP x a ((i:Int),z)) (0,([],(x.1.1,(x.1.2.1,x.1.2.2.2))))) λr=>r=(Wr (Sc a i n) x.1.2.2.1,(x.1.1,(x.1.2.1,x.1.2.2.2))):=by
 refine Ix (λ(q:Int×List BL×List Int×Int×Int×Int)=> ∃j:Nat,q=((j:Int),(Wr (Sc a i n) (x.1.2.2.1.take j),(x.1.1,(x.1.2.1,x.1.2.2.2))))/\j<=x.1.2.2.1.length) (λq=>x.1.2.2.1.length-q.1.toNat) ⟨0,rfl,B8 _⟩ ?_;rintro q ⟨j,rfl,A⟩;unfold NP;simp only[len];rw[AW];refine AC (λo=>?_) (λo=>Az.done (by grind));have d:x.1.2.2.1[j]? =some (x.1.2.2.1[j]'(by omega)):=Ay (by omega);have e:ix x.1.2.2.1 (j:Int)=some (x.1.2.2.1[j]'(by omega)):=by unfold ix;rw[if_pos (by omega),Int.toNat_natCast,d]
 refine AB (yO hn m u p l d) λg k=>?_;have f:Wr (Sc a i n) (x.1.2.2.1.take (j+1))=Wr (Sc a i n) (x.1.2.2.1.take j)++(if g=true then []else [x.1.2.2.1[j]'(by omega)]):=by rw[D3,d,J0];unfold Wr;grind
 refine AB (P:=λt=>t=(Wr (Sc a i n) (x.1.2.2.1.take (j+1)),(x.1.1,(x.1.2.1,x.1.2.2.2)))) ?_ λw c=>?_;refine AO (λh=>?_) (λh=>AA ?_);rw[e,AF];have s:(Wr (Sc a i n) (x.1.2.2.1.take j)).length<=256:=by apply Do (LD _ _);rw[CH];omega
 refine AB (Ac (by simp;omega)) λv b=>AA ?_;rw[b.1,f,h,if_neg (by decide)];grind
 ·rw[c];exact Az.next ⟨j+1,by grind,by omega⟩ (by grind)
def z6(L:List EN)(x:AK×Int)(r:AK×Bool×Int):Prop:=
 (x.1.2.2.2.2<=1073741824->r.2.2=0)/\(r.2.2=0->(r.2.1=false/\r.1=x.1)\/(r.2.1=true/\AR L r.1/\bc x.1 r.1/\(AG x.1->AG r.1)/\(∀c,RC x.1 c->RC r.1 c)/\r.1.1=x.1.1/\r.1.2.1=x.1.2.1/\r.1.2.2.2.1=x.1.2.2.2.1/\r.1.2.2.2.2=x.1.2.2.2.2+1/\r.1.2.2.1.length+1<=x.1.2.2.1.length/\x.1.2.2.2.2<=1073741824))
theorem AAY{L:List EN}{x:AK×Int}(hL:Uq L)(h:AR L x.1)(hf:2<=x.2/\x.2<=8):Az (Lm x) (z6 L x):=by
 have hs:=h.sa;obtain⟨n,hn⟩:=EZ (show 0<=x.2 by omega);have q:x.1.2.2.1.length<=256:=by have:=h.vb.2.2.2.2.2.1;omega
 have al:=h.vb.2.2.2.1;unfold Lm;obtain⟨v0,V,W⟩:=pm (x:=x.1);have Y:=W.2 h.vb;subst Y;rw[V,AF,EI,cond_false,decide_eq_false (by omega),cond_false,decide_eq_false (by omega),cond_false];refine AB (vt h) λa p=>?_;obtain⟨⟨t1,t2,t3,t4⟩,hw⟩:=p;have t: ∀e∈E0 x.1,VR e.1/\ ∀y∈e.1.2.2.2.2.2,y∈L:=λe v=>by obtain⟨f,_,g,_,g2,_⟩:=h.mem v;exact⟨g.2.2.1,λy hy=>((g2.mem y).1 hy).1⟩
 refine AB (P:=λr=>(∃z,r= .inr z)\/ ∃u,r= .inl u/\z6 L x (u.2.2,(u.1,u.2.1))) ?_ λr hr=>?_
 ·refine Ix (λ(s:Int×AK)=>0<=s.1/\s.1<=a.1.length) (λ(s:Int×AK)=>((a.1.length:Int)-s.1).toNat) ⟨Af _,by dsimp only;omega⟩ (λs hI=>?_);obtain⟨i',z⟩:=s;obtain⟨E,i2⟩:=hI;dsimp only at E i2;obtain⟨i,rfl⟩:=EZ E;unfold Rh;dsimp only;rw[AW (x:=(i:Int)+1) (by omega),AW (x:=(i:Int)+x.2) (by omega)];refine AC (λhc=>?_) (λ_=>Az.done (.inl ⟨_,rfl⟩));simp only[len]at hc;refine AB (Bu E (by omega) (by omega)) λd h3=>?_;refine AB (Bu E (by omega) (by omega)) λv4 h4=>?_;have l3:=h3.2;have l4:=h4.2;have m: ∀k,k<n->d[k]? =a.1[i+k]? :=λk c=>by rw[h3.1,RG,if_pos (by omega),OU,DD]
  have G: ∀k,k<n->v4[k]? =a.2.2[i+k]? :=λk c=>by rw[h4.1,RG,if_pos (by omega),OU,DD]
  have A: ∀{k:Nat} {r:AT},d[k]? =some r->k<n:=λ{k r} c=>by have:=FV c;omega
  have j: ∀(k:Nat) (r:AT),d[k]? =some r->v4[k]? =some true-> ∃id,a.2.1[i+k]? =some id/\(r,id)∈E0 x.1:=λk r p h2=>by have c:=A p;rw[m k c]at p;rw[G k c]at h2;have ar:=FV p;have l:a.2.1[i+k]? =some (a.2.1[i+k]'(by omega)):=Ay (by omega);refine⟨_,l,?_⟩;refine hw ((r,a.2.1[i+k]'(by omega)),true) ?_ rfl;refine F8.2 ⟨i+k,?_⟩;rw[iW,iW];exact⟨⟨p,l⟩,h2⟩
  have T:d.length=n:=by omega
  have J:d[0]? =some (d[0]'(by omega)):=Ay (by omega);have K:d[d.length-1]? =some (d[d.length-1]'(by omega)):=Ay (by omega);generalize d[0]'(by omega)=r0 at J;generalize d[d.length-1]'(by omega)=rn at K;refine AB (y9 (x:=(d,v4)) hL (λk r q1 q2=>?_) ⟨by dsimp only;omega,by dsimp only;omega⟩ (by dsimp only;omega) J K) λv5 h5=>?_;obtain⟨id,_,q3⟩:=j k r q1 q2;exact t _ q3;refine AO (λ_=>Az.next ⟨by dsimp only;omega,by dsimp only;omega⟩ (by dsimp only;omega)) (λU=>?_);obtain⟨w1,lv,es,C,F,w4⟩:=h5 U;dsimp only at F w4;refine AC (λad=>Az.done (.inr ⟨_,rfl,λhh=>absurd hh (by omega),λhz=>absurd (show(21:Int)=0 from hz) (by decide)⟩)) (λax=>?_);have hi:i+n<=a.1.length:=by omega
  have R:(Sc a i n).length=n:=by unfold Sc;rw[List.length_take,List.length_drop,List.length_zip];omega
  have b: ∀(k:Nat) (e:NE),(Sc a i n)[k]? =some e->k<n/\d[k]? =some e.1/\a.2.1[i+k]? =some e.2:=λk e c=>by
   have o:k<n:=by grind
   have:=(oy o).1 c;exact⟨o,by rw[m k o];exact this.1,this.2⟩
  have D: ∀e∈Sc a i n,e∈E0 x.1:=λe v=>by obtain⟨k,c⟩:=F8.1 v;obtain⟨k1,w,Z⟩:=b k e c;obtain⟨q1,_⟩:=F k (by omega);obtain⟨id,q2,q3⟩:=j k e.1 w q1;rw[Z]at q2;injection q2 with q2;rw[<-q2]at q3;exact q3
  have O:yE (Sc a i n) r0.2.2.1 r0.2.2.2.1:=by refine⟨λk e c=>?_,λk e f c hf=>?_⟩;obtain⟨k1,w,Z⟩:=b k e c;obtain⟨_,r,q1,q2,q3,_⟩:=F k (by omega);dsimp only at q1;rw[w]at q1;injection q1 with q1;subst q1;exact⟨q2,q3,(t e (D e (BJ c))).1.1.2.1⟩;obtain⟨k1,w,Z⟩:=b k e c;obtain⟨f1,f2,f3⟩:=b (k+1) f hf;obtain⟨_,r,q1,_,_,q2⟩:=F (k+1) (by omega);dsimp only at q1 q2;rw[f2]at q1;injection q1 with q1;subst q1;exact q2 (by omega) e.1 (by rw[fM];exact w)
  have H:(Sc a i n)[0]? =some ((Sc a i n)[0]'(by omega)):=Ay (by omega);have I:(Sc a i n)[(Sc a i n).length-1]? =some ((Sc a i n)[(Sc a i n).length-1]'(by omega)):=Ay (by omega);generalize (Sc a i n)[0]'(by omega)=m0 at H;generalize (Sc a i n)[(Sc a i n).length-1]'(by omega)=mn at I;have Q:m0.1=r0:=by have:=(b 0 m0 H).2.1;rw[J]at this;exact(Ch this).symm
  have S:mn.1=rn:=by have:=(b _ mn I).2.1;rw[R,<-T,K]at this;exact(Ch this).symm
  refine AB (yN hn (by omega) t1 hi (by omega) q) λa0 M=>?_;subst M;rw[jd w1,AF];dsimp only;have ap:=qY h D O (by omega);refine AB (Ac (by simp;omega)) λa1 N=>?_;rw[AW (x:=x.1.2.2.2.2+1) (by omega),N.1];have X:=xC (s:=Ly v5.1) h D O (by omega) (by omega);have key:=mw (r:=v5.1) hL h D O (by omega) H I w1 (by rw[C,Q]) (by rw[C,S]) (by rw[C]) (by rw[C]) (λy=>by rw[C];dsimp only;rw[w4];constructor;rintro⟨k,r,q1,q2⟩;have c:=A q1;have B:=q1;rw[m k c]at B;have l:a.2.1[i+k]? =some (a.2.1[i+k]'(by omega)):=Ay (by omega);exact⟨(r,_),BJ ((oy (e:=(r,a.2.1[i+k]'(by omega))) c).2 ⟨B,l⟩),q2⟩;rintro⟨e,v,q2⟩;obtain⟨k,c⟩:=F8.1 v;exact⟨k,e.1,(b k e c).2.1,q2⟩) rfl X;refine Az.done (.inr ⟨_,rfl,λ_=>rfl,λ_=>.inr ⟨rfl,key.1,key.2.1,key.2.2.1,key.2.2.2,rfl,rfl,rfl,rfl,?_,by omega⟩⟩);dsimp only;rw[Ag,BV,Bt];omega
 rcases hr with⟨z,rfl⟩|⟨u,rfl,hu⟩;exact BC (AA ⟨λ_=>rfl,λ_=>.inl ⟨rfl,rfl⟩⟩);exact BF (AA hu)
def bc.refl(a:AK):bc a a:=λ_ _=>Iff.rfl
def bc.trans{a b c:AK}(h:bc a b)(g:bc b c):bc a c:=λd n=>(h d n).trans (g d n)
def AAf{L:List EN}{x:AK×Int}{m:Int}(q:Uq L)(h:AR L x.1)(u:2<=x.2/\x.2<=8)(v:SF x.1 m)(w:m<=1073741824):Az (Iw x) λr=>r.2=0/\AR L r.1/\bc x.1 r.1/\(AG x.1->AG r.1)/\(∀c,RC x.1 c->RC r.1 c)/\SF r.1 m/\r.1.1=x.1.1/\r.1.2.1=x.1.2.1/\r.1.2.2.2.1=x.1.2.2.2.1:=by
 unfold Iw;refine AB (P:=λr=>r.1=0/\AR L r.2/\bc x.1 r.2/\(AG x.1->AG r.2)/\(∀c,RC x.1 c->RC r.2 c)/\SF r.2 m/\r.2.1=x.1.1/\r.2.2.1=x.1.2.1/\r.2.2.2.2.1=x.1.2.2.2.1) ?_ λr hr=>AA hr;refine Ix (λ(s:AK×AK)=>AR L s.1/\bc x.1 s.1/\(AG x.1->AG s.1)/\(∀c,RC x.1 c->RC s.1 c)/\SF s.1 m/\s.1.1=x.1.1/\s.1.2.1=x.1.2.1/\s.1.2.2.2.1=x.1.2.2.2.1) (λs=>s.1.2.2.1.length) ⟨h,bc.refl _,id,λ_=>id,v,rfl,rfl,rfl⟩ (λs p=>?_);obtain⟨e,f,l,n,g,i,j,k⟩:=p;unfold Ri;refine AB (AAY (x:=(s.1,x.2)) q e u) λC o=>?_;obtain⟨y,z⟩:=o;have b:s.1.2.2.2.2<=1073741824:=by unfold SF at g;omega
 have d:=y b;refine AL (λt=>absurd d t) (λ_=>?_);rcases z d with⟨q1,q2⟩|⟨q1,q2,q3,A,B,q4,q5,q6,q7,q8,q9⟩
 ·rw[q1,Uu,cond_true];exact Az.done ⟨rfl,e,f,l,n,g,i,j,k⟩
 ·rw[q1,EI,cond_false];dsimp only at q3 q4 q5 q6 q7 q8;exact Az.next ⟨q2,f.trans q3,λa=>A (l a),λc a=>B c (n c a),by unfold SF at*;dsimp only;omega,q4.trans i,q5.trans j,q6.trans k⟩ (by dsimp only;omega)
def tH{b:UInt8}{n:Int}(f:0<=n)(k:n<255):Gw ([IntKind.wrap .u8 (((BitVec.toNat ((BitVec.ofInt 8 (b.toNat:Int))^^^(BitVec.ofInt 8 (IntKind.wrap .u8 (wi (1+n)))))):Nat):Int)]:List Int)=[UInt8.ofNat (BitVec.ofNat 8 b.toNat^^^BitVec.ofNat 8 (1+n).toNat).toNat]/\b≠UInt8.ofNat (BitVec.ofNat 8 b.toNat^^^BitVec.ofNat 8 (1+n).toNat).toNat:=by
 obtain⟨m,rfl⟩:=EZ f;have a:wi (1+(m:Int))=((1+m:Nat):Int):=by rw[AW];omega
 have c:IntKind.wrap .u8 ((1+m:Nat):Int)=((1+m:Nat):Int):=by rw[zx];omega
 have d:(1+(m:Int)).toNat=1+m:=by omega
 rw[a,c,d,S8,S8];refine⟨?_,λj=>?_⟩;have e:IntKind.wrap .u8 (((BitVec.ofNat 8 b.toNat^^^BitVec.ofNat 8 (1+m)).toNat:Nat):Int)=(((BitVec.ofNat 8 b.toNat^^^BitVec.ofNat 8 (1+m)).toNat:Nat):Int):=by rw[zx];omega
 rw[e];rfl;have g:=congrArg UInt8.toNat j;rw[VG,S7 (by omega)]at g;have h:BitVec.ofNat 8 b.toNat=BitVec.ofNat 8 b.toNat^^^BitVec.ofNat 8 (1+m):=by grind
 have i:=congrArg (BitVec.ofNat 8 b.toNat^^^ ·) h;rw[<-X9,Us,YA]at i;grind
def vq{b:AU}{s:Bc}(h:CX b)(A:s.length≠0)(B:s.length<=1099511627775):Az (Fu b s) λr=>CX r.2/\z7 s r.1/\r.1.length<=s.length+1:=by
 unfold Fu;simp only[len];refine AQ (λv=>absurd v (by omega)) (λ_=>AB (Aa h (by omega)) λE p=>?_);obtain⟨o,k0,k1⟩:=p;obtain⟨k,u⟩:=EZ k0;refine AB (Aa o (by decide)) λF f=>?_;rw[u,AW];have i:k<s.length:=by omega
 have a:s=s.take k++s[k]::s.drop (k+1):=by simp_all
 have m:Ro s 0 (k:Int)=some (s.take k):=by unfold Ro;rw[if_pos (by omega)];rfl
 have n:Ro s ((k:Int)+1) (s.length:Int)=some (s.drop (k+1)):=by unfold Ro;rw[if_pos (by omega),show((k:Int)+1).toNat=k+1 by omega];exact congrArg some (Cg (by grind))
 have C:(s.take k).length=k:=by grind
 have D:(s.drop (k+1)).length=s.length-(k+1):=HA;refine AQ (λ_=>?_) (λ_=>?_);rw[m,AF,n,AF];refine AB (CY (by omega)) λG q=>AA ⟨f.1,.less _ _ _ a q.1,by grind⟩;refine AQ (λ_=>?_) (λ_=>?_);refine AB (Aa f.1 (by decide)) λz t=>AB (CY (by rw[LJ];simp;omega)) λH l=>AA ⟨t.1,?_,?_⟩;exact .more s [] (UInt8.ofNat (IntKind.wrap .u8 z.1).toNat) (Dm s).symm (by rw[l.1];rfl);have:=l.2;rw[LJ]at this;simp only[BV,Bt]at this;dsimp only;omega;rw[m,AF];have g:six s (k:Int)=some ((s[k].toNat:Nat):Int):=by unfold six;rw[if_pos (by omega),DD,Ay i];rfl
 rw[g,AF,n,AF];refine AB (Aa f.1 (by decide)) λw c=>?_;obtain⟨q1,q2⟩:=tH (b:=s[k]) c.2.1 (by omega);rw[q1];refine AB (CY (by simp;omega)) λx d=>?_;have j:=d.2;simp only[BV,Bt]at j;refine AB (CY (by omega)) λy e=>AA ⟨c.1,.other _ _ _ _ q2 a ?_,by grind⟩;rw[e.1,d.1,Ax];rfl
theorem rS{a:AK}{b:AU}(B:AG a)(h:CX b)(M:a.2.2.1.length<=1000000):Az (Fg b a.2.2.1) λr=>CX r.2/\ ∀f∈r.1,f∈a.2.2.1\/Bad f:=by
 unfold Fg;generalize E:a.2.2.1=x at*;refine AQ (λ_=>AA ⟨h,λf n=>by simp at n⟩) (λg=>?_);simp only[len]at g;refine AB (Aa h (by grind)) λH t=>?_;obtain⟨p,c,q⟩:=t;simp only[len]at q;rw[AW (x:=H.1+1) (by omega)];refine AB (Aa p (by decide)) λN k=>AQ (λ_=>?_) (λ_=>?_);refine AB (Bu (Af _) c (by omega)) λO v=>AB (Bu (by omega) (by grind) (by grind)) λP y=>?_;have l2:=v.2;have F:=y.2;simp only[len]at F;refine AB (Ac (by simp;omega)) λQ z=>?_;have G:=z.2.1;simp only[Bt]at G;refine AB (Ac (by omega)) λR K=>AA ⟨k.1,λf n=>.inl ?_⟩;grind;refine AB (Ac (by simp;omega)) λS A=>?_;have j:=A.1;rw[B5]at j;subst j;refine AB (AE c (by omega)) λT _=>AB (AE c (by omega)) λo L=>?_;obtain⟨r,hr⟩:=B o (by grind);have D:=hr.size;have i:o.2.2.length≠0:=by rw[hr.2.1];unfold Ly;rw[Ag,F4];omega
 refine AB (vq k.1 i (by omega)) λU l=>AB (AE c (by omega)) λI _=>AB (AE c (by omega)) λJ u=>AA ⟨l.1,λf e=>?_⟩;rcases Nk e with w|w;grind;refine .inr ?_;rw[w];refine⟨by grind,λs C m=>?_⟩;dsimp only at m;have d:=l.2.1;rw[m,hr.2.1]at d;exact xG hr.2.2.1.wr C d
def uY{L:List EN}{a:AK}{b:AU}{m:Int}(h:AR L a)(p:AG a)(k:CX b)(J:SF a m):Az (Fg b a.2.2.1) λr=>CX r.2/\AR L (a.1,(a.2.1,(r.1,a.2.2.2)))/\(∀c,RC a c->RC (a.1,(a.2.1,(r.1,a.2.2.2))) c)/\SF (a.1,(a.2.1,(r.1,a.2.2.2))) m:=by
 obtain⟨B,C,D,E,F,K,G⟩:=id h.vb;refine((uZ G k (by omega) h.sa.2.2).and (rS p k (by omega))).mono λr hr=>?_;obtain⟨⟨H,M,I,N⟩,_,u⟩:=hr;have i:VB (a.1,(a.2.1,(r.1,a.2.2.2))):=⟨B,C,D,E,F,by dsimp only;omega,I⟩
 have g: ∀e∈E0 (a.1,(a.2.1,(r.1,a.2.2.2))),e∈E0 a:=λe o=>by unfold E0 at o;obtain⟨f,d,j⟩:=Ni.1 o;rcases u f d with d|d;obtain⟨s,q⟩:=p f d;have n:Good (a.1,(a.2.1,(r.1,a.2.2.2))) f s:=q.congr rfl rfl;rw[n.intR i.1]at j;injection j with j;subst j;exact Uz h.vb.1 d q;rw[d.intR i.1]at j;cases j
 refine⟨H,⟨i,λf d=>?_,λx l y v=>h.dis x (g x l) y (g y v)⟩,λc k t=>?_,by unfold SF at*;dsimp only;omega⟩;rotate_left;exact Do (eC _ ((E0 a).filter λe=>e.1.2.2.1==t) ((Tr i).filter _) λx l=>Bb.2 ⟨g x (Bb.1 l).1,(Bb.1 l).2⟩) (k t);rcases u f d with d|d;exact(h.files f d).imp id λ⟨s,w,z,A⟩=>⟨s,w.congr rfl rfl,z,A⟩
 exact .inl d
def AAX{L:List EN}{x:Int×List Int}(h:BD x.1 x.2):Az (Fc x) λr=>AR L r.1/\AG r.1/\RC r.1 0/\SF r.1 1/\r.1.2.1=x.1/\r.1.2.2.2.1=1:=by
 have a:Az (Fc x) λr=>r.2=0->r.1.2.2.1=[]/\r.1.2.2.2.2=1:=by refine AB Zw λo c=>AO (λk=>AA λm=>?_) (λ_=>?_);grind;have l:=h.2.2.2.1;exact AB (Ac (by simp;omega)) λp b=>AA λ_=>⟨rfl,rfl⟩
 refine((vn h).and a).mono λr hr=>?_;obtain⟨⟨c,b,d,g⟩,j⟩:=hr;refine⟨⟨b,λf a=>?_,λe i=>?_⟩,λf a=>?_,λn=>?_,?_,d,g⟩;grind;unfold E0 at i;grind;grind;unfold E0;grind;unfold SF;grind
def AX(L:List EN)(n d m:Int)(a:AK):Prop:=AR L a/\AG a/\(∃c:Nat,RC a c/\100*(c:Int)<=m+99)/\SF a m/\a.2.1=n/\a.2.2.2.1<=d+1
def AX.step{n m:Int}{a:AK}{l:Aj}{c:Int}(j:D0 l)(h:AX l.2.1 n l.2.2 m a):Az (ES (a,(l,c))) λr=>r.2=0->AX l.2.1 n l.2.2 (m+100) r.1:=by obtain⟨b,d,⟨k,g,i⟩,e,f,q⟩:=h;refine(yQ (x:=(a,(l,c))) b j e).mono λr hr o=>?_;obtain⟨q1,q2,p,q3,q4,q5⟩:=hr o;exact⟨q1,q2 d,⟨k+1,p k g,by omega⟩,by unfold SF at*;omega,q4.trans f,by grind⟩
def AX.mono{L:List EN}{n d m k:Int}{a:AK}(h:AX L n d m a)(o:m<=k):AX L n d k a:=by obtain⟨b,e,⟨c,i,j⟩,l,f,g⟩:=h;exact⟨b,e,⟨c,i,by omega⟩,by unfold SF at*;omega,f,g⟩
def AX.tidy{L:List EN}{n d m:Int}{a:AK}{c:Int}(j:Uq L)(h:AX L n d m a)(p:m<=1073741824)(l:2<=c/\c<=8):Az (Iw (a,c)) λr=>AX L n d m r.1:=by obtain⟨e,f,⟨k,o,b⟩,g,i,s⟩:=h;refine(AAf (x:=(a,c)) j e l g p).mono λr hr=>?_;obtain⟨q0,q1,q2,q3,q,q4,q5,q6,q7⟩:=hr;exact⟨q1,q3 f,⟨k,q k o,b⟩,q4,q6.trans i,by grind⟩
theorem rR{b:AU}{x:Int×Aj}(h:CX b)(G:1<=x.1/\x.1<=64)(f:D0 x.2):Az (Nx b x) λr=>CX r.2/\AX x.2.2.1 x.1 x.2.2.2 901 r.1:=by
 have F:=f.uq;have Y:=f.1;have Z:=f.2.2.2.1;refine AB (uW h G) λv0 p=>AB (AAX (L:=x.2.2.1) p.2) λN w=>?_;obtain⟨H,I,M,J,K,s5⟩:=w;have D:AX x.2.2.1 x.1 x.2.2.2 1 N.1:=⟨H,I,⟨0,M,by decide⟩,J,K,by omega⟩
 refine AB (Aa p.1 (by decide)) λv2 y=>?_;obtain⟨u,v,X⟩:=y;refine AB (P:=λr=>CX r.1/\AX x.2.2.1 x.1 x.2.2.2 801 r.2) ?_ λR c=>?_
 ·refine Ix (λ(s:Int×AU×AK)=>0<=s.1/\s.1<=8/\CX s.2.1/\AX x.2.2.1 x.1 x.2.2.2 (801-100*s.1) s.2.2) (λ(s:Int×AU×AK)=>s.1.toNat) ⟨v,by grind,u,D.mono (by grind)⟩ (λs E=>?_);obtain⟨i1,i2,t,o⟩:=E;unfold Ps;have e:=AW (x:=s.1-1) (by omega);rw[e];refine AC (λhc=>AB (Aa t (by decide)) λv4 z=>AB (o.step f) λv5 A=>AB (P:=λa=>AX x.2.2.1 x.1 x.2.2.2 (801-100*(s.1-1)) a) (AQ (λg=>AA ((A g).mono (by omega))) (λ_=>AA (o.mono (by omega)))) λv6 n=>AB (Aa z.1 (by decide)) λv7 q=>?_) (λ_=>Az.done ⟨t,o.mono (by omega)⟩);refine AB (P:=λr=>CX r.1/\AX x.2.2.1 x.1 x.2.2.2 (801-100*(s.1-1)) r.2) ?_ λQ d=>Az.next ⟨by grind,by grind,d.1,d.2⟩ (by grind)
  refine AI (λ_=>AB (Aa q.1 (by decide)) λW B=>?_) (λ_=>AA ⟨q.1,n⟩);rw[AW (x:=2+W.1) (by omega)];refine AB (n.tidy F (by omega) ⟨by omega,by omega⟩) λv9 C=>?_;exact AB (P:=λa=>AX x.2.2.1 x.1 x.2.2.2 (801-100*(s.1-1)) a) (AQ (λg=>AA C) (λ_=>AA n)) λO i=>AA ⟨B.1,i⟩
 exact AB (Aa c.1 (by decide)) λS j=>AB (P:=λa=>AX x.2.2.1 x.1 x.2.2.2 901 a) (AI (λ_=>AB (c.2.step f) λT k=>AB (P:=λa=>AX x.2.2.1 x.1 x.2.2.2 901 a) (AQ (λg=>AA ((k g).mono (by decide))) (λ_=>AA (c.2.mono (by decide)))) λU l=>AA l) (λ_=>AA (c.2.mono (by decide)))) λV m=>AA ⟨j.1,m⟩
set_option maxHeartbeats 1000000
def vo{x:AK}(h:VB x)(e:x.2.2.1=[]):Az (G4 x) λr=>r.1=[]:=by unfold G4;refine AB (J2 h) λg _=>?_;refine AO (λ_=>AA rfl) (λ_=>?_);refine AB (P:=λr=>r=[]) ?_ λi c=>?_;refine AM (λ(s:Int×NL)=>s=(0,[])) (λ_=>0) rfl (λs a=>?_);subst a;unfold Nt;rw[e];exact AC (λb=>absurd b (by simp[len])) (λ_=>AA rfl);subst c;refine AB (ABQ (by simp)) λj d=>pC d ?_;refine AB (P:=λ(r:List AT×List Int)=>r.1=[]) ?_ λv f=>AA f;refine AM (λ(s:Int×Int×Int×List AT×List Int)=>s.1=0/\s.2.2.2.1=[]) (λ_=>0) ⟨rfl,rfl⟩ (λs a=>?_);unfold Nu;rw[a.1];exact AC (λb=>absurd b (by simp[len])) (λ_=>AA a.2)
def vU{x:AK×Aj×Int}(h:VB x.1)(k:x.1.2.2.1=[])(b:x.2.1=(1,([],0))):Az (JO x) λr=>r=[(1,0)]:=by
 have vl:D0 x.2.1:=by rw[b];exact⟨by decide,by decide,by decide,by decide,by decide,λi e j=>by simp at j⟩
 unfold JO;refine AB (Y6 vl) λm a=>?_;rw[b]at a⊢;have c:m=0:=a;subst c;refine AB (gj (by exact h)) λn _=>?_;refine AO (λ_=>AA rfl) (λ_=>?_);refine AB (vo h k) λo d=>?_;refine AB (P:=λr=>r=[(1,0)]) ?_ λv l=>AA l;refine AM (λ(s:Int×List EL)=>s=(0,[(1,0)])) (λ_=>0) rfl (λs f=>?_);subst f;unfold Nw;rw[d];exact AC (λg=>absurd g (by simp[len])) (λ_=>AA rfl)
def ut{j:Int}:Az (G5 ([(1,0)],j)) λr=>r=j:=by
 unfold G5;refine AB (P:=λ(r:Int)=>r=j) ?_ λv c=>AA c;refine AM (λ(s:Int)=>s=j) (λ_=>0) rfl (λs i=>?_);subst i;unfold Q5;refine AB (P:=λ(r:(Int×Int)⊕ Int)=>r= .inr s) ?_ λr hr=>A2 (λu a=>by rw[hr]at a;cases a) (λu a=>AA (by rw[hr]at a;cases a;rfl));refine AM (λ(t:Int×Int)=>0<=t.1/\t.1<=1/\t.2=s) (λ(t:Int×Int)=>((1:Int)-t.1).toNat) ⟨Af _,by dsimp only;omega,rfl⟩ (λt l=>?_);obtain⟨n,o,d⟩:=l;unfold Nv;refine AC (λb=>?_) (λ_=>AA (by rw[d]));simp only[len,BV,Bt]at b;have e:=AW (x:=t.1+1);rw[e];refine AB (AE n (by simp only[BV,Bt];omega)) λp g=>?_;have f:=A3.1 g.2;subst f;have k:Az (GA ((1,0),t.2)) λr=>r=false:=by unfold GA;exact AC (λb=>AA (decide_eq_false (by dsimp only at b⊢;omega))) (λ_=>AA rfl)
 refine AB (P:=λr=>r=(false,t.2)) ?_ λq h=>?_;unfold Om;exact AB k λv c=>AA (by rw[c]);subst h;refine AI (λm=>by cases m) (λ_=>AA ⟨⟨by dsimp only;omega,by dsimp only;omega,d⟩,by dsimp only;omega⟩)
def jq{a:AK}{i j:Int}(h:VB a)(m:a.2.2.1=[])(o:1<a.2.1)(n:0<=i)(d:i<=j):Fs (a,((1,([],0)),(1,(i,j))))=some (decide (j<=i)):=by
 have vl:D0 (1,([],0)):=⟨by decide,by decide,by decide,by decide,by decide,λi e l=>by simp at l⟩
 obtain⟨r,hr,g⟩:=R7 (x:=(a,((1,([],0)),(1,i)))) h vl ⟨Int.zero_le_ofNat 1,o,n⟩;obtain⟨s,p,k⟩:=vU (x:=(a,((1,([],0)),1))) h m rfl;obtain⟨f,b,c⟩:=ut (j:=j);subst g k c;unfold Fs;dsimp only;rw[hr,p];show(bif (decide (i<=f))then Option.bind (G5 ([(1,0)],f)) (λq=>some (decide (q<=i)))else some false)=_;rw[b,decide_eq_true d];rfl
def yT{x:Unit}:Az (KK x) λr=>r=true:=by
 have g:BD 2 [0]:=⟨by decide,by decide,by decide,by decide,rfl,λi a b p c k=>by simp at c k,λa c=>by simp at c;omega⟩
 have m:Az (Fc (2,([0]:List Int))) λr=>r.1.2.2.1=[]:=by unfold Fc;refine AB Zw λf d=>?_;exact AO (λo=>AA rfl) (λ_=>AB (Ac (by simp)) λn _=>AA rfl)
 unfold KK;refine AB ((vn (x:=(2,[0])) g).and m) λf d=>?_;obtain⟨⟨_,a1,a2,_⟩,a3⟩:=d;refine AB Ob λn h=>?_;subst h;have e:1<f.1.2.1:=by rw[a2];decide
 rw[jq a1 a3 e (by decide) (by decide)];apply BE;refine AI (λ_=>?_) (λl=>by cases l);refine AB Ob λq j=>?_;subst j;rw[jq a1 a3 e (by decide) (by decide)];exact AA rfl
def vp{n p:Int}{l:List Int}(h:BD n l):Az (FC (l,p)) λr=>0<=r.1/\r.1<=l.length/\(∀(i:Nat) (v:Int),(i:Int)<r.1->l[i]? =some v->v<p)/\(∀(i:Nat) (v:Int),r.1<=(i:Int)->l[i]? =some v->p<=v)/\(r.2=true->l[r.1.toNat]? =some p)/\(r.2=false-> ∀v,l[r.1.toNat]? =some v->p<v):=by
 have u:=h.2.2.2.1;refine AB (P:=λ(r:Int)=>0<=r/\r<=l.length/\(∀(i:Nat) (v:Int),(i:Int)<r->l[i]? =some v->v<p)/\ ∀(i:Nat) (v:Int),r<=(i:Int)->l[i]? =some v->p<=v) ?_ λK w=>?_
 ·refine Ix (λ(s:Int×Int)=>0<=s.1/\s.1<=s.2/\s.2<=l.length/\(∀(i:Nat) (v:Int),(i:Int)<s.1->l[i]? =some v->v<p)/\ ∀(i:Nat) (v:Int),s.2<=(i:Int)->l[i]? =some v->p<=v) (λ(s:Int×Int)=>(s.2-s.1).toNat) ⟨Af _,by grind,by grind,λi v e=>by grind,λi v e b=>by grind⟩ (λs z=>?_);obtain⟨o,H,D,E,F⟩:=z;unfold Hm;rw[fo o];refine AC (λa=>?_) (λa=>Az.done ?_)
  ·refine AB (AE (by omega) (by grind)) λG g=>?_;refine AB Y5 λI k=>?_;have t:=AW (x:=(s.1+s.2)/2+1);rw[t];refine AB (P:=λ(q:Int×Int)=>(0<=q.1/\q.1<=q.2/\q.2<=(l.length:Int)/\(∀(i:Nat) (v:Int),(i:Int)<q.1->l[i]? =some v->v<p)/\ ∀(i:Nat) (v:Int),q.2<=(i:Int)->l[i]? =some v->p<=v)/\(q.2-q.1).toNat<(s.2-s.1).toNat) ?_ λJ m=>Az.next m.1 m.2
   refine AI (λC=>AA ⟨⟨by grind,by grind,D,λi v e b=>?_,F⟩,by grind⟩) (λA=>AA ⟨⟨o,by omega,by omega,E,λi v e b=>?_⟩,by omega⟩);have f:=k.1 C;have:=h.le (i:=i) (j:=((s.1+s.2)/2).toNat) (by omega) b g.1;omega;have f: ¬G<p:=λq=>by have:=k.2 q;rw[A]at this;cases this
   have:=h.le (i:=((s.1+s.2)/2).toNat) (j:=i) (by omega) g.1 b;omega
  grind
 obtain⟨a1,a2,a3,a4⟩:=w;refine AC (λa=>?_) (λa=>AA ⟨a1,a2,a3,a4,λc=>(by cases c),λ_ v b=>?_⟩);simp only[len]at a;refine AB (AE a1 a) λL y=>?_;refine AQ (λd=>AA ⟨a1,a2,a3,a4,λ_=>by dsimp only;rw[y.1,d],λc=>(by cases c)⟩) (λB=>?_);refine AB (AE a1 a) λM _=>?_;refine AI (λc=>?_) (λ_=>AA ⟨a1,a2,a3,a4,λc=>(by cases c),λ_ v b=>?_⟩);grind;grind;grind
def fC(a:AK)(p lo hi:Int):Prop:= ∃i:Nat,a.1[i]? =some lo/\hi=ml a i/\lo<=p/\p<=hi
def AAa{a:AK}{p:Int}(h:VB a)(B:0<=p/\p<a.2.1): ∃c d,FT (a,p)=some (c,(d,true))/\fC a p c d:=by
 have key:Az (FT (a,p)) λr=>r.2.2=true/\fC a p r.1 r.2.1:=by
  unfold FT;dsimp only;refine AB (J2 h) λI l=>?_;rw[l,EI,cond_false,decide_eq_false (by omega),cond_false,decide_eq_false (by omega),cond_false];refine AB (vp h.1) λb m=>?_;obtain⟨F,G,x,H,y,z⟩:=m;have n:=h.1.2.2.2.1;have u:=h.1.2.2.2.2.1;refine AB (P:=λk:Int=> ∃(i:Nat) (c:Int),k=i/\a.1[i]? =some c/\c<=p/\ ∀w,a.1[i+1]? =some w->p<w) ?_ λk q=>?_;refine AO (λs=>AA ?_) (λt=>AA ?_);have g:0<b.1:=by refine OT λA=>?_;have:=z s 0 (by rw[show b.1.toNat=0 by omega];exact u);omega
  rw[AW];have d:b.1.toNat-1<a.1.length:=by omega
  refine⟨b.1.toNat-1,a.1[b.1.toNat-1],by omega,Ay d,?_,λw e=>?_⟩;have:=x (b.1.toNat-1) _ (by omega) (Ay d);omega;grind;have f:=y t;refine⟨b.1.toNat,p,by omega,f,Af _,λw e=>?_⟩;exact h.1.lt 0 b.1.toNat p w f e;obtain⟨i,c,rfl,j,v,C⟩:=q;rw[pk h.1 j,AF];refine AA ⟨rfl,i,j,rfl,v,?_⟩;unfold ml;cases e:a.1[i+1]? with
  |none=>grind
  |some w=>grind
 obtain⟨⟨c,d,o⟩,k1,D,E⟩:=key;grind
def fC.uniq{a b:AK}{p l1 l2 f g:Int}(h:BD a.2.1 a.1)(d:b.1=a.1)(e:b.2.1=a.2.1)(m:fC a p l1 f)(n:fC b p l2 g):l1=l2:=by
 obtain⟨i,s,t,u,v⟩:=m;obtain⟨j,w,z,A,B⟩:=n;have o:ml b j=ml a j:=by unfold ml;rw[d,e]
 have key: ∀{i j:Nat} {x y:Int},a.1[i]? =some x->a.1[j]? =some y->i<j->ml a i<y:=λ{i j x y} q c k=>by have r:=FV c;have l:a.1[i+1]? =some (a.1[i+1]'(by omega)):=Ay (by omega);have:=h.le (by omega:i+1<=j) l c;unfold ml;grind
 grind
def vi(P:Int->Prop)(j fl:Int):Prop:=0<=fl/\fl<=j/\(∀n,fl<n->n<=j->P n)/\(fl=0\/ ¬P fl)
def vi.uniq{P Q:Int->Prop}{j r s:Int}(h: ∀n,P n↔Q n)(hr:vi P j r)(a:vi Q j s):r=s:=by obtain⟨b,c,d,e⟩:=hr;obtain⟨f,g,i,k⟩:=a;grind
structure kv(L:List EN)(l:Aj):Prop where
 vl:D0 l
 sorted:L.Pairwise λx y=>x.1<y.1
 tail: ∀e,e∈l.2.1↔e∈L/\l.1<=e.1/\e.1<=l.1+l.2.1.length-1
 len:L.length<=4096
def AAV{B:Nat}{L:List EN}{a:AK}{l:Aj}{p i j:Int}(q:CP B)(D:B≤16777216)(v:j-i≤B)(t:0≤i)(F:i≤j)(E:j≤1099511627776)(h:AR L a)(w:kv L l)(y:0≤p∧p<a.2.1):
  ∃o t d,fC a p o t/\vi (wQ a l o) j d/\Fs (a,(l,(p,(i,j))))=some (decide (d<=i))/\Az (Ib (a,(l,(p,(i,j))))) λr=>(d>i/\r=([],42))\/(d<=i/\((U4 i (L.filter (MY p i j))/\r=(L.filter (MY p i j),0))\/(¬U4 i (L.filter (MY p i j))/\r=([],13)))):=by
 obtain⟨o,u,x,n⟩:=AAa h.vb y;obtain⟨k,k1,G,H,I⟩:=id n;obtain⟨d,z,C,A⟩:=AAU q D v t F E h.vb h.ds w.vl y x rfl w.sorted w.tail (λe s=>by
  obtain⟨f,_,_,_,g,_⟩:=h.mem s;exact g) h.dis (λe s m=>by
  obtain⟨f,_,g,_⟩:=h.mem s;have c:e.1.2.2.1=o:=m;have b:=g.2.2.2;rw[c]at b;have:=b.uniq h.vb.1 ⟨k,k1,G⟩;exact⟨H,by omega⟩)
 exact⟨o,u,d,n,z,C,A⟩
def D0.sorted{l:Aj}(h:D0 l):l.2.1.Pairwise λx y=>x.1<y.1:=by obtain⟨l1,l2,a,b,c,d⟩:=h;rw[JL];grind
def kQ{l:Aj}(h:D0 l):kv l.2.1 l:=⟨h,h.sorted,λe=>⟨λa=>⟨a,by obtain⟨k,b⟩:=F8.1 a;have:=(h.2.2.2.2.2 k e b).1;have:=FV b;omega⟩,λa=>a.1⟩,h.2.2.1⟩
def ABb{l:Aj}{f:Int}(h:D0 l)(o:l.2.2=l.1+l.2.1.length-1)(j:l.1<=f)(m:f<=l.2.2+1)(n:f<=1099511627776):Az (JU (l,f)) λr=>kv l.2.1 r.1/\r.1.1=f/\r.1.2.2=l.2.2:=by
 have p:Az (JU (l,f)) λr=>r.2=0->r.1=(f,(l.2.1.drop (f-l.1).toNat,l.2.2)):=by obtain⟨a1,a2,a3,a4,a5,a6⟩:=id h;refine AB Bp λv w=>?_;refine AO (λ_=>AA λa=>absurd (show(26:Int)=0 from a) (by decide)) (λ_=>?_);refine AC (λ_=>AA λa=>absurd (show(1:Int)=0 from a) (by decide)) (λ_=>?_);refine AC (λ_=>AA λa=>absurd (show(1:Int)=0 from a) (by decide)) (λ_=>?_);refine AC (λ_=>AA λa=>absurd (show(1:Int)=0 from a) (by decide)) (λ_=>?_);refine AC (λ_=>AA λa=>absurd (show(15:Int)=0 from a) (by decide)) (λ_=>?_);rw[AW (x:=f-l.1)];refine AB (Bu (by omega) (by grind) (by grind)) λB b=>?_;have l2:=b.2;simp only[len]at l2;refine AB (Ac (by simp;omega)) λC d=>AA λ_=>?_;rw[d.1,B5,b.1,Cg (by grind)]
 refine((cH (x:=(l,f)) h o j m n).and p).mono λr hr=>?_;obtain⟨⟨s,t,u⟩,c⟩:=hr;have c:=c s;refine⟨⟨t,h.sorted,λe=>?_,h.2.2.1⟩,u,by rw[c]⟩;rw[c];obtain⟨l1,l2,y,z,A,q⟩:=h;rw[F8,F8];constructor;grind;rintro⟨⟨k,i⟩,g,_⟩;have:=(q _ e i).1;exact⟨k-(f-l.1).toNat,by rw[OU,show(f-l.1).toNat+(k-(f-l.1).toNat)=k by omega];exact i⟩
def zi{b:AU}(h:CX b):Az (KM b ()) λr=>1<=r.1/\r.1<=4/\r.2.1.2.1=r.1/\AR r.2.2.2.1.2.1 r.2.1/\RC r.2.1 10/\SF r.2.1 1000/\kv r.2.2.2.1.2.1 r.2.2.1/\D0 r.2.2.2.1/\r.2.2.2.1.1=1/\r.2.2.1.2.2=r.2.2.2.1.2.2/\r.2.2.2.1.2.2=r.2.2.2.1.2.1.length/\CX r.2.2.2.2/\ ∃n,LI n r.2.2.2.1.2.1:=by unfold KM;refine AB ((dK h (x:=25) (by omega)).and (rW h (x:=25) (by omega))) λa y=>?_;obtain⟨⟨c0,p,F,g,D⟩,v,w⟩:=y;refine AB (rR (x:=(a.1,a.2.1)) c0 ⟨p,by dsimp only;omega⟩ g) λG z=>?_;obtain⟨t,c,q,⟨I,B,C⟩,s,k,u⟩:=z;dsimp only at c k u;obtain⟨Q,R,S,T,U,V⟩:=id g;have f:RC G.1 10:=λE=>Do (B E) (by omega);have W:=c.vb.2.1;have X:=c.vb.2.2.1;refine AB (Aa t (x:=2) (by omega)) λJ l=>?_;refine AB (P:=λ(r:AU×Aj)=>CX r.1/\kv a.2.1.2.1 r.2/\r.2.2.2=a.2.1.2.2) ?_ λL j=>?_;refine AQ (λ_=>?_) (λ_=>AA ⟨l.1,kQ g,rfl⟩);refine AB (Aa l.1 (by omega)) λH A=>?_;obtain⟨q1,q2,q3⟩:=A;have e:=AW (x:=1+H.1);rw[e];refine AB (ABb g v (by omega) (by omega) (by omega)) λK m=>AA ⟨q1,m.1,m.2.2⟩;refine AB (Aa j.1 (x:=3) (by omega)) λM o=>?_;refine AB (P:=λ(r:AU×AK)=>CX r.1/\AR a.2.1.2.1 r.2/\RC r.2 10/\SF r.2 1000/\r.2.2.1=a.1) ?_ λO d=>AA ⟨p,F,d.2.2.2.2,d.2.1,d.2.2.1,d.2.2.2.1,j.2.1,g,w,j.2.2,by dsimp only;omega,d.1,D⟩;refine AQ (λ_=>?_) (λ_=>AA ⟨o.1,c,f,by unfold SF at*;dsimp only;omega,k⟩);refine AB (uY c q o.1 s) λN i=>AA ⟨i.1,i.2.1,i.2.2.1 10 f,by have:=i.2.2.2;unfold SF at*;dsimp only at this⊢;omega,k⟩
theorem vQ{l:List EN}(h:l.length<=16777000):Fw (l,l)=some true:=by
 have key:Az (Ad (IX (l,l)) 0) λr=>r= .inr ():=by
  refine Ix (λ(s:Int)=>0<=s/\s<=l.length) (λs=>((l.length:Int)-s).toNat) ⟨Af _,by omega⟩ (λs e=>?_);obtain⟨b,i⟩:=e;unfold IX;dsimp only;simp only[len];refine AC (λa=>?_) (λ_=>Az.done rfl);refine AB (AE b a) λf c=>?_;refine AB (AE b a) λg d=>?_;have:f=g:=by have:=c.1;rw[d.1]at this;exact(Ch this).symm
  subst this;simp only[beq_self_eq_true,OS,PY,EI,cond_false];rw[AW (by omega)];exact Az.next ⟨by omega,by omega⟩ (by omega)
 obtain⟨r,hr,rfl⟩:=key;unfold Fw;dsimp only;rw[bne_self_eq_false,cond_false,hr];rfl
def yb{l:List Int}(h: ∀c∈l,0≤c∧c<256):Az (bif (decide ((len l)>400))then
    Option.bind (Za l 0 400) λd=>
    some d
   else
   some l) λr=>CX (r,0):=by
 refine AC (λa=>?_) (λa=>AA ⟨Af _,by simp only[len]at a;dsimp only;omega,h⟩);simp only[len]at a;refine AB (Bu) λd e=>AA ⟨Af _,by dsimp only;omega,λc b=>?_⟩;dsimp only at b;rw[e.1]at b;exact h c (U9 (Jz b))
def aT{p i j:Int}{e:EN}:MY p i j e=(rP p e&&(decide (e.1>i)&&decide (e.1<=j))):=by unfold MY rP eK;grind
def U4.snoc{i:Int}{s:List EN}{e:EN}(h:U4 i s)(m:s=[]->e.2.2.2.2.1<=i)(n: ∀f,s[s.length-1]? =some f->e.2.2.2.2.1=f.1):U4 i (s++[e]):=by
 intro k g b;rcases Ap k s.length with d|d;rw[B6 d]at b;refine⟨(h k g b).1,λf a c=>(h k g b).2 f a ?_⟩;grind;have o:=FV b;rw[Ag,List.length_singleton]at o;have l:k=s.length:=by omega
 subst l;have j:e=g:=by grind
 subst j;refine⟨λp=>m (EJ p),λf a c=>n f ?_⟩;rwa [B6 (by omega)]at c
def nN{n p i j:Int}{L:List EN}(F:LI n L)(G:L.Pairwise λx y=>x.1<y.1)(H:0≤i): ∀m:Nat,m≤L.length→
  U4 i ((L.take m).filter (MY p i j))/\((∀f∈L.take m,f.1<=j)->((L.take m).filter (MY p i j)=[]->GM (L.take m) p<=i)/\ ∀f,((L.take m).filter (MY p i j))[((L.take m).filter (MY p i j)).length-1]? =some f->GM (L.take m) p=f.1)
 |0,_=>by rw[List.take_zero];exact⟨λk e E=>by simp at E,λ_=>⟨λ_=>H,λf a=>by simp at a⟩⟩
 |m+1,hm=>by
  obtain⟨C,D⟩:=nN (j:=j) F G H m (by omega);have d:m<L.length:=by omega
  have B:L.take (m+1)=L.take m++[L[m]]:=by rw[D3,Ay d];rfl
  have l: ∀f∈L.take m,f.1<L[m].1:=λf a=>by obtain⟨k,w⟩:=Es a;have z:=FV w;rw[CH]at z;rw[dk (by omega),Ay (by omega)]at w;rw[<-Ch w];exact JL.1 G k m (by omega) d (by omega)
  have A:=F m _ (Ay d);rw[B,Jq];generalize I:L.take m=M at*;generalize L[m]=e at*;by_cases t:MY p i j e=true;have g:=t;rw[aT]at g;simp only[BO,decide_eq_true_eq]at g;obtain⟨s,K,N⟩:=g;have q:e.2.2.2.2.2.2.1.1=p/\(e.2.1=1\/e.2.1=2):=by unfold rP at s;simp only[BO,dh,beq_iff_eq]at s;exact⟨s.2,s.1⟩
  obtain⟨q1,q2⟩:=D λf a=>by have:=l f a;omega
  have b:=A.1 q.2;rw[q.1]at b;rw[iS t,YG];refine⟨C.snoc (λh=>by rw[b];exact q1 h) (λf a=>by rw[b];exact q2 f a),λ_=>⟨λh=>by simp at h,λf a=>?_⟩⟩;rw[TO,if_pos s];have:e=f:=by simpa using a
  rw[this];rw[iR t,YG,Dm];refine⟨C,λc=>?_⟩;have E:=c e (by simp);obtain⟨q1,q2⟩:=D λf a=>c f (HW _ a);rw[TO];by_cases u:rP p e=true;have v:e.1<=i:=by refine OT λJ=>t ?_;rw[aT,u];simp;omega
  have o:M.filter (MY p i j)=[]:=List.filter_eq_nil_iff.2 λf a r=>by rw[aT]at r;simp only[BO,decide_eq_true_eq]at r;have:=l f a;omega
  rw[if_pos u,o];exact⟨λ_=>v,λf a=>by simp at a⟩;rw[if_neg u];exact⟨q1,q2⟩
def uf{n p i j:Int}{L:List EN}(a:LI n L)(b:L.Pairwise λx y=>x.1<y.1)(c:0<=i):U4 i (L.filter (MY p i j)):=by have:=(nN (p:=p) (j:=j) a b c L.length (Ak _)).1;grind
def oM{p i j k:Int}(d:i<=j)(g:j<=k): ∀{L:List EN},L.Pairwise (λx y=>x.1<y.1)->L.filter (MY p i k)=L.filter (MY p i j)++L.filter (MY p j k)
 |[],_=>rfl
 |e::R,h=>by
  obtain⟨l,m⟩:=List.pairwise_cons.1 h;have o:=oM (p:=p) d g m;by_cases n:e.1<=j;have a:MY p j k e=false:=by rw[aT];simp;intro _ _;omega
  have b:MY p i k e=MY p i j e:=by rw[aT,aT,show decide (e.1<=k)=decide (e.1<=j) by rw[decide_eq_true n,decide_eq_true (by omega)]]
  rw[TC,TC,TC,a,b,o];split<;>rfl;have a: ∀f∈e::R,MY p i j f=false:=λf c=>by
   have:j<f.1:=by rcases Am.1 c with q|q;rw[q];omega;have:=l f q;omega
   rw[aT];simp;intro _ _;omega
  have b: ∀f∈e::R,MY p i k f=MY p j k f:=λf c=>by
   have:j<f.1:=by rcases Am.1 c with q|q;rw[q];omega;have:=l f q;omega
   rw[aT,aT,show decide (f.1>i)=decide (f.1>j) by rw[decide_eq_true (show f.1>j from this),decide_eq_true (by omega)]]
  rw[show(e::R).filter (MY p i j)=[]from List.filter_eq_nil_iff.2 λf c=>by rw[a f c];decide,B5];exact List.filter_congr b
def rU{B:Nat}{n:Int}{L:List EN}{a:AK}{l:Aj}{p i j:Int}(e:CP B)(s:B≤16777216)(u:LI n L)(f:j-i≤B)(c:0≤i)(v:i≤j)(t:j≤1099511627776)(h:AR L a)(g:kv L l)(w:0≤p∧p<a.2.1):
  ∃d c b,fC a p d c/\vi (wQ a l d) j b/\Fs (a,(l,(p,(i,j))))=some (decide (b<=i))/\((b>i/\Ib (a,(l,(p,(i,j))))=some ([],42))\/(b<=i/\Ib (a,(l,(p,(i,j))))=some (L.filter (MY p i j),0))):=by
 obtain⟨d,q,b,x,m,o,r,k,y⟩:=AAV e s f c v t h g w;refine⟨d,q,b,x,m,o,?_⟩;rcases y with⟨q1,q2⟩|⟨q1,⟨q2,q3⟩|⟨q2,q3⟩⟩;exact .inl ⟨q1,by rw[k,q2]⟩;exact .inr ⟨q1,by rw[k,q3]⟩;exact absurd (uf u g.sorted c) q2
def hl4{L:List EN}{l:Aj}{p i j:Int}(h:kv L l):(L.filter (MY p i j)).length<=4096:=Do (LD _ _) h.len
theorem kq{x:List Int×(Int×(Int×Int))}(h: ∀c∈x.1,0<=c/\c<256)(S:0<=x.2.1/\x.2.1<256)(T:0<=x.2.2.1/\x.2.2.1<256)(U:0<=x.2.2.2/\x.2.2.2<256):Az (JP x) λr=>r=true:=by
 unfold JP;refine AB yT λv0 R=>?_;refine AO (λy=>by rw[R]at y;cases y) (λ_=>?_);refine AB (yb h) λv2 t=>?_;refine AB (zi t) λF v=>?_;obtain⟨a0,a1,a2,a3,ar,a4,a5,a6,a7,a8,a9,a10,n,w⟩:=v;refine AB (P:=λ(r:Bool ⊕ Unit)=>r= .inr ()) ?_ λr hr=>by rw[hr];exact BC (AA rfl)
 refine Ix (λ(s:Int)=>0<=s/\s<=F.1) (λs=>(F.1-s).toNat) ⟨Af _,by omega⟩ (λs V=>?_);obtain⟨z,s2⟩:=V;unfold MW;refine AC (λy=>?_) (λ_=>Az.done rfl);rw[AW (x:=x.2.1) (by omega),AW (x:=x.2.2.1) (by omega),AW (x:=x.2.2.2) (by omega),AW (x:=s+1) (by omega)];have m1:0<=Int.tmod x.2.1 25:=TB _ S.1;have m2:Int.tmod x.2.1 25<25:=TA _ (by omega);have m3:0<=Int.tmod x.2.2.1 25:=TB _ T.1;have m4:Int.tmod x.2.2.1 25<25:=TA _ (by omega);have m5:0<=Int.tmod x.2.2.2 25:=TB _ U.1;have m6:Int.tmod x.2.2.2 25<25:=TA _ (by omega);generalize Int.tmod x.2.1 25=i at*;generalize Int.tmod x.2.2.1 25=m at*;generalize Int.tmod x.2.2.2 25=u at*;rw[AW (x:=i+m) (by omega),AW (x:=i+m+u) (by omega)];generalize hj:i+m=j;generalize hk:j+u=k;obtain⟨lo,B,e,E,A,_,f⟩:=rU (p:=s) (i:=i) (j:=k) AAT (by decide) w (by omega) (by omega) (by omega) (by omega) a3 a5 ⟨z,by omega⟩;obtain⟨Y,W,o,Z,K,_,g⟩:=rU (p:=s) (i:=i) (j:=j) AAT (by decide) w (by omega) (by omega) (by omega) (by omega) a3 a5 ⟨z,by omega⟩;obtain⟨D,C,M,p3,L,_,l⟩:=rU (p:=s) (i:=j) (j:=k) AAT (by decide) w (by omega) (by omega) (by omega) (by omega) a3 a5 ⟨z,by omega⟩;have u1:=E.uniq a3.vb.1 rfl rfl Z;have u2:=E.uniq a3.vb.1 rfl rfl p3;subst u1;subst u2;have u3:=A.uniq (λ_=>Iff.rfl) L;subst u3;obtain⟨b1,b2,G,b⟩:=A;obtain⟨c1,c2,H,d⟩:=K;have k1:e<=i->o<=i:=λq=>OT λB=>by rcases d with d|d;omega;exact d (G o (by omega) (by omega))
 have k2:o<=i->e<=j->e<=i:=λq q'=>OT λB=>by rcases b with b|b;omega;exact b (H e (by omega) (by omega))
 have I:((42:Int)==0)=false:=rfl;have J:((0:Int)==0)=true:=rfl;rcases f with⟨N,f⟩|⟨N,f⟩<;>rcases g with⟨O,g⟩|⟨O,g⟩<;>rcases l with⟨Q,l⟩|⟨Q,l⟩<;>try (exfalso;omega)
 all_goals rw[f,AF,g,AF,l,AF]
 all_goals simp only[I,J,cond_true,cond_false,beq_self_eq_true,EI,Uu,show(false==true)=false from rfl,show(true==false)=false from rfl]
 all_goals first
  |exact Az.next ⟨by omega,by omega⟩ (by omega)
  |skip
 have X:=hl4 (p:=s) (i:=i) (j:=k) a5;have a:=oM (p:=s) (show i<=j by omega) (show j<=k by omega) a5.sorted;rw[a,Ag]at X;refine AB (Ac (by simp;omega)) λv8 q8=>?_;refine AB (Ac (by rw[q8.1];simp;omega)) λv9 q9=>?_;rw[q9.1,q8.1,B5,<-a,vQ (by rw[a,Ag];omega),AF,EI,cond_false];exact Az.next ⟨by omega,by omega⟩ (by omega)
end Go.Pm
