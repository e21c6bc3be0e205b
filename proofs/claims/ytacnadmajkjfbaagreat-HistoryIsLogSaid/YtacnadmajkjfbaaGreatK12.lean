/- What these functions answer, part 12. Texts of the folder wip, laid in few files with shorter names by a program (wip/tools/pack.py); nothing is assumed. -/
import Derived.Test.YtacnadmajkjfbaaGreatK11
noncomputable section
set_option linter.unusedVariables false
set_option linter.unusedSimpArgs false
set_option linter.unusedSectionVars false
set_option linter.defProp false
set_option linter.unnecessarySimpa false
set_option linter.deprecated false
namespace Go.Pm
open Go Go.Ab
set_option maxHeartbeats 400000
def Sd(v1:List AU×List Int×List Bool)(i n:Nat):List NE:=((v1.1.zip v1.2.1).drop i).take n
def ot{a:List AU×List Int×List Bool}{i n k:Nat}{e:NE}(b:k<n):(Sd a i n)[k]? =some e↔a.1[i+k]? =some e.1/\a.2.1[i+k]? =some e.2:=by unfold Sd;grind
def yI{x:AK×Int}{a:List AU×List Int×List Bool}{i n j:Nat}{f:BL}{z:AK}{w:List BL×List Int×Int×Int×Int}(hn:x.2=n)(u:n<=8)(A:a.2.1.length=a.1.length)(v:i+n<=a.1.length)(t:a.1.length<=4096)(m:x.1.2.2.1[j]? =some f):Ay (Ad (NR x a ((i:Int),z) ((j:Int),w)) (false,(i:Int))) λr=>r=(Sd a i n).any λe=>e.2==f.2.1:=by
 have p:(Sd a i n).length=n:=by unfold Sd;rw[List.length_take,List.length_drop,List.length_zip];omega
 have d:ix x.1.2.2.1 (j:Int)=some f:=by unfold ix;rw[if_pos (by omega),Int.toNat_natCast,m]
 refine Ia (λ(s:Bool×Int)=> ∃k:Nat,s=(((Sd a i n).take k).any (λe=>e.2==f.2.1),((i+k:Nat):Int))/\k<=n) (λs=>i+n-s.2.toNat) ⟨0,by simp,B7 _⟩ ?_;rintro s ⟨k,rfl,y⟩;unfold NR;dsimp only;rw[hn,AW (x:=(i:Int)+(n:Int)),AW (x:=((i+k:Nat):Int)+1)];refine AC (λl=>?_) (λl=>Ay.done (by grind));have b:k<n:=by omega
 have hr:a.1[i+k]? =some (a.1[i+k]'(by omega)):=Az (by omega);have h:a.2.1[i+k]? =some (a.2.1[i+k]'(by omega)):=Az (by omega);have o:=(ot (e:=(a.1[i+k]'(by omega),a.2.1[i+k]'(by omega))) b).2 ⟨hr,h⟩;have c:ix a.2.1 ((i+k:Nat):Int)=some (a.2.1[i+k]'(by omega)):=by unfold ix;rw[if_pos (by omega),Int.toNat_natCast,h]
 have q:(Sd a i n).take (k+1)=(Sd a i n).take k++[(a.1[i+k]'(by omega),a.2.1[i+k]'(by omega))]:=by rw[D5,o];rfl
 refine AF (λg=>Ay.next ⟨k+1,?_,b⟩ (by grind)) (λg=>?_);grind
 ·rw[c,AI,d,AI];refine Ay.next ⟨k+1,?_,b⟩ (by omega)
  rw[q,List.any_append,g,Bool.false_or];refine HZ ?_ (by grind);dsimp only;rw[List.any_cons,List.any_nil,Bool.or_false]
def yH{x:AK×Int}{a:List AU×List Int×List Bool}{i n:Nat}{z:AK}(hn:x.2=n)(m:n<=8)(u:a.2.1.length=a.1.length)(p:i+n<=a.1.length)(l:a.1.length<=4096)(y:x.1.2.2.1.length<=256):Ay (Ad (NQ x a ((i:Int),z)) (0,([],(x.1.1,(x.1.2.1,x.1.2.2.2))))) λr=>r=(Wr (Sd a i n) x.1.2.2.1,(x.1.1,(x.1.2.1,x.1.2.2.2))):=by
 refine Ia (λ(q:Int×List BL×List Int×Int×Int×Int)=> ∃j:Nat,q=((j:Int),(Wr (Sd a i n) (x.1.2.2.1.take j),(x.1.1,(x.1.2.1,x.1.2.2.2))))/\j<=x.1.2.2.1.length) (λq=>x.1.2.2.1.length-q.1.toNat) ⟨0,rfl,B7 _⟩ ?_;rintro q ⟨j,rfl,A⟩;unfold NQ;simp only[len];rw[AW];refine AC (λo=>?_) (λo=>Ay.done (by grind));have d:x.1.2.2.1[j]? =some (x.1.2.2.1[j]'(by omega)):=Az (by omega);have e:ix x.1.2.2.1 (j:Int)=some (x.1.2.2.1[j]'(by omega)):=by unfold ix;rw[if_pos (by omega),Int.toNat_natCast,d]
 refine AB (yI hn m u p l d) λg k=>?_;have f:Wr (Sd a i n) (x.1.2.2.1.take (j+1))=Wr (Sd a i n) (x.1.2.2.1.take j)++(if g=true then []else [x.1.2.2.1[j]'(by omega)]):=by rw[D5,d,Jz];unfold Wr;grind
 refine AB (P:=λt=>t=(Wr (Sd a i n) (x.1.2.2.1.take (j+1)),(x.1.1,(x.1.2.1,x.1.2.2.2)))) ?_ λw c=>?_;refine AO (λh=>?_) (λh=>AA ?_);rw[e,AI];have s:(Wr (Sd a i n) (x.1.2.2.1.take j)).length<=256:=by apply Dp (LC _ _);rw[CH];omega
 refine AB (Ac (by simp;omega)) λv b=>AA ?_;rw[b.1,f,h,if_neg (by decide)];grind
 ·rw[c];exact Ay.next ⟨j+1,by grind,by omega⟩ (by grind)
def zu(L:List EN)(x:AK×Int)(r:AK×Bool×Int):Prop:=
 (x.1.2.2.2.2<=1073741824->r.2.2=0)/\(r.2.2=0->(r.2.1=false/\r.1=x.1)\/(r.2.1=true/\AR L r.1/\bc x.1 r.1/\(AG x.1->AG r.1)/\(∀c,RC x.1 c->RC r.1 c)/\r.1.1=x.1.1/\r.1.2.1=x.1.2.1/\r.1.2.2.2.1=x.1.2.2.2.1/\r.1.2.2.2.2=x.1.2.2.2.2+1/\r.1.2.2.1.length+1<=x.1.2.2.1.length/\x.1.2.2.2.2<=1073741824))
theorem AAS{L:List EN}{x:AK×Int}(hL:Uq L)(h:AR L x.1)(hf:2<=x.2/\x.2<=8):Ay (Ln x) (zu L x):=by
 have hs:=h.sa;obtain⟨n,hn⟩:=Eb (show 0<=x.2 by omega);have q:x.1.2.2.1.length<=256:=by have:=h.vb.2.2.2.2.2.1;omega
 have al:=h.vb.2.2.2.1;unfold Ln;obtain⟨v0,V,W⟩:=ph (x:=x.1);have Y:=W.2 h.vb;subst Y;rw[V,AI,Ea,cond_false,decide_eq_false (by omega),cond_false,decide_eq_false (by omega),cond_false];refine AB (vn h) λa p=>?_;obtain⟨⟨t1,t2,t3,t4⟩,hw⟩:=p;have t: ∀e∈E4 x.1,VR e.1/\ ∀y∈e.1.2.2.2.2.2,y∈L:=λe v=>by obtain⟨f,_,g,_,g2,_⟩:=h.mem v;exact⟨g.2.2.1,λy hy=>((g2.mem y).1 hy).1⟩
 refine AB (P:=λr=>(∃z,r= .inr z)\/ ∃u,r= .inl u/\zu L x (u.2.2,(u.1,u.2.1))) ?_ λr hr=>?_
 ·refine Ia (λ(s:Int×AK)=>0<=s.1/\s.1<=a.1.length) (λ(s:Int×AK)=>((a.1.length:Int)-s.1).toNat) ⟨Ae _,by dsimp only;omega⟩ (λs hI=>?_);obtain⟨i',z⟩:=s;obtain⟨E,i2⟩:=hI;dsimp only at E i2;obtain⟨i,rfl⟩:=Eb E;unfold Ri;dsimp only;rw[AW (x:=(i:Int)+1) (by omega),AW (x:=(i:Int)+x.2) (by omega)];refine AC (λhc=>?_) (λ_=>Ay.done (.inl ⟨_,rfl⟩));simp only[len]at hc;refine AB (Bu E (by omega) (by omega)) λd h3=>?_;refine AB (Bu E (by omega) (by omega)) λv4 h4=>?_;have l3:=h3.2;have l4:=h4.2;have m: ∀k,k<n->d[k]? =a.1[i+k]? :=λk c=>by rw[h3.1,RH,if_pos (by omega),OU,DD]
  have G: ∀k,k<n->v4[k]? =a.2.2[i+k]? :=λk c=>by rw[h4.1,RH,if_pos (by omega),OU,DD]
  have A: ∀{k:Nat} {r:AU},d[k]? =some r->k<n:=λ{k r} c=>by have:=Fw c;omega
  have j: ∀(k:Nat) (r:AU),d[k]? =some r->v4[k]? =some true-> ∃id,a.2.1[i+k]? =some id/\(r,id)∈E4 x.1:=λk r p h2=>by have c:=A p;rw[m k c]at p;rw[G k c]at h2;have ar:=Fw p;have l:a.2.1[i+k]? =some (a.2.1[i+k]'(by omega)):=Az (by omega);refine⟨_,l,?_⟩;refine hw ((r,a.2.1[i+k]'(by omega)),true) ?_ rfl;refine F8.2 ⟨i+k,?_⟩;rw[iT,iT];exact⟨⟨p,l⟩,h2⟩
  have T:d.length=n:=by omega
  have J:d[0]? =some (d[0]'(by omega)):=Az (by omega);have K:d[d.length-1]? =some (d[d.length-1]'(by omega)):=Az (by omega);generalize d[0]'(by omega)=r0 at J;generalize d[d.length-1]'(by omega)=rn at K;refine AB (yw (x:=(d,v4)) hL (λk r q1 q2=>?_) ⟨by dsimp only;omega,by dsimp only;omega⟩ (by dsimp only;omega) J K) λv5 h5=>?_;obtain⟨id,_,q3⟩:=j k r q1 q2;exact t _ q3;refine AO (λ_=>Ay.next ⟨by dsimp only;omega,by dsimp only;omega⟩ (by dsimp only;omega)) (λU=>?_);obtain⟨w1,lv,es,C,F,w4⟩:=h5 U;dsimp only at F w4;refine AC (λad=>Ay.done (.inr ⟨_,rfl,λhh=>absurd hh (by omega),λhz=>absurd (show(21:Int)=0 from hz) (by decide)⟩)) (λax=>?_);have hi:i+n<=a.1.length:=by omega
  have R:(Sd a i n).length=n:=by unfold Sd;rw[List.length_take,List.length_drop,List.length_zip];omega
  have b: ∀(k:Nat) (e:NE),(Sd a i n)[k]? =some e->k<n/\d[k]? =some e.1/\a.2.1[i+k]? =some e.2:=λk e c=>by
   have o:k<n:=by grind
   have:=(ot o).1 c;exact⟨o,by rw[m k o];exact this.1,this.2⟩
  have D: ∀e∈Sd a i n,e∈E4 x.1:=λe v=>by obtain⟨k,c⟩:=F8.1 v;obtain⟨k1,w,Z⟩:=b k e c;obtain⟨q1,_⟩:=F k (by omega);obtain⟨id,q2,q3⟩:=j k e.1 w q1;rw[Z]at q2;injection q2 with q2;rw[<-q2]at q3;exact q3
  have O:xy (Sd a i n) r0.2.2.1 r0.2.2.2.1:=by refine⟨λk e c=>?_,λk e f c hf=>?_⟩;obtain⟨k1,w,Z⟩:=b k e c;obtain⟨_,r,q1,q2,q3,_⟩:=F k (by omega);dsimp only at q1;rw[w]at q1;injection q1 with q1;subst q1;exact⟨q2,q3,(t e (D e (BJ c))).1.1.2.1⟩;obtain⟨k1,w,Z⟩:=b k e c;obtain⟨f1,f2,f3⟩:=b (k+1) f hf;obtain⟨_,r,q1,_,_,q2⟩:=F (k+1) (by omega);dsimp only at q1 q2;rw[f2]at q1;injection q1 with q1;subst q1;exact q2 (by omega) e.1 (by rw[fL];exact w)
  have H:(Sd a i n)[0]? =some ((Sd a i n)[0]'(by omega)):=Az (by omega);have I:(Sd a i n)[(Sd a i n).length-1]? =some ((Sd a i n)[(Sd a i n).length-1]'(by omega)):=Az (by omega);generalize (Sd a i n)[0]'(by omega)=m0 at H;generalize (Sd a i n)[(Sd a i n).length-1]'(by omega)=mn at I;have Q:m0.1=r0:=by have:=(b 0 m0 H).2.1;rw[J]at this;exact(Ch this).symm
  have S:mn.1=rn:=by have:=(b _ mn I).2.1;rw[R,<-T,K]at this;exact(Ch this).symm
  refine AB (yH hn (by omega) t1 hi (by omega) q) λa0 M=>?_;subst M;rw[ja w1,AI];dsimp only;have ap:=qU h D O (by omega);refine AB (Ac (by simp;omega)) λa1 N=>?_;rw[AW (x:=x.1.2.2.2.2+1) (by omega),N.1];have X:=wz (s:=L3 v5.1) h D O (by omega) (by omega);have key:=mu (r:=v5.1) hL h D O (by omega) H I w1 (by rw[C,Q]) (by rw[C,S]) (by rw[C]) (by rw[C]) (λy=>by rw[C];dsimp only;rw[w4];constructor;rintro⟨k,r,q1,q2⟩;have c:=A q1;have B:=q1;rw[m k c]at B;have l:a.2.1[i+k]? =some (a.2.1[i+k]'(by omega)):=Az (by omega);exact⟨(r,_),BJ ((ot (e:=(r,a.2.1[i+k]'(by omega))) c).2 ⟨B,l⟩),q2⟩;rintro⟨e,v,q2⟩;obtain⟨k,c⟩:=F8.1 v;exact⟨k,e.1,(b k e c).2.1,q2⟩) rfl X;refine Ay.done (.inr ⟨_,rfl,λ_=>rfl,λ_=>.inr ⟨rfl,key.1,key.2.1,key.2.2.1,key.2.2.2,rfl,rfl,rfl,rfl,?_,by omega⟩⟩);dsimp only;rw[Ag,BV,Bt];omega
 rcases hr with⟨z,rfl⟩|⟨u,rfl,hu⟩;exact BC (AA ⟨λ_=>rfl,λ_=>.inl ⟨rfl,rfl⟩⟩);exact BF (AA hu)
def bc.refl(a:AK):bc a a:=λ_ _=>Iff.rfl
def bc.trans{a b c:AK}(h:bc a b)(g:bc b c):bc a c:=λd n=>(h d n).trans (g d n)
def AAZ{L:List EN}{x:AK×Int}{m:Int}(q:Uq L)(h:AR L x.1)(u:2<=x.2/\x.2<=8)(v:SF x.1 m)(w:m<=1073741824):Ay (Ix x) λr=>r.2=0/\AR L r.1/\bc x.1 r.1/\(AG x.1->AG r.1)/\(∀c,RC x.1 c->RC r.1 c)/\SF r.1 m/\r.1.1=x.1.1/\r.1.2.1=x.1.2.1/\r.1.2.2.2.1=x.1.2.2.2.1:=by
 unfold Ix;refine AB (P:=λr=>r.1=0/\AR L r.2/\bc x.1 r.2/\(AG x.1->AG r.2)/\(∀c,RC x.1 c->RC r.2 c)/\SF r.2 m/\r.2.1=x.1.1/\r.2.2.1=x.1.2.1/\r.2.2.2.2.1=x.1.2.2.2.1) ?_ λr hr=>AA hr;refine Ia (λ(s:AK×AK)=>AR L s.1/\bc x.1 s.1/\(AG x.1->AG s.1)/\(∀c,RC x.1 c->RC s.1 c)/\SF s.1 m/\s.1.1=x.1.1/\s.1.2.1=x.1.2.1/\s.1.2.2.2.1=x.1.2.2.2.1) (λs=>s.1.2.2.1.length) ⟨h,bc.refl _,id,λ_=>id,v,rfl,rfl,rfl⟩ (λs p=>?_);obtain⟨e,f,l,n,g,i,j,k⟩:=p;unfold Rj;refine AB (AAS (x:=(s.1,x.2)) q e u) λC o=>?_;obtain⟨y,z⟩:=o;have b:s.1.2.2.2.2<=1073741824:=by unfold SF at g;omega
 have d:=y b;refine AL (λt=>absurd d t) (λ_=>?_);rcases z d with⟨q1,q2⟩|⟨q1,q2,q3,A,B,q4,q5,q6,q7,q8,q9⟩
 ·rw[q1,YB,cond_true];exact Ay.done ⟨rfl,e,f,l,n,g,i,j,k⟩
 ·rw[q1,Ea,cond_false];dsimp only at q3 q4 q5 q6 q7 q8;exact Ay.next ⟨q2,f.trans q3,λa=>A (l a),λc a=>B c (n c a),by unfold SF at*;dsimp only;omega,q4.trans i,q5.trans j,q6.trans k⟩ (by dsimp only;omega)
def tD{b:UInt8}{n:Int}(f:0<=n)(k:n<255):Gv ([IntKind.wrap .u8 (((BitVec.toNat ((BitVec.ofInt 8 (b.toNat:Int))^^^(BitVec.ofInt 8 (IntKind.wrap .u8 (wi (1+n)))))):Nat):Int)]:List Int)=[UInt8.ofNat (BitVec.ofNat 8 b.toNat^^^BitVec.ofNat 8 (1+n).toNat).toNat]/\b≠UInt8.ofNat (BitVec.ofNat 8 b.toNat^^^BitVec.ofNat 8 (1+n).toNat).toNat:=by
 obtain⟨m,rfl⟩:=Eb f;have a:wi (1+(m:Int))=((1+m:Nat):Int):=by rw[AW];omega
 have c:IntKind.wrap .u8 ((1+m:Nat):Int)=((1+m:Nat):Int):=by rw[zp];omega
 have d:(1+(m:Int)).toNat=1+m:=by omega
 rw[a,c,d,S9,S9];refine⟨?_,λj=>?_⟩;have e:IntKind.wrap .u8 (((BitVec.ofNat 8 b.toNat^^^BitVec.ofNat 8 (1+m)).toNat:Nat):Int)=(((BitVec.ofNat 8 b.toNat^^^BitVec.ofNat 8 (1+m)).toNat:Nat):Int):=by rw[zp];omega
 rw[e];rfl;have g:=congrArg UInt8.toNat j;rw[VG,S8 (by omega)]at g;have h:BitVec.ofNat 8 b.toNat=BitVec.ofNat 8 b.toNat^^^BitVec.ofNat 8 (1+m):=by grind
 have i:=congrArg (BitVec.ofNat 8 b.toNat^^^ ·) h;rw[<-X9,Ur,YA]at i;grind
def vj{b:AT}{s:Bb}(h:CX b)(A:s.length≠0)(B:s.length<=1099511627775):Ay (Fu b s) λr=>CX r.2/\zw s r.1/\r.1.length<=s.length+1:=by
 unfold Fu;simp only[len];refine AQ (λv=>absurd v (by omega)) (λ_=>AB (Aa h (by omega)) λE p=>?_);obtain⟨o,k0,k1⟩:=p;obtain⟨k,u⟩:=Eb k0;refine AB (Aa o (by decide)) λF f=>?_;rw[u,AW];have i:k<s.length:=by omega
 have a:s=s.take k++s[k]::s.drop (k+1):=by simp_all
 have m:Rp s 0 (k:Int)=some (s.take k):=by unfold Rp;rw[if_pos (by omega)];rfl
 have n:Rp s ((k:Int)+1) (s.length:Int)=some (s.drop (k+1)):=by unfold Rp;rw[if_pos (by omega),show((k:Int)+1).toNat=k+1 by omega];exact congrArg some (Cb (by grind))
 have C:(s.take k).length=k:=by grind
 have D:(s.drop (k+1)).length=s.length-(k+1):=G9;refine AQ (λ_=>?_) (λ_=>?_);rw[m,AI,n,AI];refine AB (CY (by omega)) λG q=>AA ⟨f.1,.less _ _ _ a q.1,by grind⟩;refine AQ (λ_=>?_) (λ_=>?_);refine AB (Aa f.1 (by decide)) λz t=>AB (CY (by rw[LJ];simp;omega)) λH l=>AA ⟨t.1,?_,?_⟩;exact .more s [] (UInt8.ofNat (IntKind.wrap .u8 z.1).toNat) (Dn s).symm (by rw[l.1];rfl);have:=l.2;rw[LJ]at this;simp only[BV,Bt]at this;dsimp only;omega;rw[m,AI];have g:six s (k:Int)=some ((s[k].toNat:Nat):Int):=by unfold six;rw[if_pos (by omega),DD,Az i];rfl
 rw[g,AI,n,AI];refine AB (Aa f.1 (by decide)) λw c=>?_;obtain⟨q1,q2⟩:=tD (b:=s[k]) c.2.1 (by omega);rw[q1];refine AB (CY (by simp;omega)) λx d=>?_;have j:=d.2;simp only[BV,Bt]at j;refine AB (CY (by omega)) λy e=>AA ⟨c.1,.other _ _ _ _ q2 a ?_,by grind⟩;rw[e.1,d.1,Ax];rfl
theorem rO{a:AK}{b:AT}(B:AG a)(h:CX b)(M:a.2.2.1.length<=1000000):Ay (Fh b a.2.2.1) λr=>CX r.2/\ ∀f∈r.1,f∈a.2.2.1\/Bad f:=by
 unfold Fh;generalize E:a.2.2.1=x at*;refine AQ (λ_=>AA ⟨h,λf n=>by simp at n⟩) (λg=>?_);simp only[len]at g;refine AB (Aa h (by grind)) λH t=>?_;obtain⟨p,c,q⟩:=t;simp only[len]at q;rw[AW (x:=H.1+1) (by omega)];refine AB (Aa p (by decide)) λN k=>AQ (λ_=>?_) (λ_=>?_);refine AB (Bu (Ae _) c (by omega)) λO v=>AB (Bu (by omega) (by grind) (by grind)) λP y=>?_;have l2:=v.2;have F:=y.2;simp only[len]at F;refine AB (Ac (by simp;omega)) λQ z=>?_;have G:=z.2.1;simp only[Bt]at G;refine AB (Ac (by omega)) λR K=>AA ⟨k.1,λf n=>.inl ?_⟩;grind;refine AB (Ac (by simp;omega)) λS A=>?_;have j:=A.1;rw[CD]at j;subst j;refine AB (AE c (by omega)) λT _=>AB (AE c (by omega)) λo L=>?_;obtain⟨r,hr⟩:=B o (by grind);have D:=hr.size;have i:o.2.2.length≠0:=by rw[hr.2.1];unfold L3;rw[Ag,F4];omega
 refine AB (vj k.1 i (by omega)) λU l=>AB (AE c (by omega)) λI _=>AB (AE c (by omega)) λJ u=>AA ⟨l.1,λf e=>?_⟩;rcases Nl e with w|w;grind;refine .inr ?_;rw[w];refine⟨by grind,λs C m=>?_⟩;dsimp only at m;have d:=l.2.1;rw[m,hr.2.1]at d;exact xA hr.2.2.1.wr C d
def uU{L:List EN}{a:AK}{b:AT}{m:Int}(h:AR L a)(p:AG a)(k:CX b)(J:SF a m):Ay (Fh b a.2.2.1) λr=>CX r.2/\AR L (a.1,(a.2.1,(r.1,a.2.2.2)))/\(∀c,RC a c->RC (a.1,(a.2.1,(r.1,a.2.2.2))) c)/\SF (a.1,(a.2.1,(r.1,a.2.2.2))) m:=by
 obtain⟨B,C,D,E,F,K,G⟩:=id h.vb;refine((uV G k (by omega) h.sa.2.2).and (rO p k (by omega))).mono λr hr=>?_;obtain⟨⟨H,M,I,N⟩,_,u⟩:=hr;have i:VB (a.1,(a.2.1,(r.1,a.2.2.2))):=⟨B,C,D,E,F,by dsimp only;omega,I⟩
 have g: ∀e∈E4 (a.1,(a.2.1,(r.1,a.2.2.2))),e∈E4 a:=λe o=>by unfold E4 at o;obtain⟨f,d,j⟩:=Nj.1 o;rcases u f d with d|d;obtain⟨s,q⟩:=p f d;have n:Good (a.1,(a.2.1,(r.1,a.2.2.2))) f s:=q.congr rfl rfl;rw[n.intR i.1]at j;injection j with j;subst j;exact Uz h.vb.1 d q;rw[d.intR i.1]at j;cases j
 refine⟨H,⟨i,λf d=>?_,λx l y v=>h.dis x (g x l) y (g y v)⟩,λc k t=>?_,by unfold SF at*;dsimp only;omega⟩;rotate_left;exact Dp (eE _ ((E4 a).filter λe=>e.1.2.2.1==t) ((Tp i).filter _) λx l=>Bc.2 ⟨g x (Bc.1 l).1,(Bc.1 l).2⟩) (k t);rcases u f d with d|d;exact(h.files f d).imp id λ⟨s,w,z,A⟩=>⟨s,w.congr rfl rfl,z,A⟩
 exact .inl d
def AAR{L:List EN}{x:Int×List Int}(h:BD x.1 x.2):Ay (Fe x) λr=>AR L r.1/\AG r.1/\RC r.1 0/\SF r.1 1/\r.1.2.1=x.1/\r.1.2.2.2.1=1:=by
 have a:Ay (Fe x) λr=>r.2=0->r.1.2.2.1=[]/\r.1.2.2.2.2=1:=by refine AB Zx λo c=>AO (λk=>AA λm=>?_) (λ_=>?_);grind;have l:=h.2.2.2.1;exact AB (Ac (by simp;omega)) λp b=>AA λ_=>⟨rfl,rfl⟩
 refine((vf h).and a).mono λr hr=>?_;obtain⟨⟨c,b,d,g⟩,j⟩:=hr;refine⟨⟨b,λf a=>?_,λe i=>?_⟩,λf a=>?_,λn=>?_,?_,d,g⟩;grind;unfold E4 at i;grind;grind;unfold E4;grind;unfold SF;grind
def AX(L:List EN)(n d m:Int)(a:AK):Prop:=AR L a/\AG a/\(∃c:Nat,RC a c/\100*(c:Int)<=m+99)/\SF a m/\a.2.1=n/\a.2.2.2.1<=d+1
def AX.step{n m:Int}{a:AK}{l:Aj}{c:Int}(j:D2 l)(h:AX l.2.1 n l.2.2 m a):Ay (ET (a,(l,c))) λr=>r.2=0->AX l.2.1 n l.2.2 (m+100) r.1:=by obtain⟨b,d,⟨k,g,i⟩,e,f,q⟩:=h;refine(yK (x:=(a,(l,c))) b j e).mono λr hr o=>?_;obtain⟨q1,q2,p,q3,q4,q5⟩:=hr o;exact⟨q1,q2 d,⟨k+1,p k g,by omega⟩,by unfold SF at*;omega,q4.trans f,by grind⟩
def AX.mono{L:List EN}{n d m k:Int}{a:AK}(h:AX L n d m a)(o:m<=k):AX L n d k a:=by obtain⟨b,e,⟨c,i,j⟩,l,f,g⟩:=h;exact⟨b,e,⟨c,i,by omega⟩,by unfold SF at*;omega,f,g⟩
def AX.tidy{L:List EN}{n d m:Int}{a:AK}{c:Int}(j:Uq L)(h:AX L n d m a)(p:m<=1073741824)(l:2<=c/\c<=8):Ay (Ix (a,c)) λr=>AX L n d m r.1:=by obtain⟨e,f,⟨k,o,b⟩,g,i,s⟩:=h;refine(AAZ (x:=(a,c)) j e l g p).mono λr hr=>?_;obtain⟨q0,q1,q2,q3,q,q4,q5,q6,q7⟩:=hr;exact⟨q1,q3 f,⟨k,q k o,b⟩,q4,q6.trans i,by grind⟩
theorem rN{b:AT}{x:Int×Aj}(h:CX b)(G:1<=x.1/\x.1<=64)(f:D2 x.2):Ay (Ny b x) λr=>CX r.2/\AX x.2.2.1 x.1 x.2.2.2 901 r.1:=by
 have F:=f.uq;have Y:=f.1;have Z:=f.2.2.2.1;refine AB (uS h G) λv0 p=>AB (AAR (L:=x.2.2.1) p.2) λN w=>?_;obtain⟨H,I,M,J,K,s5⟩:=w;have D:AX x.2.2.1 x.1 x.2.2.2 1 N.1:=⟨H,I,⟨0,M,by decide⟩,J,K,by omega⟩
 refine AB (Aa p.1 (by decide)) λv2 y=>?_;obtain⟨u,v,X⟩:=y;refine AB (P:=λr=>CX r.1/\AX x.2.2.1 x.1 x.2.2.2 801 r.2) ?_ λR c=>?_
 ·refine Ia (λ(s:Int×AT×AK)=>0<=s.1/\s.1<=8/\CX s.2.1/\AX x.2.2.1 x.1 x.2.2.2 (801-100*s.1) s.2.2) (λ(s:Int×AT×AK)=>s.1.toNat) ⟨v,by grind,u,D.mono (by grind)⟩ (λs E=>?_);obtain⟨i1,i2,t,o⟩:=E;unfold Ps;have e:=AW (x:=s.1-1) (by omega);rw[e];refine AC (λhc=>AB (Aa t (by decide)) λv4 z=>AB (o.step f) λv5 A=>AB (P:=λa=>AX x.2.2.1 x.1 x.2.2.2 (801-100*(s.1-1)) a) (AQ (λg=>AA ((A g).mono (by omega))) (λ_=>AA (o.mono (by omega)))) λv6 n=>AB (Aa z.1 (by decide)) λv7 q=>?_) (λ_=>Ay.done ⟨t,o.mono (by omega)⟩);refine AB (P:=λr=>CX r.1/\AX x.2.2.1 x.1 x.2.2.2 (801-100*(s.1-1)) r.2) ?_ λQ d=>Ay.next ⟨by grind,by grind,d.1,d.2⟩ (by grind)
  refine AF (λ_=>AB (Aa q.1 (by decide)) λW B=>?_) (λ_=>AA ⟨q.1,n⟩);rw[AW (x:=2+W.1) (by omega)];refine AB (n.tidy F (by omega) ⟨by omega,by omega⟩) λv9 C=>?_;exact AB (P:=λa=>AX x.2.2.1 x.1 x.2.2.2 (801-100*(s.1-1)) a) (AQ (λg=>AA C) (λ_=>AA n)) λO i=>AA ⟨B.1,i⟩
 exact AB (Aa c.1 (by decide)) λS j=>AB (P:=λa=>AX x.2.2.1 x.1 x.2.2.2 901 a) (AF (λ_=>AB (c.2.step f) λT k=>AB (P:=λa=>AX x.2.2.1 x.1 x.2.2.2 901 a) (AQ (λg=>AA ((k g).mono (by decide))) (λ_=>AA (c.2.mono (by decide)))) λU l=>AA l) (λ_=>AA (c.2.mono (by decide)))) λV m=>AA ⟨j.1,m⟩
set_option maxHeartbeats 1000000
def vg{x:AK}(h:VB x)(e:x.2.2.1=[]):Ay (G3 x) λr=>r.1=[]:=by unfold G3;refine AB (J1 h) λg _=>?_;refine AO (λ_=>AA rfl) (λ_=>?_);refine AB (P:=λr=>r=[]) ?_ λi c=>?_;refine AM (λ(s:Int×NL)=>s=(0,[])) (λ_=>0) rfl (λs a=>?_);subst a;unfold Nu;rw[e];exact AC (λb=>absurd b (by simp[len])) (λ_=>AA rfl);subst c;refine AB (ABK (by simp)) λj d=>o8 d ?_;refine AB (P:=λ(r:List AU×List Int)=>r.1=[]) ?_ λv f=>AA f;refine AM (λ(s:Int×Int×Int×List AU×List Int)=>s.1=0/\s.2.2.2.1=[]) (λ_=>0) ⟨rfl,rfl⟩ (λs a=>?_);unfold Nv;rw[a.1];exact AC (λb=>absurd b (by simp[len])) (λ_=>AA a.2)
def vQ{x:AK×Aj×Int}(h:VB x.1)(k:x.1.2.2.1=[])(b:x.2.1=(1,([],0))):Ay (JO x) λr=>r=[(1,0)]:=by
 have vl:D2 x.2.1:=by rw[b];exact⟨by decide,by decide,by decide,by decide,by decide,λi e j=>by simp at j⟩
 unfold JO;refine AB (Y7 vl) λm a=>?_;rw[b]at a⊢;have c:m=0:=a;subst c;refine AB (gg (by exact h)) λn _=>?_;refine AO (λ_=>AA rfl) (λ_=>?_);refine AB (vg h k) λo d=>?_;refine AB (P:=λr=>r=[(1,0)]) ?_ λv l=>AA l;refine AM (λ(s:Int×List EL)=>s=(0,[(1,0)])) (λ_=>0) rfl (λs f=>?_);subst f;unfold Nx;rw[d];exact AC (λg=>absurd g (by simp[len])) (λ_=>AA rfl)
def un{j:Int}:Ay (G4 ([(1,0)],j)) λr=>r=j:=by
 unfold G4;refine AB (P:=λ(r:Int)=>r=j) ?_ λv c=>AA c;refine AM (λ(s:Int)=>s=j) (λ_=>0) rfl (λs i=>?_);subst i;unfold Q5;refine AB (P:=λ(r:(Int×Int)⊕ Int)=>r= .inr s) ?_ λr hr=>A2 (λu a=>by rw[hr]at a;cases a) (λu a=>AA (by rw[hr]at a;cases a;rfl));refine AM (λ(t:Int×Int)=>0<=t.1/\t.1<=1/\t.2=s) (λ(t:Int×Int)=>((1:Int)-t.1).toNat) ⟨Ae _,by dsimp only;omega,rfl⟩ (λt l=>?_);obtain⟨n,o,d⟩:=l;unfold Nw;refine AC (λb=>?_) (λ_=>AA (by rw[d]));simp only[len,BV,Bt]at b;have e:=AW (x:=t.1+1);rw[e];refine AB (AE n (by simp only[BV,Bt];omega)) λp g=>?_;have f:=A3.1 g.2;subst f;have k:Ay (GA ((1,0),t.2)) λr=>r=false:=by unfold GA;exact AC (λb=>AA (decide_eq_false (by dsimp only at b⊢;omega))) (λ_=>AA rfl)
 refine AB (P:=λr=>r=(false,t.2)) ?_ λq h=>?_;unfold Om;exact AB k λv c=>AA (by rw[c]);subst h;refine AF (λm=>by cases m) (λ_=>AA ⟨⟨by dsimp only;omega,by dsimp only;omega,d⟩,by dsimp only;omega⟩)
def jn{a:AK}{i j:Int}(h:VB a)(m:a.2.2.1=[])(o:1<a.2.1)(n:0<=i)(d:i<=j):E6 (a,((1,([],0)),(1,(i,j))))=some (decide (j<=i)):=by
 have vl:D2 (1,([],0)):=⟨by decide,by decide,by decide,by decide,by decide,λi e l=>by simp at l⟩
 obtain⟨r,hr,g⟩:=R8 (x:=(a,((1,([],0)),(1,i)))) h vl ⟨Int.zero_le_ofNat 1,o,n⟩;obtain⟨s,p,k⟩:=vQ (x:=(a,((1,([],0)),1))) h m rfl;obtain⟨f,b,c⟩:=un (j:=j);subst g k c;unfold E6;dsimp only;rw[hr,p];show(bif (decide (i<=f))then Option.bind (G4 ([(1,0)],f)) (λq=>some (decide (q<=i)))else some false)=_;rw[b,decide_eq_true d];rfl
def yN{x:Unit}:Ay (KJ x) λr=>r=true:=by
 have g:BD 2 [0]:=⟨by decide,by decide,by decide,by decide,rfl,λi a b p c k=>by simp at c k,λa c=>by simp at c;omega⟩
 have m:Ay (Fe (2,([0]:List Int))) λr=>r.1.2.2.1=[]:=by unfold Fe;refine AB Zx λf d=>?_;exact AO (λo=>AA rfl) (λ_=>AB (Ac (by simp)) λn _=>AA rfl)
 unfold KJ;refine AB ((vf (x:=(2,[0])) g).and m) λf d=>?_;obtain⟨⟨_,a1,a2,_⟩,a3⟩:=d;refine AB Ob λn h=>?_;subst h;have e:1<f.1.2.1:=by rw[a2];decide
 rw[jn a1 a3 e (by decide) (by decide)];apply BE;refine AF (λ_=>?_) (λl=>by cases l);refine AB Ob λq j=>?_;subst j;rw[jn a1 a3 e (by decide) (by decide)];exact AA rfl
def vi{n p:Int}{l:List Int}(h:BD n l):Ay (FF (l,p)) λr=>0<=r.1/\r.1<=l.length/\(∀(i:Nat) (v:Int),(i:Int)<r.1->l[i]? =some v->v<p)/\(∀(i:Nat) (v:Int),r.1<=(i:Int)->l[i]? =some v->p<=v)/\(r.2=true->l[r.1.toNat]? =some p)/\(r.2=false-> ∀v,l[r.1.toNat]? =some v->p<v):=by
 have u:=h.2.2.2.1;refine AB (P:=λ(r:Int)=>0<=r/\r<=l.length/\(∀(i:Nat) (v:Int),(i:Int)<r->l[i]? =some v->v<p)/\ ∀(i:Nat) (v:Int),r<=(i:Int)->l[i]? =some v->p<=v) ?_ λK w=>?_
 ·refine Ia (λ(s:Int×Int)=>0<=s.1/\s.1<=s.2/\s.2<=l.length/\(∀(i:Nat) (v:Int),(i:Int)<s.1->l[i]? =some v->v<p)/\ ∀(i:Nat) (v:Int),s.2<=(i:Int)->l[i]? =some v->p<=v) (λ(s:Int×Int)=>(s.2-s.1).toNat) ⟨Ae _,by grind,by grind,λi v e=>by grind,λi v e b=>by grind⟩ (λs z=>?_);obtain⟨o,H,D,E,F⟩:=z;unfold Hn;rw[fj o];refine AC (λa=>?_) (λa=>Ay.done ?_)
  ·refine AB (AE (by omega) (by grind)) λG g=>?_;refine AB Y6 λI k=>?_;have t:=AW (x:=(s.1+s.2)/2+1);rw[t];refine AB (P:=λ(q:Int×Int)=>(0<=q.1/\q.1<=q.2/\q.2<=(l.length:Int)/\(∀(i:Nat) (v:Int),(i:Int)<q.1->l[i]? =some v->v<p)/\ ∀(i:Nat) (v:Int),q.2<=(i:Int)->l[i]? =some v->p<=v)/\(q.2-q.1).toNat<(s.2-s.1).toNat) ?_ λJ m=>Ay.next m.1 m.2
   refine AF (λC=>AA ⟨⟨by grind,by grind,D,λi v e b=>?_,F⟩,by grind⟩) (λA=>AA ⟨⟨o,by omega,by omega,E,λi v e b=>?_⟩,by omega⟩);have f:=k.1 C;have:=h.le (i:=i) (j:=((s.1+s.2)/2).toNat) (by omega) b g.1;omega;have f: ¬G<p:=λq=>by have:=k.2 q;rw[A]at this;cases this
   have:=h.le (i:=((s.1+s.2)/2).toNat) (j:=i) (by omega) g.1 b;omega
  grind
 obtain⟨a1,a2,a3,a4⟩:=w;refine AC (λa=>?_) (λa=>AA ⟨a1,a2,a3,a4,λc=>(by cases c),λ_ v b=>?_⟩);simp only[len]at a;refine AB (AE a1 a) λL y=>?_;refine AQ (λd=>AA ⟨a1,a2,a3,a4,λ_=>by dsimp only;rw[y.1,d],λc=>(by cases c)⟩) (λB=>?_);refine AB (AE a1 a) λM _=>?_;refine AF (λc=>?_) (λ_=>AA ⟨a1,a2,a3,a4,λc=>(by cases c),λ_ v b=>?_⟩);grind;grind;grind
def oL(a:AK)(p lo hi:Int):Prop:= ∃i:Nat,a.1[i]? =some lo/\hi=qN a i/\lo<=p/\p<=hi
def AAU{a:AK}{p:Int}(h:VB a)(B:0<=p/\p<a.2.1): ∃c d,FV (a,p)=some (c,(d,true))/\oL a p c d:=by
 have key:Ay (FV (a,p)) λr=>r.2.2=true/\oL a p r.1 r.2.1:=by
  unfold FV;dsimp only;refine AB (J1 h) λI l=>?_;rw[l,Ea,cond_false,decide_eq_false (by omega),cond_false,decide_eq_false (by omega),cond_false];refine AB (vi h.1) λb m=>?_;obtain⟨F,G,x,H,y,z⟩:=m;have n:=h.1.2.2.2.1;have u:=h.1.2.2.2.2.1;refine AB (P:=λk:Int=> ∃(i:Nat) (c:Int),k=i/\a.1[i]? =some c/\c<=p/\ ∀w,a.1[i+1]? =some w->p<w) ?_ λk q=>?_;refine AO (λs=>AA ?_) (λt=>AA ?_);have g:0<b.1:=by refine RF λA=>?_;have:=z s 0 (by rw[show b.1.toNat=0 by omega];exact u);omega
  rw[AW];have d:b.1.toNat-1<a.1.length:=by omega
  refine⟨b.1.toNat-1,a.1[b.1.toNat-1],by omega,Az d,?_,λw e=>?_⟩;have:=x (b.1.toNat-1) _ (by omega) (Az d);omega;grind;have f:=y t;refine⟨b.1.toNat,p,by omega,f,Ae _,λw e=>?_⟩;exact h.1.lt 0 b.1.toNat p w f e;obtain⟨i,c,rfl,j,v,C⟩:=q;rw[pg h.1 j,AI];refine AA ⟨rfl,i,j,rfl,v,?_⟩;unfold qN;cases e:a.1[i+1]? with
  |none=>grind
  |some w=>grind
 obtain⟨⟨c,d,o⟩,k1,D,E⟩:=key;grind
def ABX(P:Int->Prop)(j fl:Int):Prop:=0<=fl/\fl<=j/\(∀n,fl<n->n<=j->P n)/\(fl=0\/ ¬P fl)
structure kq(L:List EN)(l:Aj):Prop where
 vl:D2 l
 sorted:L.Pairwise λx y=>x.1<y.1
 tail: ∀e,e∈l.2.1↔e∈L/\l.1<=e.1/\e.1<=l.1+l.2.1.length-1
 len:L.length<=4096
def AAO{B:Nat}{L:List EN}{a:AK}{l:Aj}{p i j:Int}(q:CP B)(D:B≤16777216)(v:j-i≤B)(t:0≤i)(F:i≤j)(E:j≤1099511627776)(h:AR L a)(w:kq L l)(y:0≤p∧p<a.2.1):
  ∃o t d,oL a p o t/\ABX (wL a l o) j d/\E6 (a,(l,(p,(i,j))))=some (decide (d<=i))/\Ay (LP (a,(l,(p,(i,j))))) λr=>(d>i/\r=([],42))\/(d<=i/\((U4 i (L.filter (LG p i j))/\r=(L.filter (LG p i j),0))\/(¬U4 i (L.filter (LG p i j))/\r=([],13)))):=by
 obtain⟨o,u,x,n⟩:=AAU h.vb y;obtain⟨k,k1,G,H,I⟩:=id n;obtain⟨d,z,C,A⟩:=AAN q D v t F E h.vb h.ds w.vl y x rfl w.sorted w.tail (λe s=>by
  obtain⟨f,_,_,_,g,_⟩:=h.mem s;exact g) h.dis (λe s m=>by
  obtain⟨f,_,g,_⟩:=h.mem s;have c:e.1.2.2.1=o:=m;have b:=g.2.2.2;rw[c]at b;have:=b.uniq h.vb.1 ⟨k,k1,G⟩;exact⟨H,by omega⟩)
 exact⟨o,u,d,n,z,C,A⟩
def D2.sorted{l:Aj}(h:D2 l):l.2.1.Pairwise λx y=>x.1<y.1:=by obtain⟨l1,l2,a,b,c,d⟩:=h;rw[JL];grind
def kO{l:Aj}(h:D2 l):kq l.2.1 l:=⟨h,h.sorted,λe=>⟨λa=>⟨a,by obtain⟨k,b⟩:=F8.1 a;have:=(h.2.2.2.2.2 k e b).1;have:=Fw b;omega⟩,λa=>a.1⟩,h.2.2.1⟩
def ABV{l:Aj}{f:Int}(h:D2 l)(o:l.2.2=l.1+l.2.1.length-1)(j:l.1<=f)(m:f<=l.2.2+1)(n:f<=1099511627776):Ay (JU (l,f)) λr=>kq l.2.1 r.1/\r.1.1=f/\r.1.2.2=l.2.2:=by
 have p:Ay (JU (l,f)) λr=>r.2=0->r.1=(f,(l.2.1.drop (f-l.1).toNat,l.2.2)):=by obtain⟨a1,a2,a3,a4,a5,a6⟩:=id h;refine AB Bp λv w=>?_;refine AO (λ_=>AA λa=>absurd (show(26:Int)=0 from a) (by decide)) (λ_=>?_);refine AC (λ_=>AA λa=>absurd (show(1:Int)=0 from a) (by decide)) (λ_=>?_);refine AC (λ_=>AA λa=>absurd (show(1:Int)=0 from a) (by decide)) (λ_=>?_);refine AC (λ_=>AA λa=>absurd (show(1:Int)=0 from a) (by decide)) (λ_=>?_);refine AC (λ_=>AA λa=>absurd (show(15:Int)=0 from a) (by decide)) (λ_=>?_);rw[AW (x:=f-l.1)];refine AB (Bu (by omega) (by grind) (by grind)) λB b=>?_;have l2:=b.2;simp only[len]at l2;refine AB (Ac (by simp;omega)) λC d=>AA λ_=>?_;rw[d.1,CD,b.1,Cb (by grind)]
 refine((cI (x:=(l,f)) h o j m n).and p).mono λr hr=>?_;obtain⟨⟨s,t,u⟩,c⟩:=hr;have c:=c s;refine⟨⟨t,h.sorted,λe=>?_,h.2.2.1⟩,u,by rw[c]⟩;rw[c];obtain⟨l1,l2,y,z,A,q⟩:=h;rw[F8,F8];constructor;grind;rintro⟨⟨k,i⟩,g,_⟩;have:=(q _ e i).1;exact⟨k-(f-l.1).toNat,by rw[OU,show(f-l.1).toNat+(k-(f-l.1).toNat)=k by omega];exact i⟩
def zb{b:AT}(h:CX b):Ay (KK b ()) λr=>1<=r.1/\r.1<=4/\r.2.1.2.1=r.1/\AR r.2.2.2.1.2.1 r.2.1/\RC r.2.1 10/\SF r.2.1 1000/\kq r.2.2.2.1.2.1 r.2.2.1/\D2 r.2.2.2.1/\r.2.2.2.1.1=1/\r.2.2.1.2.2=r.2.2.2.1.2.2/\r.2.2.2.1.2.2=r.2.2.2.1.2.1.length/\CX r.2.2.2.2/\ ∃n,LI n r.2.2.2.1.2.1:=by unfold KK;refine AB ((dL h (x:=25) (by omega)).and (rR h (x:=25) (by omega))) λa y=>?_;obtain⟨⟨c0,p,F,g,D⟩,v,w⟩:=y;refine AB (rN (x:=(a.1,a.2.1)) c0 ⟨p,by dsimp only;omega⟩ g) λG z=>?_;obtain⟨t,c,q,⟨I,B,C⟩,s,k,u⟩:=z;dsimp only at c k u;obtain⟨Q,R,S,T,U,V⟩:=id g;have f:RC G.1 10:=λE=>Dp (B E) (by omega);have W:=c.vb.2.1;have X:=c.vb.2.2.1;refine AB (Aa t (x:=2) (by omega)) λJ l=>?_;refine AB (P:=λ(r:AT×Aj)=>CX r.1/\kq a.2.1.2.1 r.2/\r.2.2.2=a.2.1.2.2) ?_ λL j=>?_;refine AQ (λ_=>?_) (λ_=>AA ⟨l.1,kO g,rfl⟩);refine AB (Aa l.1 (by omega)) λH A=>?_;obtain⟨q1,q2,q3⟩:=A;have e:=AW (x:=1+H.1);rw[e];refine AB (ABV g v (by omega) (by omega) (by omega)) λK m=>AA ⟨q1,m.1,m.2.2⟩;refine AB (Aa j.1 (x:=3) (by omega)) λM o=>?_;refine AB (P:=λ(r:AT×AK)=>CX r.1/\AR a.2.1.2.1 r.2/\RC r.2 10/\SF r.2 1000/\r.2.2.1=a.1) ?_ λO d=>AA ⟨p,F,d.2.2.2.2,d.2.1,d.2.2.1,d.2.2.2.1,j.2.1,g,w,j.2.2,by dsimp only;omega,d.1,D⟩;refine AQ (λ_=>?_) (λ_=>AA ⟨o.1,c,f,by unfold SF at*;dsimp only;omega,k⟩);refine AB (uU c q o.1 s) λN i=>AA ⟨i.1,i.2.1,i.2.2.1 10 f,by have:=i.2.2.2;unfold SF at*;dsimp only at this⊢;omega,k⟩
theorem vM{l:List EN}(h:l.length<=16777000):HP (l,l)=some true:=by
 have key:Ay (Ad (IY (l,l)) 0) λr=>r= .inr ():=by
  refine Ia (λ(s:Int)=>0<=s/\s<=l.length) (λs=>((l.length:Int)-s).toNat) ⟨Ae _,by omega⟩ (λs e=>?_);obtain⟨b,i⟩:=e;unfold IY;dsimp only;simp only[len];refine AC (λa=>?_) (λ_=>Ay.done rfl);refine AB (AE b a) λf c=>?_;refine AB (AE b a) λg d=>?_;have:f=g:=by have:=c.1;rw[d.1]at this;exact(Ch this).symm
  subst this;simp only[beq_self_eq_true,OT,PY,Ea,cond_false];rw[AW (by omega)];exact Ay.next ⟨by omega,by omega⟩ (by omega)
 obtain⟨r,hr,rfl⟩:=key;unfold HP;dsimp only;rw[bne_self_eq_false,cond_false,hr];rfl
def yV{l:List Int}(h: ∀c∈l,0≤c∧c<256):Ay (bif (decide ((len l)>400))then
    Option.bind (Zb l 0 400) λd=>
    some d
   else
   some l) λr=>CX (r,0):=by
 refine AC (λa=>?_) (λa=>AA ⟨Ae _,by simp only[len]at a;dsimp only;omega,h⟩);simp only[len]at a;refine AB (Bu) λd e=>AA ⟨Ae _,by dsimp only;omega,λc b=>?_⟩;dsimp only at b;rw[e.1]at b;exact h c (U9 (Jy b))
def rq{p i j:Int}{e:EN}:LG p i j e=(rL p e&&(decide (e.1>i)&&decide (e.1<=j))):=by unfold LG rL cw;grind
def U4.snoc{i:Int}{s:List EN}{e:EN}(h:U4 i s)(m:s=[]->e.2.2.2.2.1<=i)(n: ∀f,s[s.length-1]? =some f->e.2.2.2.2.1=f.1):U4 i (s++[e]):=by
 intro k g b;rcases Ap k s.length with d|d;rw[B6 d]at b;refine⟨(h k g b).1,λf a c=>(h k g b).2 f a ?_⟩;grind;have o:=Fw b;rw[Ag,List.length_singleton]at o;have l:k=s.length:=by omega
 subst l;have j:e=g:=by grind
 subst j;refine⟨λp=>m (EJ p),λf a c=>n f ?_⟩;rwa [B6 (by omega)]at c
def nK{n p i j:Int}{L:List EN}(F:LI n L)(G:L.Pairwise λx y=>x.1<y.1)(H:0≤i): ∀m:Nat,m≤L.length→
  U4 i ((L.take m).filter (LG p i j))/\((∀f∈L.take m,f.1<=j)->((L.take m).filter (LG p i j)=[]->GM (L.take m) p<=i)/\ ∀f,((L.take m).filter (LG p i j))[((L.take m).filter (LG p i j)).length-1]? =some f->GM (L.take m) p=f.1)
 |0,_=>by rw[List.take_zero];exact⟨λk e E=>by simp at E,λ_=>⟨λ_=>H,λf a=>by simp at a⟩⟩
 |m+1,hm=>by
  obtain⟨C,D⟩:=nK (j:=j) F G H m (by omega);have d:m<L.length:=by omega
  have B:L.take (m+1)=L.take m++[L[m]]:=by rw[D5,Az d];rfl
  have l: ∀f∈L.take m,f.1<L[m].1:=λf a=>by obtain⟨k,w⟩:=Eu a;have z:=Fw w;rw[CH]at z;rw[dm (by omega),Az (by omega)]at w;rw[<-Ch w];exact JL.1 G k m (by omega) d (by omega)
  have A:=F m _ (Az d);rw[B,Jp];generalize I:L.take m=M at*;generalize L[m]=e at*;by_cases t:LG p i j e=true;have g:=t;rw[rq]at g;simp only[BO,decide_eq_true_eq]at g;obtain⟨s,K,N⟩:=g;have q:e.2.2.2.2.2.2.1.1=p/\(e.2.1=1\/e.2.1=2):=by unfold rL at s;simp only[BO,di,beq_iff_eq]at s;exact⟨s.2,s.1⟩
  obtain⟨q1,q2⟩:=D λf a=>by have:=l f a;omega
  have b:=A.1 q.2;rw[q.1]at b;rw[iP t,YH];refine⟨C.snoc (λh=>by rw[b];exact q1 h) (λf a=>by rw[b];exact q2 f a),λ_=>⟨λh=>by simp at h,λf a=>?_⟩⟩;rw[TM,if_pos s];have:e=f:=by simpa using a
  rw[this];rw[iO t,YH,Dn];refine⟨C,λc=>?_⟩;have E:=c e (by simp);obtain⟨q1,q2⟩:=D λf a=>c f (HW _ a);rw[TM];by_cases u:rL p e=true;have v:e.1<=i:=by refine RF λJ=>t ?_;rw[rq,u];simp;omega
  have o:M.filter (LG p i j)=[]:=List.filter_eq_nil_iff.2 λf a r=>by rw[rq]at r;simp only[BO,decide_eq_true_eq]at r;have:=l f a;omega
  rw[if_pos u,o];exact⟨λ_=>v,λf a=>by simp at a⟩;rw[if_neg u];exact⟨q1,q2⟩
def ub{n p i j:Int}{L:List EN}(a:LI n L)(b:L.Pairwise λx y=>x.1<y.1)(c:0<=i):U4 i (L.filter (LG p i j)):=by have:=(nK (p:=p) (j:=j) a b c L.length (Ak _)).1;grind
def AAP{B:Nat}{n:Int}{L:List EN}{a:AK}{l:Aj}{p i j:Int}(e:CP B)(s:B≤16777216)(u:LI n L)(f:j-i≤B)(c:0≤i)(v:i≤j)(t:j≤1099511627776)(h:AR L a)(g:kq L l)(w:0≤p∧p<a.2.1):
  ∃d c b,oL a p d c/\ABX (wL a l d) j b/\E6 (a,(l,(p,(i,j))))=some (decide (b<=i))/\((b>i/\LP (a,(l,(p,(i,j))))=some ([],42))\/(b<=i/\LP (a,(l,(p,(i,j))))=some (L.filter (LG p i j),0))):=by
 obtain⟨d,q,b,x,m,o,r,k,y⟩:=AAO e s f c v t h g w;refine⟨d,q,b,x,m,o,?_⟩;rcases y with⟨q1,q2⟩|⟨q1,⟨q2,q3⟩|⟨q2,q3⟩⟩;exact .inl ⟨q1,by rw[k,q2]⟩;exact .inr ⟨q1,by rw[k,q3]⟩;exact absurd (ub u g.sorted c) q2
def hl4{L:List EN}{l:Aj}{p i j:Int}(h:kq L l):(L.filter (LG p i j)).length<=4096:=Dp (LC _ _) h.len
theorem km{x:List Int×(Int×Int)}(h: ∀c∈x.1,0<=c/\c<256)(R:0<=x.2.1/\x.2.1<256)(S:0<=x.2.2/\x.2.2<256):Ay (JP x) λr=>r=true:=by
 unfold JP;refine AB yN λv0 Q=>?_;refine AO (λe=>by rw[Q]at e;cases e) (λ_=>?_);refine AB (yV h) λv2 E=>?_;refine AB (zb E) λd F=>?_;obtain⟨a0,a1,a2,a3,ar,a4,a5,a6,a7,a8,a9,a10,n,X⟩:=F;have J:=a6.2.2.1;refine AB EP λI T=>?_;have L:=T a6;rw[a7]at L;rw[AW (x:=I+1) (by omega),beq_eq_false_iff_ne.2 (by omega),cond_false];refine AB EP λa U=>?_;have M:=U a6;rw[a7]at M;have B:a=I:=by omega
 subst B;have m1:0<=Int.tmod x.2.1 (a+1):=Uu _ R.1;have m2:Int.tmod x.2.1 (a+1)<a+1:=Ut _ (by omega);rw[AW (x:=x.2.1) (by omega)];generalize Y:Int.tmod x.2.1 (a+1)=i at*;rw[AW (x:=a-i) (by omega),AW (x:=a-i+1) (by omega),beq_eq_false_iff_ne.2 (by omega),cond_false];have m3:0<=Int.tmod x.2.2 (a-i+1):=Uu _ S.1;have m4:Int.tmod x.2.2 (a-i+1)<a-i+1:=Ut _ (by omega);refine AB (P:=λ(r:Bool ⊕ Unit)=>r= .inr ()) ?_ λr hr=>by rw[hr];exact BC (AA rfl)
 refine Ia (λ(s:Int)=>0<=s/\s<=d.1) (λs=>(d.1-s).toNat) ⟨Ae _,by omega⟩ (λs V=>?_);obtain⟨Z,s2⟩:=V;unfold MX MY;refine AC (λe=>?_) (λ_=>Ay.done rfl);rw[AW (x:=x.2.1) (by omega),AW (x:=a+1) (by omega),Y,AW (x:=a-i) (by omega),AW (x:=a-i+1) (by omega),AW (x:=x.2.2) (by omega),AW (x:=s+1) (by omega)];generalize Int.tmod x.2.2 (a-i+1)=u at*;rw[AW (x:=i+u) (by omega)];generalize hj:i+u=j;obtain⟨lo,hh,fl,p1,f1,N,z⟩:=AAP (p:=s) (i:=i) (j:=j) (CPa 4096) (by decide) X (by omega) (by omega) (by omega) (by omega) a3 a5 ⟨Z,by omega⟩;rcases z with⟨O,z⟩|⟨O,z⟩
 ·rw[z,AI,show((([],42):List EN×Int).2==42)=true from rfl,cond_true,N,AI,decide_eq_false (by omega),cond_false];exact Ay.next ⟨by omega,by omega⟩ (by omega)
 ·rw[z,AI];dsimp only;rw[show((0:Int)==42)=false from rfl,cond_false];refine AB (P:=λl=>l=d.2.2.2.1.2.1.filter (LG s i j)) ?_ λw t=>?_
  ·refine Ia (λ(q:Int×List EN)=>0<=q.1/\q.1<=d.2.2.2.1.2.1.length/\q.2=(d.2.2.2.1.2.1.take q.1.toNat).filter (LG s i j)) (λq=>((d.2.2.2.1.2.1.length:Int)-q.1).toNat) ⟨Ae _,by dsimp only;omega,by simp⟩ (λq W=>?_);obtain⟨q1,q2,q3⟩:=W;refine AC (λe=>?_) (λe=>Ay.done ?_)
   ·simp only[len]at e;refine AB (AE q1 e) λb C=>?_;have K:=AW (x:=q.1+1) (by omega);have o:=iu (p:=LG s i j) q1 C.1;have G:=lU (l:=d.2.2.2.1.2.1) (p:=LG s i j) q1;rw[<-q3]at G;rw[K];have H:LG s i j b=false->Ay (some (Step.next (q.1+1,q.2)):Option (Step (Int×List EN) (List EN))) (bf (λ(q:Int×List EN)=>0<=q.1/\q.1<=d.2.2.2.1.2.1.length/\q.2=(d.2.2.2.1.2.1.take q.1.toNat).filter (LG s i j)) (λq=>((d.2.2.2.1.2.1.length:Int)-q.1).toNat) ((d.2.2.2.1.2.1.length:Int)-q.1).toNat λl=>l=d.2.2.2.1.2.1.filter (LG s i j)):=λt=>Ay.next ⟨by dsimp only;omega,by dsimp only;omega,by dsimp only;rw[o,t,q3];simp⟩ (by dsimp only;omega)
    refine AB Bv λA v=>?_;have y:cw b=A:=by
     unfold cw;cases A with
     |true=>rcases v.1 rfl with q|q<;>simp[q]
     |false=>
      have: ¬(b.2.1=1\/b.2.1=2):=λq=>by have:=v.2 q;cases this
      simp only[not_or]at this;simp[this.1,this.2]
    refine AF (λf=>?_) (λf=>H (by unfold LG;rw[y,f];rfl));refine AQ (λm=>?_) (λm=>H (by unfold LG;rw[beq_eq_false_iff_ne.2 m];simp));refine AC (λg=>?_) (λg=>H (by unfold LG;rw[decide_eq_false g];simp));refine AB (P:=λl=>l=(d.2.2.2.1.2.1.take (q.1+1).toNat).filter (LG s i j)) ?_ λad D=>Ay.next ⟨by dsimp only;omega,by dsimp only;omega,D⟩ (by dsimp only;omega)
    refine AC (λk=>?_) (λk=>AA ?_);refine AB (Ac (by simp;omega)) λr hr=>AA ?_;have t:LG s i j b=true:=by unfold LG;rw[y,f,beq_iff_eq.2 m,decide_eq_true g,decide_eq_true k];rfl
    rw[hr.1,o,t,q3];simp;have t:LG s i j b=false:=by unfold LG;rw[decide_eq_false k];simp
    rw[o,t,q3];simp
   simp only[len]at e;rw[q3,Cb (by omega)]
  ·subst t;rw[show((0:Int) !=0)=false from rfl,cond_false,vM (by have:=hl4 (p:=s) (i:=i) (j:=j) a5;omega),AI,Ea,cond_false];exact Ay.next ⟨by omega,by omega⟩ (by omega)
end Go.Pm
