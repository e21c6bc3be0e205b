/- What these functions answer, part 12. Texts of the folder wip, laid in few files with shorter names by a program (wip/tools/pack.py); nothing is assumed. -/
import Derived.Test.YtacnadmajkjfbaaGreatK11
noncomputable section
set_option linter.unusedVariables false
set_option linter.unusedSimpArgs false
set_option linter.unusedSectionVars false
set_option linter.defProp false
set_option linter.unnecessarySimpa false
set_option linter.deprecated false
namespace Go.Pm
open Go Go.Ab
set_option maxHeartbeats 400000
def S2(v1:List AU×List Int×List Bool)(i n:Nat):List NE:=((v1.1.zip v1.2.1).drop i).take n
def pP{a:List AU×List Int×List Bool}{i n k:Nat}{e:NE}(b:k<n):(S2 a i n)[k]? =some e↔a.1[i+k]? =some e.1/\a.2.1[i+k]? =some e.2:=by unfold S2;grind
def ym{x:AK×Int}{a:List AU×List Int×List Bool}{i n j:Nat}{f:BB}{z:AK}{w:List BB×List Int×Int×Int×Int}(hn:x.2=n)(u:n<=8)(A:a.2.1.length=a.1.length)(v:i+n<=a.1.length)(t:a.1.length<=4096)(m:x.1.2.2.1[j]? =some f):Ay (Ad (Nd x a ((i:Int),z) ((j:Int),w)) (false,(i:Int))) λr=>r=(S2 a i n).any λe=>e.2==f.2.1:=by
 have p:(S2 a i n).length=n:=by unfold S2;rw[List.length_take,List.length_drop,List.length_zip];omega
 have d:ix x.1.2.2.1 (j:Int)=some f:=by unfold ix;rw[if_pos (by omega),Int.toNat_natCast,m]
 refine Ha (λ(s:Bool×Int)=> ∃k:Nat,s=(((S2 a i n).take k).any (λe=>e.2==f.2.1),((i+k:Nat):Int))/\k<=n) (λs=>i+n-s.2.toNat) ⟨0,by simp,Bv _⟩ ?_;rintro s ⟨k,rfl,y⟩;unfold Nd;dsimp only;rw[hn,AW (x:=(i:Int)+(n:Int)),AW (x:=((i+k:Nat):Int)+1)];refine AC (λl=>?_) (λl=>Ay.done (by grind));have b:k<n:=by omega
 have hr:a.1[i+k]? =some (a.1[i+k]'(by omega)):=Az (by omega);have h:a.2.1[i+k]? =some (a.2.1[i+k]'(by omega)):=Az (by omega);have o:=(pP (e:=(a.1[i+k]'(by omega),a.2.1[i+k]'(by omega))) b).2 ⟨hr,h⟩;have c:ix a.2.1 ((i+k:Nat):Int)=some (a.2.1[i+k]'(by omega)):=by unfold ix;rw[if_pos (by omega),Int.toNat_natCast,h]
 have q:(S2 a i n).take (k+1)=(S2 a i n).take k++[(a.1[i+k]'(by omega),a.2.1[i+k]'(by omega))]:=by rw[Dq,o];rfl
 refine AI (λg=>Ay.next ⟨k+1,?_,b⟩ (by grind)) (λg=>?_);grind
 ·rw[c,AF,d,AF];refine Ay.next ⟨k+1,?_,b⟩ (by omega)
  rw[q,List.any_append,g,Bool.false_or];refine HD ?_ (by grind);dsimp only;rw[List.any_cons,List.any_nil,Bool.or_false]
def yl{x:AK×Int}{a:List AU×List Int×List Bool}{i n:Nat}{z:AK}(hn:x.2=n)(m:n<=8)(u:a.2.1.length=a.1.length)(p:i+n<=a.1.length)(l:a.1.length<=4096)(y:x.1.2.2.1.length<=256):Ay (Ad (Nc x a ((i:Int),z)) (0,([],(x.1.1,(x.1.2.1,x.1.2.2.2))))) λr=>r=(XI (S2 a i n) x.1.2.2.1,(x.1.1,(x.1.2.1,x.1.2.2.2))):=by
 refine Ha (λ(q:Int×List BB×List Int×Int×Int×Int)=> ∃j:Nat,q=((j:Int),(XI (S2 a i n) (x.1.2.2.1.take j),(x.1.1,(x.1.2.1,x.1.2.2.2))))/\j<=x.1.2.2.1.length) (λq=>x.1.2.2.1.length-q.1.toNat) ⟨0,rfl,Bv _⟩ ?_;rintro q ⟨j,rfl,A⟩;unfold Nc;simp only[len];rw[AW];refine AC (λo=>?_) (λo=>Ay.done (by grind));have d:x.1.2.2.1[j]? =some (x.1.2.2.1[j]'(by omega)):=Az (by omega);have e:ix x.1.2.2.1 (j:Int)=some (x.1.2.2.1[j]'(by omega)):=by unfold ix;rw[if_pos (by omega),Int.toNat_natCast,d]
 refine AB (ym hn m u p l d) λg k=>?_;have f:XI (S2 a i n) (x.1.2.2.1.take (j+1))=XI (S2 a i n) (x.1.2.2.1.take j)++(if g=true then []else [x.1.2.2.1[j]'(by omega)]):=by rw[Dq,d,JQ];unfold XI;grind
 refine AB (P:=λt=>t=(XI (S2 a i n) (x.1.2.2.1.take (j+1)),(x.1.1,(x.1.2.1,x.1.2.2.2)))) ?_ λw c=>?_;refine AO (λh=>?_) (λh=>AA ?_);rw[e,AF];have s:(XI (S2 a i n) (x.1.2.2.1.take j)).length<=256:=by apply Cv (I6 _ _);rw[CH];omega
 refine AB (Ac (by simp;omega)) λv b=>AA ?_;rw[b.1,f,h,if_neg (by decide)];grind
 ·rw[c];exact Ay.next ⟨j+1,by grind,by omega⟩ (by grind)
def AAU(L:List EN)(x:AK×Int)(r:AK×Bool×Int):Prop:=
 (x.1.2.2.2.2<=1073741824->r.2.2=0)/\(r.2.2=0->(r.2.1=false/\r.1=x.1)\/(r.2.1=true/\AR L r.1/\cJ x.1 r.1/\(AG x.1->AG r.1)/\(∀c,RC x.1 c->RC r.1 c)/\r.1.1=x.1.1/\r.1.2.1=x.1.2.1/\r.1.2.2.2.1=x.1.2.2.2.1/\r.1.2.2.2.2=x.1.2.2.2.2+1/\r.1.2.2.1.length+1<=x.1.2.2.1.length/\x.1.2.2.2.2<=1073741824))
theorem AAs{L:List EN}{x:AK×Int}(hL:Uq L)(h:AR L x.1)(hf:2<=x.2/\x.2<=8):Ay (Lv x) (AAU L x):=by
 have hs:=h.sa;obtain⟨n,hn⟩:=Ea (show 0<=x.2 by omega);have q:x.1.2.2.1.length<=256:=by have:=h.vb.2.2.2.2.2.1;omega
 have al:=h.vb.2.2.2.1;unfold Lv;obtain⟨v0,V,W⟩:=qO (x:=x.1);have Y:=W.2 h.vb;subst Y;rw[V,AF,EK,cond_false,decide_eq_false (by omega),cond_false,decide_eq_false (by omega),cond_false];refine AB (wQ h) λa p=>?_;obtain⟨⟨t1,t2,t3,t4⟩,hw⟩:=p;have t: ∀e∈EE x.1,VR e.1/\ ∀y∈e.1.2.2.2.2.2,y∈L:=λe v=>by obtain⟨f,_,g,_,g2,_⟩:=h.mem v;exact⟨g.2.2.1,λy hy=>((g2.mem y).1 hy).1⟩
 refine AB (P:=λr=>(∃z,r= .inr z)\/ ∃u,r= .inl u/\AAU L x (u.2.2,(u.1,u.2.1))) ?_ λr hr=>?_
 ·refine Ha (λ(s:Int×AK)=>0<=s.1/\s.1<=a.1.length) (λ(s:Int×AK)=>((a.1.length:Int)-s.1).toNat) ⟨Af _,by dsimp only;omega⟩ (λs hI=>?_);obtain⟨i',z⟩:=s;obtain⟨E,i2⟩:=hI;dsimp only at E i2;obtain⟨i,rfl⟩:=Ea E;unfold R0;dsimp only;rw[AW (x:=(i:Int)+1) (by omega),AW (x:=(i:Int)+x.2) (by omega)];refine AC (λhc=>?_) (λ_=>Ay.done (.inl ⟨_,rfl⟩));simp only[len]at hc;refine AB (Bo E (by omega) (by omega)) λd h3=>?_;refine AB (Bo E (by omega) (by omega)) λv4 h4=>?_;have l3:=h3.2;have l4:=h4.2;have m: ∀k,k<n->d[k]? =a.1[i+k]? :=λk c=>by rw[h3.1,Pp,if_pos (by omega),Mx,DE]
  have G: ∀k,k<n->v4[k]? =a.2.2[i+k]? :=λk c=>by rw[h4.1,Pp,if_pos (by omega),Mx,DE]
  have A: ∀{k:Nat} {r:AU},d[k]? =some r->k<n:=λ{k r} c=>by have:=F8 c;omega
  have j: ∀(k:Nat) (r:AU),d[k]? =some r->v4[k]? =some true-> ∃id,a.2.1[i+k]? =some id/\(r,id)∈EE x.1:=λk r p h2=>by have c:=A p;rw[m k c]at p;rw[G k c]at h2;have ar:=F8 p;have l:a.2.1[i+k]? =some (a.2.1[i+k]'(by omega)):=Az (by omega);refine⟨_,l,?_⟩;refine hw ((r,a.2.1[i+k]'(by omega)),true) ?_ rfl;refine GB.2 ⟨i+k,?_⟩;rw[jE,jE];exact⟨⟨p,l⟩,h2⟩
  have T:d.length=n:=by omega
  have J:d[0]? =some (d[0]'(by omega)):=Az (by omega);have K:d[d.length-1]? =some (d[d.length-1]'(by omega)):=Az (by omega);generalize d[0]'(by omega)=r0 at J;generalize d[d.length-1]'(by omega)=rn at K;refine AB (zV (x:=(d,v4)) hL (λk r q1 q2=>?_) ⟨by dsimp only;omega,by dsimp only;omega⟩ (by dsimp only;omega) J K) λv5 h5=>?_;obtain⟨id,_,q3⟩:=j k r q1 q2;exact t _ q3;refine AO (λ_=>Ay.next ⟨by dsimp only;omega,by dsimp only;omega⟩ (by dsimp only;omega)) (λU=>?_);obtain⟨w1,lv,es,C,F,w4⟩:=h5 U;dsimp only at F w4;refine AC (λad=>Ay.done (.inr ⟨_,rfl,λhh=>absurd hh (by omega),λhz=>absurd (show(21:Int)=0 from hz) (by decide)⟩)) (λax=>?_);have hi:i+n<=a.1.length:=by omega
  have R:(S2 a i n).length=n:=by unfold S2;rw[List.length_take,List.length_drop,List.length_zip];omega
  have b: ∀(k:Nat) (e:NE),(S2 a i n)[k]? =some e->k<n/\d[k]? =some e.1/\a.2.1[i+k]? =some e.2:=λk e c=>by
   have o:k<n:=by grind
   have:=(pP o).1 c;exact⟨o,by rw[m k o];exact this.1,this.2⟩
  have D: ∀e∈S2 a i n,e∈EE x.1:=λe v=>by obtain⟨k,c⟩:=GB.1 v;obtain⟨k1,w,Z⟩:=b k e c;obtain⟨q1,_⟩:=F k (by omega);obtain⟨id,q2,q3⟩:=j k e.1 w q1;rw[Z]at q2;injection q2 with q2;rw[<-q2]at q3;exact q3
  have O:yZ (S2 a i n) r0.2.2.1 r0.2.2.2.1:=by refine⟨λk e c=>?_,λk e f c hf=>?_⟩;obtain⟨k1,w,Z⟩:=b k e c;obtain⟨_,r,q1,q2,q3,_⟩:=F k (by omega);dsimp only at q1;rw[w]at q1;injection q1 with q1;subst q1;exact⟨q2,q3,(t e (D e (BK c))).1.1.2.1⟩;obtain⟨k1,w,Z⟩:=b k e c;obtain⟨f1,f2,f3⟩:=b (k+1) f hf;obtain⟨_,r,q1,_,_,q2⟩:=F (k+1) (by omega);dsimp only at q1 q2;rw[f2]at q1;injection q1 with q1;subst q1;exact q2 (by omega) e.1 (by rw[fo];exact w)
  have H:(S2 a i n)[0]? =some ((S2 a i n)[0]'(by omega)):=Az (by omega);have I:(S2 a i n)[(S2 a i n).length-1]? =some ((S2 a i n)[(S2 a i n).length-1]'(by omega)):=Az (by omega);generalize (S2 a i n)[0]'(by omega)=m0 at H;generalize (S2 a i n)[(S2 a i n).length-1]'(by omega)=mn at I;have Q:m0.1=r0:=by have:=(b 0 m0 H).2.1;rw[J]at this;exact(Cd this).symm
  have S:mn.1=rn:=by have:=(b _ mn I).2.1;rw[R,<-T,K]at this;exact(Cd this).symm
  refine AB (yl hn (by omega) t1 hi (by omega) q) λa0 M=>?_;subst M;rw[j0 w1,AF];dsimp only;have ap:=rA h D O (by omega);refine AB (Ac (by simp;omega)) λa1 N=>?_;rw[AW (x:=x.1.2.2.2.2+1) (by omega),N.1];have X:=xX (s:=MD v5.1) h D O (by omega) (by omega);have key:=nQ (r:=v5.1) hL h D O (by omega) H I w1 (by rw[C,Q]) (by rw[C,S]) (by rw[C]) (by rw[C]) (λy=>by rw[C];dsimp only;rw[w4];constructor;rintro⟨k,r,q1,q2⟩;have c:=A q1;have B:=q1;rw[m k c]at B;have l:a.2.1[i+k]? =some (a.2.1[i+k]'(by omega)):=Az (by omega);exact⟨(r,_),BK ((pP (e:=(r,a.2.1[i+k]'(by omega))) c).2 ⟨B,l⟩),q2⟩;rintro⟨e,v,q2⟩;obtain⟨k,c⟩:=GB.1 v;exact⟨k,e.1,(b k e c).2.1,q2⟩) rfl X;refine Ay.done (.inr ⟨_,rfl,λ_=>rfl,λ_=>.inr ⟨rfl,key.1,key.2.1,key.2.2.1,key.2.2.2,rfl,rfl,rfl,rfl,?_,by omega⟩⟩);dsimp only;rw[Ai,BU,BQ];omega
 rcases hr with⟨z,rfl⟩|⟨u,rfl,hu⟩;exact BE (AA ⟨λ_=>rfl,λ_=>.inl ⟨rfl,rfl⟩⟩);exact BG (AA hu)
def cJ.refl(a:AK):cJ a a:=λ_ _=>Iff.rfl
def cJ.trans{a b c:AK}(h:cJ a b)(g:cJ b c):cJ a c:=λd n=>(h d n).trans (g d n)
def AAx{L:List EN}{x:AK×Int}{m:Int}(q:Uq L)(h:AR L x.1)(u:2<=x.2/\x.2<=8)(v:SF x.1 m)(w:m<=1073741824):Ay (I0 x) λr=>r.2=0/\AR L r.1/\cJ x.1 r.1/\(AG x.1->AG r.1)/\(∀c,RC x.1 c->RC r.1 c)/\SF r.1 m/\r.1.1=x.1.1/\r.1.2.1=x.1.2.1/\r.1.2.2.2.1=x.1.2.2.2.1:=by
 unfold I0;refine AB (P:=λr=>r.1=0/\AR L r.2/\cJ x.1 r.2/\(AG x.1->AG r.2)/\(∀c,RC x.1 c->RC r.2 c)/\SF r.2 m/\r.2.1=x.1.1/\r.2.2.1=x.1.2.1/\r.2.2.2.2.1=x.1.2.2.2.1) ?_ λr hr=>AA hr;refine Ha (λ(s:AK×AK)=>AR L s.1/\cJ x.1 s.1/\(AG x.1->AG s.1)/\(∀c,RC x.1 c->RC s.1 c)/\SF s.1 m/\s.1.1=x.1.1/\s.1.2.1=x.1.2.1/\s.1.2.2.2.1=x.1.2.2.2.1) (λs=>s.1.2.2.1.length) ⟨h,cJ.refl _,id,λ_=>id,v,rfl,rfl,rfl⟩ (λs p=>?_);obtain⟨e,f,l,n,g,i,j,k⟩:=p;unfold R1;refine AB (AAs (x:=(s.1,x.2)) q e u) λC o=>?_;obtain⟨y,z⟩:=o;have b:s.1.2.2.2.2<=1073741824:=by unfold SF at g;omega
 have d:=y b;refine AL (λt=>absurd d t) (λ_=>?_);rcases z d with⟨q1,q2⟩|⟨q1,q2,q3,A,B,q4,q5,q6,q7,q8,q9⟩
 ·rw[q1,Yb,cond_true];exact Ay.done ⟨rfl,e,f,l,n,g,i,j,k⟩
 ·rw[q1,EK,cond_false];dsimp only at q3 q4 q5 q6 q7 q8;exact Ay.next ⟨q2,f.trans q3,λa=>A (l a),λc a=>B c (n c a),by unfold SF at*;dsimp only;omega,q4.trans i,q5.trans j,q6.trans k⟩ (by dsimp only;omega)
def tf{b:UInt8}{n:Int}(f:0<=n)(k:n<255):G2 ([IntKind.wrap .u8 (((BitVec.toNat ((BitVec.ofInt 8 (b.toNat:Int))^^^(BitVec.ofInt 8 (IntKind.wrap .u8 (wi (1+n)))))):Nat):Int)]:List Int)=[UInt8.ofNat (BitVec.ofNat 8 b.toNat^^^BitVec.ofNat 8 (1+n).toNat).toNat]/\b≠UInt8.ofNat (BitVec.ofNat 8 b.toNat^^^BitVec.ofNat 8 (1+n).toNat).toNat:=by
 obtain⟨m,rfl⟩:=Ea f;have a:wi (1+(m:Int))=((1+m:Nat):Int):=by rw[AW];omega
 have c:IntKind.wrap .u8 ((1+m:Nat):Int)=((1+m:Nat):Int):=by rw[AAQ];omega
 have d:(1+(m:Int)).toNat=1+m:=by omega
 rw[a,c,d,TW,TW];refine⟨?_,λj=>?_⟩;have e:IntKind.wrap .u8 (((BitVec.ofNat 8 b.toNat^^^BitVec.ofNat 8 (1+m)).toNat:Nat):Int)=(((BitVec.ofNat 8 b.toNat^^^BitVec.ofNat 8 (1+m)).toNat:Nat):Int):=by rw[AAQ];omega
 rw[e];rfl;have g:=congrArg UInt8.toNat j;rw[Vh,TU (by omega)]at g;have h:BitVec.ofNat 8 b.toNat=BitVec.ofNat 8 b.toNat^^^BitVec.ofNat 8 (1+m):=by grind
 have i:=congrArg (BitVec.ofNat 8 b.toNat^^^ ·) h;rw[<-YZ,VH,Ya]at i;grind
def wO{b:AT}{s:Bd}(h:CX b)(A:s.length≠0)(B:s.length<=1099511627775):Ay (Fw b s) λr=>CX r.2/\AAV s r.1/\r.1.length<=s.length+1:=by
 unfold Fw;simp only[len];refine AQ (λv=>absurd v (by omega)) (λ_=>AB (Aa h (by omega)) λE p=>?_);obtain⟨o,k0,k1⟩:=p;obtain⟨k,u⟩:=Ea k0;refine AB (Aa o (by decide)) λF f=>?_;rw[u,AW];have i:k<s.length:=by omega
 have a:s=s.take k++s[k]::s.drop (k+1):=by simp_all
 have m:R9 s 0 (k:Int)=some (s.take k):=by unfold R9;rw[if_pos (by omega)];rfl
 have n:R9 s ((k:Int)+1) (s.length:Int)=some (s.drop (k+1)):=by unfold R9;rw[if_pos (by omega),show((k:Int)+1).toNat=k+1 by omega];exact congrArg some (CR (by grind))
 have C:(s.take k).length=k:=by grind
 have D:(s.drop (k+1)).length=s.length-(k+1):=Gt;refine AQ (λ_=>?_) (λ_=>?_);rw[m,AF,n,AF];refine AB (Ca (by omega)) λG q=>AA ⟨f.1,.less _ _ _ a q.1,by grind⟩;refine AQ (λ_=>?_) (λ_=>?_);refine AB (Aa f.1 (by decide)) λz t=>AB (Ca (by rw[LR];simp;omega)) λH l=>AA ⟨t.1,?_,?_⟩;exact .more s [] (UInt8.ofNat (IntKind.wrap .u8 z.1).toNat) (Do s).symm (by rw[l.1];rfl);have:=l.2;rw[LR]at this;simp only[BU,BQ]at this;dsimp only;omega;rw[m,AF];have g:six s (k:Int)=some ((s[k].toNat:Nat):Int):=by unfold six;rw[if_pos (by omega),DE,Az i];rfl
 rw[g,AF,n,AF];refine AB (Aa f.1 (by decide)) λw c=>?_;obtain⟨q1,q2⟩:=tf (b:=s[k]) c.2.1 (by omega);rw[q1];refine AB (Ca (by simp;omega)) λx d=>?_;have j:=d.2;simp only[BU,BQ]at j;refine AB (Ca (by omega)) λy e=>AA ⟨c.1,.other _ _ _ _ q2 a ?_,by grind⟩;rw[e.1,d.1,Ax];rfl
theorem sG{a:AK}{b:AT}(B:AG a)(h:CX b)(M:a.2.2.1.length<=1000000):Ay (Fj b a.2.2.1) λr=>CX r.2/\ ∀f∈r.1,f∈a.2.2.1\/Bad f:=by
 unfold Fj;generalize E:a.2.2.1=x at*;refine AQ (λ_=>AA ⟨h,λf n=>by simp at n⟩) (λg=>?_);simp only[len]at g;refine AB (Aa h (by grind)) λH t=>?_;obtain⟨p,c,q⟩:=t;simp only[len]at q;rw[AW (x:=H.1+1) (by omega)];refine AB (Aa p (by decide)) λN k=>AQ (λ_=>?_) (λ_=>?_);refine AB (Bo (Af _) c (by omega)) λO v=>AB (Bo (by omega) (by grind) (by grind)) λP y=>?_;have l2:=v.2;have F:=y.2;simp only[len]at F;refine AB (Ac (by simp;omega)) λQ z=>?_;have G:=z.2.1;simp only[BQ]at G;refine AB (Ac (by omega)) λR K=>AA ⟨k.1,λf n=>.inl ?_⟩;grind;refine AB (Ac (by simp;omega)) λS A=>?_;have j:=A.1;rw[CC]at j;subst j;refine AB (AE c (by omega)) λT _=>AB (AE c (by omega)) λo L=>?_;obtain⟨r,hr⟩:=B o (by grind);have D:=hr.size;have i:o.2.2.length≠0:=by rw[hr.2.1];unfold MD;rw[Ai,F5];omega
 refine AB (wO k.1 i (by omega)) λU l=>AB (AE c (by omega)) λI _=>AB (AE c (by omega)) λJ u=>AA ⟨l.1,λf e=>?_⟩;rcases Nv e with w|w;grind;refine .inr ?_;rw[w];refine⟨by grind,λs C m=>?_⟩;dsimp only at m;have d:=l.2.1;rw[m,hr.2.1]at d;exact xc hr.2.2.1.wr C d
def uw{L:List EN}{a:AK}{b:AT}{m:Int}(h:AR L a)(p:AG a)(k:CX b)(J:SF a m):Ay (Fj b a.2.2.1) λr=>CX r.2/\AR L (a.1,(a.2.1,(r.1,a.2.2.2)))/\(∀c,RC a c->RC (a.1,(a.2.1,(r.1,a.2.2.2))) c)/\SF (a.1,(a.2.1,(r.1,a.2.2.2))) m:=by
 obtain⟨B,C,D,E,F,K,G⟩:=id h.vb;refine((ux G k (by omega) h.sa.2.2).and (sG p k (by omega))).mono λr hr=>?_;obtain⟨⟨H,M,I,N⟩,_,u⟩:=hr;have i:VB (a.1,(a.2.1,(r.1,a.2.2.2))):=⟨B,C,D,E,F,by dsimp only;omega,I⟩
 have g: ∀e∈EE (a.1,(a.2.1,(r.1,a.2.2.2))),e∈EE a:=λe o=>by unfold EE at o;obtain⟨f,d,j⟩:=L7.1 o;rcases u f d with d|d;obtain⟨s,q⟩:=p f d;have n:Good (a.1,(a.2.1,(r.1,a.2.2.2))) f s:=q.congr rfl rfl;rw[n.intR i.1]at j;injection j with j;subst j;exact R3 h.vb.1 d q;rw[d.intR i.1]at j;cases j
 refine⟨H,⟨i,λf d=>?_,λx l y v=>h.dis x (g x l) y (g y v)⟩,λc k t=>?_,by unfold SF at*;dsimp only;omega⟩;rotate_left;exact Cv (cF _ ((EE a).filter λe=>e.1.2.2.1==t) ((Pk i).filter _) λx l=>BX.2 ⟨g x (BX.1 l).1,(BX.1 l).2⟩) (k t);rcases u f d with d|d;exact(h.files f d).imp id λ⟨s,w,z,A⟩=>⟨s,w.congr rfl rfl,z,A⟩
 exact .inl d
def AAr{L:List EN}{x:Int×List Int}(h:BD x.1 x.2):Ay (Ff x) λr=>AR L r.1/\AG r.1/\RC r.1 0/\SF r.1 1/\r.1.2.1=x.1/\r.1.2.2.2.1=1:=by
 have a:Ay (Ff x) λr=>r.2=0->r.1.2.2.1=[]/\r.1.2.2.2.2=1:=by refine AB aL λo c=>AO (λk=>AA λm=>?_) (λ_=>?_);grind;have l:=h.2.2.2.1;exact AB (Ac (by simp;omega)) λp b=>AA λ_=>⟨rfl,rfl⟩
 refine((wJ h).and a).mono λr hr=>?_;obtain⟨⟨c,b,d,g⟩,j⟩:=hr;refine⟨⟨b,λf a=>?_,λe i=>?_⟩,λf a=>?_,λn=>?_,?_,d,g⟩;grind;unfold EE at i;grind;grind;unfold EE;grind;unfold SF;grind
def AX(L:List EN)(n d m:Int)(a:AK):Prop:=AR L a/\AG a/\(∃c:Nat,RC a c/\100*(c:Int)<=m+99)/\SF a m/\a.2.1=n/\a.2.2.2.1<=d+1
def AX.step{n m:Int}{a:AK}{l:Ag}{c:Int}(j:D2 l)(h:AX l.2.1 n l.2.2 m a):Ay (ET (a,(l,c))) λr=>r.2=0->AX l.2.1 n l.2.2 (m+100) r.1:=by obtain⟨b,d,⟨k,g,i⟩,e,f,q⟩:=h;refine(yo (x:=(a,(l,c))) b j e).mono λr hr o=>?_;obtain⟨q1,q2,p,q3,q4,q5⟩:=hr o;exact⟨q1,q2 d,⟨k+1,p k g,by omega⟩,by unfold SF at*;omega,q4.trans f,by grind⟩
def AX.mono{L:List EN}{n d m k:Int}{a:AK}(h:AX L n d m a)(o:m<=k):AX L n d k a:=by obtain⟨b,e,⟨c,i,j⟩,l,f,g⟩:=h;exact⟨b,e,⟨c,i,by omega⟩,by unfold SF at*;omega,f,g⟩
def AX.tidy{L:List EN}{n d m:Int}{a:AK}{c:Int}(j:Uq L)(h:AX L n d m a)(p:m<=1073741824)(l:2<=c/\c<=8):Ay (I0 (a,c)) λr=>AX L n d m r.1:=by obtain⟨e,f,⟨k,o,b⟩,g,i,s⟩:=h;refine(AAx (x:=(a,c)) j e l g p).mono λr hr=>?_;obtain⟨q0,q1,q2,q3,q,q4,q5,q6,q7⟩:=hr;exact⟨q1,q3 f,⟨k,q k o,b⟩,q4,q6.trans i,by grind⟩
theorem sF{b:AT}{x:Int×Ag}(h:CX b)(G:1<=x.1/\x.1<=64)(f:D2 x.2):Ay (N9 b x) λr=>CX r.2/\AX x.2.2.1 x.1 x.2.2.2 901 r.1:=by
 have F:=f.uq;have Y:=f.1;have Z:=f.2.2.2.1;refine AB (uu h G) λv0 p=>AB (AAr (L:=x.2.2.1) p.2) λN w=>?_;obtain⟨H,I,M,J,K,s5⟩:=w;have D:AX x.2.2.1 x.1 x.2.2.2 1 N.1:=⟨H,I,⟨0,M,by decide⟩,J,K,by omega⟩
 refine AB (Aa p.1 (by decide)) λv2 y=>?_;obtain⟨u,v,X⟩:=y;refine AB (P:=λr=>CX r.1/\AX x.2.2.1 x.1 x.2.2.2 801 r.2) ?_ λR c=>?_
 ·refine Ha (λ(s:Int×AT×AK)=>0<=s.1/\s.1<=8/\CX s.2.1/\AX x.2.2.1 x.1 x.2.2.2 (801-100*s.1) s.2.2) (λ(s:Int×AT×AK)=>s.1.toNat) ⟨v,by grind,u,D.mono (by grind)⟩ (λs E=>?_);obtain⟨i1,i2,t,o⟩:=E;unfold QB;have e:=AW (x:=s.1-1) (by omega);rw[e];refine AC (λhc=>AB (Aa t (by decide)) λv4 z=>AB (o.step f) λv5 A=>AB (P:=λa=>AX x.2.2.1 x.1 x.2.2.2 (801-100*(s.1-1)) a) (AQ (λg=>AA ((A g).mono (by omega))) (λ_=>AA (o.mono (by omega)))) λv6 n=>AB (Aa z.1 (by decide)) λv7 q=>?_) (λ_=>Ay.done ⟨t,o.mono (by omega)⟩);refine AB (P:=λr=>CX r.1/\AX x.2.2.1 x.1 x.2.2.2 (801-100*(s.1-1)) r.2) ?_ λQ d=>Ay.next ⟨by grind,by grind,d.1,d.2⟩ (by grind)
  refine AI (λ_=>AB (Aa q.1 (by decide)) λW B=>?_) (λ_=>AA ⟨q.1,n⟩);rw[AW (x:=2+W.1) (by omega)];refine AB (n.tidy F (by omega) ⟨by omega,by omega⟩) λv9 C=>?_;exact AB (P:=λa=>AX x.2.2.1 x.1 x.2.2.2 (801-100*(s.1-1)) a) (AQ (λg=>AA C) (λ_=>AA n)) λO i=>AA ⟨B.1,i⟩
 exact AB (Aa c.1 (by decide)) λS j=>AB (P:=λa=>AX x.2.2.1 x.1 x.2.2.2 901 a) (AI (λ_=>AB (c.2.step f) λT k=>AB (P:=λa=>AX x.2.2.1 x.1 x.2.2.2 901 a) (AQ (λg=>AA ((k g).mono (by decide))) (λ_=>AA (c.2.mono (by decide)))) λU l=>AA l) (λ_=>AA (c.2.mono (by decide)))) λV m=>AA ⟨j.1,m⟩
set_option maxHeartbeats 1000000
def wL{x:AK}(h:VB x)(e:x.2.2.1=[]):Ay (GP x) λr=>r.1=[]:=by unfold GP;refine AB (J9 h) λg _=>?_;refine AO (λ_=>AA rfl) (λ_=>?_);refine AB (P:=λr=>r=[]) ?_ λi c=>?_;refine AM (λ(s:Int×NL)=>s=(0,[])) (λ_=>0) rfl (λs a=>?_);subst a;unfold N5;rw[e];exact AC (λb=>absurd b (by simp[len])) (λ_=>AA rfl);subst c;refine AB (ABk (by simp)) λj d=>pY d ?_;refine AB (P:=λ(r:List AU×List Int)=>r.1=[]) ?_ λv f=>AA f;refine AM (λ(s:Int×Int×Int×List AU×List Int)=>s.1=0/\s.2.2.2.1=[]) (λ_=>0) ⟨rfl,rfl⟩ (λs a=>?_);unfold N6;rw[a.1];exact AC (λb=>absurd b (by simp[len])) (λ_=>AA a.2)
def vt{x:AK×Ag×Int}(h:VB x.1)(k:x.1.2.2.1=[])(b:x.2.1=(1,([],0))):Ay (JT x) λr=>r=[(1,0)]:=by
 have vl:D2 x.2.1:=by rw[b];exact⟨by decide,by decide,by decide,by decide,by decide,λi e j=>by simp at j⟩
 unfold JT;refine AB (Th vl) λm a=>?_;rw[b]at a⊢;have c:m=0:=a;subst c;refine AB (iG (by exact h)) λn _=>?_;refine AO (λ_=>AA rfl) (λ_=>?_);refine AB (wL h k) λo d=>?_;refine AB (P:=λr=>r=[(1,0)]) ?_ λv l=>AA l;refine AM (λ(s:Int×List EM)=>s=(0,[(1,0)])) (λ_=>0) rfl (λs f=>?_);subst f;unfold N8;rw[d];exact AC (λg=>absurd g (by simp[len])) (λ_=>AA rfl)
def vK{j:Int}:Ay (HA ([(1,0)],j)) λr=>r=j:=by
 unfold HA;refine AB (P:=λ(r:Int)=>r=j) ?_ λv c=>AA c;refine AM (λ(s:Int)=>s=j) (λ_=>0) rfl (λs i=>?_);subst i;unfold RS;refine AB (P:=λ(r:(Int×Int)⊕ Int)=>r= .inr s) ?_ λr hr=>A3 (λu a=>by rw[hr]at a;cases a) (λu a=>AA (by rw[hr]at a;cases a;rfl));refine AM (λ(t:Int×Int)=>0<=t.1/\t.1<=1/\t.2=s) (λ(t:Int×Int)=>((1:Int)-t.1).toNat) ⟨Af _,by dsimp only;omega,rfl⟩ (λt l=>?_);obtain⟨n,o,d⟩:=l;unfold N7;refine AC (λb=>?_) (λ_=>AA (by rw[d]));simp only[len,BU,BQ]at b;have e:=AW (x:=t.1+1);rw[e];refine AB (AE n (by simp only[BU,BQ];omega)) λp g=>?_;have f:=A2.1 g.2;subst f;have k:Ay (GD ((1,0),t.2)) λr=>r=false:=by unfold GD;exact AC (λb=>AA (decide_eq_false (by dsimp only at b⊢;omega))) (λ_=>AA rfl)
 refine AB (P:=λr=>r=(false,t.2)) ?_ λq h=>?_;unfold O0;exact AB k λv c=>AA (by rw[c]);subst h;refine AI (λm=>by cases m) (λ_=>AA ⟨⟨by dsimp only;omega,by dsimp only;omega,d⟩,by dsimp only;omega⟩)
def kI{a:AK}{i j:Int}(h:VB a)(m:a.2.2.1=[])(o:1<a.2.1)(n:0<=i)(d:i<=j):Gp (a,((1,([],0)),(1,(i,j))))=some (decide (j<=i)):=by
 have vl:D2 (1,([],0)):=⟨by decide,by decide,by decide,by decide,by decide,λi e l=>by simp at l⟩
 obtain⟨r,hr,g⟩:=Sd (x:=(a,((1,([],0)),(1,i)))) h vl ⟨Int.zero_le_ofNat 1,o,n⟩;obtain⟨s,p,k⟩:=vt (x:=(a,((1,([],0)),1))) h m rfl;obtain⟨f,b,c⟩:=vK (j:=j);subst g k c;unfold Gp;dsimp only;rw[hr,p];show(bif (decide (i<=f))then Option.bind (HA ([(1,0)],f)) (λq=>some (decide (q<=i)))else some false)=_;rw[b,decide_eq_true d];rfl
def yr{x:Unit}:Ay (KW x) λr=>r=true:=by
 have g:BD 2 [0]:=⟨by decide,by decide,by decide,by decide,rfl,λi a b p c k=>by simp at c k,λa c=>by simp at c;omega⟩
 have m:Ay (Ff (2,([0]:List Int))) λr=>r.1.2.2.1=[]:=by unfold Ff;refine AB aL λf d=>?_;exact AO (λo=>AA rfl) (λ_=>AB (Ac (by simp)) λn _=>AA rfl)
 unfold KW;refine AB ((wJ (x:=(2,[0])) g).and m) λf d=>?_;obtain⟨⟨_,a1,a2,_⟩,a3⟩:=d;refine AB On λn h=>?_;subst h;have e:1<f.1.2.1:=by rw[a2];decide
 rw[kI a1 a3 e (by decide) (by decide)];apply BF;refine AI (λ_=>?_) (λl=>by cases l);refine AB On λq j=>?_;subst j;rw[kI a1 a3 e (by decide) (by decide)];exact AA rfl
def wN{n p:Int}{l:List Int}(h:BD n l):Ay (FE (l,p)) λr=>0<=r.1/\r.1<=l.length/\(∀(i:Nat) (v:Int),(i:Int)<r.1->l[i]? =some v->v<p)/\(∀(i:Nat) (v:Int),r.1<=(i:Int)->l[i]? =some v->p<=v)/\(r.2=true->l[r.1.toNat]? =some p)/\(r.2=false-> ∀v,l[r.1.toNat]? =some v->p<v):=by
 have u:=h.2.2.2.1;refine AB (P:=λ(r:Int)=>0<=r/\r<=l.length/\(∀(i:Nat) (v:Int),(i:Int)<r->l[i]? =some v->v<p)/\ ∀(i:Nat) (v:Int),r<=(i:Int)->l[i]? =some v->p<=v) ?_ λK w=>?_
 ·refine Ha (λ(s:Int×Int)=>0<=s.1/\s.1<=s.2/\s.2<=l.length/\(∀(i:Nat) (v:Int),(i:Int)<s.1->l[i]? =some v->v<p)/\ ∀(i:Nat) (v:Int),s.2<=(i:Int)->l[i]? =some v->p<=v) (λ(s:Int×Int)=>(s.2-s.1).toNat) ⟨Af _,by grind,by grind,λi v e=>by grind,λi v e b=>by grind⟩ (λs z=>?_);obtain⟨o,H,D,E,F⟩:=z;unfold Hr;rw[gO o];refine AC (λa=>?_) (λa=>Ay.done ?_)
  ·refine AB (AE (by omega) (by grind)) λG g=>?_;refine AB Tg λI k=>?_;have t:=AW (x:=(s.1+s.2)/2+1);rw[t];refine AB (P:=λ(q:Int×Int)=>(0<=q.1/\q.1<=q.2/\q.2<=(l.length:Int)/\(∀(i:Nat) (v:Int),(i:Int)<q.1->l[i]? =some v->v<p)/\ ∀(i:Nat) (v:Int),q.2<=(i:Int)->l[i]? =some v->p<=v)/\(q.2-q.1).toNat<(s.2-s.1).toNat) ?_ λJ m=>Ay.next m.1 m.2
   refine AI (λC=>AA ⟨⟨by grind,by grind,D,λi v e b=>?_,F⟩,by grind⟩) (λA=>AA ⟨⟨o,by omega,by omega,E,λi v e b=>?_⟩,by omega⟩);have f:=k.1 C;have:=h.le (i:=i) (j:=((s.1+s.2)/2).toNat) (by omega) b g.1;omega;have f: ¬G<p:=λq=>by have:=k.2 q;rw[A]at this;cases this
   have:=h.le (i:=((s.1+s.2)/2).toNat) (j:=i) (by omega) g.1 b;omega
  grind
 obtain⟨a1,a2,a3,a4⟩:=w;refine AC (λa=>?_) (λa=>AA ⟨a1,a2,a3,a4,λc=>(by cases c),λ_ v b=>?_⟩);simp only[len]at a;refine AB (AE a1 a) λL y=>?_;refine AQ (λd=>AA ⟨a1,a2,a3,a4,λ_=>by dsimp only;rw[y.1,d],λc=>(by cases c)⟩) (λB=>?_);refine AB (AE a1 a) λM _=>?_;refine AI (λc=>?_) (λ_=>AA ⟨a1,a2,a3,a4,λc=>(by cases c),λ_ v b=>?_⟩);grind;grind;grind
def fb(a:AK)(p lo hi:Int):Prop:= ∃i:Nat,a.1[i]? =some lo/\hi=nG a i/\lo<=p/\p<=hi
def wK{a:AK}{p:Int}(h:VB a)(B:0<=p/\p<a.2.1): ∃c d,Es (a,p)=some (c,(d,true))/\fb a p c d:=by
 have key:Ay (Es (a,p)) λr=>r.2.2=true/\fb a p r.1 r.2.1:=by
  unfold Es;dsimp only;refine AB (J9 h) λI l=>?_;rw[l,EK,cond_false,decide_eq_false (by omega),cond_false,decide_eq_false (by omega),cond_false];refine AB (wN h.1) λb m=>?_;obtain⟨F,G,x,H,y,z⟩:=m;have n:=h.1.2.2.2.1;have u:=h.1.2.2.2.2.1;refine AB (P:=λk:Int=> ∃(i:Nat) (c:Int),k=i/\a.1[i]? =some c/\c<=p/\ ∀w,a.1[i+1]? =some w->p<w) ?_ λk q=>?_;refine AO (λs=>AA ?_) (λt=>AA ?_);have g:0<b.1:=by refine RZ λA=>?_;have:=z s 0 (by rw[show b.1.toNat=0 by omega];exact u);omega
  rw[AW];have d:b.1.toNat-1<a.1.length:=by omega
  refine⟨b.1.toNat-1,a.1[b.1.toNat-1],by omega,Az d,?_,λw e=>?_⟩;have:=x (b.1.toNat-1) _ (by omega) (Az d);omega;grind;have f:=y t;refine⟨b.1.toNat,p,by omega,f,Af _,λw e=>?_⟩;exact h.1.lt 0 b.1.toNat p w f e;obtain⟨i,c,rfl,j,v,C⟩:=q;rw[qN h.1 j,AF];refine AA ⟨rfl,i,j,rfl,v,?_⟩;unfold nG;cases e:a.1[i+1]? with
  |none=>grind
  |some w=>grind
 obtain⟨⟨c,d,o⟩,k1,D,E⟩:=key;grind
def fb.uniq{a b:AK}{p l1 l2 f g:Int}(h:BD a.2.1 a.1)(d:b.1=a.1)(e:b.2.1=a.2.1)(m:fb a p l1 f)(n:fb b p l2 g):l1=l2:=by
 obtain⟨i,s,t,u,v⟩:=m;obtain⟨j,w,z,A,B⟩:=n;have o:nG b j=nG a j:=by unfold nG;rw[d,e]
 have key: ∀{i j:Nat} {x y:Int},a.1[i]? =some x->a.1[j]? =some y->i<j->nG a i<y:=λ{i j x y} q c k=>by have r:=F8 c;have l:a.1[i+1]? =some (a.1[i+1]'(by omega)):=Az (by omega);have:=h.le (by omega:i+1<=j) l c;unfold nG;grind
 grind
def ABy(P:Int->Prop)(j fl:Int):Prop:=0<=fl/\fl<=j/\(∀n,fl<n->n<=j->P n)/\(fl=0\/ ¬P fl)
structure W4(L:List EN)(l:Ag):Prop where
 vl:D2 l
 sorted:L.Pairwise λx y=>x.1<y.1
 tail: ∀e,e∈l.2.1↔e∈L/\l.1<=e.1/\e.1<=l.1+l.2.1.length-1
 len:L.length<=4096
def wG{B:Nat}{L:List EN}{a:AK}{l:Ag}{p i j:Int}(q:CP B)(D:B≤16777216)(v:j-i≤B)(t:0≤i)(F:i≤j)(E:j≤1099511627776)(h:AR L a)(w:W4 L l)(y:0≤p∧p<a.2.1):
  ∃o t d,fb a p o t/\ABy (wx a l o) j d/\Gp (a,(l,(p,(i,j))))=some (decide (d<=i))/\Ay (Jj (a,(l,(p,(i,j))))) λr=>(d>i/\r=([],42))\/(d<=i/\((cI i (L.filter (QP p i j))/\r=(L.filter (QP p i j),0))\/(¬cI i (L.filter (QP p i j))/\r=([],13)))):=by
 obtain⟨o,u,x,n⟩:=wK h.vb y;obtain⟨k,k1,G,H,I⟩:=id n;obtain⟨d,z,C,A⟩:=AAp q D v t F E h.vb h.ds w.vl y x rfl w.sorted w.tail (λe s=>by
  obtain⟨f,_,_,_,g,_⟩:=h.mem s;exact g) h.dis (λe s m=>by
  obtain⟨f,_,g,_⟩:=h.mem s;have c:e.1.2.2.1=o:=m;have b:=g.2.2.2;rw[c]at b;have:=b.uniq h.vb.1 ⟨k,k1,G⟩;exact⟨H,by omega⟩)
 exact⟨o,u,d,n,z,C,A⟩
def D2.sorted{l:Ag}(h:D2 l):l.2.1.Pairwise λx y=>x.1<y.1:=by obtain⟨l1,l2,a,b,c,d⟩:=h;rw[J7];grind
def kw{l:Ag}(h:D2 l):W4 l.2.1 l:=⟨h,h.sorted,λe=>⟨λa=>⟨a,by obtain⟨k,b⟩:=GB.1 a;have:=(h.2.2.2.2.2 k e b).1;have:=F8 b;omega⟩,λa=>a.1⟩,h.2.2.1⟩
def ABw{l:Ag}{f:Int}(h:D2 l)(o:l.2.2=l.1+l.2.1.length-1)(j:l.1<=f)(m:f<=l.2.2+1)(n:f<=1099511627776):Ay (JZ (l,f)) λr=>W4 l.2.1 r.1/\r.1.1=f/\r.1.2.2=l.2.2:=by
 have p:Ay (JZ (l,f)) λr=>r.2=0->r.1=(f,(l.2.1.drop (f-l.1).toNat,l.2.2)):=by obtain⟨a1,a2,a3,a4,a5,a6⟩:=id h;refine AB Br λv w=>?_;refine AO (λ_=>AA λa=>absurd (show(26:Int)=0 from a) (by decide)) (λ_=>?_);refine AC (λ_=>AA λa=>absurd (show(1:Int)=0 from a) (by decide)) (λ_=>?_);refine AC (λ_=>AA λa=>absurd (show(1:Int)=0 from a) (by decide)) (λ_=>?_);refine AC (λ_=>AA λa=>absurd (show(1:Int)=0 from a) (by decide)) (λ_=>?_);refine AC (λ_=>AA λa=>absurd (show(15:Int)=0 from a) (by decide)) (λ_=>?_);rw[AW (x:=f-l.1)];refine AB (Bo (by omega) (by grind) (by grind)) λB b=>?_;have l2:=b.2;simp only[len]at l2;refine AB (Ac (by simp;omega)) λC d=>AA λ_=>?_;rw[d.1,CC,b.1,CR (by grind)]
 refine((cw (x:=(l,f)) h o j m n).and p).mono λr hr=>?_;obtain⟨⟨s,t,u⟩,c⟩:=hr;have c:=c s;refine⟨⟨t,h.sorted,λe=>?_,h.2.2.1⟩,u,by rw[c]⟩;rw[c];obtain⟨l1,l2,y,z,A,q⟩:=h;rw[GB,GB];constructor;grind;rintro⟨⟨k,i⟩,g,_⟩;have:=(q _ e i).1;exact⟨k-(f-l.1).toNat,by rw[Mx,show(f-l.1).toNat+(k-(f-l.1).toNat)=k by omega];exact i⟩
def AAC{b:AT}(h:CX b):Ay (KX b ()) λr=>1<=r.1/\r.1<=4/\r.2.1.2.1=r.1/\AR r.2.2.2.1.2.1 r.2.1/\RC r.2.1 10/\SF r.2.1 1000/\W4 r.2.2.2.1.2.1 r.2.2.1/\D2 r.2.2.2.1/\r.2.2.2.1.1=1/\r.2.2.1.2.2=r.2.2.2.1.2.2/\r.2.2.2.1.2.2=r.2.2.2.1.2.1.length/\CX r.2.2.2.2/\ ∃n,LI n r.2.2.2.1.2.1:=by unfold KX;refine AB ((dl h (x:=25) (by omega)).and (sJ h (x:=25) (by omega))) λa y=>?_;obtain⟨⟨c0,p,F,g,D⟩,v,w⟩:=y;refine AB (sF (x:=(a.1,a.2.1)) c0 ⟨p,by dsimp only;omega⟩ g) λG z=>?_;obtain⟨t,c,q,⟨I,B,C⟩,s,k,u⟩:=z;dsimp only at c k u;obtain⟨Q,R,S,T,U,V⟩:=id g;have f:RC G.1 10:=λE=>Cv (B E) (by omega);have W:=c.vb.2.1;have X:=c.vb.2.2.1;refine AB (Aa t (x:=2) (by omega)) λJ l=>?_;refine AB (P:=λ(r:AT×Ag)=>CX r.1/\W4 a.2.1.2.1 r.2/\r.2.2.2=a.2.1.2.2) ?_ λL j=>?_;refine AQ (λ_=>?_) (λ_=>AA ⟨l.1,kw g,rfl⟩);refine AB (Aa l.1 (by omega)) λH A=>?_;obtain⟨q1,q2,q3⟩:=A;have e:=AW (x:=1+H.1);rw[e];refine AB (ABw g v (by omega) (by omega) (by omega)) λK m=>AA ⟨q1,m.1,m.2.2⟩;refine AB (Aa j.1 (x:=3) (by omega)) λM o=>?_;refine AB (P:=λ(r:AT×AK)=>CX r.1/\AR a.2.1.2.1 r.2/\RC r.2 10/\SF r.2 1000/\r.2.2.1=a.1) ?_ λO d=>AA ⟨p,F,d.2.2.2.2,d.2.1,d.2.2.1,d.2.2.2.1,j.2.1,g,w,j.2.2,by dsimp only;omega,d.1,D⟩;refine AQ (λ_=>?_) (λ_=>AA ⟨o.1,c,f,by unfold SF at*;dsimp only;omega,k⟩);refine AB (uw c q o.1 s) λN i=>AA ⟨i.1,i.2.1,i.2.2.1 10 f,by have:=i.2.2.2;unfold SF at*;dsimp only at this⊢;omega,k⟩
theorem vo{l:List EN}(h:l.length<=16777000):HW (l,l)=some true:=by
 have key:Ay (Ad (Ic (l,l)) 0) λr=>r= .inr ():=by
  refine Ha (λ(s:Int)=>0<=s/\s<=l.length) (λs=>((l.length:Int)-s).toNat) ⟨Af _,by omega⟩ (λs e=>?_);obtain⟨b,i⟩:=e;unfold Ic;dsimp only;simp only[len];refine AC (λa=>?_) (λ_=>Ay.done rfl);refine AB (AE b a) λf c=>?_;refine AB (AE b a) λg d=>?_;have:f=g:=by have:=c.1;rw[d.1]at this;exact(Cd this).symm
  subst this;simp only[beq_self_eq_true,Oe,Pn,EK,cond_false];rw[AW (by omega)];exact Ay.next ⟨by omega,by omega⟩ (by omega)
 obtain⟨r,hr,rfl⟩:=key;unfold HW;dsimp only;rw[bne_self_eq_false,cond_false,hr];rfl
def y8{l:List Int}(h: ∀c∈l,0≤c∧c<256):Ay (bif (decide ((len l)>400))then
    Option.bind (YU l 0 400) λd=>
    some d
   else
   some l) λr=>CX (r,0):=by
 refine AC (λa=>?_) (λa=>AA ⟨Af _,by simp only[len]at a;dsimp only;omega,h⟩);simp only[len]at a;refine AB (Bo) λd e=>AA ⟨Af _,by dsimp only;omega,λc b=>?_⟩;dsimp only at b;rw[e.1]at b;exact h c (Vc (J6 b))
def ABE{l:List Int}{b:Nat}(D:b<=l.length)(F:l.length<=16777000):Ay (FW l (0,(b:Int))) λr=>r.Perm l:=by
 unfold FW;refine AB (P:=λr:List Int=>r.Perm l) ?_ λr hr=>AA hr;refine Ha (λ(s:Int×List Int)=>1<=s.1/\s.1<=b+1/\s.2.Perm l) (λs=>((b:Int)+1-s.1).toNat) ⟨by show 1<=wi (0+1);rw[AW];decide,by show wi (0+1)<=_;rw[AW];omega,List.Perm.refl _⟩ ?_;rintro⟨H,I⟩ ⟨p,q,f⟩;dsimp only at p q f;unfold Jc;dsimp only;refine AC (λE=>?_) (λ_=>Ay.done f);have m:=f.length_eq;refine AB (P:=λr:List Int=>r.Perm l) ?_ λr hr=>?_
 ·refine Ha (λ(t:Int×List Int)=>0<=t.1/\t.1<l.length/\t.2.Perm l) (λt=>t.1.toNat) ⟨by dsimp only;omega,by dsimp only;omega,f⟩ ?_;rintro⟨d,h⟩ ⟨c,v,g⟩;dsimp only at c v g;have J:=g.length_eq;unfold Jd;dsimp only;refine AB (P:=λr:Unit ⊕ Unit=>r= .inr ()->d>0) ?_ λr hr=>?_;refine AC (λa=>?_) (λ_=>AA λo=>by cases o);rw[AW (x:=d-1)];refine AB (AE c) λK _=>?_;refine AB (AE c) λL _=>?_;refine AB (AE) λM _=>?_;refine AB (AE) λN _=>?_;refine AB Tg λO _=>?_;exact AI (λ_=>AA λ_=>a) (λ_=>AA λ_=>a)
  ·refine A3 (λu _=>Ay.done g) (λu n=>?_);have a:=hr (by cases u;exact n);rw[AW (x:=d-1)];refine AB (AE) λw _=>?_;refine AB (AE) λe i=>?_;refine AB (AE c) λy _=>?_;refine AB (AE c) λk j=>?_;refine AB (AE c) λz _=>?_;refine AB (AE c) λA _=>?_;have G:(BO h d e).length=h.length:=Oc;refine AB (AE) λB _=>?_;refine AB (AE) λC _=>?_;refine Ay.next ⟨by dsimp only;omega,by dsimp only;omega,?_⟩ (by dsimp only;omega)
   dsimp only;unfold BO;rw[(by have:=i.1;rw[Az (by omega)]at this;exact(Cd this).symm:e=h[(d-1).toNat]),(by have:=j.1;rw[Az (by omega)]at this;exact(Cd this).symm:k=h[d.toNat])];exact(List.set_set_perm (by omega) (by omega)).trans g
 ·grind[AW,Ay.next]
def AAH{l:List Int}(h:l.length<=12):Ay (K0 l ()) λr=>r.Perm l:=by
 unfold K0 JU;obtain⟨n,g,-,-⟩:=ov (x:=l.length) (by omega);rw[Ss,show(len l)%18446744073709551616=(l.length:Int) by show((l.length:Nat):Int)%_=_;omega,g];simp[AF];have step: ∀a,Ay (Dc a l (0,(len l,(n:Int)))) λr=>r.Perm l:=λa=>by unfold Dc;refine AB (P:=λr:List Int=>r.Perm l) ?_ λr hr=>AA hr;rw[Cc];unfold Ng;dsimp[len];rw[AW,decide_eq_true (by omega),cond_true];have⟨r,hr,b⟩:=ABE (l:=l) (Ak _) (by omega);rw[hr,AF];rw[(by rw[b.length_eq];exact GC _:Nat.beq (List.length r) (List.length l)=true),cond_true];exact⟨r,rfl,b⟩
 have e:Ay (HX l (0,(len l,(n:Int)))) λr=>r.Perm l:=by unfold HX;have⟨r,hr,_⟩:=step (λp=>bC (λg p=>Dc g p.1 p.2) 0 p);have⟨s,c⟩:=Vo (f:=λg p=>Dc g p.1 p.2) (x:=(l,(0,(len l,(n:Int))))) (n:=1) hr;have⟨N,j⟩:=VS c;refine⟨s,c,?_⟩;cases N<;>grind[bC,Dc]
 refine AB e λi d=>?_;have k:Nat.beq (List.length i) (List.length l)=true:=by rw[d.length_eq];exact GC _
 grind[AA]
def mx(a b:Int):Int:=if a>b then a else b
def mn(a b:Int):Int:=if a<b then a else b
def lF(l:Ag)(lo i j:Int)(e:NE):Bool:=
 (e.1.2.2.1==lo)&&(decide (mx e.1.1 (i+1)<=mn e.1.2.1 j)&&(decide (mx l.1 (i+1)>mn (l.1+l.2.1.length-1) j)||(decide (mx e.1.1 (i+1)<mx l.1 (i+1))||decide (mn e.1.2.1 j>mn (l.1+l.2.1.length-1) j))))
def AAy{B:Nat}{L:List EN}{a:AK}{l:Ag}{p i j:Int}(K:CP B)(hB:B≤16777216)(Q:j-i≤B)(N:0≤i)(hj:i≤j)(hJ:j≤1099511627775)(h:AR L a)(z:W4 L l)(hp:0≤p∧p<a.2.1)(J:RC a 12):
  ∃b N y r,fb a p b N/\ABy (wx a l b) j y/\Jj (a,(l,(p,(i,j))))=some r/\
   ((y>i/\r=([],42))\/(y<=i/\((cI i (L.filter (QP p i j))/\r=(L.filter (QP p i j),0))\/(¬cI i (L.filter (QP p i j))/\r=([],13)))))/\
   Ay (Sc (a,(l,(p,(i,j))))) λu=>(r.2≠0->u=([],(0,(0,r.2))))/\(r.2=0->u.1.Perm (((EE a).filter (lF l b i j)).map (·.2))/\u.2=if mx l.1 (i+1)>mn (l.1+l.2.1.length-1) j then(0,(0,0))else(mx l.1 (i+1),(mn (l.1+l.2.1.length-1) j,0))):=by
 have⟨b,O,y,p1,f1,_,r,r1,r2⟩:=wG K hB Q N hj (by omega) h z hp;refine⟨b,O,y,r,p1,f1,r1,r2,?_⟩;have ar:=z.vl.1;have ax:=z.vl.2.1;have a0:=z.vl.2.2.1;unfold Sc;dsimp only;rw[r1,AF];refine AL (λd=>AA ⟨λ_=>rfl,λF=>absurd F d⟩) (λF=>?_);refine AB (Th z.vl) λv1 h1=>?_;have⟨a3,al,U,Z⟩:=wK h.vb hp;have R:=p1.uniq h.vb.1 rfl rfl Z;subst R;rw[U,AF,EK,cond_false];obtain⟨q,V,v,w1,w2,rfl,w4,w5⟩:=wM h.vb h.ds (Pk h.vb) h.dis;rw[V,AF,AW (x:=i+1),h1];have a2: ∀e∈v,e.1.1>=1/\e.1.2.1<=1099511627776:=λe he=>⟨(w5 e he).1,(w5 e he).2.2.1⟩
 refine AB (P:=λf=>f=(v.filter (lF l b i j)).map (·.2)) ?_ λa4 I=>?_
 ·refine Ha (λ(s:Int×List Int)=> ∃k:Nat,s=((k:Int),((v.take k).filter (lF l b i j)).map (·.2))/\k<=v.length) (λs=>v.length-s.1.toNat) ⟨0,rfl,Bv _⟩ ?_;rintro s ⟨k,rfl,hk⟩;unfold XG;dsimp[len];have a1:(v.map (·.1)).length=v.length:=DF _;refine AC (λJ=>?_) (λJ=>Ay.done (by rw[CR (by omega)]));have o:k<v.length:=by omega
  have W:v.take (k+1)=v.take k++[v[k]]:=by grind[List.take_add_one,List.getElem?_eq_getElem]
  have X:ix (v.map (·.1)) (k:Int)=some v[k].1:=by unfold ix;rw[if_pos (by omega),Int.toNat_natCast,List.getElem?_map,List.getElem?_eq_getElem o];rfl
  have Y:ix (v.map (·.2)) (k:Int)=some v[k].2:=by unfold ix;rw[if_pos (by omega),Int.toNat_natCast,List.getElem?_map,List.getElem?_eq_getElem o];rfl
  rw[X,AF,Y,AW (x:=(k:Int)+1),AW (x:=i+1)];have ap:(((v.take k).filter (lF l b i j)).map (·.2)).length<=256:=by grind[List.length_map,Nat.le_trans,List.length_filter_le,List.length_take]
  have g:lF l b i j v[k]=false->Ay (some (Step.next ((k:Int)+1,((v.take k).filter (lF l b i j)).map (·.2))):Option (Step (Int×List Int) (List Int))) (YV (λ(s:Int×List Int)=> ∃k:Nat,s=((k:Int),((v.take k).filter (lF l b i j)).map (·.2))/\k<=v.length) (λs=>v.length-s.1.toNat) (v.length-((k:Nat):Int).toNat) λf=>f=(v.filter (lF l b i j)).map (·.2)):=λhu=>by
   refine Ay.next ⟨k+1,?_,o⟩ (by dsimp only;omega)
   grind[Prod.ext]
  have m:lF l b i j v[k]=true->Ay (Option.bind (app (((v.take k).filter (lF l b i j)).map (·.2)) [v[k].2]) λv7=>some (Step.next ((k:Int)+1,v7)):Option (Step (Int×List Int) (List Int))) (YV (λ(s:Int×List Int)=> ∃k:Nat,s=((k:Int),((v.take k).filter (lF l b i j)).map (·.2))/\k<=v.length) (λs=>v.length-s.1.toNat) (v.length-((k:Nat):Int).toNat) λf=>f=(v.filter (lF l b i j)).map (·.2)):=λhu=>by
   refine AB (Ac (by rw[BU,BQ];omega)) λv7 h7=>?_;refine Ay.next ⟨k+1,?_,o⟩ (by dsimp only;omega)
   rw[h7.1,W,I3,VN,hu,if_pos rfl,Yh,L5];exact HD (by dsimp only;omega) rfl
  rw[AF];show Ay (bif v[k].1.2.2.1==b then _ else _) _;refine AQ (λc=>?_) (λc=>g ?_);have G:((v[k].1.2.2.1==b):Bool)=true:=by rw[c];exact beq_self_eq_true _
  refine AC (λn=>g ?_) (λA=>?_);unfold lF mx mn;rw[decide_eq_false (by omega),eM,Bool.and_false];have H:decide (mx v[k].1.1 (i+1)<=mn v[k].1.2.1 j)=true:=decide_eq_true (by unfold mx mn;omega);refine AC (λn=>m ?_) (λE=>?_);unfold lF;rw[G,H,show decide (mx l.1 (i+1)>mn (l.1+l.2.1.length-1) j)=true from decide_eq_true n];rfl;refine AC (λS=>m ?_) (λD=>?_);unfold lF;rw[G,H,show decide (mx v[k].1.1 (i+1)<mx l.1 (i+1))=true from decide_eq_true S,Bool.true_or,Bool.or_true];rfl;refine AC (λM=>m ?_) (λT=>g ?_);unfold lF;rw[G,H,show decide (mn v[k].1.2.1 j>mn (l.1+l.2.1.length-1) j)=true from decide_eq_true M,Bool.or_true,Bool.or_true];rfl;unfold lF;rw[show decide (mx l.1 (i+1)>mn (l.1+l.2.1.length-1) j)=false from decide_eq_false E,show decide (mx v[k].1.1 (i+1)<mx l.1 (i+1))=false from decide_eq_false D,show decide (mn v[k].1.2.1 j>mn (l.1+l.2.1.length-1) j)=false from decide_eq_false T];simp;unfold lF;rw[show((v[k].1.2.2.1==b):Bool)=false from beq_false_of_ne c,eM]
 subst I;have w:((v.filter (lF l b i j)).map (·.2)).Perm (((EE a).filter (lF l b i j)).map (·.2)):=(w1.filter _).map _;have C:((v.filter (lF l b i j)).map (·.2)).length<=12:=by rw[w.length_eq,DF];refine Cv (Cv (Nat.le_of_eq ?_) (I6 (lF l b i j) _)) (J b);rw[List.filter_filter];refine congrArg List.length (List.filter_congr λe _=>?_);unfold lF;cases (e.1.2.2.1==b)<;>simp
 refine AB (AAH C) λad t=>?_;have hb:Nat.beq (List.length ad) (List.length ((v.filter (lF l b i j)).map (·.2)))=true:=by rw[t.length_eq];exact GC _
 rw[hb,cond_true];refine AC (λn=>AA ⟨λd=>absurd F d,λ_=>⟨t.trans w,?_⟩⟩) (λA=>AA ⟨λd=>absurd F d,λ_=>⟨t.trans w,?_⟩⟩);rw[if_pos (show mx l.1 (i+1)>mn (l.1+l.2.1.length-1) j from n)];rw[if_neg (show¬mx l.1 (i+1)>mn (l.1+l.2.1.length-1) j from A)];rfl
def AR.sub{L:List EN}{a:AK}{k:List BB}(h:AR L a)(g:k.Sublist a.2.2.1):AR L (a.1,(a.2.1,(k,a.2.2.2)))/\ ∀e∈EE a,(∀f∈a.2.2.1,f.2.1=e.2->f∈k)->e∈EE (a.1,(a.2.1,(k,a.2.2.2))):=by
 obtain⟨A,B,C,D,E,I,F⟩:=id h.vb;have b:VB (a.1,(a.2.1,(k,a.2.2.2))):=⟨A,B,C,D,E,by have:=g.length_le;dsimp only;omega,F.sub g⟩
 have c: ∀e∈EE (a.1,(a.2.1,(k,a.2.2.2))),e∈EE a:=λe i=>by unfold EE at i;obtain⟨f,j,d⟩:=L7.1 i;rcases h.files f (g.subset j)with q|⟨r,n,G,H⟩;rw[q.intR b.1]at d;cases d;have l:Good (a.1,(a.2.1,(k,a.2.2.2))) f r:=n.congr rfl rfl;rw[l.intR b.1]at d;injection d with d;subst d;exact R3 h.vb.1 (g.subset j) n
 refine⟨⟨b,λf j=>(h.files f (g.subset j)).imp id λ⟨r,v,w,z⟩=>⟨r,v.congr rfl rfl,w,z⟩,λx t y u=>h.dis x (c x t) y (c y u)⟩,λe i s=>?_⟩;obtain⟨f,o,p,m,_⟩:=h.mem i;have:=R3 b.1 (s f o m.symm) (p.congr rfl rfl:Good (a.1,(a.2.1,(k,a.2.2.2))) f e.1);rw[<-m]at this;exact this
def W4.part{L:List EN}{l:Ag}{F G:Int}(h:W4 L l)(j:l.1<=F)(k:F<=G)(m:G<=l.1+l.2.1.length-1)(n:F<=1099511627776){v:List EN}(d:v=(l.2.1.drop (F-l.1).toNat).take ((G-l.1+1).toNat-(F-l.1).toNat)):W4 L (F,(v,G))/\(v.length:Int)=G-F+1:=by
 have o:=oO h.vl j k m d;obtain⟨l1,l2,r,s,t,p⟩:=h.vl;have a:(v.length:Int)=G-F+1:=by rw[d,CH,Gt];omega
 refine⟨⟨⟨by dsimp only;omega,n,by dsimp only;omega,by dsimp only;omega,by dsimp only;omega,λi e b=>?_⟩,h.sorted,λe=>?_,h.len⟩,a⟩;dsimp only at b⊢;rw[d,Pp]at b;split at b;rw[Mx]at b;have:=p _ e b;exact⟨by have:=this.1;omega,this.2⟩;cases b;dsimp only;rw[o,h.tail,a];constructor;rintro⟨⟨c,f⟩,g,q⟩;exact⟨c,g,by omega⟩;rintro⟨c,f,g⟩;exact⟨⟨c,by omega⟩,f,by omega⟩
def W4.none{L:List EN}{l:Ag}(h:W4 L l):W4 L (1,([],0)):=⟨⟨by decide,by decide,by decide,by decide,by decide,λi e a=>by simp at a⟩,h.sorted,λe=>⟨λa=>by simp at a,λa=>by have:=a.2;simp[BQ]at this;omega⟩,h.len⟩
theorem nH{x:List Int×Int×Int}(h: ∀c∈x.1,0<=c/\c<256)(hx:0<=x.2.1/\x.2.1<256)(hy:0<=x.2.2/\x.2.2<256):Ay (Jk x) λr=>r=true:=by
 unfold Jk;refine AB yr λv0 h0=>?_;refine AO (λC=>by rw[h0]at C;cases C) (λ_=>?_);refine AB (y8 h) λv2 h2=>?_;refine AB (AAC h2) λb h3=>?_;have⟨a0,a1,a2,a3,ar,a4,a5,a6,a7,a8,a9,a10⟩:=h3;have e0:=AW (x:=x.2.1) (by omega);have e1:=AW (x:=x.2.2) (by omega);have z:0<=Int.tmod x.2.1 25/\Int.tmod x.2.1 25<25:=⟨VL _ hx.1,VJ _ (by omega)⟩
 have ap:0<=Int.tmod x.2.2 25/\Int.tmod x.2.2 25<25:=⟨VL _ hy.1,VJ _ (by omega)⟩
 refine AB (P:=λ(r:Bool ⊕ Unit)=>r= .inr ()) ?_ λr hr=>by rw[hr];exact BE (AA rfl)
 refine Ha (λ(s:Int)=>0<=s/\s<=b.1) (λs=>(b.1-s).toNat) ⟨Af _,by omega⟩ (λs hI=>?_);have⟨i1,i2⟩:=hI;unfold M9;rw[e0,e1];generalize Int.tmod x.2.1 25=i at z⊢;generalize Int.tmod x.2.2 25=d at ap⊢;rw[AW (x:=i+d) (by omega),AW (x:=s+1) (by omega)];refine AC (λC=>?_) (λ_=>Ay.done rfl);have⟨lo,hi,fl,r,p1,f1,r1,r2,u,u1,u2,u3⟩:=AAy (a:=b.2.1) (l:=b.2.2.1) (p:=s) (i:=i) (j:=i+d) ABs (by decide) (by omega) z.1 (by omega) (by omega) a3 a5 ⟨i1,by omega⟩ (λlo=>Cv (ar lo) (by decide));rw[u1,AF,r1,AF];have bt:u.2.2.2=r.2:=by by_cases B:r.2=0<;>grind
 rw[bt,bne_self_eq_false,cond_false];refine AL (λ_=>Ay.next ⟨by omega,by omega⟩ (by omega)) (λB=>?_);have⟨uK,L⟩:=u3 B;rcases r2 with⟨q1,q2⟩|⟨q1,⟨q2,q3⟩|⟨q2,q3⟩⟩;rw[q2]at B;exact absurd B (by decide);rotate_left;rw[q3]at B;exact absurd B (by decide);have X:u.1.Nodup:=by rw[uK.nodup_iff];have hp:=jw a3.vb;rw[PG]at hp;rw[L8,PG];exact(hp.filter _).imp λE=>by omega
 have b5:u.1.length<=256:=by rw[uK.length_eq,DF];refine Cv (I6 _ _) (Cv (cF _ (b.2.1.2.2.1.filterMap (intR b.2.1)) (Pk a3.vb) λe O=>O) ?_);refine Cv (List.length_filterMap_le _ _) ?_;have:=a3.vb.2.2.2.2.2.1;omega
 have b7:b.2.1.2.2.1.length<=256:=by have:=a3.vb.2.2.2.2.2.1;omega
 refine AB (P:=λt=>t=(b.2.1.2.2.1.filter (λf=>u.1.contains f.2.1),(b.2.1.1,(b.2.1.2.1,b.2.1.2.2.2)))) ?_ λch U=>?_
 ·refine Ha (λ(q:Int×List BB×List Int×Int×Int×Int)=> ∃k:Nat,q=((k:Int),((b.2.1.2.2.1.take k).filter (λf=>u.1.contains f.2.1),(b.2.1.1,(b.2.1.2.1,b.2.1.2.2.2))))/\k<=b.2.1.2.2.1.length) (λq=>b.2.1.2.2.1.length-q.1.toNat) ⟨0,rfl,Bv _⟩ ?_;rintro q ⟨k,rfl,hk⟩;unfold NA;dsimp[len];refine AC (λC=>?_) (λC=>Ay.done (by rw[CR (by omega)]));have A:k<b.2.1.2.2.1.length:=by omega
  have hx:ix b.2.1.2.2.1 (k:Int)=some b.2.1.2.2.1[k]:=by unfold ix;rw[if_pos (by omega),Int.toNat_natCast,List.getElem?_eq_getElem A]
  have b6:((b.2.1.2.2.1.take k).filter (λf=>u.1.contains f.2.1)).length<=256:=by grind[Nat.le_trans,List.length_filter_le,List.length_take]
  refine AB (P:=λt=>t=((b.2.1.2.2.1.take (k+1)).filter (λf=>u.1.contains f.2.1),(b.2.1.1,(b.2.1.2.1,b.2.1.2.2.2)))) ?_ λcf T=>?_
  ·have bl:(b.2.1.2.2.1.take (k+1)).filter (λf=>u.1.contains f.2.1)=(b.2.1.2.2.1.take k).filter (λf=>u.1.contains f.2.1)++(if u.1.contains b.2.1.2.2.1[k].2.1=true then [b.2.1.2.2.1[k]]else []):=by rw[Dq,Az A,JQ,I3,VN,Yh]
   refine Ha (λ(t:Int×List BB×List Int×Int×Int×Int)=> ∃m:Nat,t=((m:Int),((b.2.1.2.2.1.take k).filter (λf=>u.1.contains f.2.1)++(if(u.1.take m).contains b.2.1.2.2.1[k].2.1=true then [b.2.1.2.2.1[k]]else []),(b.2.1.1,(b.2.1.2.1,b.2.1.2.2.2))))/\m<=u.1.length) (λt=>u.1.length-t.1.toNat) ⟨0,by simp,Bv _⟩ ?_;rintro t ⟨m,rfl,hm⟩;unfold NB;dsimp[len];refine AC (λY=>?_) (λY=>Ay.done (by rw[bl,CR (l:=u.1) (by omega)]));have w:m<u.1.length:=by omega
   have a':ix u.1 (m:Int)=some u.1[m]:=by unfold ix;rw[if_pos (by omega),Int.toNat_natCast,List.getElem?_eq_getElem w]
   have K:u.1.take (m+1)=u.1.take m++[u.1[m]]:=by rw[Dq,Az w];rfl
   rw[hx,AF,a',AF,AF,AW (x:=(m:Int)+1) (by omega)];refine AB (P:=λt=>t=((b.2.1.2.2.1.take k).filter (λf=>u.1.contains f.2.1)++(if(u.1.take (m+1)).contains b.2.1.2.2.1[k].2.1=true then [b.2.1.2.2.1[k]]else []),(b.2.1.1,(b.2.1.2.1,b.2.1.2.2.2)))) ?_ λce S=>?_;refine AQ (λD=>?_) (λbb=>AA ?_);have bd:(u.1.take m).contains b.2.1.2.2.1[k].2.1=false:=by
    rw[List.contains_eq_mem,decide_eq_false_iff_not,D];intro I;have hd:(u.1.take m++u.1.drop m).Nodup:=by rw[Fh];exact X
    rw[VM w,Nw]at hd;exact hd.2.2 _ I _ (Am.2 (.inl rfl)) rfl
   rw[bd,if_neg (by decide),Do];refine AB (Ac (by rw[BU,BQ];omega)) λcd R=>AA ?_;rw[R.1,K,if_pos];rw[List.contains_eq_mem,decide_eq_true_eq,D];exact Ap.2 (.inr (A2.2 rfl));have:(u.1.take (m+1)).contains b.2.1.2.2.1[k].2.1=(u.1.take m).contains b.2.1.2.2.1[k].2.1:=by rw[K,List.contains_eq_mem,List.contains_eq_mem];refine decide_eq_decide.2 ?_;rw[Ap,A2];exact⟨λE=>E.elim id λE=>absurd E bb,.inl⟩
   rw[this]
   ·rw[S];exact Ay.next ⟨m+1,by rw[show(m:Int)+1=((m+1:Nat):Int) by omega],w⟩ (by dsimp only;omega)
  ·rw[T,AW (x:=(k:Int)+1) (by omega)];exact Ay.next ⟨k+1,by rw[show(k:Int)+1=((k+1:Nat):Int) by omega],A⟩ (by dsimp only;omega)
 subst U;dsimp only;have⟨b1,b2⟩:=AR.sub (k:=b.2.1.2.2.1.filter (λf=>u.1.contains f.2.1)) a3 List.filter_sublist;have J:Fc ()=some (1,([],0)):=rfl;rw[J,AF];have b':=a5.vl.1;have ca:=a5.vl.2.1;have cb:=a5.vl.2.2.1;refine AB (P:=λg:Ag=>W4 b.2.2.2.1.2.1 g/\ ∀n,i<n->n<=i+d->(b.2.2.1.1<=n/\n<=b.2.2.1.1+b.2.2.1.2.1.length-1)->(g.1<=n/\n<=g.1+g.2.1.length-1)) ?_ λb0 W=>?_;by_cases v:mx b.2.2.1.1 (i+1)>mn (b.2.2.1.1+b.2.2.1.2.1.length-1) (i+d);rw[if_pos v]at L;have z1:u.2.1=0:=by rw[L]
 rw[z1];refine AA ⟨W4.none a5,λn n1 n2 n3=>?_⟩;exfalso;unfold mx mn at v;split at v<;>split at v<;>omega;rw[if_neg v]at L;have z1:u.2.1=mx b.2.2.1.1 (i+1):=by rw[L]
 have z2:u.2.2.1=mn (b.2.2.1.1+b.2.2.1.2.1.length-1) (i+d):=by rw[L]
 rw[z1,z2];have m1:b.2.2.1.1<=mx b.2.2.1.1 (i+1)/\i+1<=mx b.2.2.1.1 (i+1)/\(mx b.2.2.1.1 (i+1)=b.2.2.1.1\/mx b.2.2.1.1 (i+1)=i+1):=by unfold mx;split<;>omega
 have m2:mn (b.2.2.1.1+b.2.2.1.2.1.length-1) (i+d)<=b.2.2.1.1+b.2.2.1.2.1.length-1/\mn (b.2.2.1.1+b.2.2.1.2.1.length-1) (i+d)<=i+d/\(mn (b.2.2.1.1+b.2.2.1.2.1.length-1) (i+d)=b.2.2.1.1+b.2.2.1.2.1.length-1\/mn (b.2.2.1.1+b.2.2.1.2.1.length-1) (i+d)=i+d):=by unfold mn;split<;>omega
 generalize mx b.2.2.1.1 (i+1)=F at*;generalize mn (b.2.2.1.1+b.2.2.1.2.1.length-1) (i+d)=G at*;rw[decide_eq_true (by omega),cond_true,AW (x:=F-b.2.2.1.1) (by omega),AW (x:=G-b.2.2.1.1) (by omega),AW (x:=G-b.2.2.1.1+1) (by omega)];refine AB (Bo (by omega) (by omega) (by omega)) λci V=>AA ?_;have⟨g1,M⟩:=a5.part (F:=F) (G:=G) m1.1 (by omega) (by omega) (by omega) V.1;refine⟨g1,λn n1 n2 n3=>?_⟩;dsimp only;omega;have⟨H,y⟩:=W;have⟨cc,b8,o,bz,Q,_,r',bG,bN⟩:=wG (a:=(b.2.1.1,(b.2.1.2.1,(b.2.1.2.2.1.filter (λf=>u.1.contains f.2.1),b.2.1.2.2.2)))) (l:=b0) (p:=s) (i:=i) (j:=i+d) ABs (by decide) (by omega) z.1 (by omega) (by omega) b1 H ⟨i1,by dsimp only;omega⟩;have ax:=p1.uniq a3.vb.1 rfl rfl bz;subst ax;rw[bG,AF];have b3:o<=i:=by refine RZ λE=>?_;have⟨g1,M,g3,N⟩:=Q;rcases N with N|N;omega;refine N ?_;rcases f1.2.2.1 o (by omega) M with ad|⟨e,O,t1,t2,t3⟩;exact .inl (y o (by omega) M ad);by_cases al:b.2.2.1.1<=o/\o<=b.2.2.1.1+b.2.2.1.2.1.length-1;exact .inl (y o (by omega) M al);refine .inr ⟨e,b2 e O λf hf Z=>?_,t1,t2,t3⟩;rw[BX,Z];refine⟨hf,?_⟩;rw[List.contains_eq_mem,decide_eq_true_eq,uK.mem_iff];refine Bi.2 ⟨e,BX.2 ⟨O,?_⟩,rfl⟩;unfold lF;rw[show((e.1.2.2.1==lo):Bool)=true by rw[t1];exact beq_self_eq_true _,Bool.true_and,BT,decide_eq_true_eq,Yc,Yc,decide_eq_true_eq,decide_eq_true_eq,decide_eq_true_eq];unfold mx mn;refine⟨by split<;>split<;>omega,?_⟩;by_cases b9:o<b.2.2.1.1;right;left;split<;>split<;>omega;right;right;split<;>split<;>omega
 rcases bN with⟨s1,s2⟩|⟨s1,⟨s2,s3⟩|⟨s2,s3⟩⟩;omega
 ·rw[s3,q3];dsimp only;have b4:(List.filter (QP s i (i+d)) b.2.2.2.1.2.1).length<=4096:=Cv (I6 _ _) a5.len;rw[show((0:Int) !=0)=false by decide,cond_false,vo (by omega),AF,EK,cond_false];exact Ay.next ⟨by omega,by omega⟩ (by omega)
 exact absurd q2 s2
end Go.Pm
