/- Parts of the proof; nothing is assumed. -/
import Derived.Test.YtdbincbpjobdpaaGreatK8
noncomputable section
set_option linter.all false
set_option maxHeartbeats 1000000
set_option maxRecDepth 100000
open Option renaming some->Z
open List renaming length->W
open Go renaming Ψ->S
open Bool renaming false->X
open Bool renaming true->E
open Go renaming Ω->V
open Option renaming some->δ,bind->σ
open Bool renaming true->ζ,false->η
open List renaming length->θ
open Sum renaming elim->ν
open Nat renaming beq->ξ
open Decidable renaming decide->τ
open _root_ renaming Int->Y,cond->y,Nat->U
namespace Go.Pm
open Go Go.Ab
theorem AHX{L:List EN}{s:Y}{m j:U}(n:m<=64){p:Y}(c:0<=p/\p<m):TB ((s,(m:Y),img (L.take j) m),p)=δ (p,ζ):=by
 suffices k:An (TB ((s,(m:Y),img (L.take j) m),p)) λv=>v=(p,ζ) by obtain⟨r,hr,rfl⟩:=k;exact hr
 unfold TB;dsimp only;rw[(by grind[I4]:len (img (L.take j) m)=m)];refine AA (P:=λr=>r=p) ?_ λr hr=>?_
 ·refine CQ (λ(t:Y×Y)=>0<=t.1/\t.1<=p/\p<=t.2/\t.2<=m) (λt=>(t.2-t.1).toNat) ⟨Ae _,c.1,d!,Ae _⟩ ?_;rintro⟨a,b⟩ ⟨f,g,i,h⟩;dsimp only at f g i h;unfold eR;dsimp only;rw[ABN];refine AC (λl=>?_) (λ_=>An.done o!);rw[cR o! o!,AD,AY (x:=(a+b)/2+1)];unfold QF;rw[AD,show((Xf (st (L.take j) ((a+b)/2)),p):Cy×Y).1.1=(a+b)/2 from Sf _ _,AY d!];exact Bo (AC (λe=>An.next ⟨d!,by dsimp only at e⊢;omega,i,h⟩ d!) (λd=>An.next ⟨f,g,by dsimp only at d⊢;omega,d!⟩ d!))
 rw[hr,G! c.2,B!,cR c.1 c.2,AD];unfold QF;rw[AD,show((Xf (st (L.take j) p),p):Cy×Y).1.1=p from Sf _ _,Int.sub_self];exact AB rfl
def AD7{L:List EN}(h:Ge L)(a:L.length<=1099511627776){s:Y}{m j:U}(c:1<=s/\s<=1073741824)(hn:1<=m/\m<=64){p:Y}(b:0<=p/\p<m):Rv ((s,((m:Y),img (L.take j) m)),p)=some (Xf (st (L.take j) p),true):=by grind[Rv,fU,Bool.not_true,AHX,cR]
def xX{L:List EN}(h:Ge L)(a:θ L<=1099511627776){s:Y}{m j:U}(c:1<=s/\s<=1073741824)(hn:1<=m/\m<=64){p:Y}(b:0<=p/\p<m):Pa ((s,(m:Y),img (L.take j) m),p)=δ (st (L.take j) p,0):=by unfold Pa;rw[fU h a c hn,AD,Bn,A!,AD7 h a c hn b,AD,Bn,A!,show Gd ((Xf (st (L.take j) p)).2.2,p)=δ (st (L.take j) p,0)from ur h a ⟨b.1,o!⟩,AD]
def dF(x:Aq)(p:Y):Y:=((x.2.2[p.toNat]?).getD (0,0,[])).2.1
theorem zL{L:List EN}{s:Y}{m j:U}{p:Y}(a:0<=p/\p<m):dF (s,(m:Y),img (L.take j) m) p=BZ (L.take j) p:=by unfold dF;dsimp only;rw[(rC (L:=L.take j) (n:=m) (i:=p.toNat) o!),JW a.1];exact Jg _ _
def yv{L:List EN}(h:Ge L)(w:θ L<=1099511627776){d:Y}{m:U}(hn:1<=m/\m<=64){f:List Am}{V:List Aq}(q:Kh f=δ V)(G:θ V<=8)(n:∀x∈V,PI L d m x){p k:Y}(A:0<=p/\p<m):An (Tf (f,p,k)) λr=>θ r<=8/\∀y,y∈r↔∃x∈V,dF x p<=k/\y=(dF x p,x.1,dF x p):=by
 unfold Tf;dsimp only;rw[q,AD];refine AA (P:=λr=>θ r<=8/\∀y,y∈r↔∃x∈V,dF x p<=k/\y=(dF x p,x.1,dF x p)) ?_ λr hr=>?_
 ·dsimp[len];rw[AY];refine CQ (λ(s:Y×List Be)=> -1<=s.1/\s.1<θ V/\(θ s.2:Y)+s.1+1<=θ V/\∀y,y∈s.2↔∃x∈V.drop (s.1+1).toNat,dF x p<=k/\y=(dF x p,x.1,dF x p)) (λs=>(s.1+1).toNat) ⟨d!,d!,q!,λy=>by dsimp only;rw[Ro o!];simp⟩ ?_;rintro⟨i,o⟩ ⟨B,g,C,e⟩;dsimp only at B g C e;unfold Y5;dsimp only;refine AC (λt=>?_) (λ_=>An.done ⟨o!,by rw[show(i+1).toNat=0 by omega]at e;exact e⟩);rw[AY];refine AA (AI t g) λb l=>?_;have⟨j,I,D_,E_,F⟩:=n b l.2;have a:=AD7 h w (j:=j) ⟨D_,E_⟩ hn A;rw[<-F]at a;have H:V.drop (i-1+1).toNat=b::V.drop (i+1).toNat:=by grind[Cs,List.getElem?_eq_getElem,List.drop_eq_getElem_cons,Option.some.inj]
  rw[a,AD];dsimp only;rw[B!,show(Xf (st (L.take j) p)).2.1=dF b p from(Jg _ _).trans (by grind[zL]:dF b p=BZ (L.take j) p).symm];refine AC (λz=>?_) (λu=>An.next ⟨d!,d!,d!,λy=>?_⟩ d!)
  ·grind[AA,AZ,An.next,List.mem_singleton,List.mem_cons_of_mem,List.mem_cons_self]
  grind[List.mem_cons_of_mem]
 refine AA (AHz o!) λv c=>?_;rw[cg c,B!];exact AB ⟨by have:=c.length_eq;omega,λy=>by rw[c.mem_iff];exact hr.2 y⟩
def AIJ{V:List Aq}(f:θ V<=8){y:Be}(b:∃x∈V,x.1=y.2.1):An (Ai (Sq V) (0,y)) λr=>∃(i:Y)(x:Aq),r=.inl (i,y)/\0<=i/\V[i.toNat]?=δ x/\x.1=y.2.1:=by
 refine CQ (λ(s:Y×Be)=>s.2=y/\0<=s.1/\s.1<=θ V/\∀i:U,i<s.1->∀x,V[i]?=δ x->x.1≠y.2.1) (λs=>((θ V:Y)-s.1).toNat) ⟨rfl,Ae _,d!,λi a=>by dsimp only at a;omega⟩ ?_;rintro⟨i,h⟩ ⟨rfl,c,d,e⟩;dsimp only at c d e b;unfold Sq;dsimp[len];apply AC<;>intro g
 ·grind[AA,AI,UA,AY,AO,An.done,An.next,Option.some.inj]
 grind[List.getElem?_of_mem,Cs]
theorem AGa{L C:List EN}{a:AJ}{l:Ac}{p i k:Int}{c:Nat}(h:AR L a)(D_:O6 L l)(H:0<=p/\p<a.2.1)(r:RC a c)(j:c<=12)(G:Hd (a,l,p,i,k)=δ (C,0)):An (IQ (a,l,p,i,k)) λu=>u.2.2.2=0:=by
 unfold IQ;dsimp only;rw[G,AD,H!,A!];refine AA (Oa D_.vl) λV _=>?_;have⟨f,R,t,_⟩:=tj h.vb H;rw[t,AD,Bn,A!];obtain⟨q,w,v,M,W,rfl,X_,Y⟩:=qB h.vb h.ds (J8 h.vb) h.dis;rw[w,AD];have Q:(v.filter λe=>e.1.2.2.1==f).length<=12:=by rw[(M.filter _).length_eq];exact Cl (r f) j
 refine AA (P:=λb=>θ b<=12) ?_ λJ m=>?_
 ·refine CQ (λ(s:Int×List Int)=>∃k:Nat,s.1=k/\θ s.2<=((v.take k).filter λe=>e.1.2.2.1==f).length/\k<=θ v) (λs=>θ v-s.1.toNat) ⟨0,rfl,BV _,BV _⟩ ?_;rintro⟨_,o⟩ ⟨k,rfl,ok,S⟩;dsimp only at ok;unfold VU;dsimp[len];have F:(v.map (·.1)).length=θ v:=BT _;refine AC (λr=>?_) (λr=>An.done (by rw[BM o!]at ok;omega));have d:k<θ v:=o!
  have I:v.take (k+1)=v.take k++[v[k]]:=by grind[List.take_add_one,List.getElem?_eq_getElem]
  have y:ix (v.map (·.1)) (k:Int)=δ v[k].1:=by unfold ix;rw[C! o!,Int.toNat_natCast,List.getElem?_map,List.getElem?_eq_getElem d];rfl
  have z:ix (v.map (·.2)) (k:Int)=δ v[k].2:=by unfold ix;rw[C! o!,Int.toNat_natCast,List.getElem?_map,List.getElem?_eq_getElem d];rfl
  rw[y,AD,z,AY (x:=(k:Int)+1)];have E_:((v.take k).filter λe=>e.1.2.2.1==f).length<=((v.take (k+1)).filter λe=>e.1.2.2.1==f).length:=by grind[List.length_append]
  have A:An (δ (Step.next ((k:Int)+1,o)):Option (Step (Int×List Int) (List Int))) (MU (λ(s:Int×List Int)=>∃k:Nat,s.1=k/\θ s.2<=((v.take k).filter λe=>e.1.2.2.1==f).length/\k<=θ v) (λs=>θ v-s.1.toNat) (θ v-k) λb=>θ b<=12):=An.next ⟨k+1,rfl,d!,d⟩ d!
  refine AO (λO=>?_) (λ_=>A);rw[AD];have T:=EK (λe=>e.1.2.2.1==f) (v.take k);have U:=fg k v;have g:An (σ (app o [v[k].2]) λB=>δ (Step.next ((k:Int)+1,B)):Option (Step (Int×List Int) (List Int))) (MU (λ(s:Int×List Int)=>∃k:Nat,s.1=k/\θ s.2<=((v.take k).filter λe=>e.1.2.2.1==f).length/\k<=θ v) (λs=>θ v-s.1.toNat) (θ v-k) λb=>θ b<=12):=by
   refine AA (AZ w!) λB N=>An.next ⟨k+1,rfl,?_,d⟩ d!
   grind[List.length_append]
  exact AC (λ_=>A) (λ_=>AC (λ_=>g) (λ_=>AC (λ_=>g) (λ_=>AC (λ_=>g) (λ_=>A))))
 refine AA (AHw m) λK n=>?_;rw[cg n,B!];exact AC (λ_=>AB rfl) (λ_=>AB rfl)
def ABv{L}(h:Ge L){p}{j k:U}(a:BZ (L.take j) p<=k):∃i:U,i<=k/\BZ (L.take i) p=BZ (L.take j) p/\st (L.take i) p=st (L.take j) p:=by have q0:=Ry h p j;have e:=Uw h (p:=p) (k:=j);exact⟨(BZ (L.take j) p).toNat,o!,e,ml h e⟩
theorem AHS{n}{L}{a}{l}{p:Y}{j k:U}(h:LI n L)(b:Ge L)(g:AR L a)(d:O6 L l)(i:Hd (a,l,p,BZ (L.take j) p,(k:Y))=Z (L.filter (HY p (BZ (L.take j) p) k),0))(c:j<=k)(o:k<=W L)(f:0<=p/\p<64):J7 (st (L.take j) p,a,l,(k:Y))=Z (st (L.take k) p,0):=by have e:=d.len;have q:=Ry b p j;have m:=W8 (b.take j) p;rw[BP]at m;unfold J7;dsimp only;rw[AFe g.vb d.vl,AD,H!,A!,mf ((Xc b f (by omega:W L<=1099511627776)) j),AD];dsimp only;rw[H!,A!,Jg,Sf,F! o!,A!,i,AD];dsimp only;rw[H!,A!,show BZ (L.take j) p=(((BZ (L.take j) p).toNat:U):Y) by omega,tU b o!,iC b (j:=j) o! (Uw b),yY (rO b h f o! j k c) (by have:=EK (aR p) ((L.take k).drop j);rw[C5,BP]at this;omega),<-af c];rfl
def AKb{n:Y}{L:List EN}{a:AJ}{l:Ac}{p w C fl:Y}{k c:U}(B:LI n L)(f:Ge L)(e:AR L a)(h:O6 L l)(hr:RC a c)(x:c<=12)(J:k<=θ L)(t:0<=p/\p<a.2.1)(d:p<64)(H:ON a p w C)(z:ti (iB a l w) k fl){j:U}(v:BZ (L.take j) p<=k):(fl<=BZ (L.take j) p/\J7 (st (L.take j) p,a,l,(k:Y))=δ (st (L.take k) p,0)/\An (IQ (a,l,p,BZ (L.take j) p,(k:Y))) λu=>u.2.2.2=0)\/(¬fl<=BZ (L.take j) p/\An (J7 (st (L.take j) p,a,l,(k:Y))) λr=>r.2≠0):=by have s:=h.len;have⟨i,D_,q,y⟩:=ABv f v;have F:=Ry f p i;rw[<-q,<-y];rw[<-q]at v;have⟨G,I,A,o,b,_,r⟩:=qA (p:=p) (i:=BZ (L.take i) p) (j:=(k:Y)) (CPa 4096) g! B o! F o! o! e h t;have m:=H.uniq e.vb.1 rfl rfl o;subst m;have g:=z.uniq (λ_=>YZ) b;subst g;rcases r with⟨q1,E_⟩|⟨q1,E_⟩;refine .inr ⟨o!,?_⟩;unfold J7;dsimp only;rw[AFe e.vb h.vl,AD,H!,A!,mf (Xc f ⟨t.1,d⟩ (by omega:θ L<=1099511627776) i),AD];grind[Jg,Sf,AL,AB];grind[AHS,AGa]
def AC0{n d:Int}{L:List EN}{a:AJ}{l:Ac}{p:Int}{k m c:Nat}{e:List Am}(hL:LI n L)(D_:Ge L)(W:AR L a)(M:O6 L l)(hr:RC a c)(S:c<=12)(hk:k<=θ L)(hm:(m:Int)=a.2.1)(hn:1<=m/\m<=64)(h8:θ e<=8)(hf:∀f∈e,FB IR L d m f)(N:0<=p/\p<a.2.1):∃Q X_ fl,ON a p Q X_/\ti (iB a l Q) k fl/\An (H9 (e,a,l,p,(k:Int))) λr=>(r.2.2=49/\fl≠0/\∀x,Sv L d m e (θ e) x->dF x p<=k->¬fl<=dF x p)\/(r.2.2=0/\r.1=st (L.take k) p/\r.2.1.1=p/\r.2.1.2.2.2.1=k/\(fl=0\/∃x,Sv L d m e (θ e) x/\dF x p<=k/\fl<=dF x p)):=by
 have ax:=M.len;have ap:0<=p/\p<64:=⟨N.1,o!⟩
 have pm:0<=p/\p<m:=⟨N.1,o!⟩
 obtain⟨Q,X_,fl,p1,T,_,_⟩:=qA (p:=p) (i:=0) (j:=(k:Int)) (CPa 4096) g! hL o! (Ae _) o! o! W M N;refine⟨Q,X_,fl,p1,T,?_⟩;obtain⟨v,hv,rfl⟩:=EO W.vb;obtain⟨w,hw,rfl⟩:=GH M.vl;have pg:=λj (hq:BZ (L.take j) p<=k)=>AKb hL D_ W M hr S hk N ap.2 p1 T (j:=j) hq;obtain⟨V,hV,v8,E_⟩:=rR D_ o! hn h8 hf;have hP:∀x∈V,PI L d m x:=λx hx=>by obtain⟨i,f,_,_,q⟩:=(E_ x).1 hx;exact q.2.2.1
 unfold H9;dsimp only;rw[hv,AD,Bn,A!,hw,AD,Bn,A!,F! o!,A!,F! o!,A!,F! o!,A!,hV,AD];refine AA (yv D_ o! hn hV v8 hP pm) λb C=>?_;obtain⟨r8,t⟩:=C;refine AA (P:=λ(r:(Int×AS×BS)⊕(AS×BS))=>((∃z,r=.inr z)/\∀y∈b,¬fl<=y.1)\/∃y:BS,r=.inl (0,st (L.take k) p,y)/\y.1=p/\y.2.2.2.1=k/\∃x,Sv L d m e (θ e) x/\dF x p<=k/\fl<=dF x p) ?_ λr ad=>?_
 ·refine CQ (λ(s:Int×AS×BS)=>0<=s.1/\s.1<=θ b/\∀y∈b.take s.1.toNat,¬fl<=y.1) (λs=>((θ b:Int)-s.1).toNat) ⟨Ae _,d!,λy H=>by simp at H⟩ ?_;rintro⟨i,s⟩ ⟨i0,i1,O⟩;dsimp only at i0 i1 O;unfold Sp;dsimp only[len];refine AC (λF=>?_) (λF=>An.done (.inl ⟨⟨_,rfl⟩,by rw[BM o!]at O;exact O⟩));rw[AY (x:=i+1)];refine AA (AI i0 F) λv5 h5=>?_;obtain⟨x,R,xk,xe⟩:=(t v5).1 h5.2;obtain⟨j,hj,x1,x2,ex⟩:=hP x R;have a0:dF x p=BZ (L.take j) p:=by rw[ex];exact zL pm
  refine AA (AIJ v8 (y:=v5) ⟨x,R,by rw[xe]⟩) λv9 h9=>?_;obtain⟨g,I,rfl,g0,gx,U⟩:=h9;have ao:I=x:=Sv.uniq D_ o! hn ((E_ I).1 (BO gx)) ((E_ x).1 R) (U.trans (by rw[xe]));subst ao;apply BF;have Y:ix V g=δ I:=by unfold ix;rw[C! g0,gx]
  have h:=xX D_ (by omega:θ L<=1099511627776) (j:=j) ⟨x1,x2⟩ hn pm;rw[<-ex]at h;rw[Y,AD,h,AD,H!,A!,Jg];rcases pg j o! with⟨J,o,K⟩|⟨J,o⟩
  ·rw[o,AD,H!,A!];refine AA K λu hu=>AO (λ_=>An.done (.inr ⟨_,rfl,rfl,rfl,I,(E_ I).1 R,xk,o!⟩)) (λB=>O! hu B)
  ·refine AA o λar A=>AL (λ_=>An.next ⟨d!,d!,λy H=>?_⟩ d!) (λhz=>O! hz A);dsimp only at H;rw[show(i+1).toNat=i.toNat+1 by omega,Ck,h5.1]at H;rcases Ak.1 H with q|q;exact O y q;have q:=A5.1 q;rw[q,xe];dsimp only;omega
 rcases ad with⟨⟨z,rfl⟩,Z_⟩|⟨y,rfl,J,o,K⟩;apply Ay;have G:∀x,Sv L d m e (θ e) x->dF x p<=k->¬fl<=dF x p:=λx hx al=>Z_ _ ((t _).2 ⟨x,(E_ x).2 hx,al,rfl⟩);have l0:BZ (L.take 0) p=0:=rfl;have f0:=T.1;rw[show C6 p=δ (st (L.take 0) p)from rfl,AD,Jg];rcases pg 0 (by rw[l0];omega)with⟨J,o,K⟩|⟨J,o⟩;rw[o,AD,H!,A!];exact AA K λu hu=>AO (λ_=>AB (.inr ⟨rfl,rfl,rfl,rfl,.inl o!⟩)) (λB=>O! hu B);exact AA o λar A=>AL (λ_=>AB (.inl ⟨rfl,o!,G⟩)) (λhz=>O! hz A);exact BF (AB (.inr ⟨rfl,rfl,J,o,.inr K⟩))
def AC1{n d}{L}{a}{l}{p:Y}{k m c:U}{fs:S Am}(o:LI n L)(s:Ge L)(j:AR L a)(x:O6 L l)(t:Cov a l k)(hr:RC a c)(b:c<=12)(w:k<=W L)(y:(m:Y)=a.2.1)(hn:1<=m/\m<=64)(i:W fs<=8)(u:∀f∈fs,FI L d m f)(z:0<=p/\p<a.2.1):An (H9 (fs,a,l,p,(k:Y))) λr=>r.1=st (L.take k) p/\r.2.2=0:=by obtain⟨B,v,fl,C,⟨D_,e,E_,g⟩,A⟩:=AC0 o s j x hr b w y hn i (λf q=>.inl (u f q)) z;refine A.mono λr h=>?_;rcases h with⟨_,q,_⟩|⟨q1,q2,_⟩;exact O! (t fl o! e p B v C) (g.resolve_left q);exact⟨q2,q1⟩
noncomputable section

end
def ACi{L:List EN}(h:Ge L)(c:θ L<=1099511627776){d:Y}{m:U}(hn:1<=m/\m<=64){x:Aq}(a:PI L d m x):Fu (encI x)=δ (x,0):=by have⟨j,b,e,f,g⟩:=a;grind[AAh]
def AAl{L:List EN}(h:Ge L)(K:θ L<=1099511627776){d:Int}{m:Nat}(hn:1<=m/\m<=64){a:List Am}(h8:θ a<=8)(hf:∀f∈a,FB Fu L d m f):An (Gu a) λr=>θ r<=8/\∀x,x∈r↔Sv L d m a (θ a) x:=by
 unfold Gu;refine AA (P:=λr=>θ r<=8/\∀x,x∈r↔Sv L d m a (θ a) x) ?_ λr hr=>AB hr;refine CQ (λ(s:List Aq×Int)=>∃n:Nat,s.2=n/\n<=θ a/\θ s.1<=n/\∀x,x∈s.1↔Sv L d m a n x) (λs=>((θ a:Int)-s.2).toNat) ⟨0,rfl,BV _,Al _,λx=>⟨λq=>(by cases q),λ⟨k,g,k0,_⟩=>O! k0 (Nat.not_lt_zero _)⟩⟩ ?_;rintro⟨A,_⟩ ⟨n,rfl,n1,i2,T⟩;dsimp only at i2 T;unfold Sb;dsimp[len];refine AC (λD_=>?_) (λD_=>An.done ⟨o!,by rw[show θ a=n by omega];exact T⟩);rw[AY (x:=(n:Int)+1)];refine AA (AI o! D_) λu h1=>?_;have C:=h1.1;rw[CR]at C;have c:∀v,a[(n:Int).toNat]?=δ v/\v∈a->v=u:=λv hv=>by grind[Option.some.inj]
 have e:(∀x,¬y8 L d m a n u x)->An (δ (Step.next (A,(n:Int)+1)):Option (Step (List Aq×Int) (List Aq))) (MU (λ(s:List Aq×Int)=>∃n:Nat,s.2=n/\n<=θ a/\θ s.1<=n/\∀x,x∈s.1↔Sv L d m a n x) (λs=>((θ a:Int)-s.2).toNat) ((θ a:Int)-n).toNat λr=>θ r<=8/\∀x,x∈r↔Sv L d m a (θ a) x):=λo=>An.next ⟨n+1,rfl,o!,d!,λx=>by dsimp only;rw[Sv.step C,T x];exact⟨.inl,λq=>q.elim id λq=>O! q (o x)⟩⟩ d!
 refine AA (P:=λb=>b=ζ↔u.1=2/\∀(k:Nat)(g:Am),k<n->a[k]?=δ g->g.1=2->g.2.1≠u.2.1) ?_ λv6 h6=>AP (λS=>e λx q=>by rw[h6.2 ⟨q.1,q.2.1⟩]at S;cases S) (λS=>?_)
 ·refine CQ (λ(t:Bool×Int)=>∃j:Nat,t.2=j/\j<=n/\(t.1=ζ↔u.1=2/\∀(k:Nat)(g:Am),k<j->a[k]?=δ g->g.1=2->g.2.1≠u.2.1)) (λt=>((n:Int)-t.2).toNat) ⟨0,rfl,BV _,⟨λq=>⟨eq_of_beq q,λk g k0=>O! k0 (Nat.not_lt_zero _)⟩,λq=>beq_iff_eq.2 q.1⟩⟩ ?_;rintro⟨b,_⟩ ⟨j,rfl,j1,U⟩;dsimp only at U;unfold Sc;dsimp only;refine AC (λI=>?_) (λI=>An.done (by rw[show n=j by omega];exact U));rw[AY];refine AK (λao=>?_) (λal=>An.next ⟨j+1,rfl,o!,⟨λq=>(by cases q),λq=>?_⟩⟩ d!)
  ·have⟨q1,q2⟩:=U.1 ao;refine AA (AI) λv3 h3=>?_;have R:=h3.1;rw[CR]at R;refine AL (λJ=>An.next ⟨j+1,rfl,o!,⟨λ_=>⟨q1,λk g k0 k1 V=>?_⟩,λ_=>rfl⟩⟩ d!) (λJ=>AA (AI) λv4 h4=>AA (AI) λv5 h5=>An.next ⟨j+1,rfl,o!,?_⟩ d!);by_cases p:k=j;subst p;rw[R]at k1;cases k1;exact O! V J;exact q2 k g o! k1 V;have e4:v4=v3:=by have:=h4.1;rw[h3.1]at this;exact(BY this).symm
   have e5:v5=u:=c v5 h5;dsimp only;rw[e4,e5,M!];refine⟨λap=>⟨q1,λk g k0 k1 V=>?_⟩,λq=>q.2 j v3 o! R J⟩;by_cases p:k=j;subst p;rw[R]at k1;cases k1;exact ap;exact q2 k g o! k1 V
  have:=U.2 ⟨q.1,λk g k0=>q.2 k g o!⟩;rw[al]at this;cases this
 ·have⟨J,l⟩:=h6.1 S;refine AA (AI o! D_) λv7 h7=>?_;rw[c v7 h7];rcases hf _ h1.2 with⟨x,N,p⟩|o
  ·have⟨j,j1,x1,x2,xe⟩:=id N;rw[p,ACi h K hn N,AD];refine AL (λD_=>O! rfl D_) (λ_=>?_);have hw:=ACr h K (k:=j) ⟨x1,x2⟩ hn;rw[<-xe]at hw;dsimp only;rw[hw,AD,Bn,A!];refine AA (AI o! D_) λar Y=>?_;rw[c ar Y];refine AL (λB=>e λy hy=>B ?_) (λB=>?_);rw[<-lD h K hn hy.2.2.1 N (hy.2.2.2.1.symm.trans p)];exact hy.2.2.2.2;refine AA (P:=λr:Int=>0<=r/\r<=θ A) ?_ λi w=>?_
   ·refine CQ (λ(t:Int)=>0<=t/\t<=θ A) (λt=>t.toNat) o! (λt hI=>?_);have⟨t0,t1⟩:=hI;unfold Sd;refine AC (λI=>?_) (λ_=>An.done ⟨t0,t1⟩);rw[AY];exact AA (AI o! d!) λa2 _=>AC (λ_=>An.next o! o!) (λ_=>An.done ⟨t0,t1⟩)
   ·refine AA (BU (Ae _) w.1 w.2) λO F=>AA (BU w.1) λQ G=>?_;have a0:=F.2;have a1:=G.2;refine AA (AZ w!) λa3 z=>AA (AZ (by rw[z.1];simp;omega)) λa4 H=>AA (AZ (by rw[H.1,z.1];simp;omega)) λax Z_=>?_;have E_:ax=O++[x]++Q:=by rw[Z_.1,H.1,z.1];rfl
    have W:O=A.take i.toNat:=by rw[F.1];rfl
    have X_:Q=A.drop i.toNat:=by rw[G.1];exact BM (by rw[C5];omega)
    refine An.next ⟨n+1,rfl,o!,by dsimp only;rw[E_];simp[Aa,PL];omega,λy=>?_⟩ d!
    dsimp only;rw[Sv.step C,E_,W,X_,<-T y];have hA:y∈A↔y∈A.take i.toNat\/y∈A.drop i.toNat:=by
     conv=>lhs;rw[<-DG i.toNat A]
     exact Ak
    rw[Ak,Ak,A5,hA];constructor;rintro((q|q)|q);exact .inl (.inl q);rw[q];exact .inr ⟨J,l,N,p,B⟩;exact .inl (.inr q);rintro((q|q)|q);exact .inl (.inl q);exact .inr q;exact .inl (.inr (lD h K hn q.2.2.1 N (q.2.2.2.1.symm.trans p)))
  have M:∀x,¬y8 L d m a n u x:=λx q=>by have⟨r,hr,hz⟩:=o;rw[q.2.2.2.1,ACi h K hn q.2.2.1]at hr;cases hr;exact hz rfl
  exact AA o λv8 ad=>AL (λ_=>e M) (λhz=>O! hz ad)
noncomputable section

end
def LJ{a:Type}{l:S a}{i:U}(h:i<W l):ix l (i:Y)=Z l[i]:=by unfold ix;grind
def Hol(F:U->Y)(i j:U):Prop:=(∀a b,a<b->b<=i->a≠j->b≠j->F a<=F b)/\∀b,j<b->b<=i->F j<=F b
def mY{l:S Y}{i:U}(h:i<W l):l.getD i 0=l[i]:=by grind
def ADO{l:S Y}{j:U}(c:j<W l)(b:0<j)(a:U):((l.set j (l.getD (j-1) 0)).set (j-1) (l.getD j 0)).getD a 0=if a=j-1 then l.getD j 0 else if a=j then l.getD (j-1) 0 else l.getD a 0:=by grind
def AJD{l:List Y}(I:θ l<=12):An (ABC OX (λG=>G) l (0,(θ l:Y))) λr=>r.Perm l/\∀a b,a<b->b<θ l->r.getD a 0<=r.getD b 0:=by
 unfold ABC;refine AA (P:=λr=>r.Perm l/\∀a b,a<b->b<θ l->r.getD a 0<=r.getD b 0) ?_ λr hr=>AB hr;refine CQ (λ(s:Y×List Y)=>∃i:U,s.1=i/\1<=i/\i<=θ l+1/\s.2.Perm l/\∀a b,a<b->b<i->s.2.getD a 0<=s.2.getD b 0) (λs=>θ l+1-s.1.toNat) ⟨1,by show wi (0+1)=_;rw[AY];rfl,Al _,o!,mI _,λa b c d=>o!⟩ ?_;rintro⟨_,b⟩ ⟨i,rfl,J,K,m,v⟩;dsimp only at m v;have C:=m.length_eq;dsimp only;refine AC (λF=>AA (P:=λr=>r.Perm l/\∀a b,a<b->b<i+1->r.getD a 0<=r.getD b 0) ?_ λr hr=>?_) (λF=>An.done ⟨m,λa b c d=>v a b c o!⟩)
 ·refine CQ (λ(t:Y×List Y)=>∃j:U,t.1=j/\j<=i/\t.2.Perm l/\Hol (λa=>t.2.getD a 0) i j) (λt=>t.1.toNat) ⟨i,rfl,Al _,m,λa b c d A B=>v a b c o!,λb c d=>o!⟩ ?_;rintro⟨_,t⟩ ⟨j,rfl,H,z,y⟩;dsimp only at z y;have M:=z.length_eq;unfold AE6;dsimp only;refine AA (P:=λr:Unit⊕Unit=>(r=.inr ()/\0<j/\t.getD j 0<t.getD (j-1) 0)\/(r=.inl ()/\(j=0\/t.getD (j-1) 0<=t.getD j 0))) ?_ λr hr=>?_;refine AC (λg=>?_) (λg=>AB (.inr ⟨rfl,.inl o!⟩));rw[AY (x:=(j:Y)-1),show(j:Y)-1=((j-1:U):Y) by omega,LJ (show j<θ t by omega),AD,AD,LJ (show j-1<θ t by omega),AD,AD];refine AA Wo λN p=>?_;dsimp only at p;rw[mY o!,mY o!];exact AK (λh=>AB (.inl ⟨rfl,o!,p.1 h⟩)) (λh=>AB (.inr ⟨rfl,.inr (Int.not_lt.1 λq=>by rw[p.2 q]at h;cases h)⟩))
  ·rcases hr with⟨rfl,E_,u⟩|⟨rfl,hr⟩
   ·apply Ay;rw[AY (x:=(j:Y)-1),show(j:Y)-1=((j-1:U):Y) by omega,LJ (show j-1<θ t by omega),AD,AD,LJ (show j<θ t by omega),AD,AD,AD,AD];have L:(EU t (j:Y) t[j-1]).length=θ t:=pj;rw[LJ (show j-1<(EU t (j:Y) t[j-1]).length by omega),AD,AD];refine An.next ⟨j-1,rfl,o!,?_,?_⟩ d!
    grind[EU,Int.toNat_natCast,List.set_set_perm];unfold EU;dsimp only;rw[CR,CR,<-mY (show j-1<θ t by omega),<-mY (show j<θ t by omega)];have n:=ADO (l:=t) (show j<θ t by omega) E_;have⟨f,w⟩:=y;refine⟨λa b c d A B=>?_,λb c d=>?_⟩;dsimp only;rw[n,n,D! A,D! B];split;rename_i e;rw[D! o!];exact f (j-1) b o! d o! o!;rename_i e;split;exact f a (j-1) o! o! e o!;rename_i k;exact f a b c d e k;dsimp only;rw[n,n,C! rfl,D! o!];split;exact Int.le_of_lt u;exact w b o! d
   ·refine BF (An.done ⟨z,λa b c d=>?_⟩);have⟨f,w⟩:=y;by_cases o:a=j;subst o;exact w b c o!;by_cases k:b=j;subst k;have hr:=hr.resolve_left o!;by_cases D_:a=b-1;subst D_;exact hr;exact Ya (f a (b-1) o! o! o o!) hr;exact f a b c o! o k
 ·rw[AY (x:=(i:Y)+1)];exact An.next ⟨i+1,rfl,o!,o!,hr.1,hr.2⟩ d!
def AKa{a:Type}{Q:S a->Prop}{f:S a->Y×Y->V (S a)}{l:S a}(d:An (f l (0,(W l:Y))) λr=>r.Perm l/\Q r)(h:W l<=12)(n:Y):An (tB (λ(_:S a×(Y×(Y×Y))->V (S a)) p=>pdG f p.1 p.2) (l,0,len l,n)) λr=>r.Perm l/\Q r:=by
 have step:An (pdG f l (0,len l,n)) λr=>r.Perm l/\Q r:=by unfold pdG;rw[HX];unfold AJW;dsimp[len];rw[AY,G! o!,B!];have⟨r,hr,e⟩:=d;grind[cg]
 have⟨r,hr,e⟩:=step;have⟨s,c⟩:=iG (f:=λ(_:S a×(Y×(Y×Y))->V (S a)) p=>pdG f p.1 p.2) (x:=(l,0,len l,n)) (n:=1) hr;have⟨N,b⟩:=eG c;refine⟨s,c,?_⟩;cases N with
 |zero=>cases b
 |succ N=>exact step.get b
def AKn{a:Type}{Q:S a->Prop}{f:S a->Y×(Y×Y)->V (S a)}{l:S a}(b:∀n,An (f l (0,len l,n)) λr=>r.Perm l/\Q r)(h:W l<=12):An (soG f l) λr=>r.Perm l/\Q r:=by unfold soG Ti;obtain⟨n,g,-,-⟩:=AB2 (x:=W l) o!;grind[cg,Xe,AA,AB]
def AHv{l:S Y}(h:W l<=12):An (MS l ()) λr=>r.Perm l/\r.Pairwise (· <= ·):=(AKn (AKa (AJD h) h ·) h).mono λr q=>⟨q.1,EL.2 λi j c b a=>by have:=q.2 i j a (by rw[<-q.1.length_eq];exact b);rwa[mY c,mY b]at this⟩
def lgF(l:Ac)(i:Y):Y:=if l.1>i+1 then l.1 else i+1
def lgT(l:Ac)(k:Y):Y:=if l.1+W l.2.1-1<k then l.1+W l.2.1-1 else k
def vf(l:Ac)(lo i k:Y)(e:NE):Bool:=letI b:=(if e.1.2.1<k then e.1.2.1 else k);letI a:=(if e.1.1>i+1 then e.1.1 else i+1);e.1.2.2.1==lo&&τ (a<=b)&&(τ (lgF l i>lgT l k)||decide (a<lgF l i)||decide (b>lgT l k))
def AEL{L S:List EN}{a:AJ}{l:Ac}{p i k b hi:Int}{c:Nat}(h:AR L a)(hl:O6 L l)(hp:0<=p/\p<a.2.1)(B:RC a c)(A:c<=12)(p1:ON a p b hi)(al:0<=i)(ao:i<=1099511627776)(ho:Hd (a,l,p,i,k)=δ (S,0)):An (IQ (a,l,p,i,k)) λu=>u.2.2.2=0/\(u.1.Perm (((DE a).filter (vf l b i k)).map (·.2))/\u.1.Pairwise (· <= ·))/\((lgT l k<lgF l i/\u.2.1=0/\u.2.2.1=0)\/(lgF l i<=lgT l k/\u.2.1=lgF l i/\u.2.2.1=lgT l k)):=by
 unfold IQ;dsimp only;rw[ho,AD,H!,A!];refine AA (Oa hl.vl) λv1 W=>?_;have⟨ar,ad,E_,p2⟩:=tj h.vb hp;have C:=p1.uniq h.vb.1 rfl rfl p2;subst C;rw[E_,AD,Bn,A!];obtain⟨q,F,v,R,w2,rfl,w4,w5⟩:=qB h.vb h.ds (J8 h.vb) h.dis;rw[F,AD,AY (x:=i+1)];have Z_:(v.filter λe=>e.1.2.2.1==b).length<=12:=by rw[(R.filter _).length_eq];exact Cl (B b) A
 have t:∀j,((v.take j).filter (vf l b i k)).length<=12:=λj=>by
  refine Cl (Cl ((fk j v).filter _).length_le ?_) Z_;have e:v.filter (vf l b i k)=(v.filter λe=>e.1.2.2.1==b).filter (vf l b i k):=by rw[List.filter_filter];grind[List.filter_congr,vf]
  grind[List.length_filter_le]
 have N:v1=l.1+θ l.2.1-1:=W;refine AA (P:=λf=>f=(v.filter (vf l b i k)).map (·.2)) ?_ λK y=>?_
 ·refine CQ (λ(s:Int×List Int)=>∃j:Nat,s.1=j/\s.2=((v.take j).filter (vf l b i k)).map (·.2)/\j<=θ v) (λs=>θ v-s.1.toNat) ⟨0,rfl,rfl,BV _⟩ ?_;rintro⟨_,o⟩ ⟨j,rfl,ok,hk⟩;dsimp only at ok;unfold VU;dsimp[len];have ap:(v.map (·.1)).length=θ v:=BT _;refine AC (λB=>?_) (λB=>An.done (by rw[BM o!]at ok;exact ok));have m:j<θ v:=o!
  have z:v.take (j+1)=v.take j++[v[j]]:=by grind[List.take_add_one,List.getElem?_eq_getElem]
  have G:ix (v.map (·.1)) (j:Int)=δ v[j].1:=by unfold ix;rw[C! o!,Int.toNat_natCast,List.getElem?_map,List.getElem?_eq_getElem m];rfl
  have H:ix (v.map (·.2)) (j:Int)=δ v[j].2:=by unfold ix;rw[C! o!,Int.toNat_natCast,List.getElem?_map,List.getElem?_eq_getElem m];rfl
  rw[G,AD,H,AY (x:=(j:Int)+1)];have J:vf l b i k v[j]=η->An (δ (Step.next ((j:Int)+1,o)):Option (Step (Int×List Int) (List Int))) (MU (λ(s:Int×List Int)=>∃j:Nat,s.1=j/\s.2=((v.take j).filter (vf l b i k)).map (·.2)/\j<=θ v) (λs=>θ v-s.1.toNat) (θ v-j) λf=>f=(v.filter (vf l b i k)).map (·.2)):=λn=>An.next ⟨j+1,rfl,by dsimp only;rw[z,GM,Mr,n];simpa using ok,m⟩ d!
  have w:vf l b i k v[j]=ζ->An (σ (app o [v[j].2]) λQ=>δ (Step.next ((j:Int)+1,Q)):Option (Step (Int×List Int) (List Int))) (MU (λ(s:Int×List Int)=>∃j:Nat,s.1=j/\s.2=((v.take j).filter (vf l b i k)).map (·.2)/\j<=θ v) (λs=>θ v-s.1.toNat) (θ v-j) λf=>f=(v.filter (vf l b i k)).map (·.2)):=λn=>by
   have ol:θ o<=12:=by rw[ok,BT];exact t j
   refine AA (AZ w!) λQ X_=>An.next ⟨j+1,rfl,?_,m⟩ d!
   dsimp only;rw[X_.1,z,GM,Mr,n,ok];simp
  refine AO (λY=>?_) (λD_=>J (by unfold vf;rw[beq_eq_false_iff_ne.2 D_];rfl));rw[AD,N,AY (x:=i+1)];have n:vf l b i k v[j]=(τ ((if v[j].1.1>i+1 then v[j].1.1 else i+1)<=(if v[j].1.2.1<k then v[j].1.2.1 else k))&&(τ (lgF l i>lgT l k)||decide ((if v[j].1.1>i+1 then v[j].1.1 else i+1)<lgF l i)||decide ((if v[j].1.2.1<k then v[j].1.2.1 else k)>lgT l k))):=by unfold vf;rw[Y,L!,mE]
  refine AC (λg=>J ?_) (λg1=>AC (λg=>w ?_) (λT=>AC (λg=>w ?_) (λU=>AC (λg=>w ?_) (λV=>J ?_))));rw[n,F! o!,qH];rw[n,G! o!,G! (p:=lgF l i>lgT l k) g];rfl;rw[n,G! o!,G! (p:=(if v[j].1.1>i+1 then v[j].1.1 else i+1)<lgF l i) g];simp;rw[n,G! o!,G! (p:=(if v[j].1.2.1<k then v[j].1.2.1 else k)>lgT l k) g];simp;rw[n,F! (p:=lgF l i>lgT l k) T,F! (p:=(if v[j].1.1>i+1 then v[j].1.1 else i+1)<lgF l i) U,F! (p:=(if v[j].1.2.1<k then v[j].1.2.1 else k)>lgT l k) V];simp
 have I:θ K<=12:=by have:=t (θ v);rw[Hk]at this;rw[y,BT];exact this
 refine AA (AHv I) λM d=>?_;have r:=d.2;have d:=d.1;rw[cg d,B!,N];have O:M.Perm (((DE a).filter (vf l b i k)).map (·.2)):=d.trans (by rw[y];exact(R.filter _).map _);exact AC (λg=>AB ⟨rfl,⟨O,r⟩,.inl ⟨g,rfl,rfl⟩⟩) (λg=>AB ⟨rfl,⟨O,r⟩,.inr ⟨Int.not_lt.1 g,rfl,rfl⟩⟩)
structure xa(L:List EN)(d:Int)(m:Nat)(fs:List Am)(a:AJ)(l:Ac)(p:Int)(k:Nat)(fl:Int)(z:BS):Prop where
 page:z.1=p
 want:z.2.2.2.1=k
 fl:fl<=z.2.2.1
 img:∃j:Nat,z.2.2.1=BZ (L.take j) p/\BZ (L.take j) p<=k/\((z.2.1=0/\j=0)\/∃x,Sv L d m fs fs.length x/\x.1=z.2.1/\(j:Int)<=d/\x=(x.1,(m:Int),img (L.take j) m))
 used:IQ (a,l,p,z.2.2.1,(k:Int))=some (z.2.2.2.2.1,z.2.2.2.2.2.1,z.2.2.2.2.2.2,0)
def wI{n d:Int}{L:List EN}{a:AJ}{l:Ac}{p:Int}{k m c:Nat}{fs:List Am}(hL:LI n L)(C:Ge L)(R:AR L a)(I:O6 L l)(hr:RC a c)(N:c<=12)(hk:k<=θ L)(hm:(m:Int)=a.2.1)(hn:1<=m/\m<=64)(h8:θ fs<=8)(hf:∀f∈fs,FB IR L d m f)(J:0<=p/\p<a.2.1):∃K S fl,ON a p K S/\ti (iB a l K) k fl/\An (H9 (fs,a,l,p,(k:Int))) λr=>(r.2.2=49/\r.2.1.2.2.2.2.1=[])\/(r.2.2=0/\r.1=st (L.take k) p/\xa L d m fs a l p k fl r.2.1):=by
 have ad:=I.len;have Y:0<=p/\p<64:=⟨J.1,o!⟩
 have pm:0<=p/\p<m:=⟨J.1,o!⟩
 have⟨K,S,fl,p1,O,_,_⟩:=qA (p:=p) (i:=0) (j:=(k:Int)) (CPa 4096) g! hL o! (Ae _) o! o! R I J;refine⟨K,S,fl,p1,O,?_⟩;obtain⟨v,hv,rfl⟩:=EO R.vb;obtain⟨w,hw,rfl⟩:=GH I.vl;have pg:=λj (hq:BZ (L.take j) p<=k)=>AKb hL C R I hr N hk J Y.2 p1 O (j:=j) hq;have⟨V,hV,v8,H⟩:=rR C o! hn h8 hf;have hP:∀x∈V,PI L d m x:=λx hx=>by have⟨i,f,_,_,q⟩:=(H x).1 hx;exact q.2.2.1
 unfold H9;dsimp only;rw[hv,AD,Bn,A!,hw,AD,Bn,A!,F! o!,A!,F! o!,A!,F! o!,A!,hV,AD];refine AA (yv C o! hn hV v8 hP pm) λh t=>?_;have⟨r8,E_⟩:=t;refine AA (P:=λ(r:(Int×AS×BS)⊕(AS×BS))=>(∃z,r=.inr z)\/∃y:BS,r=.inl (0,st (L.take k) p,y)/\xa L d m fs a l p k fl y) ?_ λr U=>?_
 ·refine CQ (λ(s:Int×AS×BS)=>0<=s.1/\s.1<=θ h) (λs=>((θ h:Int)-s.1).toNat) ⟨Ae _,d!⟩ ?_;rintro⟨i,s⟩ ⟨i0,i1⟩;dsimp only at i0 i1;unfold Sp;dsimp[len];refine AC (λD_=>?_) (λD_=>An.done (.inl ⟨_,rfl⟩));rw[AY (x:=i+1)];refine AA (AI i0 D_) λv5 h5=>?_;have⟨x,M,xk,xe⟩:=(E_ v5).1 h5.2;have⟨j,hj,x1,x2,ex⟩:=hP x M;have al:dF x p=BZ (L.take j) p:=by grind[zL]
  refine AA (AIJ v8 (y:=v5) ⟨x,M,by rw[xe]⟩) λv9 h9=>?_;obtain⟨g,G,rfl,g0,gx,Q⟩:=h9;have W:G=x:=Sv.uniq C o! hn ((H G).1 (BO gx)) ((H x).1 M) (Q.trans (by rw[xe]));subst W;apply BF;have T:ix V g=δ G:=by unfold ix;rw[C! g0,gx]
  have b:=xX C (by omega:θ L<=1099511627776) (j:=j) ⟨x1,x2⟩ hn pm;rw[<-ex]at b;rw[T,AD,b,AD,H!,A!,Jg];rcases pg j o! with⟨A,B,e⟩|⟨A,B⟩
  ·rw[B,AD,H!,A!];have⟨u,e,F⟩:=e;rw[e,AD,F,L!,B!];exact An.done (.inr ⟨_,rfl,rfl,rfl,A,⟨j,rfl,o!,.inr ⟨G,(H G).1 M,by rw[xe],hj,ex⟩⟩,by dsimp only;rw[e,<-F]⟩)
  ·refine AA B λZ_ o=>AL (λ_=>An.next d! d!) (λX_=>O! X_ o)
 rcases U with⟨z,rfl⟩|⟨y,rfl,A⟩;apply Ay;have l0:BZ (L.take 0) p=0:=rfl;have f0:=O.1;rw[show C6 p=δ (st (L.take 0) p)from rfl,AD,Jg];rcases pg 0 (by rw[l0];omega)with⟨A,B,e⟩|⟨A,B⟩;rw[B,AD,H!,A!];have⟨u,e,F⟩:=e;rw[e,AD,F,L!,B!];exact AB (.inr ⟨rfl,rfl,rfl,rfl,A,⟨0,rfl,by rw[l0];omega,.inl ⟨rfl,rfl⟩⟩,by dsimp only;rw[e,<-F]⟩);exact AA B λZ_ o=>AL (λ_=>AB (.inl ⟨rfl,rfl⟩)) (λX_=>O! X_ o);exact BF (AB (.inr ⟨rfl,rfl,A⟩))
def cvr(P:S A1)(n:Y):Prop:=∃s∈P,s.1<=n/\n<=s.2.1
def ACs{x:List A1×BS}{s:Y×Bool}(h:θ x.1<=1000):An (Ai (MR x s) 0) λr=>(∃(i:U)(u:A1),r=.inl (i:Y)/\x.1[i]?=δ u/\u.1<=s.1/\s.1<=u.2.1)\/(r=.inr ()/\¬cvr x.1 s.1):=by
 refine CQ (λ(t:Y)=>∃i:U,t=i/\i<=θ x.1/\∀u∈x.1.take i,¬(u.1<=s.1/\s.1<=u.2.1)) (λt=>θ x.1-t.toNat) ⟨0,rfl,BV _,λu d=>by simp at d⟩ ?_;rintro _ ⟨i,rfl,g,d⟩;unfold MR;dsimp[len];refine AC (λe=>?_) (λe=>An.done (.inr ⟨rfl,?_⟩))
 ·have a:i<θ x.1:=o!
  rw[LJ a,AD,AY (x:=(i:Y)+1)];have key:¬(x.1[i].1<=s.1/\s.1<=x.1[i].2.1)->∀u∈x.1.take (i+1),¬(u.1<=s.1/\s.1<=u.2.1):=λhn u f=>by grind[List.take_add_one]
  exact AC (λb=>AC (λc=>An.done (.inl ⟨i,x.1[i],rfl,Au a,b,c⟩)) (λc=>An.next ⟨i+1,rfl,a,key λq=>c q.2⟩ o!)) (λb=>An.next ⟨i+1,rfl,a,key λq=>b q.1⟩ o!)
 rintro⟨u,f,q⟩;grind
def AH5{x:S A1×BS}(h:W x.1<=1000)(o:∀u∈x.1,u.2.1<=1099511627776)(B:0<=x.2.2.2.1)(C:x.2.2.2.1<=1099511627776)(D_:x.2.2.2.2.1<=1099511627776):An (Hn x) λb=>b=E↔∀n,x.2.2.2.1<n->n<=x.2.2.2.2.1->cvr x.1 n:=by
 unfold Hn;rw[AY (x:=x.2.2.2.1+1)];have step:∀{s:Y}{i:U}{u:A1},(∀n,x.2.2.2.1<n->n<s->cvr x.1 n)->x.1[i]?=Z u->u.1<=s->s<=u.2.1->∀n,x.2.2.2.1<n->n<u.2.1+1->cvr x.1 n:=λ{s i u} t a g k n c m=>by by_cases hn:n<s;exact t n c hn;exact⟨u,BO a,o!⟩
 refine AC (λd=>?_) (λd=>AB ⟨λ_ n c m=>o!,λ_=>rfl⟩);rw[show WQ x=MR x (wi (x.2.2.2.1+1),X)from rfl,AY (x:=x.2.2.2.1+1)];refine AA (ACs h) λr hr=>?_;rcases hr with⟨i,u,rfl,a,g,k⟩|⟨rfl,hn⟩
 ·apply BF;dsimp only at g k;have v:=o u (BO a);rw[G! o!,B!,LJ (EX.1 a).1,AD,(EX.1 a).2,AY (x:=u.2.1+1)];refine AA (P:=λr=>(∃b,r=.inl b/\∀n,x.2.2.2.1<n->n<=x.2.2.2.2.1->cvr x.1 n)\/(r=.inr X/\¬ ∀n,x.2.2.2.1<n->n<=x.2.2.2.2.1->cvr x.1 n)) ?_ λr hr=>?_
  ·refine CQ (λs=>x.2.2.2.1<s.1/\s.1<=1099511627777/\∀n,x.2.2.2.1<n->n<s.1->cvr x.1 n) (λs=>(x.2.2.2.2.1+1-s.1).toNat) ⟨d!,d!,step (s:=x.2.2.2.1+1) (λn c m=>o!) a g k⟩ ?_;rintro⟨s,b⟩ ⟨z,A,l⟩;dsimp only at z A l;unfold WS;dsimp only;refine AC (λd=>AA (ACs (s:=(s,b)) h) λr hr=>?_) (λd=>k? (.inl ⟨_,rfl,λn c m=>l n c o!⟩));rcases hr with⟨j,w,rfl,f,k1,p⟩|⟨rfl,hn⟩
   ·apply BF;dsimp only at k1 p;have y:=o w (BO f);rw[G! o!,B!,LJ (EX.1 f).1,AD,(EX.1 f).2,AY (x:=w.2.1+1)];exact y! ⟨d!,d!,step l f k1 p⟩ d!
   ·grind[Ay,k?]
  grind[BF,AB,Ay]
 refine Ay (AB ⟨λe=>by (first|cases e|simp at e),λq=>O! (q _ o! d) hn⟩)
def AB1{a:List Y}{d:Y}(h:θ a<=1000):An (Pz (a,d)) λr=>(r= -1/\d∉a)\/∃i:U,r=i/\a[i]?=δ d:=by
 refine AA (P:=λ(r:Y⊕Unit)=>(∃i:U,r=.inl (i:Y)/\a[i]?=δ d)\/(r=.inr ()/\d∉a)) ?_ λr hr=>?_
 ·refine CQ (λ(t:Y)=>∃i:U,t=i/\i<=θ a/\d∉a.take i) (λt=>θ a-t.toNat) ⟨0,rfl,BV _,q!⟩ ?_;rintro _ ⟨i,rfl,f,j⟩;unfold Se;dsimp[len];refine AC (λc=>?_) (λc=>An.done (.inr ⟨rfl,k!⟩));have b:i<θ a:=o!
  rw[LJ b,AD,AY (x:=(i:Y)+1)];refine AO (λe=>An.done (.inl ⟨i,rfl,k!⟩)) (λe=>An.next ⟨i+1,rfl,b,λg=>?_⟩ o!);grind[List.take_add_one]
 grind[AB]
def tH(e:NE):A1:=(e.1.1,e.1.2.1,e.1.2.2.2.2.2)
def ly(l:Ac)(f t:Y):S A1:=if f=0 then []else [(f,t,(l.2.1.drop (f-l.1).toNat).take (t-f+1).toNat)]
def ADs{L:List EN}{a:AJ}{l:Ac}{z:BS}{B p:Int}(h:AR L a)(f:Dh l)(M:0≤z.1∧z.1<a.2.1)(V:ON a z.1 B p){E_:List NE}(F:∀e∈E_,e∈DE a∧e.1.2.2.1=B)(Q:z.2.2.2.2.1=E_.map (·.2))(K:θ E_≤1000)
  (J:z.2.2.2.2.2.1=0\/(l.1<=z.2.2.2.2.2.1/\z.2.2.2.2.2.1<=z.2.2.2.2.2.2/\z.2.2.2.2.2.2<=l.1+θ l.2.1-1)):Eu (a,l,z)=δ (E_.map tH++ly l z.2.2.2.2.2.1 z.2.2.2.2.2.2,ζ):=by
 suffices N:An (Eu (a,l,z)) λr=>r=(E_.map tH++ly l z.2.2.2.2.2.1 z.2.2.2.2.2.2,ζ) by obtain⟨r,hr,rfl⟩:=N;exact hr
 have G:=f.1;unfold Eu;dsimp only;have⟨S,c,u,W⟩:=tj h.vb M;have t:=V.uniq h.vb.1 rfl rfl W;subst t;rw[u,AD,Bn,A!];obtain⟨q,w,v,C,w2,rfl,w4,w5⟩:=qB h.vb h.ds (J8 h.vb) h.dis;rw[w,AD];have nd:(v.map (·.2)).Nodup:=((C.map (·.2)).nodup_iff).2 (II.2 ((mi h.vb).imp λh e=>o!));refine AA (P:=λr=>r=.inr (E_.map tH)) ?_ λr hr=>?_
 ·refine CQ (λ(s:Int×List A1)=>∃j:Nat,s.1=j/\s.2=(E_.take j).map tH/\j<=θ E_) (λs=>θ E_-s.1.toNat) ⟨0,rfl,rfl,BV _⟩ ?_;rintro⟨_,o⟩ ⟨j,rfl,ok,hk⟩;dsimp only at ok;unfold O3;dsimp[len];rw[Q];refine AC (λn=>?_) (λn=>An.done (by rw[BT]at n;rw[BM o!]at ok;rw[ok]));rw[BT]at n;have b:j<θ E_:=o!
  have⟨T,U⟩:=F E_[j] (F8 b);rw[LJ (l:=E_.map (·.2)) (by rw[BT];exact b),AD,List.getElem_map];refine AA (AB1 (by rw[BT];omega)) λr hr=>?_;have O:E_[j]∈v:=C.mem_iff.2 T;rcases hr with⟨_,hn⟩|⟨i,rfl,p⟩;grind
  ·have d:i<θ v:=by grind[List.getElem?_eq_some_iff,List.length_map]
   have I:v[i]=E_[j]:=by have⟨R,c,A⟩:=List.getElem_of_mem O;have:=(qS (l:=v.map (·.2)) (i:=i) (j:=R) (by rw[BT];exact d) nd).1 (by rw[p,CU,Au c,A];rfl);subst this;exact A
   rw[F! o!,A!,LJ (l:=v.map (·.1)) (by rw[BT];exact d),AD,List.getElem_map,I,U,H!,A!,AD,AD,AD];refine AA (AZ (by rw[ok,BT,BP,PL];omega)) λv9 D_=>?_;rw[AY (x:=(j:Int)+1)];refine An.next ⟨j+1,rfl,?_,b⟩ d!
   rw[D_.1,ok,Ck,Au b,Ke];rfl
 rw[hr];refine Ay (AO (λe=>AB (by unfold ly;rw[C! e,List.append_nil])) (λe=>?_));have⟨f1,f2,f3⟩:=J.resolve_left e;rw[F! o!,A!];refine AA (Oa f) λy g=>?_;have Z_:y=l.1+θ l.2.1-1:=g;have hb:=f.2.1;have H:=f.2.2.1;rw[F! o!,A!,AY (x:=z.2.2.2.2.2.1-l.1),AY (x:=z.2.2.2.2.2.2-l.1),AY (x:=z.2.2.2.2.2.2-l.1+1)];refine AA (BU) λX_ k=>AA (AZ (by rw[BT,PL];omega)) λY m=>AB ?_;rw[m.1,k.1];unfold ly;rw[D! e,show(z.2.2.2.2.2.2-l.1+1).toNat-(z.2.2.2.2.2.1-l.1).toNat=(z.2.2.2.2.2.2-z.2.2.2.2.2.1+1).toNat by omega]
def AGh:I6 ()=Z E:=by
 suffices A:An (I6 ()) λr=>r=E by obtain⟨r,hr,rfl⟩:=A;exact hr
 have G:Dh ((1,[],0):Ac):=⟨g!,g!,g!,g!,g!,λi e h=>by simp at h⟩
 have hn:G6 ()=Z (1,[],0):=rfl;unfold I6;refine AA (AAo (L:=[]) (x:=(2,[0])) ⟨g!,g!,g!,g!,rfl,λi a b D_ o S=>by simp at o S,λa o=>by simp at o;omega⟩) λv h=>?_;have⟨l,z2,B,z4,g,z6⟩:=h;dsimp only at g;have n:O6 [] ((1,[],0):Ac):=Te G;rw[hn,AD];have⟨lo,D_,fl,p1,f1,V⟩:=wI (fs:=[]) (p:=1) (m:=2) (k:=0) (d:=0) (LI.nil 0) Ge.nil l n B g! (Al _) g.symm g! g! (λf s=>by simp at s) ⟨g!,by rw[g];decide⟩;have⟨r,e,r1,r2⟩:=AC1 (fs:=[]) (p:=1) (m:=2) (k:=0) (d:=0) (LI.nil 0) Ge.nil l n (AEn (L:=[]) rfl (BV _)) B g! (Al _) g.symm g! g! (λf s=>by simp at s) ⟨g!,by rw[g];decide⟩;have⟨r',I,hr⟩:=V;have K:=e.symm.trans I;cases K;rcases hr with⟨q,_⟩|⟨_,_,R⟩;omega;have⟨h1,h2,h3,⟨j,P,h5,Q⟩,C⟩:=R;have J:H9 ([],v.1,(1,[],0),1,0)=Z r:=e;have q0:r.2.1.2.2.1=0:=by rw[P,List.take_nil];rfl
 have i0:r.2.1.2.1=0:=by rcases Q with q|⟨x,⟨i,f,D_,_⟩,_⟩;exact q.1;simp_all[Nat.not_lt_zero]
 rw[q0]at C;have⟨ad,U,O,H,M,_,y⟩:=qA (p:=1) (i:=0) (j:=((0:Nat):Int)) (CPa 4096) g! (LI.nil 0) g! (Ae _) g! g! l n ⟨g!,by rw[g];decide⟩;have N:=M.2.1;have⟨u,F,u1,u2,u3⟩:=AEL l n ⟨g!,by rw[g];decide⟩ B g! H (Ae _) g! (y.resolve_left λq=>o!).2;rw[C]at F;cases F;have Z_:r.2.1.2.2.2.2.1=[]:=by grind[List.Perm.eq_nil,List.filter_eq_nil_iff,List.Perm.nil,vf]
 have ft:r.2.1.2.2.2.2.2.1=0/\r.2.1.2.2.2.2.2.2=0:=by rcases u3 with q|q;exact q.2;exact O! q.1 g!
 have Y:r.2.1=(1,0,0,0,[],0,0):=by grind[Prod.ext]
 have c:Ga (1,0,0,0,[],0,0)=Z E:=by unfold Ga;rw[HX];rfl
 have⟨q,W,q1⟩:=EO l.vb;have⟨w,X_,w1⟩:=GH G;have t:Dr ([],v.1,(1,[],0),1,0,0,0,[],0,0)=Z (st (([]:Ψ EN).take 0) 1,0):=by
  unfold Dr;dsimp only;rw[W,q1,AD,Bn,A!,X_,w1,AD,Bn,A!,c,AD,Bn,A!];rw[show Hm (([]:Ψ Am),((1,0,0,0,[],0,0):BS))=Z (st (([]:Ψ EN).take 0) 1,E)from rfl,AD];rw[ADs (z:=(1,0,0,0,[],0,0)) (E_:=[]) l n.vl ⟨g!,by rw[g];decide⟩ H (λe T=>by simp at T) rfl g! (.inl rfl),AD];dsimp only;rw[Bn,A!,A!];rw[show Hn (List.map tH []++ly (1,[],0) 0 0,((1,0,0,0,[],0,0):BS))=Z E from rfl,AD,Bn,A!];rw[HX,show LD ([],v.1,(1,[],0),1,0,0,0,[],0,0) (List.map tH []++ly (1,[],0) 0 0,E) (0,(0,0,GK.all (X,[])),[])=Z (.done (.inr ((0,0,GK.all (X,[])),[])))from rfl];dsimp[p?,Sum.elim_inr];have A:F6 [] ()=Z []:=by unfold F6 AAV;grind[List.mergeSort_nil]
  rw[A];dsimp[p?,List.length_nil,len];rw[show ξ 0 0=E from rfl,B!,G! g!,B!,yY (es:=[]) trivial g!];rfl
 unfold Lj;rw[J,AD,AD,r2,L!,B!,Y,L!,B!,c,AD,B!,AD];rw[show C6 1=Z (st (([]:Ψ EN).take 0) 1)from rfl,AD];unfold T9;dsimp only;rw[t,AD,L!,B!,xH];exact AB rfl
structure GP(z:BS):Prop where
 page:0<=z.1/\z.1<64
 img:0<=z.2.1/\z.2.1<=1073741824
 lsn:0<=z.2.2.1/\z.2.2.1<=z.2.2.2.1/\z.2.2.2.1<=1099511627776
 none:z.2.1=0->z.2.2.1=0
 asc:z.2.2.2.2.1.Pairwise (· < ·)
 pos:∀d∈z.2.2.2.2.1,1<=d
 log:(z.2.2.2.2.2.1=0/\z.2.2.2.2.2.2=0)\/(1<=z.2.2.2.2.2.1/\z.2.2.2.2.2.1<=z.2.2.2.2.2.2)
theorem AGc{z:BS}(h:θ z.2.2.2.2.1<=1000):An (Ai (FC z) (0,0)) λr=>r=.inr ()\/(r=.inl η/\¬GP z):=by
 refine CQ (λ(s:Y×Y)=>∃j:U,s.2=j/\j<=θ z.2.2.2.2.1/\((j=0/\s.1=0)\/∃i,j=i+1/\z.2.2.2.2.1[i]?=δ s.1)) (λs=>θ z.2.2.2.2.1-s.2.toNat) ⟨0,rfl,BV _,.inl ⟨rfl,rfl⟩⟩ ?_;rintro⟨l,_⟩ ⟨j,rfl,k,f⟩;unfold FC;dsimp[len];refine AC (λd=>?_) (λd=>An.done (.inl rfl));have a:j<θ z.2.2.2.2.1:=o!
 rw[LJ a,AD,AY (x:=(j:Y)+1)];refine AC (λc=>An.done (.inr ⟨rfl,λg=>?_⟩)) (λc=>An.next ⟨j+1,rfl,a,.inr ⟨j,rfl,Au a⟩⟩ k!);rcases f with⟨_,rfl⟩|⟨i,rfl,e⟩;have:=g.pos _ (F8 a);omega;have b:=(EX.1 e)
 have:=EL.1 g.asc i (i+1) b.1 a o!;grind
def AB7{z:BS}(h:W z.2.2.2.2.1<=1000):An (Ga z) λb=>GP z->b=E:=by
 have d:An (y (z.2.2.2.2.2.1==0) (y (z.2.2.2.2.2.2==0) (Z E)<|y (τ (z.2.2.2.2.2.1>=1)) (Z (τ (z.2.2.2.2.2.1<=z.2.2.2.2.2.2)))<|Z X)<|y (τ (z.2.2.2.2.2.1>=1)) (Z (τ (z.2.2.2.2.2.1<=z.2.2.2.2.2.2)))<|Z X) λb=>GP z->b=E:=by refine AO (λc=>AO (λ_=>AB λ_=>rfl) (λk=>AC (λ_=>AB λg=>?_) (λ_=>AB λg=>?_))) (λc=>AC (λ_=>AB λg=>?_) (λ_=>AB λg=>?_));grind;have:=g.log;omega;have:=g.log;exact G! o!;have:=g.log;omega
 have lp:An (σ (Ai (FC z) (0,0)) λj=>ν (Z ·) (λl=>y (z.2.2.2.2.2.1==0) (y (z.2.2.2.2.2.2==0) (Z E)<|y (τ (z.2.2.2.2.2.1>=1)) (Z (τ (z.2.2.2.2.2.1<=z.2.2.2.2.2.2)))<|Z X)<|y (τ (z.2.2.2.2.2.1>=1)) (Z (τ (z.2.2.2.2.2.1<=z.2.2.2.2.2.2)))<|Z X) j) λb=>GP z->b=E:=by grind[AA,AGc,AB]
 have a:∀{P:Prop},(GP z->¬P)->P->An (Z X) λb=>GP z->b=E:=λhn f=>AB λg=>O! f (hn g);refine AC (a λg=>by have:=g.page;omega) λ_=>AC (a λg=>by have:=g.page;omega) λ_=>AC (a λg=>by have:=g.img;omega) λ_=>AC (a λg=>by have:=g.img;omega) λ_=>AC (a λg=>by have:=g.lsn;omega) λ_=>AC (a λg=>by have:=g.lsn;omega) λ_=>AC (a λg=>by have:=g.lsn;omega) λ_=>AO (λe=>AC (a λg=>by have:=g.none e;omega) λ_=>lp) λ_=>lp
def ADe{i k:Type}{f:i->k}{l l2:S k}(h:l.Perm l2):∀m:S i,l2=m.map f->∃d:S i,d.Perm m/\d.map f=l:=by
 induction h with
 |nil=>simp_all
 |cons x h o=>
  intro m c;cases m with
  |nil=>cases c
  |cons a m=>injection c with n j;have⟨d,p,q⟩:=o m j;exact⟨a::d,p.cons a,k!⟩
 |swap x y l=>
  intro m c;match m with
  |a::b::m=>exact⟨b::a::m,.swap a b m,k!⟩
 |trans n j e g=>intro m c;have⟨r,t,q1⟩:=g m c;have⟨s,u,q2⟩:=e r q1.symm;exact⟨s,u.trans t,q2⟩
def AHo{L}{a}(h:AR L a):∀e∈DE a,ak e.1:=by have⟨q,b,v,c,d,_,f,g⟩:=qB h.vb h.ds (J8 h.vb) h.dis;grind
def AJX{n d:Int}{L:Ψ EN}{a:AJ}{l:Ac}{p b V fl:Int}{k m c:Nat}{w:Ψ Am}(S:LI n L)(T:Ge L)(r:AR L a)(B:O6 L l)(hr:RC a c)(o:c≤12)(hk:k≤θ L)(hm:(m:Int)=a.2.1)(hn:1≤m∧m≤64)(h8:θ w≤8)(hf:∀f∈w,FI L d m f)(K:0≤p∧p<a.2.1)
  (M:ON a p b V) (N:ti (iB a l b) k fl) {z:BS} (X_:xa L d m w a l p k fl z):∃E_:Ψ NE,E_.map (·.2)=z.2.2.2.2.1/\θ E_<=12/\E_.Nodup/\(∀e,e∈E_↔e∈DE a/\vf l b z.2.2.1 k e=E)/\((lgT l k<lgF l z.2.2.1/\z.2.2.2.2.2.1=0/\z.2.2.2.2.2.2=0)\/(lgF l z.2.2.1<=lgT l k/\z.2.2.2.2.2.1=lgF l z.2.2.1/\z.2.2.2.2.2.2=lgT l k))/\(z.2.2.2.2.2.1=0\/(l.1<=z.2.2.2.2.2.1/\z.2.2.2.2.2.1<=z.2.2.2.2.2.2/\z.2.2.2.2.2.2<=l.1+θ l.2.1-1))/\z.2.2.2.2.1.Pairwise (· <= ·)/\z.2.2.2.2.1.Nodup:=by
 have J:=B.len;obtain⟨h1,h2,h3,⟨j,h4,h5,h6⟩,Q⟩:=X_;have q0:=Ry T p j;obtain⟨Y,W,P,Z_,O,_,F⟩:=qA (p:=p) (i:=z.2.2.1) (j:=(k:Int)) (CPa 4096) g! S o! o! o! o! r B K;have D_:=M.uniq r.vb.1 rfl rfl Z_;subst D_;have A:=N.uniq (λ_=>YZ) O;subst A;obtain⟨u,t,u1,v,H⟩:=AEL r B K hr o M o! o! (F.resolve_left λq=>o!).2;rw[Q]at t;injection t with t;subst t;dsimp only at u1 v H;obtain⟨g,s,I⟩:=ADe v.1 _ rfl;have R:∀e∈g,e∈DE a/\vf l b z.2.2.1 k e=E:=λe U=>BQ.1 (s.mem_iff.1 U);have C:θ g=θ z.2.2.2.2.1:=by rw[<-I,BT]
 have y:θ g<=12:=by rw[s.length_eq];refine Cl ?_ (Cl (hr b) o);rw[show(DE a).filter (vf l b z.2.2.1 k)=((DE a).filter λe=>e.1.2.2.1==b).filter (vf l b z.2.2.1 k) by rw[List.filter_filter];refine List.filter_congr λx _=>?_;unfold vf;cases (x.1.2.2.1==b)<;>simp];exact EK _ _
 have G:g.Nodup:=(s.nodup_iff).2 ((J8 r.vb).filter _);refine⟨g,I,y,G,λe=>by rw[s.mem_iff,BQ],H,?_,v.2,(v.1.nodup_iff).2 (((II.2 ((mi r.vb).imp λh e=>o!)).sublist ((Wd).map _)))⟩;rcases H with q|⟨q1,q2,q3⟩;exact .inl q.2.1;refine .inr ⟨?_,o!,?_⟩;rw[q2];unfold lgF;split<;>omega;rw[q3];unfold lgT;split<;>omega
end Go.Pm
