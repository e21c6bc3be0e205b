/- Texts of wip, joined and shortened by wip/tools/pack.py; nothing is assumed. -/
import Derived.Test.YtdbincbpjobdpaaGreatK13
noncomputable section
set_option linter.all false
open Option renaming some->Z
open List renaming length->U
open Go renaming Ψ->S
open Bool renaming false->Y
open Bool renaming true->V
open Go renaming Ω->T
open Option renaming some->δ,none->ε,bind->σ
open Bool renaming true->ζ,false->η
open List renaming length->θ
open Go.IntKind renaming wrap->ι
namespace Go.Pm
open Go Go.Ab
set_option maxHeartbeats 400000
def AHe{A t:BZ}{b:UInt8}:six (A++b::t) (U A:Int)=Z (b.toNat:Int):=by grind[six]
def AHT{x}(h:Hg x):Ap (Aj (Gz (IN x)) (0,(x.1,x.2.1,Gd.all (Y,[])),0,0,Gd.all (Y,[]))) λr=>∃z,r=.inr (x,z):=by
 have y:=dZ h;refine Ce (λs=>0<=s.1/\s.1<=16/\s.2.1.1=x.1/\s.2.1.2.1=x.2.1/\∀j:Fin 16,s.2.1.2.2 j=if(j.val:Int)<s.1 then x.2.2 j else(Y,[])) (λs=>(16-s.1).toNat) ⟨Ae _,u!,rfl,rfl,λj=>by rw[D! d!];rfl⟩ ?_;rintro⟨i,⟨p,n,a⟩,z⟩ ⟨l,J,C,hn,g⟩;dsimp only at l J C hn g;subst C hn;unfold Gz;dsimp only;refine AC (λk=>?_) (λk=>k? ⟨z,?_⟩)
 ·rw[AY (x:=i*13),AY (x:=12+i*13),AY (x:=12+i*13+1),AY (x:=i+1)];have⟨N,D⟩:=mZ (a:=x.2.2) (i:=i.toNat) o!;have⟨A,r,t,M⟩:=wQ h (i:=i.toNat) o!;have b:=h.cl i.toNat
  generalize G:cl x.2.2 i.toNat=c at*;have B:U A+(13+U r)=256:=by have:=y;rw[t,Ac,Ac,dY b.1]at this;exact this
  have f:six (IN x) (12+i*13)=Z (if c.1=V then(U c.2:Int)else 255):=by have q:=b.1;have e:Wv c=UInt8.ofNat ((if c.1=V then(U c.2:Int)else 255)%256).toNat::(c.2++jc (12-U c.2)):=rfl;rw[t,show(12+i*13:Int)=(U A:Int) by omega,e,ET,AHe,fQ];apply E! Z;split<;>omega
  rw[f,AD];have E:∀m:Gd 16 Cj,(∀j:Fin 16,m j=if(j.val:Int)<i+1 then x.2.2 j else(Y,[]))->Ap (Z (Step.next (i+1,(x.1,x.2.1,m),z)):T (Step (Int×AT×AT) ((Int×AT)⊕(AT×AT)))) (N2 (λs=>0<=s.1/\s.1<=16/\s.2.1.1=x.1/\s.2.1.2.1=x.2.1/\∀j:Fin 16,s.2.1.2.2 j=if(j.val:Int)<s.1 then x.2.2 j else(Y,[])) (λs=>(16-s.1).toNat) (16-i).toNat λr=>∃z,r=.inr (x,z)):=λm o=>y! ⟨d!,d!,rfl,rfl,o⟩ d!
  by_cases d:c.1=V;have q:=b.1;rw[C! d,AY (x:=(U c.2:Int)),beq_eq_false_iff_ne.2 o!,A!,F! o!,A!,AY];have⟨s,I,u⟩:=Ca (s:=IN x) (lo:=12+i*13+1) (hi:=12+i*13+1+(U c.2:Int)) o! o! (by rw[y];omega);have w:s=c.2:=by
   rw[u.1,t];have K:(12+i*13+1).toNat=U A+1:=o!
   have L:(12+i*13+1+(U c.2:Int)).toNat-(12+i*13+1).toNat=U c.2:=o!
   grind[List.drop_drop,List.drop_left,Wv,t?,List.drop_left',A2,List.take_left]
  rw[I,w,AD];have⟨v,F,_⟩:=Dc (a:=a) l k;rw[F,AD,AD];exact E _ (ABo g ⟨l,k⟩ λH=>D.symm.trans (Da d rfl));rw[D! d,AY,beq_iff_eq.2 rfl,B!];exact E _ (yz g ⟨l,k⟩ λH=>D.symm.trans (Da (by simpa using d) (b.2.resolve_left d)))
 refine E! Sum.inr (Da (Da rfl (Da rfl (funext λj=>?_))) rfl);exact(g j).trans (C! o!)
def ABU{a t:BZ}{n k:Int}(h:(θ a:Int)+θ t<=2199023255552)(b:1<=k)(d:k<=8)(e:k<=θ t)(g:t.take k.toNat=C9 n k.toNat)(hn:0<=n)(f:n<256^k.toNat)(c:n<9223372036854775808):Az (a++t,(θ a:Int),k)=δ (n,0):=by grind[jf,ABP]
theorem ADU{x}(h:Hg x)(hn:x.2.1≠0):Ek (IN x)=Z (x,0):=by
 have b:=dZ h;have p:=h.2.1;have q:=h.2.2.2.1;unfold Ek;have⟨o,q1,e⟩:=Ca (s:=IN x) (lo:=0) (hi:=8) g! g! (by rw[b];decide);have⟨l,q2,f⟩:=Ca (s:=IN x) (lo:=248) (hi:=256) g! g! (by rw[b];decide);have⟨m,q3,g⟩:=Ca (s:=IN x) (lo:=0) (hi:=244) g! g! (by rw[b];decide);have i:l=C9 x.2.1 8:=by rw[f.1];show List.take 8 (List.drop 248 (IN x))=_;rw[og h,BO (by rw[A2];exact Al _)]
 have j:m=LF x:=g.1.trans (by show List.take 244 (IN x)=_;unfold IN;exact G4 (HD h));have c:=aB (LF x);have q4:Az (IN x,244,4)=Z (Pq (LF x),0):=by have:=ABU (a:=LF x) (t:=C9 (Pq (LF x)) 4++C9 x.2.1 8) (n:=Pq (LF x)) (k:=4) (by simp only[Ac,A2,HD h];decide) g! g! (by simp only[Ac,A2];decide) (G4 (A2 _ _)) o! (by simp[Int.reduceToNat];omega) o!;rw[HD h]at this;exact this
 have q5:Az (IN x,8,4)=Z (x.1,0):=by have:=ABU (a:=C9 x.2.1 8) (t:=C9 x.1 4++(PB x.2.2 16++(jc 24++(C9 (Pq (LF x)) 4++C9 x.2.1 8)))) (n:=x.1) (k:=4) (by simp only[Ac,A2,JT h,jc,Hh];omega) g! g! (by simp[Ac,A2];omega) (by exact G4 (A2 _ _)) h.1 (by simp[Int.reduceToNat];omega) o!;grind[A2,IN,LF,t?]
 have q6:Az (IN x,0,8)=Z (x.2.1,0):=ABU (a:=[]) (t:=IN x) (n:=x.2.1) (k:=8) (by rw[b];decide) g! g! (by rw[b];decide) Uv h.2.2.1 (by simp[Int.reduceToNat];omega) o!;obtain⟨v,d,z,rfl⟩:=AHT h;rw[(by simp[len];omega:len (IN x)=256),H!,A!,oB,AD,beq_eq_false_iff_ne.2 (AB4 h hn),A!,q1,AD,q2,AD,e.1.trans Uv,i,H!,A!,q4,AD,q3,AD,j,xU (by rw[HD h];decide),AD,show ι .u32 (Pq (LF x))=Pq (LF x) by rw[xN];omega,H!,A!,q6,AD,q5,AD,d,AD,nI,cD h,AD,H!,H!];rfl
theorem AFO{x}(h:Hg x)(a:x.2.1=0->x=(x.1,0,Gd.all (Y,[]))):Cw (nU x,x.1)=Z (x,0):=by have b:=h.1;have c:=h.2.1;unfold Cw nU;dsimp only;rw[F! o!,A!,F! o!,A!];by_cases hn:x.2.1=0;rw[C! hn];rw[(by grind[Ek,jc,List.length_replicate,oB,p?]:Ek (jc 256)=Z ((0,0,Gd.all (Y,[])),7)),AD];exact E! (λq=>Z (q,(0:Int))) (a hn).symm;grind[ADU,p?]
def xF{L}(h:ID L)(a:U L<=1099511627776){p:Int}(b:0<=p/\p<64){k}:Cw (nU (st (L.take k) p),p)=Z (st (L.take k) p,0):=by grind[AFO,ZP,ACW,VQ]
theorem kf(L:S EN)(n:Nat):len (img L n)=n:=by grind[M8]
theorem sy{L:List EN}(h:ID L)(j:L.length<=1099511627776){s:Int}{n k:Nat}(c:1<=s/\s<=1073741824)(hn:1<=n/\n<=64):FE (s,((n:Int),img (L.take k) n))=some true:=by
 suffices c:Ap (FE (s,((n:Int),img (L.take k) n))) λr=>r=true by obtain⟨r,hr,rfl⟩:=c;exact hr
 unfold FE;dsimp only;rw[decide_eq_false o!,cond_false,decide_eq_false o!,cond_false,decide_eq_false o!,cond_false,decide_eq_false o!,cond_false];refine AA (P:=λr=>r= .inr ()) ?_ λr hr=>by rw[hr];exact Ax (AB rfl)
 refine Ce (λ(s:Int)=>0<=s/\s<=n) (λs=>((n:Int)-s).toNat) ⟨Ae _,o!⟩ (λi g=>?_);have⟨d,m⟩:=g;unfold S7;dsimp only;rw[kf];refine AC (λa=>?_) (λ_=>Ap.done rfl);have e:Ap (some (Step.next (wi (i+1))):Option (Step Int (Bool ⊕ Unit))) (N2 (λ(s:Int)=>0<=s/\s<=n) (λs=>((n:Int)-s).toNat) ((n:Int)-i).toNat λr=>r= .inr ()):=by grind[AY,Ap.next]
 have f:(gV (st (L.take k) i)).1=i:=VQ _ _;rw[bq d a,AD,f,decide_eq_false o!,cond_false,decide_eq_false o!,cond_false];have b:Cw ((gV (st (L.take k) i)).2.2,i)=some (st (L.take k) i,0):=xF h j ⟨d,o!⟩;refine AC (λl=>?_) (λ_=>?_);rw[AY,bq o! o!,AD,show(gV (st (L.take k) (i-1))).1=i-1 from VQ _ _,decide_eq_false o!,cond_false,b,AD];exact AL (λa=>absurd rfl a) (λ_=>AL (λa=>absurd rfl a) (λ_=>e));rw[b,AD];exact AL (λa=>absurd rfl a) (λ_=>AL (λa=>absurd rfl a) (λ_=>e))
def AHq{L}(h:ID L)(a:U L<=1099511627776){s:Int}{n k:Nat}(b:1<=s/\s<=1073741824)(hn:1<=n/\n<=64):MB (c! s n L k)=Z V:=by grind[MB,sy,p?,kf]
def AI1{L}(h:ID L)(d:U L<=1099511627776){s i:Int}{n k:Nat}(e:1<=s/\s<=1073741824)(hn:1<=n/\n<=64)(c:0<=i/\i<n):M2 ((c! s n L k),i)=Z (gV (st (L.take k) i),V):=by
 suffices a:Ap (M2 ((c! s n L k),i)) λr=>r=(gV (st (L.take k) i),V) by obtain⟨r,hr,rfl⟩:=a;exact hr
 refine AA (P:=λr=>r=.inl (V,gV (st (L.take k) i))) ?_ λr hr=>by rw[hr];exact BB (AB rfl)
 refine Ce (λt=>0<=t.1/\t.1<=i) (λt=>(i-t.1).toNat) ⟨Ae _,c.1⟩ ?_;rintro⟨t,z⟩ ⟨b,f⟩;dsimp only at b f;unfold UU;dsimp only;rw[kf,G! o!,B!,sy h d e hn,AD,B!,bq b o!,AD,show(gV (st (L.take k) t)).1=t from VQ _ _];grind[AP,p?,k?,AY,y!]
def AJP{L}(h:ID L)(a:U L<=1099511627776){s i:Int}{n k:Nat}(c:1<=s/\s<=1073741824)(hn:1<=n/\n<=64)(b:0<=i/\i<n):M3 ((c! s n L k),i)=Z (st (L.take k) i,0):=by unfold M3;dsimp only;rw[sy h a c hn,AD,B9,A!,AI1 h a c hn b,AD];dsimp only;rw[B9,A!,show Cw ((gV (st (L.take k) i)).2.2,i)=Z (st (L.take k) i,0)from xF h a ⟨b.1,o!⟩];rfl
def ADu{n:Int}{L:List EN}{a:AI}{l:AZ}{w s:Int}{m j k:Nat}(H:LI n L)(e:ID L)(y:AR L a)(q:Qk L l)(f:j<=k)(I:k<=L.length)(R:(m:Int)=a.2.1)(hn:1<=m/\m<=64)(x:1<=w/\w<=1073741824):Ap (M4 ((w,((m:Int),img (L.take j) m)),(a,(l,(s,(k:Int)))))) λr=>r.2=0->1<=s/\s<=1073741824/\r.1=(s,((m:Int),img (L.take k) m)):=by
 have A:=q.len;have J:=λp h=>ZP e (p:=p) h (by omega:L.length<=1099511627776);unfold M4;rw[AHq e o! x hn,AD,B9,cond_false];refine AA Wl λS o=>AO (λd=>absurd (o.2 y.vb) (by simp[d])) (λ_=>AA Bb λT D=>AO (λd=>absurd (D.2 q.vl) (by simp[d])) (λ_=>?_));dsimp only;refine AC (λ_=>AB n!) (λM=>AC (λ_=>AB n!) (λN=>AC (λ_=>AB n!) (λO=>AC (λ_=>AB n!) (λQ=>AA (P:=λr=>(∀u,r= .inl u->u.1≠0)/\ ∀u,r= .inr u->(u.1,(u.2.1,u.2.2.1))=(img (L.take k) m,(s,(m:Int)))) ?_ λr hr=>BG (λu b=>AB λc=>absurd c (hr.1 u b)) (λu b=>AB λ_=>⟨o!,o!,?_⟩)))))
 ·refine Ce (λ(t:Int×List DX×Int×Int×A7)=>0<=t.1/\t.1<=m/\ ∃z,t.2=(img (L.take k) t.1.toNat,(s,((m:Int),z)))) (λt=>((m:Int)-t.1).toNat) ⟨Ae _,d!,_,rfl⟩ ?_;rintro⟨i,t⟩ ⟨g,K,z,B⟩;dsimp only at g K B;subst B;unfold UV;dsimp only;rw[kf];refine AC (λd=>?_) (λd=>Ap.done ⟨λu b=>(by cases b),λu b=>(by cases b;rw[show i.toNat=m by omega])⟩);have C:(gV (st (L.take j) i)).1=i:=VQ _ _;rw[bq g d,AD,C,AJP e o! x hn ⟨g,d⟩,AD];refine AA (ADy H e y q f I ⟨g,o!⟩ o!) λU E=>AL (λd=>Ap.done ⟨λu b=>(by cases b;exact d),λu b=>(by cases b)⟩) (λc=>?_);rw[E c];refine AA (P:=λv=>v=gV (st (L.take k) i)) ?_ λV F=>AA (Aa (by rw[M8];simp;omega)) λW G=>?_;refine AC (λh=>?_) (λh=>AB ?_);grind[cD,AB,gV,nU];rw[Kb]at h;have q1:=Re e i j k f;have q2:=TJ e i j;grind[mB]
  ·rw[AY];refine Ap.next ⟨d!,d!,z,?_⟩ d!
   dsimp only;rw[G.1,F,show(i+1).toNat=i.toNat+1 by omega,ub,Ih g]
 have:=hr.2 u b;dsimp only;have q1:=congrArg (·.1) this;have q2:=congrArg (·.2.1) this;have q3:=congrArg (·.2.2) this;dsimp only at q1 q2 q3;rw[q1,q2,q3]
def yn(c:DX):BZ:=C9 c.1 2++c.2.2
def frI(cs:S DX):BZ:=cs.flatMap λc=>Ht (yn c)
def wZ(x:A7):BZ:=[80,77,73,77]++(C9 x.1 4++(C9 x.2.1 2++C9 (U x.2.2:Int) 2))
def encI(x:A7):BZ:=Ht (wZ x)++frI x.2.2
def xv(x:A7):(wZ x).length=12:=by grind[wZ,n?,A2,List.length_cons,List.length_nil]
theorem uA{x}(h:Hg x):(nU x).length=256:=by grind[nU,jc,List.length_replicate,dZ]
def AB0{L}(h:ID L)(b:U L<=1099511627776){k n:Nat}(hn:n<=64){c:DX}(a:c∈img (L.take k) n):(yn c).length=258:=by grind[List.mem_iff_getElem?,Cp,M8,ua,Option.some.inj,yn,gV,n?,A2,uA,ZP]
theorem sZ{a:S DX}(h:∀c∈a,(yn c).length=258):(frI a).length=266*U a:=by induction a<;>grind[frI,Ht,yn,n?,E2,List.length_cons]
def AAT{L:List EN}(h:ID L)(m:L.length<=1099511627776){s:Int}{n k:Nat}(y:1<=s/\s<=1073741824)(hn:1<=n/\n<=64):Ie (s,((n:Int),img (L.take k) n))=some (encI (s,((n:Int),img (L.take k) n)),0):=by
 suffices o:Ap (Ie (s,((n:Int),img (L.take k) n))) λr=>r=(encI (s,((n:Int),img (L.take k) n)),0) by obtain⟨r,hr,rfl⟩:=o;exact hr
 have j: ∀c∈img (L.take k) n,(yn c).length=258:=λc d=>AB0 h m hn.2 d;unfold Ie;rw[sy h m y hn,AD,B9,cond_false];refine AA (oF q! g!) λE q=>AA (oF (by rw[q];simp[A2]) g!) λF w=>AA (oF (by rw[w,q];simp[A2]) g!) λB D=>?_;rw[(by grind[wZ,List.append_assoc,Int.reduceToNat]:B=wZ (s,((n:Int),img (L.take k) n))),cE (by rw[xv];decide),AD];refine AA (P:=λr=>r=encI (s,((n:Int),img (L.take k) n))) ?_ λr hr=>AB (by rw[hr]);refine Ce (λ(t:BZ×Int)=>0<=t.2/\t.2<=n/\t.1=Ht (wZ (s,((n:Int),img (L.take k) n)))++frI ((img (L.take k) n).take t.2.toNat)) (λt=>((n:Int)-t.2).toNat) ⟨Ae _,d!,by simp[frI]⟩ ?_;rintro⟨t,i⟩ ⟨e,z,u⟩;dsimp only at e z u;subst u;unfold R6;dsimp only;rw[kf];refine AC (λd=>?_) (λd=>Ap.done (by rw[BO (l:=img (L.take k) n) (by rw[M8];omega)];rfl));have a:=ua (L:=L.take k) (n:=n) (i:=i.toNat) o!;rw[Ih e]at a;rw[bq e d,AD,AD,AY];have x:(frI ((img (L.take k) n).take i.toNat)).length<=17024:=by grind[sZ,List.mem_of_mem_take,List.length_take,M8]
 have b:=j _ (BN a);have g:(gV (st (L.take k) i)).2.2.length=256:=uA (ZP h ⟨e,o!⟩ m k);refine AA (oF q! g!) λG p=>AA (CL (by rw[p,CG,A2,g];decide)) λC v=>?_;rw[(by rw[v.1,p];rfl:C=yn (gV (st (L.take k) i))),cE (by rw[b];decide),AD];refine AA (CL (by rw[Ac,E2,E2,xv,b];omega)) λA f=>Ap.next ⟨d!,d!,?_⟩ d!
 dsimp only;rw[f.1,show(i+1).toNat=i.toNat+1 by omega,Cr,a,A6];grind[frI,Option.toList_some]
def PI(L:List EN)(d:Int)(m:Nat)(x:A7):Prop:= ∃j:Nat,(j:Int)<=d/\1<=x.1/\x.1<=1073741824/\x=(x.1,((m:Int),img (L.take j) m))
def FI(L:S EN)(d:Int)(m:Nat)(f:Aq):Prop:=∃x,PI L d m x/\f.2.2=encI x
def AAU{L:List EN}(h:ID L)(c:θ L<=1099511627776){d:Int}{m:Nat}(hn:1<=m/\m<=64){x:A7}(a:PI L d m x):Ap (Ii x) λf=>FI L d m f:=by have⟨j,i,e,g,b⟩:=id a;have:=AAT h c (k:=j) ⟨e,g⟩ hn;rw[<-b]at this;unfold Ii;rw[this,AD];exact AB ⟨x,a,rfl⟩
def yP{a t:BZ}{n k:Int}(h:(θ a:Int)+θ t<=2199023255552)(b:1<=k)(d:k<=8)(e:k<=θ t)(g:t.take k.toNat=C9 n k.toNat)(hn:0<=n)(f:n<256^k.toNat)(c:n<9223372036854775808):Bx (a++t,(θ a:Int),k)=δ (n,0):=by grind[YD,ABP]
def AIG{A p R:BZ}(h:(U A:Int)+U p+U R<=1099511627776)(a:U p<=8392):Dr (A++(Ht p++R),(U A:Int))=Z (p,(U A:Int)+8+U p,0):=by grind[XB,n?,E2,mr]
theorem zq{L:List EN}(h:ID L)(E:L.length<=1099511627776){s:Int}{n k:Nat}(T:1<=s/\s<=1073741824)(hn:1<=n/\n<=64):IT (encI (s,((n:Int),img (L.take k) n)))=some ((s,((n:Int),img (L.take k) n)),0):=by
 suffices H:Ap (IT (encI (s,((n:Int),img (L.take k) n)))) λr=>r=((s,((n:Int),img (L.take k) n)),0) by obtain⟨r,hr,rfl⟩:=H;exact hr
 have g: ∀c∈img (L.take k) n,(yn c).length=258:=λc u=>AB0 h E hn.2 u;have y:(frI (img (L.take k) n)).length=266*n:=by rw[sZ g,M8]
 have b:=xv (s,((n:Int),img (L.take k) n));have G:(encI (s,((n:Int),img (L.take k) n))).length=20+266*n:=by unfold encI;rw[Ac,E2,b,y]
 have u0:Dr (encI (s,((n:Int),img (L.take k) n)),0)=some (wZ (s,((n:Int),img (L.take k) n)),(20,0)):=by have:=AIG (A:=[]) (p:=wZ (s,((n:Int),img (L.take k) n))) (R:=frI (img (L.take k) n)) (by rw[b,y,Bj];omega) (by rw[b];decide);rw[b]at this;exact this
 unfold IT;rw[u0,AD];dsimp only;have D:wZ (s,((n:Int),img (L.take k) n))=[80,77,73,77]++(C9 s 4++(C9 (n:Int) 2++C9 (n:Int) 2)):=by unfold wZ;dsimp only;rw[M8]
 have W_:Bx (wZ (s,((n:Int),img (L.take k) n)),(4,4))=some (s,0):=by rw[D];exact yP (a:=[80,77,73,77]) (t:=C9 s 4++(C9 (n:Int) 2++C9 (n:Int) 2)) (n:=s) (k:=4) (by simp only[Ac,A2];decide) g! g! (by simp only[Ac,A2];decide) (G4 (A2 _ _)) o! (by simp[Int.reduceToNat];omega) o!
 have X:Bx (wZ (s,((n:Int),img (L.take k) n)),(8,2))=some ((n:Int),0):=by rw[D,<-A6];exact yP (a:=[80,77,73,77]++C9 s 4) (t:=C9 (n:Int) 2++C9 (n:Int) 2) (n:=n) (k:=2) (by simp only[Ac,A2];decide) g! g! (by simp only[Ac,A2];decide) (G4 (A2 _ _)) o! (by simp[Int.reduceToNat];omega) o!
 have Y_:Bx (wZ (s,((n:Int),img (L.take k) n)),(10,2))=some ((n:Int),0):=by rw[D,<-A6,<-A6];exact yP (a:=[80,77,73,77]++C9 s 4++C9 (n:Int) 2) (t:=C9 (n:Int) 2) (n:=n) (k:=2) (by simp only[Ac,A2];decide) g! g! (by simp only[A2];decide) (BO (by rw[A2];decide)) o! (by simp[Int.reduceToNat];omega) o!
 have S:FM (wZ (s,((n:Int),img (L.take k) n)),([80,77,73,77]:List UInt8))=some true:=by obtain⟨v,q,r⟩:=Ca (s:=wZ (s,((n:Int),img (L.take k) n))) (lo:=0) (hi:=4) g! g! (by rw[b];decide);have e:v=[80,77,73,77]:=r.1.trans (by rw[D];rfl);unfold FM Ej;rw[decide_eq_true (by simp only[len,b];decide),cond_true];show Option.bind (Option.bind (SL (wZ (s,((n:Int),img (L.take k) n))) 0 4) _) _=_;rw[q,e];rfl
 rw[bne_self_eq_false,cond_false,show(len (wZ (s,((n:Int),img (L.take k) n))) !=12)=false by unfold len;rw[b];rfl,cond_false,S,Option.bind_some,Bool.not_true,cond_false,W_,Option.bind_some,X,Option.bind_some,Y_,Option.bind_some,decide_eq_false d!,cond_false];refine AA (P:=λr=> ∃z,r= .inr (20+266*(n:Int),(img (L.take k) n,(s,((n:Int),z))))) ?_ λr hr=>?_
 ·refine Ce (λ(t:Int×Int×List DX×Int×Int×A7)=>0<=t.2.1/\t.2.1<=n/\t.1=20+266*t.2.1/\ ∃z,t.2.2=((img (L.take k) n).take t.2.1.toNat,(s,((n:Int),z)))) (λt=>((n:Int)-t.2.1).toNat) ⟨Ae _,d!,d!,_,rfl⟩ ?_;rintro⟨M,i,t⟩ ⟨C,V_,o,z,J⟩;dsimp only at C V_ o J;subst J o;unfold aG;dsimp only;refine AC (λu=>?_) (λu=>Ap.done ⟨z,by rw[show i=n by omega,BO (l:=img (L.take k) n) (by rw[M8];omega)]⟩);have d:=ua (L:=L.take k) (n:=n) (i:=i.toNat) o!;rw[Ih C]at d;have f:=g _ (BN d);have j:img (L.take k) n=(img (L.take k) n).take i.toNat++(gV (st (L.take k) i)::(img (L.take k) n).drop (i.toNat+1)):=by
   have B:=Cp d;conv=>lhs;rw[<-DY i.toNat (img (L.take k) n),Tq B]
   rw[As B]at d;rw[Ba d]
  have K:(Ht (wZ (s,((n:Int),img (L.take k) n)))++frI ((img (L.take k) n).take i.toNat)).length=20+266*i.toNat:=by rw[Ac,E2,b,sZ λc u=>g c (GY u),BQ,M8];omega
  have lr:(frI ((img (L.take k) n).drop (i.toNat+1))).length<=17024:=by rw[sZ λc u=>g c (TO u),DB,M8];omega
  have Q:encI (s,((n:Int),img (L.take k) n))=(Ht (wZ (s,((n:Int),img (L.take k) n)))++frI ((img (L.take k) n).take i.toNat))++(Ht (yn (gV (st (L.take k) i)))++frI ((img (L.take k) n).drop (i.toNat+1))):=by
   conv=>lhs;unfold encI;dsimp only;arg 2;rw[j]
   unfold frI;rw[YM,JS,A6]
  have U:Dr (encI (s,((n:Int),img (L.take k) n)),20+266*i)=some (yn (gV (st (L.take k) i)),(20+266*(i+1),0)):=by have:=AIG (A:=Ht (wZ (s,((n:Int),img (L.take k) n)))++frI ((img (L.take k) n).take i.toNat)) (p:=yn (gV (st (L.take k) i))) (R:=frI ((img (L.take k) n).drop (i.toNat+1))) (by rw[K,f];omega) (by rw[f];decide);rw[<-Q,K,f]at this;rw[show(20+266*i:Int)=((20+266*i.toNat:Nat):Int) by omega,this];refine congrArg (λw=>some (yn (gV (st (L.take k) i)),(w,(0:Int)))) ?_;omega
  have x:(nU (st (L.take k) i)).length=256:=uA (ZP h ⟨C,o!⟩ E k);have I:yn (gV (st (L.take k) i))=C9 i 2++nU (st (L.take k) i):=by unfold yn gV;rw[VQ]
  have Z_:Bx (yn (gV (st (L.take k) i)),(0,2))=some (i,0):=by rw[I];exact yP (a:=[]) (t:=C9 i 2++nU (st (L.take k) i)) (n:=i) (k:=2) (by rw[Ac,A2,x];decide) g! g! (by rw[Ac,A2,x];decide) (G4 (A2 _ _)) C (by simp[Int.reduceToNat];omega) o!
  have m:len (yn (gV (st (L.take k) i)))=258:=by unfold len;rw[f];rfl
  obtain⟨w1,N,O⟩:=Ca (s:=yn (gV (st (L.take k) i))) (lo:=2) (hi:=258) g! g! (by rw[f];decide);have w2:w1=nU (st (L.take k) i):=by rw[O.1,I];show List.take 256 (List.drop 2 (C9 i 2++nU (st (L.take k) i)))=_;rw[pq (A2 _ _),BO o!]
  have rc:Rb (yn (gV (st (L.take k) i)))=some (gV (st (L.take k) i)):=by unfold Rb;rw[m,N,AD,Z_,AD,w2];dsimp only;rw[uZ h E ⟨C,o!⟩];unfold gV;rw[VQ];rfl
  rw[U,AD];dsimp only;rw[bne_self_eq_false,cond_false,m,bne_self_eq_false,cond_false,rc,AD];refine AA (Aa (by rw[BQ,M8];simp;omega)) λad F=>?_;rw[AY];refine Ap.next ⟨d!,d!,rfl,z,?_⟩ d!
  dsimp only;rw[F.1,show(i+1).toNat=i.toNat+1 by omega,Cr,d];rfl
 obtain⟨z,rfl⟩:=hr;apply Ax;dsimp only;rw[decide_eq_false (by unfold len;rw[G];omega),cond_false,pL h E T hn,Option.bind_some,Bool.not_true,cond_false];exact AB rfl
def zl{b:Type}(n k:Int)(v:b): ∀m:List (Int×b),LY k (QJ n v m)=if k=n then some v else LY k m
 |[]=>by simp only[QJ,LY];by_cases h:k=n;rw[if_pos h,h,beq_self_eq_true,cond_true];rw[if_neg h,beq_eq_false_iff_ne.2 (O3 h),cond_false]
 |p::r=>by simp only[QJ];by_cases a:p.1=n;rw[beq_iff_eq.2 a,cond_true];simp only[LY];by_cases h:k=n;rw[if_pos h,h,beq_self_eq_true,cond_true];rw[if_neg h,beq_eq_false_iff_ne.2 (O3 h),cond_false,a,beq_eq_false_iff_ne.2 (O3 h),cond_false];rw[beq_eq_false_iff_ne.2 a,cond_false];simp only[LY];rw[zl n k v r];by_cases h:p.1=k;rw[beq_iff_eq.2 h,cond_true,cond_true,if_neg (by rw[<-h];exact a)];rw[beq_eq_false_iff_ne.2 h,cond_false,cond_false]
theorem yO{L:List EN}(h:ID L)(c:L.length<=1099511627776){d:Int}{m:Nat}(hn:1<=m/\m<=64){x:A7}(a:PI L d m x):IT (encI x)=some (x,0):=by have⟨j,b,e,f,g⟩:=a;grind[zq]
def FB(D:BZ->Option (A7×Int))(L:List EN)(d:Int)(m:Nat)(f:Aq):Prop:=FI L d m f\/Ap (D f.2.2) λr=>r.2≠0
def ACk(L:List EN)(d:Int)(m:Nat)(fs:List Aq)(n:Nat)(f:Aq)(x:A7):Prop:=f.1=2/\(∀(k:Nat) (g:Aq),k<n->fs[k]? =some g->g.1=2->g.2.1≠f.2.1)/\PI L d m x/\f.2.2=encI x/\x.1=f.2.1
def Wk(L:List EN)(d:Int)(m:Nat)(fs:List Aq)(n:Nat)(x:A7):Prop:= ∃(i:Nat) (f:Aq),i<n/\fs[i]? =some f/\ACk L d m fs i f x
def Wk.step{L:List EN}{d:Int}{m:Nat}{b:List Aq}{n:Nat}{f:Aq}(e:b[n]?=δ f)(x:A7):Wk L d m b (n+1) x↔Wk L d m b n x\/ACk L d m b n f x:=by constructor;rintro⟨i,g,k,a,c⟩;by_cases j:i=n;subst j;rw[e]at a;cases a;exact .inr c;exact .inl ⟨i,g,o!,a,c⟩;rintro(⟨i,g,k,a⟩|h);exact⟨i,g,o!,a⟩;exact⟨n,f,o!,e,h⟩
theorem uG{L:List EN}(h:ID L)(a:L.length<=1099511627776){d:Int}{m:Nat}(hn:1<=m/\m<=64){x y:A7}(b:PI L d m x)(c:PI L d m y)(e:encI x=encI y):x=y:=by grind[yO,Prod.ext_iff,Option.some.inj]
def Wk.uniq{L:List EN}(h:ID L)(A:θ L<=1099511627776){d:Int}{m:Nat}(hn:1<=m/\m<=64){a:List Aq}{n:Nat}{x y:A7}(b:Wk L d m a n x)(c:Wk L d m a n y)(e:x.1=y.1):x=y:=by have⟨i,f,_,w,k,l,o,p,q⟩:=b;have⟨j,g,_,z,r,s,t,u,v⟩:=c;grind[Nat.lt_trichotomy,uG]
def ABn(L:List EN)(d:Int)(m:Nat)(fs:List Aq)(s:Int×List (Int×Bool)×List A7):Prop:= ∃n:Nat,s.1=n/\n<=fs.length/\s.2.2.length<=n/\(∀id,Option.getD (LY id s.2.1) false=true↔ ∃(k:Nat) (g:Aq),k<n/\fs[k]? =some g/\g.1=2/\g.2.1=id)/\ ∀x,x∈s.2.2↔Wk L d m fs n x
theorem qq{L:List EN}(h:ID L)(A:L.length<=1099511627776){d:Int}{m:Nat}(hn:1<=m/\m<=64){a:List Aq}(h8:a.length<=8)(S: ∀f∈a,FB IT L d m f):Ap (Io a) λr=>r.length<=8/\ ∀x,x∈r↔Wk L d m a a.length x:=by
 unfold Io;refine AA (P:=λr=>r.2.length<=8/\ ∀x,x∈r.2↔Wk L d m a a.length x) ?_ λv V_=>?_
 ·refine Ce (ABn L d m a) (λs=>((a.length:Int)-s.1).toNat) ⟨0,rfl,BR _,Al _,λid=>⟨λq=>(by cases q),λ⟨k,g,k0,_⟩=>absurd k0 (Nat.not_lt_zero _)⟩,λx=>⟨λq=>(by cases q),λ⟨k,g,k0,_⟩=>absurd k0 (Nat.not_lt_zero _)⟩⟩ ?_;rintro⟨_,t,o⟩ ⟨n,rfl,n1,W_,E,K⟩;dsimp only at W_ E K;unfold Yp;dsimp[len];refine AC (λO=>?_) (λO=>Ap.done ⟨by dsimp only;omega,by rw[show a.length=n by omega];exact K⟩);rw[AY (x:=(n:Int)+1) (by omega)];refine AA (AJ (by omega) O) λc M=>?_;have l:=M.1;rw[CA]at l;have same:(∀x,¬ACk L d m a n c x)->(c.1=2-> ∃(k:Nat) (g:Aq),k<n/\a[k]? =some g/\g.1=2/\g.2.1=c.2.1)->Ap (some (Step.next ((n:Int)+1,(t,o))):Option (Step (Int×List (Int×Bool)×List A7) (List (Int×Bool)×List A7))) (N2 (ABn L d m a) (λs=>((a.length:Int)-s.1).toNat) ((a.length:Int)-n).toNat λr=>r.2.length<=8/\ ∀x,x∈r.2↔Wk L d m a a.length x):=λe U=>by
   refine Ap.next ⟨n+1,rfl,by omega,by dsimp only;omega,λid=>?_,λx=>?_⟩ (by dsimp only;omega)
   ·dsimp only;rw[E id];refine⟨λ⟨k,g,k0,k1⟩=>⟨k,g,by omega,k1⟩,λ⟨k,g,k0,k1,u,w⟩=>?_⟩;by_cases p:k=n<;>grind
   ·simp_all[Wk.step]
  refine AL (λz=>same (λx q=>z q.1) λq=>absurd q z) (λz=>AK (λF=>?_) (λF=>?_))
  ·have⟨k,g,k0,k1,u,w⟩:=(E c.2.1).1 F;exact same (λx q=>q.2.1 k g k0 k1 u w) λ_=>⟨k,g,k0,k1,u,w⟩
  have i: ∀(k:Nat) (g:Aq),k<n->a[k]? =some g->g.1=2->g.2.1≠c.2.1:=λk g k0 k1 u w=>by rw[(E c.2.1).2 ⟨k,g,k0,k1,u,w⟩]at F;cases F
  have Q: ∀G,G.length<=n+1->(∀x,x∈G↔x∈o\/ACk L d m a n c x)->Ap (some (Step.next ((n:Int)+1,(QJ c.2.1 true t,G))):Option (Step (Int×List (Int×Bool)×List A7) (List (Int×Bool)×List A7))) (N2 (ABn L d m a) (λs=>((a.length:Int)-s.1).toNat) ((a.length:Int)-n).toNat λr=>r.2.length<=8/\ ∀x,x∈r.2↔Wk L d m a a.length x):=λG H T=>by
   refine Ap.next ⟨n+1,rfl,by omega,H,λid=>?_,λx=>?_⟩ (by dsimp only;omega)
   ·dsimp only;rw[zl];by_cases b:id=c.2.1
    ·rw[if_pos b];exact⟨λ_=>⟨n,c,by omega,l,z,b.symm⟩,λ_=>rfl⟩
    ·rw[if_neg b,E id];refine⟨λ⟨k,g,k0,k1⟩=>⟨k,g,by omega,k1⟩,λ⟨k,g,k0,k1,u,w⟩=>?_⟩;by_cases p:k=n<;>grind
   ·dsimp only;rw[Wk.step l,T x,K x]
  have none:(∀x,¬ACk L d m a n c x)->Ap (some (Step.next ((n:Int)+1,(QJ c.2.1 true t,o))):Option (Step (Int×List (Int×Bool)×List A7) (List (Int×Bool)×List A7))) (N2 (ABn L d m a) (λs=>((a.length:Int)-s.1).toNat) ((a.length:Int)-n).toNat λr=>r.2.length<=8/\ ∀x,x∈r.2↔Wk L d m a a.length x):=λe=>Q o (by omega) λx=>⟨.inl,λq=>q.elim id λq=>absurd q (e x)⟩
  rcases S _ M.2 with⟨x,D,p⟩|e
  ·have⟨j,hj,Y_,Z_,xe⟩:=id D;have C:=AHo h A (k:=j) ⟨Y_,Z_⟩ hn;rw[<-xe]at C;rw[p,yO h A hn D,AD];dsimp only;rw[beq_self_eq_true,cond_true,C,AD,cond_true];refine AP (λb=>?_) (λb=>none λy I=>b ?_)
   ·refine AA (Aa (by simp;omega)) λX N=>Q X (by rw[N.1];simp;omega) λy=>?_;rw[N.1,Am,A9];refine⟨λq=>q.imp id λq=>by rw[q];exact⟨z,i,D,p,b⟩,λq=>q.imp id λq=>uG h A hn q.2.2.1 D (q.2.2.2.1.symm.trans p)⟩
   ·rw[<-uG h A hn I.2.2.1 D (I.2.2.2.1.symm.trans p)];exact I.2.2.2.2
  ·have B: ∀x,¬ACk L d m a n c x:=λx q=>by have⟨r,hr,J⟩:=e;rw[q.2.2.2.1,yO h A hn q.2.2.1]at hr;cases hr;exact J rfl
   exact AA e λv2 R=>AP (λJ=>absurd J R) (λ_=>none B)
 ·refine AA (AHi (by omega)) λr hr=>?_;rw[cA hr,cond_true];exact AB ⟨by have:=hr.length_eq;omega,λx=>by rw[hr.mem_iff];exact V_.2 x⟩
theorem AHK{L:List EN}{s:Int}{m j:Nat}(n:m<=64){p:Int}(c:0<=p/\p<m):Si ((s,((m:Int),img (L.take j) m)),p)=some (p,true):=by
 suffices k:Ap (Si ((s,((m:Int),img (L.take j) m)),p)) λv=>v=(p,true) by obtain⟨r,hr,rfl⟩:=k;exact hr
 unfold Si;dsimp only;rw[(by grind[M8]:len (img (L.take j) m)=m)];refine AA (P:=λr=>r=p) ?_ λr hr=>?_
 ·refine Ce (λ(t:Int×Int)=>0<=t.1/\t.1<=p/\p<=t.2/\t.2<=m) (λt=>(t.2-t.1).toNat) ⟨Ae _,c.1,d!,Ae _⟩ ?_;rintro⟨a,b⟩ ⟨f,g,i,h⟩;dsimp only at f g i h;unfold dr;dsimp only;rw[AA7];refine AC (λl=>?_) (λ_=>Ap.done o!);rw[bq o! o!,AD,AY (x:=(a+b)/2+1)];unfold Pu;rw[AD,show((gV (st (L.take j) ((a+b)/2)),p):DX×Int).1.1=(a+b)/2 from VQ _ _,AY d!];exact Bp (AC (λe=>Ap.next ⟨d!,by dsimp only at e⊢;omega,i,h⟩ d!) (λd=>Ap.next ⟨f,g,by dsimp only at d⊢;omega,d!⟩ d!))
 rw[hr,decide_eq_true c.2,cond_true,bq c.1 c.2,AD];unfold Pu;rw[AD,show((gV (st (L.take j) p),p):DX×Int).1.1=p from VQ _ _,Int.sub_self];exact AB rfl
def ADp{L:List EN}(h:ID L)(a:L.length<=1099511627776){s:Int}{m j:Nat}(c:1<=s/\s<=1073741824)(hn:1<=m/\m<=64){p:Int}(b:0<=p/\p<m):U3 ((s,((m:Int),img (L.take j) m)),p)=some (gV (st (L.take j) p),true):=by grind[U3,pL,Bool.not_true,AHK,bq]
def xQ{L:List EN}(h:ID L)(a:L.length<=1099511627776){s:Int}{m j:Nat}(c:1<=s/\s<=1073741824)(hn:1<=m/\m<=64){p:Int}(b:0<=p/\p<m):Ra ((s,((m:Int),img (L.take j) m)),p)=some (st (L.take j) p,0):=by unfold Ra;rw[pL h a c hn,AD,B9,cond_false,ADp h a c hn b,AD,B9,cond_false,show Gg ((gV (st (L.take j) p)).2.2,p)=some (st (L.take j) p,0)from uZ h a ⟨b.1,o!⟩,AD]
def tc(x:A7)(p:Int):Int:=((x.2.2[p.toNat]?).getD (0,(0,[]))).2.1
theorem AEM{L:List EN}{s:Int}{m j:Nat}{p:Int}(a:0<=p/\p<m):tc (s,((m:Int),img (L.take j) m)) p=Be (L.take j) p:=by unfold tc;dsimp only;rw[(ua (L:=L.take j) (n:=m) (i:=p.toNat) (by omega)),Ih a.1];exact Kb _ _
theorem yo{L:List EN}(h:ID L)(w:L.length<=1099511627776){d:Int}{m:Nat}(hn:1<=m/\m<=64){f:List Aq}{V_:List A7}(q:Io f=some V_)(G:V_.length<=8)(n: ∀x∈V_,PI L d m x){p k:Int}(A:0<=p/\p<m):Ap (TE (f,(p,k))) λr=>r.length<=8/\ ∀y,y∈r↔ ∃x∈V_,tc x p<=k/\y=(tc x p,(x.1,tc x p)):=by
 unfold TE;dsimp only;rw[q,AD];refine AA (P:=λr=>r.length<=8/\ ∀y,y∈r↔ ∃x∈V_,tc x p<=k/\y=(tc x p,(x.1,tc x p))) ?_ λr hr=>?_
 ·dsimp[len];rw[AY (by omega)];refine Ce (λ(s:Int×List Bk)=> -1<=s.1/\s.1<V_.length/\(s.2.length:Int)+s.1+1<=V_.length/\ ∀y,y∈s.2↔ ∃x∈V_.drop (s.1+1).toNat,tc x p<=k/\y=(tc x p,(x.1,tc x p))) (λs=>(s.1+1).toNat) ⟨by dsimp only;omega,by dsimp only;omega,by simp,λy=>by dsimp only;rw[WI (by omega)];simp⟩ ?_;rintro⟨i,o⟩ ⟨B,g,C,e⟩;dsimp only at B g C e;unfold Yo;dsimp only;refine AC (λt=>?_) (λ_=>Ap.done ⟨by omega,by rw[show(i+1).toNat=0 by omega]at e;exact e⟩);rw[AY (by omega)];refine AA (AJ t g) λb l=>?_;have⟨j,I,D,E,F⟩:=n b l.2;have a:=ADp h w (j:=j) ⟨D,E⟩ hn A;rw[<-F]at a;have H:V_.drop (i-1+1).toNat=b::V_.drop (i+1).toNat:=by grind[Cp,List.getElem?_eq_getElem,List.drop_eq_getElem_cons,Option.some.inj]
  rw[a,AD];dsimp only;rw[cond_true,show(gV (st (L.take j) p)).2.1=tc b p from(Kb _ _).trans (by grind[AEM]:tc b p=Be (L.take j) p).symm];refine AC (λz=>?_) (λu=>Ap.next ⟨by dsimp only;omega,by dsimp only;omega,by dsimp only;omega,λy=>?_⟩ (by dsimp only;omega))
  ·grind[AA,Aa,Ap.next,List.mem_singleton,List.mem_cons_of_mem,List.mem_cons_self]
  ·grind[List.mem_cons_of_mem]
 ·refine AA (AHk (by omega)) λv c=>?_;rw[cA c,cond_true];exact AB ⟨by have:=c.length_eq;omega,λy=>by rw[c.mem_iff];exact hr.2 y⟩
theorem AH7{V_:List A7}(f:V_.length<=8){y:Bk}(b: ∃x∈V_,x.1=y.2.1):Ap (Aj (SI V_) (0,y)) λr=> ∃(i:Int) (x:A7),r= .inl (i,y)/\0<=i/\V_[i.toNat]? =some x/\x.1=y.2.1:=by
 refine Ce (λ(s:Int×Bk)=>s.2=y/\0<=s.1/\s.1<=V_.length/\ ∀i:Nat,i<s.1-> ∀x,V_[i]? =some x->x.1≠y.2.1) (λs=>((V_.length:Int)-s.1).toNat) ⟨rfl,Ae _,by dsimp only;omega,λi a=>by dsimp only at a;omega⟩ ?_;rintro⟨i,h⟩ ⟨rfl,c,d,e⟩;dsimp only at c d e b;unfold SI;dsimp[len];refine AC ?_ ?_<;>intro g
 ·grind[AA,AJ,Tk,AY,AP,Ap.done,Ap.next,Option.some.inj]
 ·grind[List.getElem?_of_mem,Cp]
theorem AGJ{L C:List EN}{a:AI}{l:AZ}{p i k:Int}{c:Nat}(h:AR L a)(D:Qk L l)(H:0<=p/\p<a.2.1)(r:RC a c)(j:c<=12)(G:HZ (a,(l,(p,(i,k))))=some (C,0)):Ap (IR (a,(l,(p,(i,k))))) λu=>u.2.2.2=0:=by
 unfold IR;dsimp only;rw[G,AD,bne_self_eq_false,cond_false];refine AA (Rc D.vl) λV _=>?_;have⟨f,R,t,_⟩:=xT h.vb H;rw[t,AD,B9,cond_false];obtain⟨q,w,v,M,W_,rfl,X,Y_⟩:=tN h.vb h.ds (K7 h.vb) h.dis;rw[w,AD];have Q:(v.filter λe=>e.1.2.2.1==f).length<=12:=by rw[(M.filter _).length_eq];exact CK (r f) j
 refine AA (P:=λb=>b.length<=12) ?_ λJ m=>?_
 ·refine Ce (λ(s:Int×List Int)=> ∃k:Nat,s.1=k/\s.2.length<=((v.take k).filter λe=>e.1.2.2.1==f).length/\k<=v.length) (λs=>v.length-s.1.toNat) ⟨0,rfl,BR _,BR _⟩ ?_;rintro⟨_,o⟩ ⟨k,rfl,ok,S⟩;dsimp only at ok;unfold U1;dsimp[len];have F:(v.map (·.1)).length=v.length:=BW _;refine AC (λr=>?_) (λr=>Ap.done (by rw[BO o!]at ok;omega));have d:k<v.length:=o!
  have I:v.take (k+1)=v.take k++[v[k]]:=by grind[List.take_add_one,List.getElem?_eq_getElem]
  have y:ix (v.map (·.1)) (k:Int)=some v[k].1:=by unfold ix;rw[if_pos o!,Int.toNat_natCast,List.getElem?_map,List.getElem?_eq_getElem d];rfl
  have z:ix (v.map (·.2)) (k:Int)=some v[k].2:=by unfold ix;rw[if_pos o!,Int.toNat_natCast,List.getElem?_map,List.getElem?_eq_getElem d];rfl
  rw[y,AD,z,AY (x:=(k:Int)+1)];have E:((v.take k).filter λe=>e.1.2.2.1==f).length<=((v.take (k+1)).filter λe=>e.1.2.2.1==f).length:=by grind[List.length_append]
  have A:Ap (some (Step.next ((k:Int)+1,o)):Option (Step (Int×List Int) (List Int))) (N2 (λ(s:Int×List Int)=> ∃k:Nat,s.1=k/\s.2.length<=((v.take k).filter λe=>e.1.2.2.1==f).length/\k<=v.length) (λs=>v.length-s.1.toNat) (v.length-k) λb=>b.length<=12):=Ap.next ⟨k+1,rfl,d!,d⟩ d!
  refine AP (λO=>?_) (λ_=>A);rw[AD];have T:=EM (λe=>e.1.2.2.1==f) (v.take k);have U:=fH k v;have g:Ap (Option.bind (app o [v[k].2]) λB=>some (Step.next ((k:Int)+1,B)):Option (Step (Int×List Int) (List Int))) (N2 (λ(s:Int×List Int)=> ∃k:Nat,s.1=k/\s.2.length<=((v.take k).filter λe=>e.1.2.2.1==f).length/\k<=v.length) (λs=>v.length-s.1.toNat) (v.length-k) λb=>b.length<=12):=by
   refine AA (Aa w!) λB N=>Ap.next ⟨k+1,rfl,?_,d⟩ d!
   grind[List.length_append]
  exact AC (λ_=>A) (λ_=>AC (λ_=>g) (λ_=>AC (λ_=>g) (λ_=>AC (λ_=>g) (λ_=>A))))
 refine AA (AHh m) λK n=>?_;rw[cA n,cond_true];exact AC (λ_=>AB rfl) (λ_=>AB rfl)
def AFm{L}(h:ID L){p}{j k:Nat}(a:Be (L.take j) p<=k):∃i:Nat,i<=k/\Be (L.take i) p=Be (L.take j) p/\st (L.take i) p=st (L.take j) p:=by have q0:=TJ h p j;have e:=WZ h (p:=p) (k:=j);exact⟨(Be (L.take j) p).toNat,o!,e,mB h e⟩
theorem AHF{n}{L}{a}{l}{p:Int}{j k:Nat}(h:LI n L)(b:ID L)(g:AR L a)(d:Qk L l)(i:HZ (a,l,p,Be (L.take j) p,(k:Int))=Z (L.filter (IF p (Be (L.take j) p) k),0))(c:j<=k)(o:k<=U L)(f:0<=p/\p<64):J0 (st (L.take j) p,a,l,(k:Int))=Z (st (L.take k) p,0):=by have e:=d.len;have q:=TJ b p j;have m:=aK (b.take j) p;rw[BQ]at m;unfold J0;dsimp only;rw[AFL g.vb d.vl,AD,H!,A!,lu ((ZP b f (by omega:U L<=1099511627776)) j),AD];dsimp only;rw[H!,A!,Kb,VQ,F! o!,A!,i,AD];dsimp only;rw[H!,A!,show Be (L.take j) p=(((Be (L.take j) p).toNat:Nat):Int) by omega,yj b o!,lZ b (j:=j) o! (WZ b),yS (ux b h f o! j k c) (by have:=EM (cC p) ((L.take k).drop j);rw[DB,BQ]at this;omega),<-iW c];rfl
def AKU{n:Int}{L:List EN}{a:AI}{l:AZ}{p w C fl:Int}{k c:Nat}(B:LI n L)(f:ID L)(e:AR L a)(h:Qk L l)(hr:RC a c)(x:c<=12)(J:k<=L.length)(t:0<=p/\p<a.2.1)(d:p<64)(H:P7 a p w C)(z:tK (qJ a l w) k fl){j:Nat}(v:Be (L.take j) p<=k):(fl<=Be (L.take j) p/\J0 (st (L.take j) p,(a,(l,(k:Int))))=some (st (L.take k) p,0)/\Ap (IR (a,(l,(p,(Be (L.take j) p,(k:Int)))))) λu=>u.2.2.2=0)\/(¬fl<=Be (L.take j) p/\Ap (J0 (st (L.take j) p,(a,(l,(k:Int))))) λr=>r.2≠0):=by have s:=h.len;have⟨i,D,q,y⟩:=AFm f v;have F:=TJ f p i;rw[<-q,<-y];rw[<-q]at v;have⟨G,I,A,o,b,_,r⟩:=tH (p:=p) (i:=Be (L.take i) p) (j:=(k:Int)) (CPa 4096) g! B o! F o! o! e h t;have m:=H.uniq e.vb.1 rfl rfl o;subst m;have g:=z.uniq (λ_=>YJ) b;subst g;rcases r with⟨q1,E⟩|⟨q1,E⟩;refine .inr ⟨o!,?_⟩;unfold J0;dsimp only;rw[AFL e.vb h.vl,AD,bne_self_eq_false,cond_false,lu (ZP f ⟨t.1,d⟩ (by omega:L.length<=1099511627776) i),AD];grind[Kb,VQ,AL,AB];grind[AHF,AGJ]
theorem ACi{n d:Int}{L:List EN}{a:AI}{l:AZ}{p:Int}{k m c:Nat}{e:List Aq}(hL:LI n L)(D:ID L)(W_:AR L a)(M:Qk L l)(hr:RC a c)(S:c<=12)(hk:k<=L.length)(hm:(m:Int)=a.2.1)(hn:1<=m/\m<=64)(h8:e.length<=8)(hf: ∀f∈e,FB IT L d m f)(N:0<=p/\p<a.2.1): ∃Q X fl,P7 a p Q X/\tK (qJ a l Q) k fl/\Ap (Cc (e,(a,(l,(p,(k:Int)))))) λr=>(r.2.2=49/\fl≠0/\ ∀x,Wk L d m e e.length x->tc x p<=k-> ¬fl<=tc x p)\/(r.2.2=0/\r.1=st (L.take k) p/\r.2.1.1=p/\r.2.1.2.2.2.1=k/\(fl=0\/ ∃x,Wk L d m e e.length x/\tc x p<=k/\fl<=tc x p)):=by
 have ax:=M.len;have ap:0<=p/\p<64:=⟨N.1,by omega⟩
 have pm:0<=p/\p<m:=⟨N.1,by omega⟩
 obtain⟨Q,X,fl,p1,T,_,_⟩:=tH (p:=p) (i:=0) (j:=(k:Int)) (CPa 4096) (by decide) hL (by omega) (Ae _) (by omega) (by omega) W_ M N;refine⟨Q,X,fl,p1,T,?_⟩;obtain⟨v,hv,rfl⟩:=Fl W_.vb;obtain⟨w,hw,rfl⟩:=HB M.vl;have pg:=λj (hq:Be (L.take j) p<=k)=>AKU hL D W_ M hr S hk N ap.2 p1 T (j:=j) hq;obtain⟨V_,hV,v8,E⟩:=qq D (by omega) hn h8 hf;have hP: ∀x∈V_,PI L d m x:=λx hx=>by obtain⟨i,f,_,_,q⟩:=(E x).1 hx;exact q.2.2.1
 unfold Cc;dsimp only;rw[hv,AD,B9,cond_false,hw,AD,B9,cond_false,decide_eq_false (by omega),cond_false,decide_eq_false (by omega),cond_false,decide_eq_false (by omega),cond_false,hV,AD];refine AA (yo D (by omega) hn hV v8 hP pm) λb C=>?_;obtain⟨r8,t⟩:=C;refine AA (P:=λ(r:(Int×AT×BU)⊕ (AT×BU))=>((∃z,r= .inr z)/\ ∀y∈b,¬fl<=y.1)\/ ∃y:BU,r= .inl (0,(st (L.take k) p,y))/\y.1=p/\y.2.2.2.1=k/\ ∃x,Wk L d m e e.length x/\tc x p<=k/\fl<=tc x p) ?_ λr ad=>?_
 ·refine Ce (λ(s:Int×AT×BU)=>0<=s.1/\s.1<=b.length/\ ∀y∈b.take s.1.toNat,¬fl<=y.1) (λs=>((b.length:Int)-s.1).toNat) ⟨Ae _,by dsimp only;omega,λy H=>by simp at H⟩ ?_;rintro⟨i,s⟩ ⟨i0,i1,O⟩;dsimp only at i0 i1 O;unfold SH;dsimp only[len];refine AC (λF=>?_) (λF=>Ap.done (.inl ⟨⟨_,rfl⟩,by rw[BO (by omega)]at O;exact O⟩));rw[AY (x:=i+1) (by omega)];refine AA (AJ i0 F) λv5 h5=>?_;obtain⟨x,R,xk,xe⟩:=(t v5).1 h5.2;obtain⟨j,hj,x1,x2,ex⟩:=hP x R;have a0:tc x p=Be (L.take j) p:=by rw[ex];exact AEM pm
  refine AA (AH7 v8 (y:=v5) ⟨x,R,by rw[xe]⟩) λv9 h9=>?_;obtain⟨g,I,rfl,g0,gx,U⟩:=h9;have ao:I=x:=Wk.uniq D (by omega) hn ((E I).1 (BN gx)) ((E x).1 R) (U.trans (by rw[xe]));subst ao;refine BB ?_;have Y_:ix V_ g=some I:=by unfold ix;rw[if_pos g0,gx]
  have h:=xQ D (by omega:L.length<=1099511627776) (j:=j) ⟨x1,x2⟩ hn pm;rw[<-ex]at h;rw[Y_,AD,h,AD,bne_self_eq_false,cond_false,Kb];rcases pg j (by omega)with⟨J,o,K⟩|⟨J,o⟩
  ·rw[o,AD,bne_self_eq_false,cond_false];refine AA K λu hu=>AP (λ_=>Ap.done (.inr ⟨_,rfl,rfl,rfl,I,(E I).1 R,xk,by omega⟩)) (λB=>absurd hu B)
  ·refine AA o λar A=>AL (λ_=>Ap.next ⟨by dsimp only;omega,by dsimp only;omega,λy H=>?_⟩ (by dsimp only;omega)) (λhz=>absurd hz A);dsimp only at H;rw[show(i+1).toNat=i.toNat+1 by omega,Cr,h5.1]at H;rcases Am.1 H with q|q
   ·exact O y q
   ·have q:=A9.1 q;rw[q,xe];dsimp only;omega
 ·rcases ad with⟨⟨z,rfl⟩,Z_⟩|⟨y,rfl,J,o,K⟩
  ·refine Ax ?_;have G: ∀x,Wk L d m e e.length x->tc x p<=k-> ¬fl<=tc x p:=λx hx al=>Z_ _ ((t _).2 ⟨x,(E x).2 hx,al,rfl⟩);have l0:Be (L.take 0) p=0:=rfl;have f0:=T.1;rw[show DR p=some (st (L.take 0) p)from rfl,AD,Kb];rcases pg 0 (by rw[l0];omega)with⟨J,o,K⟩|⟨J,o⟩
   ·rw[o,AD,bne_self_eq_false,cond_false];exact AA K λu hu=>AP (λ_=>AB (.inr ⟨rfl,rfl,rfl,rfl,.inl (by omega)⟩)) (λB=>absurd hu B)
   ·exact AA o λar A=>AL (λ_=>AB (.inl ⟨rfl,by omega,G⟩)) (λhz=>absurd hz A)
  ·exact BB (AB (.inr ⟨rfl,rfl,J,o,.inr K⟩))
def ACj{n d}{L}{a}{l}{p:Int}{k m c:Nat}{fs:S Aq}(o:LI n L)(s:ID L)(j:AR L a)(x:Qk L l)(t:Cov a l k)(hr:RC a c)(b:c<=12)(w:k<=U L)(y:(m:Int)=a.2.1)(hn:1<=m/\m<=64)(i:U fs<=8)(u:∀f∈fs,FI L d m f)(z:0<=p/\p<a.2.1):Ap (Cc (fs,a,l,p,(k:Int))) λr=>r.1=st (L.take k) p/\r.2.2=0:=by obtain⟨B,v,fl,C,⟨D,e,E,g⟩,A⟩:=ACi o s j x hr b w y hn i (λf q=>.inl (u f q)) z;refine A.mono λr h=>?_;rcases h with⟨_,q,_⟩|⟨q1,q2,_⟩;exact N! (t fl o! e p B v C) (g.resolve_left q);exact⟨q2,q1⟩
end Go.Pm
