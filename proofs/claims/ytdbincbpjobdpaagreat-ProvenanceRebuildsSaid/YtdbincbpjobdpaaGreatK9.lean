import Derived.Test.YtdbincbpjobdpaaGreatK8
noncomputable section
set_option linter.all false
open Option renaming some->Y
open List renaming length->W
open Go renaming Ψ->S
open Bool renaming false->X
open Bool renaming true->E
open Option renaming none->D
open Go renaming Ω->Z
open Option renaming some->δ,none->ε,bind->σ
open Bool renaming true->ζ,false->η
open List renaming length->θ
open _root_ renaming Int->U,List->T,Nat->R
namespace Go.Pm
open Go Go.Ab
set_option maxHeartbeats 400000
theorem lT(L:S EN)(n:R):len (img L n)=n:=by grind[I4]
theorem pw{L:T EN}(h:Gv L)(j:L.length<=1099511627776){s:U}{n k:R}(c:1<=s/\s<=1073741824)(hn:1<=n/\n<=64):EQ (s,((n:U),img (L.take k) n))=some true:=by
 suffices c:Ao (EQ (s,((n:U),img (L.take k) n))) λr=>r=true by obtain⟨r,hr,rfl⟩:=c;exact hr
 unfold EQ;dsimp only;rw[decide_eq_false o!,cond_false,decide_eq_false o!,cond_false,decide_eq_false o!,cond_false,decide_eq_false o!,cond_false];refine AA (P:=λr=>r= .inr ()) ?_ λr hr=>by rw[hr];exact A0 (AB rfl)
 refine CQ (λ(s:U)=>0<=s/\s<=n) (λs=>((n:U)-s).toNat) ⟨Ae _,o!⟩ (λi g=>?_);have⟨d,m⟩:=g;unfold TW;dsimp only;rw[lT];refine AC (λa=>?_) (λ_=>Ao.done rfl);have e:Ao (some (Step.next (wi (i+1))):Option (Step U (Bool ⊕ Unit))) (MX (λ(s:U)=>0<=s/\s<=n) (λs=>((n:U)-s).toNat) ((n:U)-i).toNat λr=>r= .inr ()):=by grind[AY,Ao.next]
 have f:(Xb (st (L.take k) i)).1=i:=Se _ _;rw[cX d a,AD,f,decide_eq_false o!,cond_false,decide_eq_false o!,cond_false];have b:Co ((Xb (st (L.take k) i)).2.2,i)=some (st (L.take k) i,0):=rR h j ⟨d,o!⟩;refine AC (λl=>?_) (λ_=>?_);rw[AY,cX o! o!,AD,show(Xb (st (L.take k) (i-1))).1=i-1 from Se _ _,decide_eq_false o!,cond_false,b,AD];exact AL (λa=>absurd rfl a) (λ_=>AL (λa=>absurd rfl a) (λ_=>e));rw[b,AD];exact AL (λa=>absurd rfl a) (λ_=>AL (λa=>absurd rfl a) (λ_=>e))
def ACv{L:T EN}(h:Gv L)(a:L.length<=1099511627776){s:U}{n k:R}(b:1<=s/\s<=1073741824)(hn:1<=n/\n<=64):JJ (s,((n:U),img (L.take k) n))=some true:=by grind[JJ,pw,lT]
def AEv{L}(h:Gv L)(d:W L<=1099511627776){s i:U}{n k:R}(e:1<=s/\s<=1073741824)(hn:1<=n/\n<=64)(c:0<=i/\i<n):H9 ((c! s n L k),i)=Y (Xb (st (L.take k) i),E):=by
 suffices a:Ao (H9 ((c! s n L k),i)) λr=>r=(Xb (st (L.take k) i),E) by obtain⟨r,hr,rfl⟩:=a;exact hr
 refine AA (P:=λr=>r=.inl (E,Xb (st (L.take k) i))) ?_ λr hr=>by rw[hr];exact BF (AB rfl)
 refine CQ (λt=>0<=t.1/\t.1<=i) (λt=>(i-t.1).toNat) ⟨Ae _,c.1⟩ ?_;rintro⟨t,z⟩ ⟨b,f⟩;dsimp only at b f;unfold Uo;dsimp only;rw[lT,G! o!,B!,pw h d e hn,AD,B!,cX b o!,AD,show(Xb (st (L.take k) t)).1=t from Se _ _];grind[AP,p?,k?,AY,y!]
def AFZ{L}(h:Gv L)(a:W L<=1099511627776){s i:U}{n k:R}(c:1<=s/\s<=1073741824)(hn:1<=n/\n<=64)(b:0<=i/\i<n):J5 ((c! s n L k),i)=Y (st (L.take k) i,0):=by unfold J5;dsimp only;rw[pw h a c hn,AD,By,A!,AEv h a c hn b,AD];dsimp only;rw[By,A!,show Co ((Xb (st (L.take k) i)).2.2,i)=Y (st (L.take k) i,0)from rR h a ⟨b.1,o!⟩];rfl
def AEC{n:Int}{L:List EN}{a:AJ}{l:Aa}{w s:Int}{m j k:Nat}(H:LI n L)(e:Gv L)(y:AR L a)(q:O2 L l)(f:j<=k)(I:k<=L.length)(R:(m:Int)=a.2.1)(hn:1<=m/\m<=64)(x:1<=w/\w<=1073741824):Ao (NN ((w,((m:Int),img (L.take j) m)),(a,(l,(s,(k:Int)))))) λr=>r.2=0->1<=s/\s<=1073741824/\r.1=(s,((m:Int),img (L.take k) m)):=by
 have A:=q.len;have J:=λp h=>XY e (p:=p) h (by omega:L.length<=1099511627776);unfold NN;rw[ACv e o! x hn,AD,By,cond_false];refine AA O3 λS o=>AO (λd=>absurd (o.2 y.vb) (by simp[d])) (λ_=>AA Bb λT D_=>AO (λd=>absurd (D_.2 q.vl) (by simp[d])) (λ_=>?_));dsimp only;refine AC (λ_=>AB n!) (λM=>AC (λ_=>AB n!) (λN=>AC (λ_=>AB n!) (λO=>AC (λ_=>AB n!) (λQ=>AA (P:=λr=>(∀u,r= .inl u->u.1≠0)/\ ∀u,r= .inr u->(u.1,(u.2.1,u.2.2.1))=(img (L.take k) m,(s,(m:Int)))) ?_ λr hr=>BG (λu b=>AB λc=>absurd c (hr.1 u b)) (λu b=>AB λ_=>⟨o!,o!,?_⟩)))))
 ·refine CQ (λ(t:Int×List C0×Int×Int×Aq)=>0<=t.1/\t.1<=m/\ ∃z,t.2=(img (L.take k) t.1.toNat,(s,((m:Int),z)))) (λt=>((m:Int)-t.1).toNat) ⟨Ae _,d!,_,rfl⟩ ?_;rintro⟨i,t⟩ ⟨g,K,z,B⟩;dsimp only at g K B;subst B;unfold Up;dsimp only;rw[lT];refine AC (λd=>?_) (λd=>Ao.done ⟨λu b=>(by cases b),λu b=>(by cases b;rw[show i.toNat=m by omega])⟩);have C:(Xb (st (L.take j) i)).1=i:=Se _ _;rw[cX g d,AD,C,AFZ e o! x hn ⟨g,d⟩,AD];refine AA (AEG H e y q f I ⟨g,o!⟩ o!) λU E_=>AL (λd=>Ao.done ⟨λu b=>(by cases b;exact d),λu b=>(by cases b)⟩) (λc=>?_);rw[E_ c];refine AA (P:=λv=>v=Xb (st (L.take k) i)) ?_ λV F=>AA (Ac (by rw[I4];simp;omega)) λW G=>?_;refine AC (λh=>?_) (λh=>AB ?_);grind[Ym,AB,Xb,eF];rw[Jf]at h;have q1:=Rx e i j k f;have q2:=Ry e i j;grind[mg]
  ·rw[AY];refine Ao.next ⟨d!,d!,z,?_⟩ d!
   dsimp only;rw[G.1,F,show(i+1).toNat=i.toNat+1 by omega,zo,Ig g]
 have:=hr.2 u b;dsimp only;have q1:=congrArg (·.1) this;have q2:=congrArg (·.2.1) this;have q3:=congrArg (·.2.2) this;dsimp only at q1 q2 q3;rw[q1,q2,q3]
def py(c:C0):Bd:=C6 c.1 2++c.2.2
def tB(cs:S C0):Bd:=cs.flatMap λc=>HX (py c)
def nO(x:Aq):Bd:=[80,77,73,77]++(C6 x.1 4++(C6 x.2.1 2++C6 (W x.2.2:U) 2))
def encI(x:Aq):Bd:=HX (nO x)++tB x.2.2
def tL(x:Aq):(nO x).length=12:=by grind[nO,n?,Ay,List.length_cons,List.length_nil]
theorem pC{x}(h:Hg x):(eF x).length=256:=by grind[eF,kD,List.length_replicate,eG]
def xw{L}(h:Gv L)(b:W L<=1099511627776){k n:R}(hn:n<=64){c:C0}(a:c∈img (L.take k) n):(py c).length=258:=by grind[List.mem_iff_getElem?,Cv,I4,qx,Option.some.inj,py,Xb,n?,Ay,pC,XY]
theorem iH{a:S C0}(h:∀c∈a,(py c).length=258):(tB a).length=266*W a:=by induction a<;>grind[tB,HX,py,n?,EM,List.length_cons]
def AAq{L:T EN}(h:Gv L)(m:L.length<=1099511627776){s:U}{n k:R}(y:1<=s/\s<=1073741824)(hn:1<=n/\n<=64):Ic (s,((n:U),img (L.take k) n))=some (encI (s,((n:U),img (L.take k) n)),0):=by
 suffices o:Ao (Ic (s,((n:U),img (L.take k) n))) λr=>r=(encI (s,((n:U),img (L.take k) n)),0) by obtain⟨r,hr,rfl⟩:=o;exact hr
 have j: ∀c∈img (L.take k) n,(py c).length=258:=λc d=>xw h m hn.2 d;unfold Ic;rw[pw h m y hn,AD,By,cond_false];refine AA (oZ q! g!) λE_ q=>AA (oZ (by rw[q];simp[Ay]) g!) λF w=>AA (oZ (by rw[w,q];simp[Ay]) g!) λB D_=>?_;rw[(by grind[nO,List.append_assoc,Int.reduceToNat]:B=nO (s,((n:U),img (L.take k) n))),cq (by rw[tL];decide),AD];refine AA (P:=λr=>r=encI (s,((n:U),img (L.take k) n))) ?_ λr hr=>AB (by rw[hr]);refine CQ (λ(t:Bd×U)=>0<=t.2/\t.2<=n/\t.1=HX (nO (s,((n:U),img (L.take k) n)))++tB ((img (L.take k) n).take t.2.toNat)) (λt=>((n:U)-t.2).toNat) ⟨Ae _,d!,by simp[tB]⟩ ?_;rintro⟨t,i⟩ ⟨e,z,u⟩;dsimp only at e z u;subst u;unfold SZ;dsimp only;rw[lT];refine AC (λd=>?_) (λd=>Ao.done (by rw[BN (l:=img (L.take k) n) (by rw[I4];omega)];rfl));have a:=qx (L:=L.take k) (n:=n) (i:=i.toNat) o!;rw[Ig e]at a;rw[cX e d,AD,AD,AY];have x:(tB ((img (L.take k) n).take i.toNat)).length<=17024:=by grind[iH,List.mem_of_mem_take,List.length_take,I4]
 have b:=j _ (BP a);have g:(Xb (st (L.take k) i)).2.2.length=256:=pC (XY h ⟨e,o!⟩ m k);refine AA (oZ q! g!) λG p=>AA (CM (by rw[p,B7,Ay,g];decide)) λC v=>?_;rw[(by rw[v.1,p];rfl:C=py (Xb (st (L.take k) i))),cq (by rw[b];decide),AD];refine AA (CM (by rw[AZ,EM,EM,tL,b];omega)) λA f=>Ao.next ⟨d!,d!,?_⟩ d!
 dsimp only;rw[f.1,show(i+1).toNat=i.toNat+1 by omega,Cl,a,A2];grind[tB,Option.toList_some]
def ACg{a t:Bd}{n k:U}(h:(θ a:U)+θ t<=2199023255552)(b:1<=k)(d:k<=8)(e:k<=θ t)(g:t.take k.toNat=C6 n k.toNat)(hn:0<=n)(f:n<256^k.toNat)(c:n<9223372036854775808):Bg (a++t,(θ a:U),k)=δ n:=by unfold Bg;rw[yj h b d e g hn f c];rfl
theorem AAp{L:List EN}(h:Gv L)(B:L.length<=1099511627776){s:Int}{n k:Nat}(N:1<=s/\s<=1073741824)(hn:1<=n/\n<=64):Fq (encI (s,((n:Int),img (L.take k) n)))=some ((s,((n:Int),img (L.take k) n)),0):=by
 suffices E_:Ao (Fq (encI (s,((n:Int),img (L.take k) n)))) λr=>r=((s,((n:Int),img (L.take k) n)),0) by obtain⟨r,hr,rfl⟩:=E_;exact hr
 have f: ∀c∈img (L.take k) n,(py c).length=258:=λc m=>xw h B hn.2 m;have u:(tB (img (L.take k) n)).length=266*n:=by rw[iH f,I4]
 have b:=tL (s,((n:Int),img (L.take k) n));have D_:(encI (s,((n:Int),img (L.take k) n))).length=20+266*n:=by unfold encI;rw[AZ,EM,b,u]
 have Y_:Bl (encI (s,((n:Int),img (L.take k) n)),0)=some (nO (s,((n:Int),img (L.take k) n)),(20,0)):=by have:=AKo (A:=[]) (p:=nO (s,((n:Int),img (L.take k) n))) (R:=tB (img (L.take k) n)) (by rw[b,u,Bj];omega) (by rw[b];decide);rw[b]at this;exact this
 unfold Fq;rw[Y_,AD];dsimp only;have y:nO (s,((n:Int),img (L.take k) n))=[80,77,73,77]++(C6 s 4++(C6 (n:Int) 2++C6 (n:Int) 2)):=by unfold nO;dsimp only;rw[I4]
 have S:Bg (nO (s,((n:Int),img (L.take k) n)),(4,4))=some s:=by rw[y];exact ACg (a:=[80,77,73,77]) (t:=C6 s 4++(C6 (n:Int) 2++C6 (n:Int) 2)) (n:=s) (k:=4) (by simp only[AZ,Ay];decide) g! g! (by simp only[AZ,Ay];decide) (Fe (Ay _ _)) o! (by simp[Int.reduceToNat];omega) o!
 have T:Bg (nO (s,((n:Int),img (L.take k) n)),(8,2))=some (n:Int):=by rw[y,<-A2];exact ACg (a:=[80,77,73,77]++C6 s 4) (t:=C6 (n:Int) 2++C6 (n:Int) 2) (n:=n) (k:=2) (by simp only[AZ,Ay];decide) g! g! (by simp only[AZ,Ay];decide) (Fe (Ay _ _)) o! (by simp[Int.reduceToNat];omega) o!
 have U:Bg (nO (s,((n:Int),img (L.take k) n)),(10,2))=some (n:Int):=by rw[y,<-A2,<-A2];exact ACg (a:=[80,77,73,77]++C6 s 4++C6 (n:Int) 2) (t:=C6 (n:Int) 2) (n:=n) (k:=2) (by simp only[AZ,Ay];decide) g! g! (by simp only[Ay];decide) (BN (by rw[Ay];decide)) o! (by simp[Int.reduceToNat];omega) o!
 obtain⟨Z,q1,W⟩:=CW (s:=nO (s,((n:Int),img (L.take k) n))) (lo:=0) (hi:=4) g! g! (by rw[b];decide);have X_:Z=[80,77,73,77]:=W.1.trans (by rw[y];rfl);rw[bne_self_eq_false,cond_false,show(len (nO (s,((n:Int),img (L.take k) n))) !=12)=false by unfold len;rw[b];rfl,cond_false,q1,Option.bind_some,X_,bne_self_eq_false,cond_false,S,Option.bind_some,T,Option.bind_some,U,Option.bind_some,decide_eq_false o!,cond_false];refine AA (P:=λr=> ∃z,r= .inr (20+266*(n:Int),(img (L.take k) n,(s,((n:Int),z))))) ?_ λr hr=>?_
 ·refine CQ (λ(t:Int×Int×List C0×Int×Int×Aq)=>0<=t.2.1/\t.2.1<=n/\t.1=20+266*t.2.1/\ ∃z,t.2.2=((img (L.take k) n).take t.2.1.toNat,(s,((n:Int),z)))) (λt=>((n:Int)-t.2.1).toNat) ⟨Ae _,d!,d!,_,rfl⟩ ?_;rintro⟨I,i,t⟩ ⟨x,Q,j,z,G⟩;dsimp only at x Q j G;subst G j;unfold SY;dsimp only;refine AC (λm=>?_) (λm=>Ao.done ⟨z,by rw[show i=n by omega,BN (l:=img (L.take k) n) (by rw[I4];omega)]⟩);have d:=qx (L:=L.take k) (n:=n) (i:=i.toNat) o!;rw[Ig x]at d;have e:=f _ (BP d);have g:img (L.take k) n=(img (L.take k) n).take i.toNat++(Xb (st (L.take k) i)::(img (L.take k) n).drop (i.toNat+1)):=by
   have v:=Cv d;conv=>lhs;rw[<-DG i.toNat (img (L.take k) n),OO v]
   rw[Au v]at d;rw[BW d]
  have H:(HX (nO (s,((n:Int),img (L.take k) n)))++tB ((img (L.take k) n).take i.toNat)).length=20+266*i.toNat:=by rw[AZ,EM,b,iH λc m=>f c (F9 m),BQ,I4];omega
  have lr:(tB ((img (L.take k) n).drop (i.toNat+1))).length<=17024:=by rw[iH λc m=>f c (Q4 m),C2,I4];omega
  have M:encI (s,((n:Int),img (L.take k) n))=(HX (nO (s,((n:Int),img (L.take k) n)))++tB ((img (L.take k) n).take i.toNat))++(HX (py (Xb (st (L.take k) i)))++tB ((img (L.take k) n).drop (i.toNat+1))):=by
   conv=>lhs;unfold encI;dsimp only;arg 2;rw[g]
   unfold tB;rw[Yd,Ih,A2]
  have O:Bl (encI (s,((n:Int),img (L.take k) n)),20+266*i)=some (py (Xb (st (L.take k) i)),(20+266*(i+1),0)):=by have:=AKo (A:=HX (nO (s,((n:Int),img (L.take k) n)))++tB ((img (L.take k) n).take i.toNat)) (p:=py (Xb (st (L.take k) i))) (R:=tB ((img (L.take k) n).drop (i.toNat+1))) (by rw[H,e];omega) (by rw[e];decide);rw[<-M,H,e]at this;rw[show(20+266*i:Int)=((20+266*i.toNat:Nat):Int) by omega,this];refine congrArg (λw=>some (py (Xb (st (L.take k) i)),(w,(0:Int)))) ?_;omega
  have q:(eF (st (L.take k) i)).length=256:=pC (XY h ⟨x,o!⟩ B k);have F:py (Xb (st (L.take k) i))=C6 i 2++eF (st (L.take k) i):=by unfold py Xb;rw[Se]
  have V:Bg (py (Xb (st (L.take k) i)),(0,2))=some i:=by rw[F];exact ACg (a:=[]) (t:=C6 i 2++eF (st (L.take k) i)) (n:=i) (k:=2) (by rw[AZ,Ay,q];decide) g! g! (by rw[AZ,Ay,q];decide) (Fe (Ay _ _)) x (by simp[Int.reduceToNat];omega) o!
  obtain⟨w1,J,K⟩:=CW (s:=py (Xb (st (L.take k) i))) (lo:=2) (hi:=258) g! g! (by rw[e];decide);have w2:w1=eF (st (L.take k) i):=by rw[K.1,F];show List.take 256 (List.drop 2 (C6 i 2++eF (st (L.take k) i)))=_;rw[mG (Ay _ _),BN o!]
  have o:len (py (Xb (st (L.take k) i)))=258:=by unfold len;rw[e];rfl
  rw[O,AD];dsimp only;rw[bne_self_eq_false,cond_false,o,bne_self_eq_false,cond_false,J,AD,V,AD,w2,rR h B ⟨x,o!⟩,AD];refine AA (Ac (by rw[BQ,I4];simp;omega)) λad C=>?_;rw[AY];refine Ao.next ⟨d!,d!,rfl,z,?_⟩ d!
  dsimp only;rw[C.1,show(i+1).toNat=i.toNat+1 by omega,Cl,d];unfold Xb;rw[Se];rfl
 obtain⟨z,rfl⟩:=hr;apply A0;dsimp only;rw[show((20+266*(n:Int)) !=len (encI (s,((n:Int),img (L.take k) n))))=false by unfold len;rw[D_];simp,cond_false,pw h B N hn,Option.bind_some,Bool.not_true,cond_false];exact AB rfl
def PI(L:T EN)(d:U)(m:R)(x:Aq):Prop:= ∃j:R,(j:U)<=d/\1<=x.1/\x.1<=1073741824/\x=(x.1,((m:U),img (L.take j) m))
def FI(L:S EN)(d:U)(m:R)(f:Am):Prop:=∃x,PI L d m x/\f.2.2=encI x
def AD5{L:T EN}(h:Gv L)(c:θ L<=1099511627776){d:U}{m:R}(hn:1<=m/\m<=64){x:Aq}(a:PI L d m x):Ao (Ko x) λf=>FI L d m f:=by have⟨j,i,e,g,b⟩:=id a;have:=AAq h c (k:=j) ⟨e,g⟩ hn;rw[<-b]at this;unfold Ko;rw[this,AD];exact AB ⟨x,a,rfl⟩
def AEA{n:Int}{L:List EN}{b:AU}{a:AJ}{l:Aa}{m:Nat}(O:CX b)(N:LI n L)(o:Gv L)(M:AR L a)(z:O2 L l)(w:0<=l.2.2/\l.2.2<=L.length)(Q:(m:Int)=a.2.1)(hn:1<=m/\m<=64):Ao (L5 b ((m:Int),(a,l))) λr=>CX r.2/\r.1.length<=8/\ ∀f∈r.1,FI L l.2.2 m f:=by
 have A:=z.len;have V:PI L l.2.2 m (1,((m:Int),img [] m)):=⟨0,w.1,d!,d!,rfl⟩
 unfold L5;rw[AFI hn.2,AD];refine AA (Ah O g!) λv1 H=>?_;have⟨E_,_,_⟩:=H;refine AA (P:=λh=>h.length<=1/\ ∀f∈h,FI L l.2.2 m f) ?_ λv3 v=>?_;refine AC (λ_=>AA (AD5 o o! hn V) λf hf=>AB ⟨q!,λg y=>?_⟩) (λ_=>AB ⟨q!,λg y=>by simp at y⟩);grind[List.mem_singleton]
 ·refine AA (P:=λr=>CX r.2.1/\r.1.length<=8/\ ∀f∈r.1,FI L l.2.2 m f) ?_ λr hr=>AB hr;refine CQ (λ(s:Int×Int×List Am×AU×Aq)=>0<=s.1/\s.1<=l.2.2/\2<=s.2.1/\s.2.1<=4/\s.2.2.1.length<=s.2.1/\(∀f∈s.2.2.1,FI L l.2.2 m f)/\CX s.2.2.2.1/\1<=s.2.2.2.2.1/\s.2.2.2.2.1<=1073741824/\s.2.2.2.2=(s.2.2.2.2.1,((m:Int),img (L.take s.1.toNat) m))) (λs=>(4-s.2.1).toNat) ⟨Ae _,w.1,d!,d!,by have:=v.1;dsimp only;omega,v.2,E_,d!,d!,rfl⟩ ?_;rintro⟨t,i,h,c,x⟩ ⟨W,X_,T,U,G,e,u,B,C,D_⟩;dsimp only at W X_ T U G e u B C D_;unfold TC;dsimp only;refine AA (Ah u g!) λY_ I=>?_;have⟨q,m5,n5⟩:=I;rw[AY (x:=2+Y_.1)];refine AC (λhc=>?_) (λ_=>Ao.done ⟨q,d!,e⟩);rw[AY (x:=l.2.2-t),AY (x:=l.2.2-t+1)];refine AA (Ah q o!) λd J=>?_;have⟨F,m6,n6⟩:=J;rw[AY (x:=t+d.1),D_];rw[(by omega:t+d.1=(((t+d.1).toNat:Nat):Int))];refine AA (AEC (s:=i) N o M z (j:=t.toNat) (k:=(t+d.1).toNat) o! o! Q hn ⟨B,C⟩) λZ K=>AL (λ_=>Ao.done ⟨F,d!,e⟩) (λS=>?_);have⟨y1,y2,p⟩:=K S;have R:PI L l.2.2 m Z.1:=⟨(t+d.1).toNat,o!,by rw[p];exact y1,by rw[p];exact y2,by rw[p]⟩
  refine AA (AD5 o o! hn R) λv8 h8=>AA (Ac w!) λv9 h9=>?_;rw[AY (x:=i+1)];grind[Ao.next,List.length_singleton,Int.toNat_natCast,List.mem_singleton]
def yZ{a t:Bd}{n k:U}(h:(θ a:U)+θ t<=2199023255552)(b:1<=k)(d:k<=8)(e:k<=θ t)(g:t.take k.toNat=C6 n k.toNat)(hn:0<=n)(f:n<256^k.toNat)(c:n<9223372036854775808):B0 (a++t,(θ a:U),k)=δ (n,0):=by grind[YV,ABk]
def AIQ{A p R:Bd}(h:(W A:U)+W p+W R<=1099511627776)(a:W p<=8392):Dr (A++(HX p++R),(W A:U))=Y (p,(W A:U)+8+W p,0):=by grind[XU,n?,EM,kJ]
theorem AAK{L:List EN}(h:Gv L)(E_:L.length<=1099511627776){s:Int}{n k:Nat}(T:1<=s/\s<=1073741824)(hn:1<=n/\n<=64):IR (encI (s,((n:Int),img (L.take k) n)))=some ((s,((n:Int),img (L.take k) n)),0):=by
 suffices H:Ao (IR (encI (s,((n:Int),img (L.take k) n)))) λr=>r=((s,((n:Int),img (L.take k) n)),0) by obtain⟨r,hr,rfl⟩:=H;exact hr
 have g: ∀c∈img (L.take k) n,(py c).length=258:=λc u=>xw h E_ hn.2 u;have y:(tB (img (L.take k) n)).length=266*n:=by rw[iH g,I4]
 have b:=tL (s,((n:Int),img (L.take k) n));have G:(encI (s,((n:Int),img (L.take k) n))).length=20+266*n:=by unfold encI;rw[AZ,EM,b,y]
 have u0:Dr (encI (s,((n:Int),img (L.take k) n)),0)=some (nO (s,((n:Int),img (L.take k) n)),(20,0)):=by have:=AIQ (A:=[]) (p:=nO (s,((n:Int),img (L.take k) n))) (R:=tB (img (L.take k) n)) (by rw[b,y,Bj];omega) (by rw[b];decide);rw[b]at this;exact this
 unfold IR;rw[u0,AD];dsimp only;have D_:nO (s,((n:Int),img (L.take k) n))=[80,77,73,77]++(C6 s 4++(C6 (n:Int) 2++C6 (n:Int) 2)):=by unfold nO;dsimp only;rw[I4]
 have W:B0 (nO (s,((n:Int),img (L.take k) n)),(4,4))=some (s,0):=by rw[D_];exact yZ (a:=[80,77,73,77]) (t:=C6 s 4++(C6 (n:Int) 2++C6 (n:Int) 2)) (n:=s) (k:=4) (by simp only[AZ,Ay];decide) g! g! (by simp only[AZ,Ay];decide) (Fe (Ay _ _)) o! (by simp[Int.reduceToNat];omega) o!
 have X_:B0 (nO (s,((n:Int),img (L.take k) n)),(8,2))=some ((n:Int),0):=by rw[D_,<-A2];exact yZ (a:=[80,77,73,77]++C6 s 4) (t:=C6 (n:Int) 2++C6 (n:Int) 2) (n:=n) (k:=2) (by simp only[AZ,Ay];decide) g! g! (by simp only[AZ,Ay];decide) (Fe (Ay _ _)) o! (by simp[Int.reduceToNat];omega) o!
 have Y_:B0 (nO (s,((n:Int),img (L.take k) n)),(10,2))=some ((n:Int),0):=by rw[D_,<-A2,<-A2];exact yZ (a:=[80,77,73,77]++C6 s 4++C6 (n:Int) 2) (t:=C6 (n:Int) 2) (n:=n) (k:=2) (by simp only[AZ,Ay];decide) g! g! (by simp only[Ay];decide) (BN (by rw[Ay];decide)) o! (by simp[Int.reduceToNat];omega) o!
 have S:FH (nO (s,((n:Int),img (L.take k) n)),([80,77,73,77]:List UInt8))=some true:=by obtain⟨v,q,r⟩:=CW (s:=nO (s,((n:Int),img (L.take k) n))) (lo:=0) (hi:=4) g! g! (by rw[b];decide);have e:v=[80,77,73,77]:=r.1.trans (by rw[D_];rfl);unfold FH Ek;rw[decide_eq_true (by simp only[len,b];decide),cond_true];show Option.bind (Option.bind (R3 (nO (s,((n:Int),img (L.take k) n))) 0 4) _) _=_;rw[q,e];rfl
 rw[bne_self_eq_false,cond_false,show(len (nO (s,((n:Int),img (L.take k) n))) !=12)=false by unfold len;rw[b];rfl,cond_false,S,Option.bind_some,Bool.not_true,cond_false,W,Option.bind_some,X_,Option.bind_some,Y_,Option.bind_some,decide_eq_false d!,cond_false];refine AA (P:=λr=> ∃z,r= .inr (20+266*(n:Int),(img (L.take k) n,(s,((n:Int),z))))) ?_ λr hr=>?_
 ·refine CQ (λ(t:Int×Int×List C0×Int×Int×Aq)=>0<=t.2.1/\t.2.1<=n/\t.1=20+266*t.2.1/\ ∃z,t.2.2=((img (L.take k) n).take t.2.1.toNat,(s,((n:Int),z)))) (λt=>((n:Int)-t.2.1).toNat) ⟨Ae _,d!,d!,_,rfl⟩ ?_;rintro⟨M,i,t⟩ ⟨C,V,o,z,J⟩;dsimp only at C V o J;subst J o;unfold aZ;dsimp only;refine AC (λu=>?_) (λu=>Ao.done ⟨z,by rw[show i=n by omega,BN (l:=img (L.take k) n) (by rw[I4];omega)]⟩);have d:=qx (L:=L.take k) (n:=n) (i:=i.toNat) o!;rw[Ig C]at d;have f:=g _ (BP d);have j:img (L.take k) n=(img (L.take k) n).take i.toNat++(Xb (st (L.take k) i)::(img (L.take k) n).drop (i.toNat+1)):=by
   have B:=Cv d;conv=>lhs;rw[<-DG i.toNat (img (L.take k) n),OO B]
   rw[Au B]at d;rw[BW d]
  have K:(HX (nO (s,((n:Int),img (L.take k) n)))++tB ((img (L.take k) n).take i.toNat)).length=20+266*i.toNat:=by rw[AZ,EM,b,iH λc u=>g c (F9 u),BQ,I4];omega
  have lr:(tB ((img (L.take k) n).drop (i.toNat+1))).length<=17024:=by rw[iH λc u=>g c (Q4 u),C2,I4];omega
  have Q:encI (s,((n:Int),img (L.take k) n))=(HX (nO (s,((n:Int),img (L.take k) n)))++tB ((img (L.take k) n).take i.toNat))++(HX (py (Xb (st (L.take k) i)))++tB ((img (L.take k) n).drop (i.toNat+1))):=by
   conv=>lhs;unfold encI;dsimp only;arg 2;rw[j]
   unfold tB;rw[Yd,Ih,A2]
  have U:Dr (encI (s,((n:Int),img (L.take k) n)),20+266*i)=some (py (Xb (st (L.take k) i)),(20+266*(i+1),0)):=by have:=AIQ (A:=HX (nO (s,((n:Int),img (L.take k) n)))++tB ((img (L.take k) n).take i.toNat)) (p:=py (Xb (st (L.take k) i))) (R:=tB ((img (L.take k) n).drop (i.toNat+1))) (by rw[K,f];omega) (by rw[f];decide);rw[<-Q,K,f]at this;rw[show(20+266*i:Int)=((20+266*i.toNat:Nat):Int) by omega,this];refine congrArg (λw=>some (py (Xb (st (L.take k) i)),(w,(0:Int)))) ?_;omega
  have x:(eF (st (L.take k) i)).length=256:=pC (XY h ⟨C,o!⟩ E_ k);have I:py (Xb (st (L.take k) i))=C6 i 2++eF (st (L.take k) i):=by unfold py Xb;rw[Se]
  have Z:B0 (py (Xb (st (L.take k) i)),(0,2))=some (i,0):=by rw[I];exact yZ (a:=[]) (t:=C6 i 2++eF (st (L.take k) i)) (n:=i) (k:=2) (by rw[AZ,Ay,x];decide) g! g! (by rw[AZ,Ay,x];decide) (Fe (Ay _ _)) C (by simp[Int.reduceToNat];omega) o!
  have m:len (py (Xb (st (L.take k) i)))=258:=by unfold len;rw[f];rfl
  obtain⟨w1,N,O⟩:=CW (s:=py (Xb (st (L.take k) i))) (lo:=2) (hi:=258) g! g! (by rw[f];decide);have w2:w1=eF (st (L.take k) i):=by rw[O.1,I];show List.take 256 (List.drop 2 (C6 i 2++eF (st (L.take k) i)))=_;rw[mG (Ay _ _),BN o!]
  have rc:Rv (py (Xb (st (L.take k) i)))=some (Xb (st (L.take k) i)):=by unfold Rv;rw[m,N,AD,Z,AD,w2];dsimp only;rw[uo h E_ ⟨C,o!⟩];unfold Xb;rw[Se];rfl
  rw[U,AD];dsimp only;rw[bne_self_eq_false,cond_false,m,bne_self_eq_false,cond_false,rc,AD];refine AA (Ac (by rw[BQ,I4];simp;omega)) λad F=>?_;rw[AY];refine Ao.next ⟨d!,d!,rfl,z,?_⟩ d!
  dsimp only;rw[F.1,show(i+1).toNat=i.toNat+1 by omega,Cl,d];rfl
 obtain⟨z,rfl⟩:=hr;apply A0;dsimp only;rw[decide_eq_false (by unfold len;rw[G];omega),cond_false,po h E_ T hn,Option.bind_some,Bool.not_true,cond_false];exact AB rfl
def AAF{b:Type}(n k:U)(v:b): ∀m:T (U×b),Lo k (Qa n v m)=if k=n then some v else Lo k m
 |[]=>by simp only[Qa,Lo];by_cases h:k=n;rw[if_pos h,h,beq_self_eq_true,cond_true];rw[if_neg h,beq_eq_false_iff_ne.2 (PM h),cond_false]
 |p::r=>by simp only[Qa];by_cases a:p.1=n;rw[beq_iff_eq.2 a,cond_true];simp only[Lo];by_cases h:k=n;rw[if_pos h,h,beq_self_eq_true,cond_true];rw[if_neg h,beq_eq_false_iff_ne.2 (PM h),cond_false,a,beq_eq_false_iff_ne.2 (PM h),cond_false];rw[beq_eq_false_iff_ne.2 a,cond_false];simp only[Lo];rw[AAF n k v r];by_cases h:p.1=k;rw[beq_iff_eq.2 h,cond_true,cond_true,if_neg (by rw[<-h];exact a)];rw[beq_eq_false_iff_ne.2 h,cond_false,cond_false]
theorem yY{L:T EN}(h:Gv L)(c:L.length<=1099511627776){d:U}{m:R}(hn:1<=m/\m<=64){x:Aq}(a:PI L d m x):IR (encI x)=some (x,0):=by have⟨j,b,e,f,g⟩:=a;grind[AAK]
def FB(D:Bd->Option (Aq×U))(L:T EN)(d:U)(m:R)(f:Am):Prop:=FI L d m f\/Ao (D f.2.2) λr=>r.2≠0
def zC(L:T EN)(d:U)(m:R)(fs:T Am)(n:R)(f:Am)(x:Aq):Prop:=f.1=2/\(∀(k:R) (g:Am),k<n->fs[k]? =some g->g.1=2->g.2.1≠f.2.1)/\PI L d m x/\f.2.2=encI x/\x.1=f.2.1
def Q1(L:T EN)(d:U)(m:R)(fs:T Am)(n:R)(x:Aq):Prop:= ∃(i:R) (f:Am),i<n/\fs[i]? =some f/\zC L d m fs i f x
def Q1.step{L:T EN}{d:U}{m:R}{b:T Am}{n:R}{f:Am}(e:b[n]? =some f)(x:Aq):Q1 L d m b (n+1) x↔Q1 L d m b n x\/zC L d m b n f x:=by constructor;rintro⟨i,g,k,a,c⟩;by_cases j:i=n;subst j;rw[e]at a;cases a;exact .inr c;exact .inl ⟨i,g,o!,a,c⟩;rintro(⟨i,g,k,a⟩|h);exact⟨i,g,o!,a⟩;exact⟨n,f,o!,e,h⟩
theorem kw{L:T EN}(h:Gv L)(a:L.length<=1099511627776){d:U}{m:R}(hn:1<=m/\m<=64){x y:Aq}(b:PI L d m x)(c:PI L d m y)(e:encI x=encI y):x=y:=by grind[yY,Prod.ext_iff,Option.some.inj]
def Q1.uniq{L:T EN}(h:Gv L)(A:θ L<=1099511627776){d:U}{m:R}(hn:1<=m/\m<=64){a:T Am}{n:R}{x y:Aq}(b:Q1 L d m a n x)(c:Q1 L d m a n y)(e:x.1=y.1):x=y:=by have⟨i,f,_,w,k,l,o,p,q⟩:=b;have⟨j,g,_,z,r,s,t,u,v⟩:=c;grind[Nat.lt_trichotomy,kw]
def ACA(L:T EN)(d:U)(m:R)(fs:T Am)(s:U×T (U×Bool)×T Aq):Prop:= ∃n:R,s.1=n/\n<=fs.length/\s.2.2.length<=n/\(∀id,Option.getD (Lo id s.2.1) false=true↔ ∃(k:R) (g:Am),k<n/\fs[k]? =some g/\g.1=2/\g.2.1=id)/\ ∀x,x∈s.2.2↔Q1 L d m fs n x
theorem rM{L:List EN}(h:Gv L)(A:L.length<=1099511627776){d:Int}{m:Nat}(hn:1<=m/\m<=64){a:List Am}(h8:a.length<=8)(S: ∀f∈a,FB IR L d m f):Ao (Ip a) λr=>r.length<=8/\ ∀x,x∈r↔Q1 L d m a a.length x:=by
 unfold Ip;refine AA (P:=λr=>r.2.length<=8/\ ∀x,x∈r.2↔Q1 L d m a a.length x) ?_ λv V=>?_
 ·refine CQ (ACA L d m a) (λs=>((a.length:Int)-s.1).toNat) ⟨0,rfl,BU _,Al _,λid=>⟨λq=>(by cases q),λ⟨k,g,k0,_⟩=>absurd k0 (Nat.not_lt_zero _)⟩,λx=>⟨λq=>(by cases q),λ⟨k,g,k0,_⟩=>absurd k0 (Nat.not_lt_zero _)⟩⟩ ?_;rintro⟨_,t,o⟩ ⟨n,rfl,n1,W,E_,K⟩;dsimp only at W E_ K;unfold Y6;dsimp[len];refine AC (λO=>?_) (λO=>Ao.done ⟨by dsimp only;omega,by rw[show a.length=n by omega];exact K⟩);rw[AY (x:=(n:Int)+1) (by omega)];refine AA (AI (by omega) O) λc M=>?_;have l:=M.1;rw[CO]at l;have same:(∀x,¬zC L d m a n c x)->(c.1=2-> ∃(k:Nat) (g:Am),k<n/\a[k]? =some g/\g.1=2/\g.2.1=c.2.1)->Ao (some (Step.next ((n:Int)+1,(t,o))):Option (Step (Int×List (Int×Bool)×List Aq) (List (Int×Bool)×List Aq))) (MX (ACA L d m a) (λs=>((a.length:Int)-s.1).toNat) ((a.length:Int)-n).toNat λr=>r.2.length<=8/\ ∀x,x∈r.2↔Q1 L d m a a.length x):=λe U=>by
   refine Ao.next ⟨n+1,rfl,by omega,by dsimp only;omega,λid=>?_,λx=>?_⟩ (by dsimp only;omega)
   ·dsimp only;rw[E_ id];refine⟨λ⟨k,g,k0,k1⟩=>⟨k,g,by omega,k1⟩,λ⟨k,g,k0,k1,u,w⟩=>?_⟩;by_cases p:k=n<;>grind
   ·simp_all[Q1.step]
  refine AL (λz=>same (λx q=>z q.1) λq=>absurd q z) (λz=>AK (λF=>?_) (λF=>?_))
  ·have⟨k,g,k0,k1,u,w⟩:=(E_ c.2.1).1 F;exact same (λx q=>q.2.1 k g k0 k1 u w) λ_=>⟨k,g,k0,k1,u,w⟩
  have i: ∀(k:Nat) (g:Am),k<n->a[k]? =some g->g.1=2->g.2.1≠c.2.1:=λk g k0 k1 u w=>by rw[(E_ c.2.1).2 ⟨k,g,k0,k1,u,w⟩]at F;cases F
  have Q: ∀G,G.length<=n+1->(∀x,x∈G↔x∈o\/zC L d m a n c x)->Ao (some (Step.next ((n:Int)+1,(Qa c.2.1 true t,G))):Option (Step (Int×List (Int×Bool)×List Aq) (List (Int×Bool)×List Aq))) (MX (ACA L d m a) (λs=>((a.length:Int)-s.1).toNat) ((a.length:Int)-n).toNat λr=>r.2.length<=8/\ ∀x,x∈r.2↔Q1 L d m a a.length x):=λG H T=>by
   refine Ao.next ⟨n+1,rfl,by omega,H,λid=>?_,λx=>?_⟩ (by dsimp only;omega)
   ·dsimp only;rw[AAF];by_cases b:id=c.2.1
    ·rw[if_pos b];exact⟨λ_=>⟨n,c,by omega,l,z,b.symm⟩,λ_=>rfl⟩
    ·rw[if_neg b,E_ id];refine⟨λ⟨k,g,k0,k1⟩=>⟨k,g,by omega,k1⟩,λ⟨k,g,k0,k1,u,w⟩=>?_⟩;by_cases p:k=n<;>grind
   ·dsimp only;rw[Q1.step l,T x,K x]
  have none:(∀x,¬zC L d m a n c x)->Ao (some (Step.next ((n:Int)+1,(Qa c.2.1 true t,o))):Option (Step (Int×List (Int×Bool)×List Aq) (List (Int×Bool)×List Aq))) (MX (ACA L d m a) (λs=>((a.length:Int)-s.1).toNat) ((a.length:Int)-n).toNat λr=>r.2.length<=8/\ ∀x,x∈r.2↔Q1 L d m a a.length x):=λe=>Q o (by omega) λx=>⟨.inl,λq=>q.elim id λq=>absurd q (e x)⟩
  rcases S _ M.2 with⟨x,D_,p⟩|e
  ·have⟨j,hj,Y_,Z,xe⟩:=id D_;have C:=AH1 h A (k:=j) ⟨Y_,Z⟩ hn;rw[<-xe]at C;rw[p,yY h A hn D_,AD];dsimp only;rw[beq_self_eq_true,cond_true,C,AD,cond_true];refine AP (λb=>?_) (λb=>none λy I=>b ?_)
   ·refine AA (Ac (by simp;omega)) λX_ N=>Q X_ (by rw[N.1];simp;omega) λy=>?_;rw[N.1,Ak,A9];refine⟨λq=>q.imp id λq=>by rw[q];exact⟨z,i,D_,p,b⟩,λq=>q.imp id λq=>kw h A hn q.2.2.1 D_ (q.2.2.2.1.symm.trans p)⟩
   ·rw[<-kw h A hn I.2.2.1 D_ (I.2.2.2.1.symm.trans p)];exact I.2.2.2.2
  ·have B: ∀x,¬zC L d m a n c x:=λx q=>by have⟨r,hr,J⟩:=e;rw[q.2.2.2.1,yY h A hn q.2.2.1]at hr;cases hr;exact J rfl
   exact AA e λv2 R=>AP (λJ=>absurd J R) (λ_=>none B)
 ·refine AA (AHv (by omega)) λr hr=>?_;rw[cp hr,cond_true];exact AB ⟨by have:=hr.length_eq;omega,λx=>by rw[hr.mem_iff];exact V.2 x⟩
theorem AHW{L:T EN}{s:U}{m j:R}(n:m<=64){p:U}(c:0<=p/\p<m):TA ((s,((m:U),img (L.take j) m)),p)=some (p,true):=by
 suffices k:Ao (TA ((s,((m:U),img (L.take j) m)),p)) λv=>v=(p,true) by obtain⟨r,hr,rfl⟩:=k;exact hr
 unfold TA;dsimp only;rw[(by grind[I4]:len (img (L.take j) m)=m)];refine AA (P:=λr=>r=p) ?_ λr hr=>?_
 ·refine CQ (λ(t:U×U)=>0<=t.1/\t.1<=p/\p<=t.2/\t.2<=m) (λt=>(t.2-t.1).toNat) ⟨Ae _,c.1,d!,Ae _⟩ ?_;rintro⟨a,b⟩ ⟨f,g,i,h⟩;dsimp only at f g i h;unfold eU;dsimp only;rw[ABS];refine AC (λl=>?_) (λ_=>Ao.done o!);rw[cX o! o!,AD,AY (x:=(a+b)/2+1)];unfold QB;rw[AD,show((Xb (st (L.take j) ((a+b)/2)),p):C0×U).1.1=(a+b)/2 from Se _ _,AY d!];exact Bn (AC (λe=>Ao.next ⟨d!,by dsimp only at e⊢;omega,i,h⟩ d!) (λd=>Ao.next ⟨f,g,by dsimp only at d⊢;omega,d!⟩ d!))
 rw[hr,decide_eq_true c.2,cond_true,cX c.1 c.2,AD];unfold QB;rw[AD,show((Xb (st (L.take j) p),p):C0×U).1.1=p from Se _ _,Int.sub_self];exact AB rfl
def AD7{L:T EN}(h:Gv L)(a:L.length<=1099511627776){s:U}{m j:R}(c:1<=s/\s<=1073741824)(hn:1<=m/\m<=64){p:U}(b:0<=p/\p<m):VU ((s,((m:U),img (L.take j) m)),p)=some (Xb (st (L.take j) p),true):=by grind[VU,po,Bool.not_true,AHW,cX]
def xa{L:T EN}(h:Gv L)(a:L.length<=1099511627776){s:U}{m j:R}(c:1<=s/\s<=1073741824)(hn:1<=m/\m<=64){p:U}(b:0<=p/\p<m):Ru ((s,((m:U),img (L.take j) m)),p)=some (st (L.take j) p,0):=by unfold Ru;rw[po h a c hn,AD,By,cond_false,AD7 h a c hn b,AD,By,cond_false,show Gb ((Xb (st (L.take j) p)).2.2,p)=some (st (L.take j) p,0)from uo h a ⟨b.1,o!⟩,AD]
def dI(x:Aq)(p:U):U:=((x.2.2[p.toNat]?).getD (0,(0,[]))).2.1
theorem zQ{L:T EN}{s:U}{m j:R}{p:U}(a:0<=p/\p<m):dI (s,((m:U),img (L.take j) m)) p=BY (L.take j) p:=by unfold dI;dsimp only;rw[(qx (L:=L.take j) (n:=m) (i:=p.toNat) (by omega)),Ig a.1];exact Jf _ _
theorem yz{L:T EN}(h:Gv L)(w:L.length<=1099511627776){d:U}{m:R}(hn:1<=m/\m<=64){f:T Am}{V:T Aq}(q:Ip f=some V)(G:V.length<=8)(n: ∀x∈V,PI L d m x){p k:U}(A:0<=p/\p<m):Ao (Td (f,(p,k))) λr=>r.length<=8/\ ∀y,y∈r↔ ∃x∈V,dI x p<=k/\y=(dI x p,(x.1,dI x p)):=by
 unfold Td;dsimp only;rw[q,AD];refine AA (P:=λr=>r.length<=8/\ ∀y,y∈r↔ ∃x∈V,dI x p<=k/\y=(dI x p,(x.1,dI x p))) ?_ λr hr=>?_
 ·dsimp[len];rw[AY (by omega)];refine CQ (λ(s:U×T Be)=> -1<=s.1/\s.1<V.length/\(s.2.length:U)+s.1+1<=V.length/\ ∀y,y∈s.2↔ ∃x∈V.drop (s.1+1).toNat,dI x p<=k/\y=(dI x p,(x.1,dI x p))) (λs=>(s.1+1).toNat) ⟨by dsimp only;omega,by dsimp only;omega,by simp,λy=>by dsimp only;rw[Rl (by omega)];simp⟩ ?_;rintro⟨i,o⟩ ⟨B,g,C,e⟩;dsimp only at B g C e;unfold Y5;dsimp only;refine AC (λt=>?_) (λ_=>Ao.done ⟨by omega,by rw[show(i+1).toNat=0 by omega]at e;exact e⟩);rw[AY (by omega)];refine AA (AI t g) λb l=>?_;have⟨j,I,D_,E_,F⟩:=n b l.2;have a:=AD7 h w (j:=j) ⟨D_,E_⟩ hn A;rw[<-F]at a;have H:V.drop (i-1+1).toNat=b::V.drop (i+1).toNat:=by grind[Cv,List.getElem?_eq_getElem,List.drop_eq_getElem_cons,Option.some.inj]
  rw[a,AD];dsimp only;rw[cond_true,show(Xb (st (L.take j) p)).2.1=dI b p from(Jf _ _).trans (by grind[zQ]:dI b p=BY (L.take j) p).symm];refine AC (λz=>?_) (λu=>Ao.next ⟨by dsimp only;omega,by dsimp only;omega,by dsimp only;omega,λy=>?_⟩ (by dsimp only;omega))
  ·grind[AA,Ac,Ao.next,List.mem_singleton,List.mem_cons_of_mem,List.mem_cons_self]
  ·grind[List.mem_cons_of_mem]
 ·refine AA (AHx (by omega)) λv c=>?_;rw[cp c,cond_true];exact AB ⟨by have:=c.length_eq;omega,λy=>by rw[c.mem_iff];exact hr.2 y⟩
theorem AII{V:T Aq}(f:V.length<=8){y:Be}(b: ∃x∈V,x.1=y.2.1):Ao (Ag (Sp V) (0,y)) λr=> ∃(i:U) (x:Aq),r= .inl (i,y)/\0<=i/\V[i.toNat]? =some x/\x.1=y.2.1:=by
 refine CQ (λ(s:U×Be)=>s.2=y/\0<=s.1/\s.1<=V.length/\ ∀i:R,i<s.1-> ∀x,V[i]? =some x->x.1≠y.2.1) (λs=>((V.length:U)-s.1).toNat) ⟨rfl,Ae _,by dsimp only;omega,λi a=>by dsimp only at a;omega⟩ ?_;rintro⟨i,h⟩ ⟨rfl,c,d,e⟩;dsimp only at c d e b;unfold Sp;dsimp[len];refine AC ?_ ?_<;>intro g
 ·grind[AA,AI,T5,AY,AP,Ao.done,Ao.next,Option.some.inj]
 ·grind[List.getElem?_of_mem,Cv]
theorem AGa{L C:List EN}{a:AJ}{l:Aa}{p i k:Int}{c:Nat}(h:AR L a)(D_:O2 L l)(H:0<=p/\p<a.2.1)(r:RC a c)(j:c<=12)(G:HZ (a,(l,(p,(i,k))))=some (C,0)):Ao (IQ (a,(l,(p,(i,k))))) λu=>u.2.2.2=0:=by
 unfold IQ;dsimp only;rw[G,AD,bne_self_eq_false,cond_false];refine AA (Rw D_.vl) λV _=>?_;have⟨f,R,t,_⟩:=xf h.vb H;rw[t,AD,By,cond_false];obtain⟨q,w,v,M,W,rfl,X_,Y_⟩:=tj h.vb h.ds (LK h.vb) h.dis;rw[w,AD];have Q:(v.filter λe=>e.1.2.2.1==f).length<=12:=by rw[(M.filter _).length_eq];exact Cq (r f) j
 refine AA (P:=λb=>b.length<=12) ?_ λJ m=>?_
 ·refine CQ (λ(s:Int×List Int)=> ∃k:Nat,s.1=k/\s.2.length<=((v.take k).filter λe=>e.1.2.2.1==f).length/\k<=v.length) (λs=>v.length-s.1.toNat) ⟨0,rfl,BU _,BU _⟩ ?_;rintro⟨_,o⟩ ⟨k,rfl,ok,S⟩;dsimp only at ok;unfold VS;dsimp[len];have F:(v.map (·.1)).length=v.length:=Ba _;refine AC (λr=>?_) (λr=>Ao.done (by rw[BN o!]at ok;omega));have d:k<v.length:=o!
  have I:v.take (k+1)=v.take k++[v[k]]:=by grind[List.take_add_one,List.getElem?_eq_getElem]
  have y:ix (v.map (·.1)) (k:Int)=some v[k].1:=by unfold ix;rw[if_pos o!,Int.toNat_natCast,List.getElem?_map,List.getElem?_eq_getElem d];rfl
  have z:ix (v.map (·.2)) (k:Int)=some v[k].2:=by unfold ix;rw[if_pos o!,Int.toNat_natCast,List.getElem?_map,List.getElem?_eq_getElem d];rfl
  rw[y,AD,z,AY (x:=(k:Int)+1)];have E_:((v.take k).filter λe=>e.1.2.2.1==f).length<=((v.take (k+1)).filter λe=>e.1.2.2.1==f).length:=by grind[List.length_append]
  have A:Ao (some (Step.next ((k:Int)+1,o)):Option (Step (Int×List Int) (List Int))) (MX (λ(s:Int×List Int)=> ∃k:Nat,s.1=k/\s.2.length<=((v.take k).filter λe=>e.1.2.2.1==f).length/\k<=v.length) (λs=>v.length-s.1.toNat) (v.length-k) λb=>b.length<=12):=Ao.next ⟨k+1,rfl,d!,d⟩ d!
  refine AP (λO=>?_) (λ_=>A);rw[AD];have T:=EH (λe=>e.1.2.2.1==f) (v.take k);have U:=fi k v;have g:Ao (Option.bind (app o [v[k].2]) λB=>some (Step.next ((k:Int)+1,B)):Option (Step (Int×List Int) (List Int))) (MX (λ(s:Int×List Int)=> ∃k:Nat,s.1=k/\s.2.length<=((v.take k).filter λe=>e.1.2.2.1==f).length/\k<=v.length) (λs=>v.length-s.1.toNat) (v.length-k) λb=>b.length<=12):=by
   refine AA (Ac w!) λB N=>Ao.next ⟨k+1,rfl,?_,d⟩ d!
   grind[List.length_append]
  exact AC (λ_=>A) (λ_=>AC (λ_=>g) (λ_=>AC (λ_=>g) (λ_=>AC (λ_=>g) (λ_=>A))))
 refine AA (AHu m) λK n=>?_;rw[cp n,cond_true];exact AC (λ_=>AB rfl) (λ_=>AB rfl)
def AB0{L}(h:Gv L){p}{j k:R}(a:BY (L.take j) p<=k):∃i:R,i<=k/\BY (L.take i) p=BY (L.take j) p/\st (L.take i) p=st (L.take j) p:=by have q0:=Ry h p j;have e:=Ut h (p:=p) (k:=j);exact⟨(BY (L.take j) p).toNat,o!,e,mg h e⟩
theorem AHS{n}{L}{a}{l}{p:U}{j k:R}(h:LI n L)(b:Gv L)(g:AR L a)(d:O2 L l)(i:HZ (a,l,p,BY (L.take j) p,(k:U))=Y (L.filter (HW p (BY (L.take j) p) k),0))(c:j<=k)(o:k<=W L)(f:0<=p/\p<64):J7 (st (L.take j) p,a,l,(k:U))=Y (st (L.take k) p,0):=by have e:=d.len;have q:=Ry b p j;have m:=YT (b.take j) p;rw[BQ]at m;unfold J7;dsimp only;rw[AFd g.vb d.vl,AD,H!,A!,mZ ((XY b f (by omega:W L<=1099511627776)) j),AD];dsimp only;rw[H!,A!,Jf,Se,F! o!,A!,i,AD];dsimp only;rw[H!,A!,show BY (L.take j) p=(((BY (L.take j) p).toNat:R):U) by omega,tT b o!,iC b (j:=j) o! (Ut b),yg (rK b h f o! j k c) (by have:=EH (aT p) ((L.take k).drop j);rw[C2,BQ]at this;omega),<-ai c];rfl
def AKa{n:U}{L:T EN}{a:AJ}{l:Aa}{p w C fl:U}{k c:R}(B:LI n L)(f:Gv L)(e:AR L a)(h:O2 L l)(hr:RC a c)(x:c<=12)(J:k<=L.length)(t:0<=p/\p<a.2.1)(d:p<64)(H:OK a p w C)(z:sh (bf a l w) k fl){j:R}(v:BY (L.take j) p<=k):(fl<=BY (L.take j) p/\J7 (st (L.take j) p,(a,(l,(k:U))))=some (st (L.take k) p,0)/\Ao (IQ (a,(l,(p,(BY (L.take j) p,(k:U)))))) λu=>u.2.2.2=0)\/(¬fl<=BY (L.take j) p/\Ao (J7 (st (L.take j) p,(a,(l,(k:U))))) λr=>r.2≠0):=by have s:=h.len;have⟨i,D_,q,y⟩:=AB0 f v;have F:=Ry f p i;rw[<-q,<-y];rw[<-q]at v;have⟨G,I,A,o,b,_,r⟩:=td (p:=p) (i:=BY (L.take i) p) (j:=(k:U)) (CPa 4096) g! B o! F o! o! e h t;have m:=H.uniq e.vb.1 rfl rfl o;subst m;have g:=z.uniq (λ_=>Wb) b;subst g;rcases r with⟨q1,E_⟩|⟨q1,E_⟩;refine .inr ⟨o!,?_⟩;unfold J7;dsimp only;rw[AFd e.vb h.vl,AD,bne_self_eq_false,cond_false,mZ (XY f ⟨t.1,d⟩ (by omega:L.length<=1099511627776) i),AD];grind[Jf,Se,AL,AB];grind[AHS,AGa]
theorem wH{n d:Int}{L:List EN}{a:AJ}{l:Aa}{p:Int}{k m c:Nat}{e:List Am}(hL:LI n L)(D_:Gv L)(W:AR L a)(M:O2 L l)(hr:RC a c)(S:c<=12)(hk:k<=L.length)(hm:(m:Int)=a.2.1)(hn:1<=m/\m<=64)(h8:e.length<=8)(hf: ∀f∈e,FB IR L d m f)(N:0<=p/\p<a.2.1): ∃Q X_ fl,OK a p Q X_/\sh (bf a l Q) k fl/\Ao (CV (e,(a,(l,(p,(k:Int)))))) λr=>(r.2.2=49/\fl≠0/\ ∀x,Q1 L d m e e.length x->dI x p<=k-> ¬fl<=dI x p)\/(r.2.2=0/\r.1=st (L.take k) p/\r.2.1.1=p/\r.2.1.2.2.2.1=k/\(fl=0\/ ∃x,Q1 L d m e e.length x/\dI x p<=k/\fl<=dI x p)):=by
 have ax:=M.len;have ap:0<=p/\p<64:=⟨N.1,by omega⟩
 have pm:0<=p/\p<m:=⟨N.1,by omega⟩
 obtain⟨Q,X_,fl,p1,T,_,_⟩:=td (p:=p) (i:=0) (j:=(k:Int)) (CPa 4096) (by decide) hL (by omega) (Ae _) (by omega) (by omega) W M N;refine⟨Q,X_,fl,p1,T,?_⟩;obtain⟨v,hv,rfl⟩:=Fg W.vb;obtain⟨w,hw,rfl⟩:=G8 M.vl;have pg:=λj (hq:BY (L.take j) p<=k)=>AKa hL D_ W M hr S hk N ap.2 p1 T (j:=j) hq;obtain⟨V,hV,v8,E_⟩:=rM D_ (by omega) hn h8 hf;have hP: ∀x∈V,PI L d m x:=λx hx=>by obtain⟨i,f,_,_,q⟩:=(E_ x).1 hx;exact q.2.2.1
 unfold CV;dsimp only;rw[hv,AD,By,cond_false,hw,AD,By,cond_false,decide_eq_false (by omega),cond_false,decide_eq_false (by omega),cond_false,decide_eq_false (by omega),cond_false,hV,AD];refine AA (yz D_ (by omega) hn hV v8 hP pm) λb C=>?_;obtain⟨r8,t⟩:=C;refine AA (P:=λ(r:(Int×AQ×BO)⊕ (AQ×BO))=>((∃z,r= .inr z)/\ ∀y∈b,¬fl<=y.1)\/ ∃y:BO,r= .inl (0,(st (L.take k) p,y))/\y.1=p/\y.2.2.2.1=k/\ ∃x,Q1 L d m e e.length x/\dI x p<=k/\fl<=dI x p) ?_ λr ad=>?_
 ·refine CQ (λ(s:Int×AQ×BO)=>0<=s.1/\s.1<=b.length/\ ∀y∈b.take s.1.toNat,¬fl<=y.1) (λs=>((b.length:Int)-s.1).toNat) ⟨Ae _,by dsimp only;omega,λy H=>by simp at H⟩ ?_;rintro⟨i,s⟩ ⟨i0,i1,O⟩;dsimp only at i0 i1 O;unfold Sn;dsimp only[len];refine AC (λF=>?_) (λF=>Ao.done (.inl ⟨⟨_,rfl⟩,by rw[BN (by omega)]at O;exact O⟩));rw[AY (x:=i+1) (by omega)];refine AA (AI i0 F) λv5 h5=>?_;obtain⟨x,R,xk,xe⟩:=(t v5).1 h5.2;obtain⟨j,hj,x1,x2,ex⟩:=hP x R;have a0:dI x p=BY (L.take j) p:=by rw[ex];exact zQ pm
  refine AA (AII v8 (y:=v5) ⟨x,R,by rw[xe]⟩) λv9 h9=>?_;obtain⟨g,I,rfl,g0,gx,U⟩:=h9;have ao:I=x:=Q1.uniq D_ (by omega) hn ((E_ I).1 (BP gx)) ((E_ x).1 R) (U.trans (by rw[xe]));subst ao;refine BF ?_;have Y_:ix V g=some I:=by unfold ix;rw[if_pos g0,gx]
  have h:=xa D_ (by omega:L.length<=1099511627776) (j:=j) ⟨x1,x2⟩ hn pm;rw[<-ex]at h;rw[Y_,AD,h,AD,bne_self_eq_false,cond_false,Jf];rcases pg j (by omega)with⟨J,o,K⟩|⟨J,o⟩
  ·rw[o,AD,bne_self_eq_false,cond_false];refine AA K λu hu=>AP (λ_=>Ao.done (.inr ⟨_,rfl,rfl,rfl,I,(E_ I).1 R,xk,by omega⟩)) (λB=>absurd hu B)
  ·refine AA o λar A=>AL (λ_=>Ao.next ⟨by dsimp only;omega,by dsimp only;omega,λy H=>?_⟩ (by dsimp only;omega)) (λhz=>absurd hz A);dsimp only at H;rw[show(i+1).toNat=i.toNat+1 by omega,Cl,h5.1]at H;rcases Ak.1 H with q|q
   ·exact O y q
   ·have q:=A9.1 q;rw[q,xe];dsimp only;omega
 ·rcases ad with⟨⟨z,rfl⟩,Z⟩|⟨y,rfl,J,o,K⟩
  ·refine A0 ?_;have G: ∀x,Q1 L d m e e.length x->dI x p<=k-> ¬fl<=dI x p:=λx hx al=>Z _ ((t _).2 ⟨x,(E_ x).2 hx,al,rfl⟩);have l0:BY (L.take 0) p=0:=rfl;have f0:=T.1;rw[show Cu p=some (st (L.take 0) p)from rfl,AD,Jf];rcases pg 0 (by rw[l0];omega)with⟨J,o,K⟩|⟨J,o⟩
   ·rw[o,AD,bne_self_eq_false,cond_false];exact AA K λu hu=>AP (λ_=>AB (.inr ⟨rfl,rfl,rfl,rfl,.inl (by omega)⟩)) (λB=>absurd hu B)
   ·exact AA o λar A=>AL (λ_=>AB (.inl ⟨rfl,by omega,G⟩)) (λhz=>absurd hz A)
  ·exact BF (AB (.inr ⟨rfl,rfl,J,o,.inr K⟩))
def AC3{n d}{L}{a}{l}{p:U}{k m c:R}{fs:S Am}(o:LI n L)(s:Gv L)(j:AR L a)(x:O2 L l)(t:Cov a l k)(hr:RC a c)(b:c<=12)(w:k<=W L)(y:(m:U)=a.2.1)(hn:1<=m/\m<=64)(i:W fs<=8)(u:∀f∈fs,FI L d m f)(z:0<=p/\p<a.2.1):Ao (CV (fs,a,l,p,(k:U))) λr=>r.1=st (L.take k) p/\r.2.2=0:=by obtain⟨B,v,fl,C,⟨D_,e,E_,g⟩,A⟩:=wH o s j x hr b w y hn i (λf q=>.inl (u f q)) z;refine A.mono λr h=>?_;rcases h with⟨_,q,_⟩|⟨q1,q2,_⟩;exact O! (t fl o! e p B v C) (g.resolve_left q);exact⟨q2,q1⟩
end Go.Pm
