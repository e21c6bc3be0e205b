/- Texts of wip, joined and shortened by wip/tools/pack.py; nothing is assumed. -/
import Derived.Test.YtghpjojfhamomaaGreatK11
import Derived.Test.YtghpjojfhamomaaGreatProg
import Derived.Lib.Builder
import Derived.Lib.FrozenHead
import Derived.Lib.FrozenHead2
import Derived.Lib.AppendStr
import Derived.Lib.UnsafeStr
import Derived.Lib.Repeat
import Derived.Lib.RepeatB
import Derived.Lib.Walk
import Derived.WalkKit
import Derived.Laws.Externs
import Derived.Shelf.RegionOpenPlain
import Derived.Lib.MakeNoZero
import Derived.Laws.IdiomCopy
import Derived.Deep.LoopGhost
import Derived.Deep.DeepCutAuto
import Derived.Deep.DeepFit
import Derived.Deep.CutBlock
noncomputable section
set_option linter.all false
namespace Go.Pm
open Go Go.Ab
set_option maxHeartbeats 400000
def ik(L:List EN)(n:Nat):len (Md L n)=n:=by unfold len;rw[Ma]
variable {a:List EN}{b j:Int}{c i:Nat}{d:List Av}{e:Ae}{f:AJ}{g:BT}{h:Az}{k:AQ}{l:List Az}
def qK(h:ID a)(j:a.length<=1099511627776)(k:1<=b/\b<=1073741824)(hn:1<=c/\c<=64):Ex (b,((c:Int),Md (a.take i) c))=some true:=by
 suffices k:Ap (Ex (b,((c:Int),Md (a.take i) c))) λr=>r=true by obtain⟨r,hr,rfl⟩:=k;exact hr
 unfold Ex;dsimp only;rw[decide_eq_false o!,cond_false,decide_eq_false o!,cond_false,decide_eq_false o!,cond_false,decide_eq_false o!,cond_false];refine AA (P:=λr=>r= .inr ()) ?_ λr hr=>by rw[hr];exact A7 (AB rfl)
 refine Cu (λ(b:Int)=>0<=b/\b<=c) (λb=>((c:Int)-b).toNat) ⟨Af _,o!⟩ (λn g=>?_);obtain⟨d,m⟩:=g;unfold SV;dsimp only;rw[ik];refine AC (λs=>?_) (λ_=>Ap.done rfl);have e:Ap (some (Step.next (wi (n+1))):Option (Step Int (Bool ⊕ Unit))) (LW (λ(b:Int)=>0<=b/\b<=c) (λb=>((c:Int)-b).toNat) ((c:Int)-n).toNat λr=>r= .inr ()):=by rw[AY];exact Ap.next o! o!
 have f:(eS (st (a.take i) n)).1=n:=Uj _ _;rw[aW d s,AD,f,decide_eq_false o!,cond_false,decide_eq_false o!,cond_false];have L:Cr ((eS (st (a.take i) n)).2.2,n)=some (st (a.take i) n,0):=uf h j ⟨d,o!⟩;refine AC (λl=>?_) (λ_=>?_);rw[AY,aW o! o!,AD,show(eS (st (a.take i) (n-1))).1=n-1 from Uj _ _,decide_eq_false o!,cond_false,L,AD];exact AL (λs=>absurd rfl s) (λ_=>AL (λs=>absurd rfl s) (λ_=>e));rw[L,AD];exact AL (λs=>absurd rfl s) (λ_=>AL (λs=>absurd rfl s) (λ_=>e))
def AFD(h:ID a)(s:a.length<=1099511627776)(L:1<=b/\b<=1073741824)(hn:1<=c/\c<=64):LU (b,((c:Int),Md (a.take i) c))=some true:=by unfold LU;rw[qK h s L hn,AD,cond_true];dsimp only;rw[ik,beq_self_eq_true]
def AF8(h:ID a)(e:a.length<=1099511627776)(f:1<=b/\b<=1073741824)(hn:1<=c/\c<=64)(d:0<=j/\j<c):MU ((b,((c:Int),Md (a.take i) c)),j)=some (eS (st (a.take i) j),true):=by
 suffices n:Ap (MU ((b,((c:Int),Md (a.take i) c)),j)) λr=>r=(eS (st (a.take i) j),true) by obtain⟨r,hr,rfl⟩:=n;exact hr
 refine AA (P:=λr=>r= .inl (true,eS (st (a.take i) j))) ?_ λr hr=>by rw[hr];exact BK (AB rfl)
 refine Cu (λ(t:Int×C3)=>0<=t.1/\t.1<=j) (λt=>(j-t.1).toNat) ⟨Af _,d.1⟩ ?_;rintro⟨t,z⟩ ⟨L,g⟩;dsimp only at L g;unfold Tj;dsimp only;rw[ik,decide_eq_true o!,cond_true,qK h e f hn,AD,cond_true,aW L o!,AD,show(eS (st (a.take i) t)).1=t from Uj _ _];apply AP<;>intro s
 ·rw[AD,s];exact Ap.done rfl
 ·rw[AY];exact Ap.next d! d!
def AGV(h:ID a)(s:a.length<=1099511627776){n k:Nat}(c:1<=b/\b<=1073741824)(hn:1<=n/\n<=64)(L:0<=j/\j<n):MV ((b,((n:Int),Md (a.take k) n)),j)=some (st (a.take k) j,0):=by unfold MV;dsimp only;rw[qK h s c hn,AD,Cg,cond_false,AF8 h s c hn L,AD];dsimp only;rw[Cg,cond_false,show Cr ((eS (st (a.take k) j)).2.2,j)=some (st (a.take k) j,0)from uf h s ⟨L.1,o!⟩];rfl
def ABi{x s:Int}{m j k:Nat}(I:LI b a)(L:ID a)(A:AR a f)(q:Xc a e)(g:j<=k)(J:k<=a.length)(R:(m:Int)=f.2.1)(hn:1<=m/\m<=64)(y:1<=x/\x<=1073741824):Ap (MW ((x,((m:Int),Md (a.take j) m)),(f,(e,(s,(k:Int)))))) λr=>r.2=0->1<=s/\s<=1073741824/\r.1=(s,((m:Int),Md (a.take k) m)):=by
 have B:=q.len;have w:=λp h=>YV L (p:=p) h (by omega:a.length<=1099511627776);unfold MW;rw[AFD L o! y hn,AD,Cg,cond_false];refine AA Vp λS o=>AO (λd=>absurd (o.2 A.vb) (by simp[d])) (λ_=>?_);refine AA Bg λT E=>AO (λd=>absurd (E.2 q.vl) (by simp[d])) (λ_=>?_);dsimp only;refine AC (λ_=>AB n!) (λM=>AC (λ_=>AB n!) (λN=>AC (λ_=>AB n!) (λO=>AC (λ_=>AB n!) (λQ=>?_))));refine AA (P:=λr=>(∀u,r= .inl u->u.1≠0)/\ ∀u,r= .inr u->(u.1,(u.2.1,u.2.2.1))=(Md (a.take k) m,(s,(m:Int)))) ?_ λr hr=>BB (λu n=>AB λc=>absurd c (hr.1 u n)) (λu n=>AB λ_=>⟨o!,o!,?_⟩)
 ·refine Cu (λ(t:Int×List C3×Int×Int×Az)=>0<=t.1/\t.1<=m/\ ∃z,t.2=(Md (a.take k) t.1.toNat,(s,((m:Int),z)))) (λt=>((m:Int)-t.1).toNat) ⟨Af _,d!,_,rfl⟩ ?_;rintro⟨i,t⟩ ⟨l,K,z,C⟩;dsimp only at l K C;subst C;unfold Tk;dsimp only;rw[ik];refine AC (λd=>?_) (λd=>Ap.done ⟨λu n=>(by cases n),λu n=>(by cases n;rw[show i.toNat=m by omega])⟩);have D:(eS (st (a.take j) i)).1=i:=Uj _ _;rw[aW l d,AD,D,AGV L o! y hn ⟨l,d⟩,AD];refine AA (ABm I L A q g J ⟨l,o!⟩ o!) λU F=>AL (λd=>Ap.done ⟨λu n=>(by cases n;exact d),λu n=>(by cases n)⟩) (λc=>?_);rw[F c];refine AA (P:=λv=>v=eS (st (a.take k) i)) ?_ λV G=>AA (Ac (by rw[Ma];simp;omega)) λW H=>?_;refine AC (λh=>?_) (λh=>AB ?_);rw[ab (w i ⟨l,o!⟩ k),AD];apply AB;unfold eS lH;rw[if_neg o!];rw[KJ]at h;have q1:=Q5 L i j k g;have q2:=Vo L i j;rw[jq L (j:=j) (k:=k) o!]
  ·rw[AY];refine Ap.next ⟨d!,d!,z,?_⟩ d!
   dsimp only;rw[H.1,G,show(i+1).toNat=i.toNat+1 by omega,xA,HJ l]
 have:=hr.2 u n;dsimp only;have q1:=congrArg (·.1) this;have q2:=congrArg (·.2.1) this;have q3:=congrArg (·.2.2) this;dsimp only at q1 q2 q3;rw[q1,q2,q3]
def sy(c:C3):BT:=C6 c.1 2++c.2.2
def vQ(cs:List C3):BT:=cs.flatMap λc=>HA (sy c)
def tO(x:Az):BT:=[80,77,73,77]++(C6 x.1 4++(C6 x.2.1 2++C6 (x.2.2.length:Int) 2))
def encI(x:Az):BT:=HA (tO x)++vQ x.2.2
def jg(x:Az):(tO x).length=12:=by unfold tO;simp only[Aa,A2,Bd,BX]
def rA{x:AU}(h:GA x):(lH x).length=256:=by unfold lH;split;unfold fq;rw[List.length_replicate];exact Xq h
def pz(h:ID a)(e:a.length<=1099511627776)(hn:i<=64){L:C3}(d:L∈Md (a.take c) i):(sy L).length=258:=by obtain⟨n,b⟩:=E9.1 d;have k:=Cy b;rw[Ma]at k;rw[rX k]at b;rw[<-BP b];unfold sy eS;rw[Aa,A2,rA (YV h o! e c)]
def mf{a:List C3}(h: ∀c∈a,(sy c).length=258):(vQ a).length=266*a.length:=by
 induction a with
 |nil=>rfl
 |cons c a f=>
  have e:vQ (c::a)=HA (sy c)++vQ a:=by unfold vQ;rw[List.flatMap_cons]
  rw[e,Aa,Dn,h c q!,f λd b=>h d (by simp[b]),Bd];omega
def xy(h:ID a)(o:a.length<=1099511627776){n k:Nat}(B:1<=b/\b<=1073741824)(hn:1<=n/\n<=64):Hz (b,((n:Int),Md (a.take k) n))=some (encI (b,((n:Int),Md (a.take k) n)),0):=by
 suffices p:Ap (Hz (b,((n:Int),Md (a.take k) n))) λr=>r=(encI (b,((n:Int),Md (a.take k) n)),0) by obtain⟨r,hr,rfl⟩:=p;exact hr
 have e: ∀c∈Md (a.take k) n,(sy c).length=258:=λc L=>pz h o hn.2 L;unfold Hz;rw[qK h o B hn,AD,Cg,cond_false];refine AA (lq q! g!) λG j=>AA (lq (by rw[j];simp[A2]) g!) λH u=>AA (lq (by rw[u,j];simp[A2]) g!) λE z=>?_;have w:E=tO (b,((n:Int),Md (a.take k) n)):=by rw[z,u,j];simp only[tO,len,Ax,Int.reduceToNat]
 rw[w,ac (by rw[jg];decide),AD];refine AA (P:=λr=>r=encI (b,((n:Int),Md (a.take k) n))) ?_ λr hr=>AB (by rw[hr]);refine Cu (λ(t:BT×Int)=>0<=t.2/\t.2<=n/\t.1=HA (tO (b,((n:Int),Md (a.take k) n)))++vQ ((Md (a.take k) n).take t.2.toNat)) (λt=>((n:Int)-t.2).toNat) ⟨Af _,d!,by simp[vQ]⟩ ?_;rintro⟨t,i⟩ ⟨f,C,v⟩;dsimp only at f C v;subst v;unfold Rb;dsimp only;rw[ik];refine AC (λL=>?_) (λL=>Ap.done (by rw[BR (l:=Md (a.take k) n) (by rw[Ma];omega)];rfl));have s:=rX (L:=a.take k) (n:=n) (i:=i.toNat) o!;rw[HJ f]at s;rw[aW f L,AD,AD,AY];have A:(vQ ((Md (a.take k) n).take i.toNat)).length<=17024:=by rw[mf λc L=>e c (FA L),BQ,Ma];omega
 have d:=e _ (BN s);have m:(eS (st (a.take k) i)).2.2.length=256:=rA (YV h ⟨f,o!⟩ o k);refine AA (lq q! g!) λI q=>AA (CC (by rw[q,Bw,A2,m];decide)) λF y=>?_;have x:F=sy (eS (st (a.take k) i)):=by rw[y.1,q];rfl
 rw[x,ac (by rw[d];decide),AD];refine AA (CC (by rw[Aa,Dn,Dn,jg,d];omega)) λD g=>Ap.next ⟨d!,d!,?_⟩ d!
 dsimp only;rw[g.1,show(i+1).toNat=i.toNat+1 by omega,Cv,s,Ax];unfold vQ;rw[XO];simp only[dQ,H6,jR,C0]
def PI(L:List EN)(d:Int)(m:Nat)(x:Az):Prop:= ∃j:Nat,(j:Int)<=d/\1<=x.1/\x.1<=1073741824/\x=(x.1,((m:Int),Md (L.take j) m))
def FI(L:List EN)(d:Int)(m:Nat)(f:Av):Prop:= ∃x,PI L d m x/\f.2.2=encI x
def ABe(h:ID a)(m:a.length<=1099511627776)(hn:1<=c/\c<=64){x:Az}(d:PI a b c x):Ap (Jw x) λf=>FI a b c f:=by obtain⟨j,i,e,g,L⟩:=id d;have:=xy h m (k:=j) ⟨e,g⟩ hn;rw[<-L]at this;unfold Jw;rw[this,AD];exact AB ⟨x,d,rfl⟩
def wK(V:CX k)(U:LI b a)(v:ID a)(T:AR a f)(D:Xc a e)(C:0<=e.2.2/\e.2.2<=a.length)(X:(c:Int)=f.2.1)(hn:1<=c/\c<=64):Ap (IV k ((c:Int),(f,e))) λr=>CX r.2/\r.1.length<=8/\ ∀l∈r.1,FI a e.2.2 c l:=by
 have E:=D.len;have p0:PI a e.2.2 c (1,((c:Int),Md [] c)):=⟨0,C.1,d!,d!,rfl⟩
 unfold IV;rw[ACl hn.2,AD];refine AA (Ad V g!) λv1 N=>?_;obtain⟨K,_,_⟩:=N;refine AA (P:=λu=>u.length<=1/\ ∀l∈u,FI a e.2.2 c l) ?_ λv3 A=>?_;refine AC (λ_=>AA (ABe v o! hn p0) λl m=>AB ⟨q!,λg p=>?_⟩) (λ_=>AB ⟨q!,λg p=>by simp at p⟩);rw[Bw,BC]at p;rw[p];exact m
 ·refine AA (P:=λr=>CX r.2.1/\r.1.length<=8/\ ∀l∈r.1,FI a e.2.2 c l) ?_ λr hr=>AB hr;refine Cu (λ(s:Int×Int×List Av×AQ×Az)=>0<=s.1/\s.1<=e.2.2/\2<=s.2.1/\s.2.1<=4/\s.2.2.1.length<=s.2.1/\(∀l∈s.2.2.1,FI a e.2.2 c l)/\CX s.2.2.2.1/\1<=s.2.2.2.2.1/\s.2.2.2.2.1<=1073741824/\s.2.2.2.2=(s.2.2.2.2.1,((c:Int),Md (a.take s.1.toNat) c))) (λs=>(4-s.2.1).toNat) ⟨Af _,C.1,d!,d!,by have:=A.1;dsimp only;omega,A.2,K,d!,d!,rfl⟩ ?_;rintro⟨t,i,u,L,x⟩ ⟨t0,t1,i0,i1,M,o,z,F,G,H⟩;dsimp only at t0 t1 i0 i1 M o z F G H;unfold R4;dsimp only;refine AA (Ad z g!) λv5 O=>?_;obtain⟨w,m5,n5⟩:=O;rw[AY (x:=2+v5.1)];refine AC (λhc=>?_) (λ_=>Ap.done ⟨w,d!,o⟩);rw[AY (x:=e.2.2-t),AY (x:=e.2.2-t+1)];refine AA (Ad w o!) λh Q=>?_;obtain⟨y,m6,n6⟩:=Q;rw[AY (x:=t+h.1),H];have W:t+h.1=(((t+h.1).toNat:Nat):Int):=o!
  rw[W];refine AA (ABi (s:=i) U v T D (j:=t.toNat) (k:=(t+h.1).toNat) o! o! X hn ⟨F,G⟩) λv7 R=>AL (λ_=>Ap.done ⟨y,d!,o⟩) (λZ=>?_);obtain⟨I,J,d⟩:=R Z;have Y:PI a e.2.2 c v7.1:=⟨(t+h.1).toNat,o!,by rw[d];exact I,by rw[d];exact J,by rw[d]⟩
  refine AA (ABe v o! hn Y) λv8 S=>AA (Ac w!) λv9 B=>?_;rw[AY (x:=i+1)];refine Ap.next ⟨d!,d!,d!,d!,by have:=B.2.1;simp only[qb]at this;dsimp only;omega,λl m=>?_,y,by dsimp only;rw[d];exact I,by dsimp only;rw[d];exact J,by dsimp only;rw[d,Dd]⟩ d!
  dsimp only at m;rw[B.1]at m;rcases An.1 m with q|q;exact o l q;rw[BC.1 q];exact S
def vr{a t:BT}{n k:Int}(h:(a.length:Int)+t.length<=2199023255552)(b:1<=k)(d:k<=8)(e:k<=t.length)(g:t.take k.toNat=C6 n k.toNat)(hn:0<=n)(f:n<256^k.toNat)(c:n<9223372036854775808):Bt (a++t,((a.length:Int),k))=some (n,0):=by rw[XG h b d,if_pos e,g,zC hn f c]
def AFV{A p R:BT}(h:(A.length:Int)+p.length+R.length<=1099511627776)(a:p.length<=8392):DM (A++(HA p++R),(A.length:Int))=some (p,((A.length:Int)+8+p.length,0)):=by rw[Qq (by rw[Aa,Dn];omega),kY a]
def xS(h:ID a)(E:a.length<=1099511627776)(T:1<=b/\b<=1073741824)(hn:1<=c/\c<=64):FG (encI (b,((c:Int),Md (a.take i) c)))=some ((b,((c:Int),Md (a.take i) c)),0):=by
 suffices H:Ap (FG (encI (b,((c:Int),Md (a.take i) c)))) λr=>r=((b,((c:Int),Md (a.take i) c)),0) by obtain⟨r,hr,rfl⟩:=H;exact hr
 have g: ∀k∈Md (a.take i) c,(sy k).length=258:=λk u=>pz h E hn.2 u;have y:(vQ (Md (a.take i) c)).length=266*c:=by rw[mf g,Ma]
 have L:=jg (b,((c:Int),Md (a.take i) c));have G:(encI (b,((c:Int),Md (a.take i) c))).length=20+266*c:=by unfold encI;rw[Aa,Dn,L,y]
 have u0:DM (encI (b,((c:Int),Md (a.take i) c)),0)=some (tO (b,((c:Int),Md (a.take i) c)),(20,0)):=by have:=AFV (A:=[]) (p:=tO (b,((c:Int),Md (a.take i) c))) (R:=vQ (Md (a.take i) c)) (by rw[L,y,BX];omega) (by rw[L];decide);rw[L]at this;exact this
 unfold FG;rw[u0,AD];dsimp only;have D:tO (b,((c:Int),Md (a.take i) c))=[80,77,73,77]++(C6 b 4++(C6 (c:Int) 2++C6 (c:Int) 2)):=by unfold tO;dsimp only;rw[Ma]
 have W:Bt (tO (b,((c:Int),Md (a.take i) c)),(4,4))=some (b,0):=by rw[D];exact vr (a:=[80,77,73,77]) (t:=C6 b 4++(C6 (c:Int) 2++C6 (c:Int) 2)) (n:=b) (k:=4) (by simp only[Aa,A2];decide) g! g! (by simp only[Aa,A2];decide) (Gm (A2 _ _)) o! (by simp only[Int.reduceToNat];omega) o!
 have X:Bt (tO (b,((c:Int),Md (a.take i) c)),(8,2))=some ((c:Int),0):=by rw[D,<-Ax];exact vr (a:=[80,77,73,77]++C6 b 4) (t:=C6 (c:Int) 2++C6 (c:Int) 2) (n:=c) (k:=2) (by simp only[Aa,A2];decide) g! g! (by simp only[Aa,A2];decide) (Gm (A2 _ _)) o! (by simp only[Int.reduceToNat];omega) o!
 have Y:Bt (tO (b,((c:Int),Md (a.take i) c)),(10,2))=some ((c:Int),0):=by rw[D,<-Ax,<-Ax];exact vr (a:=[80,77,73,77]++C6 b 4++C6 (c:Int) 2) (t:=C6 (c:Int) 2) (n:=c) (k:=2) (by simp only[Aa,A2];decide) g! g! (by simp only[A2];decide) (BR (by rw[A2];decide)) o! (by simp only[Int.reduceToNat];omega) o!
 have S:E5 (tO (b,((c:Int),Md (a.take i) c)),([80,77,73,77]:List UInt8))=some true:=by obtain⟨v,q,r⟩:=B8 (s:=tO (b,((c:Int),Md (a.take i) c))) (lo:=0) (hi:=4) g! g! (by rw[L];decide);have e:v=[80,77,73,77]:=r.1.trans (by rw[D];rfl);unfold E5 Eb;rw[decide_eq_true (by simp only[len,L];decide),cond_true];show Option.bind (Option.bind (Rk (tO (b,((c:Int),Md (a.take i) c))) 0 4) _) _=_;rw[q,e];rfl
 rw[bne_self_eq_false,cond_false,show(len (tO (b,((c:Int),Md (a.take i) c))) !=12)=false by unfold len;rw[L];rfl,cond_false,S,Option.bind_some,Bool.not_true,cond_false,W,Option.bind_some,X,Option.bind_some,Y,Option.bind_some,decide_eq_false d!,cond_false];refine AA (P:=λr=> ∃z,r= .inr (20+266*(c:Int),(Md (a.take i) c,(b,((c:Int),z))))) ?_ λr hr=>?_
 ·refine Cu (λ(t:Int×Int×List C3×Int×Int×Az)=>0<=t.2.1/\t.2.1<=c/\t.1=20+266*t.2.1/\ ∃z,t.2.2=((Md (a.take i) c).take t.2.1.toNat,(b,((c:Int),z)))) (λt=>((c:Int)-t.2.1).toNat) ⟨Af _,d!,d!,_,rfl⟩ ?_;rintro⟨M,n,t⟩ ⟨C,V,o,z,J⟩;dsimp only at C V o J;subst J o;unfold UN;dsimp only;refine AC (λu=>?_) (λu=>Ap.done ⟨z,by rw[show n=c by omega,BR (l:=Md (a.take i) c) (by rw[Ma];omega)]⟩);have d:=rX (L:=a.take i) (n:=c) (i:=n.toNat) o!;rw[HJ C]at d;have f:=g _ (BN d);have j:Md (a.take i) c=(Md (a.take i) c).take n.toNat++(eS (st (a.take i) n)::(Md (a.take i) c).drop (n.toNat+1)):=by
   have B:=Cy d;conv=>lhs;rw[<-D1 n.toNat (Md (a.take i) c),Qt B]
   rw[As B]at d;rw[BP d]
  have K:(HA (tO (b,((c:Int),Md (a.take i) c)))++vQ ((Md (a.take i) c).take n.toNat)).length=20+266*n.toNat:=by rw[Aa,Dn,L,mf λk u=>g k (FA u),BQ,Ma];omega
  have lr:(vQ ((Md (a.take i) c).drop (n.toNat+1))).length<=17024:=by rw[mf λk u=>g k (OV u),FY,Ma];omega
  have Q:encI (b,((c:Int),Md (a.take i) c))=(HA (tO (b,((c:Int),Md (a.take i) c)))++vQ ((Md (a.take i) c).take n.toNat))++(HA (sy (eS (st (a.take i) n)))++vQ ((Md (a.take i) c).drop (n.toNat+1))):=by
   conv=>lhs;unfold encI;dsimp only;arg 2;rw[j]
   unfold vQ;rw[XO,H6,Ax]
  have U:DM (encI (b,((c:Int),Md (a.take i) c)),20+266*n)=some (sy (eS (st (a.take i) n)),(20+266*(n+1),0)):=by have:=AFV (A:=HA (tO (b,((c:Int),Md (a.take i) c)))++vQ ((Md (a.take i) c).take n.toNat)) (p:=sy (eS (st (a.take i) n))) (R:=vQ ((Md (a.take i) c).drop (n.toNat+1))) (by rw[K,f];omega) (by rw[f];decide);rw[<-Q,K,f]at this;rw[show(20+266*n:Int)=((20+266*n.toNat:Nat):Int) by omega,this];refine congrArg (λw=>some (sy (eS (st (a.take i) n)),(w,(0:Int)))) ?_;omega
  have x:(lH (st (a.take i) n)).length=256:=rA (YV h ⟨C,o!⟩ E i);have I:sy (eS (st (a.take i) n))=C6 n 2++lH (st (a.take i) n):=by unfold sy eS;rw[Uj]
  have Z:Bt (sy (eS (st (a.take i) n)),(0,2))=some (n,0):=by rw[I];exact vr (a:=[]) (t:=C6 n 2++lH (st (a.take i) n)) (n:=n) (k:=2) (by rw[Aa,A2,x];decide) g! g! (by rw[Aa,A2,x];decide) (Gm (A2 _ _)) C (by simp only[Int.reduceToNat];omega) o!
  have m:len (sy (eS (st (a.take i) n)))=258:=by unfold len;rw[f];rfl
  obtain⟨w1,N,O⟩:=B8 (s:=sy (eS (st (a.take i) n))) (lo:=2) (hi:=258) g! g! (by rw[f];decide);have w2:w1=lH (st (a.take i) n):=by rw[O.1,I];show List.take 256 (List.drop 2 (C6 n 2++lH (st (a.take i) n)))=_;rw[jO (A2 _ _),BR o!]
  have rc:KV (sy (eS (st (a.take i) n)))=some (eS (st (a.take i) n)):=by unfold KV;rw[m,N,AD,Z,AD,w2];dsimp only;rw[rW h E ⟨C,o!⟩];unfold eS;rw[Uj];rfl
  rw[U,AD];dsimp only;rw[bne_self_eq_false,cond_false,m,bne_self_eq_false,cond_false,rc,AD];refine AA (Ac (by rw[BQ,Ma];simp;omega)) λad F=>?_;rw[AY];refine Ap.next ⟨d!,d!,rfl,z,?_⟩ d!
  dsimp only;rw[F.1,show(n+1).toNat=n.toNat+1 by omega,Cv,d];rfl
 obtain⟨z,rfl⟩:=hr;apply A7;dsimp only;rw[decide_eq_false (by unfold len;rw[G];omega),cond_false,nF h E T hn,Option.bind_some,Bool.not_true,cond_false];exact AB rfl
def xN{b:Type}(n k:Int)(v:b): ∀m:List (Int×b),Ku k (Pq n v m)=if k=n then some v else Ku k m
 |[]=>by simp only[Pq,Ku];by_cases h:k=n;rw[if_pos h,h,beq_self_eq_true,cond_true];rw[if_neg h,beq_eq_false_iff_ne.2 (Oa h),cond_false]
 |p::r=>by simp only[Pq];by_cases a:p.1=n;rw[beq_iff_eq.2 a,cond_true];simp only[Ku];by_cases h:k=n;rw[if_pos h,h,beq_self_eq_true,cond_true];rw[if_neg h,beq_eq_false_iff_ne.2 (Oa h),cond_false,a,beq_eq_false_iff_ne.2 (Oa h),cond_false];rw[beq_eq_false_iff_ne.2 a,cond_false];simp only[Ku];rw[xN n k v r];by_cases h:p.1=k;rw[beq_iff_eq.2 h,cond_true,cond_true,if_neg (by rw[<-h];exact a)];rw[beq_eq_false_iff_ne.2 h,cond_false,cond_false]
def qH(m:ID a)(d:a.length<=1099511627776)(hn:1<=c/\c<=64)(L:PI a b c h):FG (encI h)=some (h,0):=by obtain⟨j,g,x,e,f⟩:=L;rw[f];exact xS m d ⟨x,e⟩ hn
def FB(D:BT->Option (Az×Int))(L:List EN)(d:Int)(m:Nat)(f:Av):Prop:=FI L d m f\/Ap (D f.2.2) λr=>r.2≠0
def AAZ(L:List EN)(d:Int)(m:Nat)(fs:List Av)(n:Nat)(f:Av)(x:Az):Prop:=f.1=2/\(∀(k:Nat) (g:Av),k<n->fs[k]? =some g->g.1=2->g.2.1≠f.2.1)/\PI L d m x/\f.2.2=encI x/\x.1=f.2.1
def dF(L:List EN)(d:Int)(m:Nat)(fs:List Av)(n:Nat)(x:Az):Prop:= ∃(i:Nat) (f:Av),i<n/\fs[i]? =some f/\AAZ L d m fs i f x
def dF.step{n:Nat}{f:Av}(e:d[n]? =some f)(x:Az):dF a b c d (n+1) x↔dF a b c d n x\/AAZ a b c d n f x:=by constructor;rintro⟨i,g,k,L,m⟩;by_cases j:i=n;subst j;rw[e]at L;cases L;exact .inr m;exact .inl ⟨i,g,o!,L,m⟩;rintro(⟨i,g,k,L⟩|h);exact⟨i,g,o!,L⟩;exact⟨n,f,o!,e,h⟩
def rE(m:ID a)(L:a.length<=1099511627776)(hn:1<=c/\c<=64){y:Az}(x:PI a b c h)(f:PI a b c y)(e:encI h=encI y):h=y:=by have d:=qH m L hn x;rw[e,qH m L hn f]at d;exact(Prod.ext_iff.1 (BP d)).1.symm
def dF.uniq(h:ID a)(A:a.length<=1099511627776)(hn:1<=c/\c<=64){n:Nat}{x y:Az}(B:dF a b c d n x)(C:dF a b c d n y)(e:x.1=y.1):x=y:=by
 obtain⟨i,f,_,o,p,r,s,t,k⟩:=B;obtain⟨j,g,_,m,u,v,w,z,l⟩:=C;have L:i=j:=by rcases OY i j with q|q|q;exact absurd (k.symm.trans (e.trans l)) (v i f q o p);exact q;exact absurd (l.symm.trans (e.symm.trans k)) (r j g q m u)
 subst L;rw[o]at m;cases m;exact rE h A hn s w (t.symm.trans z)
def zZ(L:List EN)(d:Int)(m:Nat)(fs:List Av)(s:Int×List (Int×Bool)×List Az):Prop:= ∃n:Nat,s.1=n/\n<=fs.length/\s.2.2.length<=n/\(∀id,Option.getD (Ku id s.2.1) false=true↔ ∃(k:Nat) (g:Av),k<n/\fs[k]? =some g/\g.1=2/\g.2.1=id)/\ ∀x,x∈s.2.2↔dF L d m fs n x
def ABB(h:ID a)(A:a.length<=1099511627776)(hn:1<=c/\c<=64)(h8:d.length<=8)(T: ∀f∈d,FB FG a b c f):Ap (Ly d) λr=>r.length<=8/\ ∀x,x∈r↔dF a b c d d.length x:=by
 unfold Ly;refine AA (P:=λr=>r.2.length<=8/\ ∀x,x∈r.2↔dF a b c d d.length x) ?_ λv V=>?_
 ·refine Cu (zZ a b c d) (λs=>((d.length:Int)-s.1).toNat) ⟨0,rfl,Bk _,Ao _,λid=>⟨λq=>(by cases q),λ⟨k,g,k0,_⟩=>absurd k0 (Nat.not_lt_zero _)⟩,λx=>⟨λq=>(by cases q),λ⟨k,g,k0,_⟩=>absurd k0 (Nat.not_lt_zero _)⟩⟩ ?_;rintro⟨_,t,o⟩ ⟨n,rfl,n1,W,F,E⟩;dsimp only at W F E;unfold Xu;dsimp only[len];refine AC (λQ=>?_) (λQ=>Ap.done ⟨d!,by rw[show d.length=n by omega];exact E⟩);rw[AY (x:=(n:Int)+1)];refine AA (AI o! Q) λi N=>?_;have e:=N.1;rw[Dd]at e;have same:(∀x,¬AAZ a b c d n i x)->(i.1=2-> ∃(k:Nat) (g:Av),k<n/\d[k]? =some g/\g.1=2/\g.2.1=i.2.1)->Ap (some (Step.next ((n:Int)+1,(t,o))):Option (Step (Int×List (Int×Bool)×List Az) (List (Int×Bool)×List Az))) (LW (zZ a b c d) (λs=>((d.length:Int)-s.1).toNat) ((d.length:Int)-n).toNat λr=>r.2.length<=8/\ ∀x,x∈r.2↔dF a b c d d.length x):=λm J=>by
   refine Ap.next ⟨n+1,rfl,o!,d!,λid=>?_,λx=>?_⟩ d!
   dsimp only;rw[F id];refine⟨λ⟨k,g,k0,k1⟩=>⟨k,g,o!,k1⟩,λ⟨k,g,k0,k1,u,l⟩=>?_⟩;by_cases w:k=n;subst w;rw[e]at k1;cases k1;rw[<-l];exact J u;exact⟨k,g,o!,k1,u,l⟩;rw[dF.step e];exact⟨λq=>.inl ((E x).1 q),λq=>q.elim (E x).2 λq=>absurd q (m x)⟩
  refine AL (λz=>same (λx q=>z q.1) λq=>absurd q z) (λz=>AK (λG=>?_) (λG=>?_));obtain⟨k,g,k0,k1,u,l⟩:=(F i.2.1).1 G;exact same (λx q=>q.2.1 k g k0 k1 u l) λ_=>⟨k,g,k0,k1,u,l⟩
  have p: ∀(k:Nat) (g:Av),k<n->d[k]? =some g->g.1=2->g.2.1≠i.2.1:=λk g k0 k1 u l=>by rw[(F i.2.1).2 ⟨k,g,k0,k1,u,l⟩]at G;cases G
  have R: ∀H,H.length<=n+1->(∀x,x∈H↔x∈o\/AAZ a b c d n i x)->Ap (some (Step.next ((n:Int)+1,(Pq i.2.1 true t,H))):Option (Step (Int×List (Int×Bool)×List Az) (List (Int×Bool)×List Az))) (LW (zZ a b c d) (λs=>((d.length:Int)-s.1).toNat) ((d.length:Int)-n).toNat λr=>r.2.length<=8/\ ∀x,x∈r.2↔dF a b c d d.length x):=λH I U=>by
   refine Ap.next ⟨n+1,rfl,o!,I,λid=>?_,λx=>?_⟩ d!
   dsimp only;rw[xN];by_cases L:id=i.2.1;rw[if_pos L];exact⟨λ_=>⟨n,i,o!,e,z,L.symm⟩,λ_=>rfl⟩;rw[if_neg L,F id];refine⟨λ⟨k,g,k0,k1⟩=>⟨k,g,o!,k1⟩,λ⟨k,g,k0,k1,u,l⟩=>?_⟩;by_cases w:k=n;subst w;rw[e]at k1;cases k1;exact absurd l.symm L;exact⟨k,g,o!,k1,u,l⟩;dsimp only;rw[dF.step e,U x,E x]
  have none:(∀x,¬AAZ a b c d n i x)->Ap (some (Step.next ((n:Int)+1,(Pq i.2.1 true t,o))):Option (Step (Int×List (Int×Bool)×List Az) (List (Int×Bool)×List Az))) (LW (zZ a b c d) (λs=>((d.length:Int)-s.1).toNat) ((d.length:Int)-n).toNat λr=>r.2.length<=8/\ ∀x,x∈r.2↔dF a b c d d.length x):=λm=>R o o! λx=>⟨.inl,λq=>q.elim id λq=>absurd q (m x)⟩
  rcases T _ N.2 with⟨x,D,w⟩|m;obtain⟨j,hj,Y,Z,xe⟩:=id D;have C:=AFB h A (k:=j) ⟨Y,Z⟩ hn;rw[<-xe]at C;rw[w,qH h A hn D,AD];dsimp only;rw[beq_self_eq_true,cond_true,C,AD,cond_true];refine AP (λL=>?_) (λL=>none λy K=>L ?_);refine AA (Ac w!) λX O=>R X (by rw[O.1];simp;omega) λy=>?_;rw[O.1,An,BC];refine⟨λq=>q.imp id λq=>by rw[q];exact⟨z,p,D,w,L⟩,λq=>q.imp id λq=>rE h A hn q.2.2.1 D (q.2.2.2.1.symm.trans w)⟩;rw[<-rE h A hn K.2.2.1 D (K.2.2.2.1.symm.trans w)];exact K.2.2.2.2;have B: ∀x,¬AAZ a b c d n i x:=λx q=>by obtain⟨r,hr,M⟩:=m;rw[q.2.2.2.1,qH h A hn q.2.2.1]at hr;cases hr;exact M rfl
  exact AA m λv2 S=>AP (λM=>absurd M S) (λ_=>none B)
 refine AA (AE5 o!) λr hr=>?_;rw[lf hr,cond_true];exact AB ⟨by have:=hr.length_eq;omega,λx=>by rw[hr.mem_iff];exact V.2 x⟩
def AEh(o:c<=64)(m:0<=j/\j<c):R1 ((b,((c:Int),Md (a.take i) c)),j)=some (j,true):=by
 suffices l:Ap (R1 ((b,((c:Int),Md (a.take i) c)),j)) λv=>v=(j,true) by obtain⟨r,hr,rfl⟩:=l;exact hr
 have k:len (Md (a.take i) c)=c:=by unfold len;rw[Ma]
 unfold R1;dsimp only;rw[k];refine AA (P:=λr=>r=j) ?_ λr hr=>?_
 ·refine Cu (λ(t:Int×Int)=>0<=t.1/\t.1<=j/\j<=t.2/\t.2<=c) (λt=>(t.2-t.1).toNat) ⟨Af _,m.1,d!,Af _⟩ ?_;rintro⟨p,s⟩ ⟨f,g,L,h⟩;dsimp only at f g L h;unfold cC;dsimp only;rw[yn];refine AC (λn=>?_) (λ_=>Ap.done o!);rw[aW o! o!,AD,AY (x:=(p+s)/2+1)];unfold PM;rw[AD,show((eS (st (a.take i) ((p+s)/2)),j):C3×Int).1.1=(p+s)/2 from Uj _ _,AY d!];exact BZ (AC (λe=>Ap.next ⟨d!,by dsimp only at e⊢;omega,L,h⟩ d!) (λd=>Ap.next ⟨f,g,by dsimp only at d⊢;omega,d!⟩ d!))
 rw[hr,decide_eq_true m.2,cond_true,aW m.1 m.2,AD];unfold PM;rw[AD,show((eS (st (a.take i) j),j):C3×Int).1.1=j from Uj _ _,Int.sub_self];exact AB rfl
def ABf(h:ID a)(L:a.length<=1099511627776){m j:Nat}(c:1<=b/\b<=1073741824)(hn:1<=m/\m<=64){p:Int}(s:0<=p/\p<m):UO ((b,((m:Int),Md (a.take j) m)),p)=some (eS (st (a.take j) p),true):=by unfold UO;rw[nF h L c hn,AD,Cg,cond_false];dsimp only;rw[decide_eq_false o!,cond_false,decide_eq_false o!,cond_false,AEh hn.2 s,AD,Cg,cond_false,aW s.1 s.2,AD]
def ADk(h:ID a)(s:a.length<=1099511627776){m j:Nat}(c:1<=b/\b<=1073741824)(hn:1<=m/\m<=64){p:Int}(L:0<=p/\p<m):Wt ((b,((m:Int),Md (a.take j) m)),p)=some (st (a.take j) p,0):=by unfold Wt;rw[nF h s c hn,AD,Cg,cond_false,ABf h s c hn L,AD,Cg,cond_false,show Ea ((eS (st (a.take j) p)).2.2,p)=some (st (a.take j) p,0)from rW h s ⟨L.1,o!⟩,AD]
def sw(x:Az)(p:Int):Int:=((x.2.2[p.toNat]?).getD (0,(0,[]))).2.1
def AFL{L:List EN}(s:0<=j/\j<c):sw (b,((c:Int),Md (L.take i) c)) j=Ba (L.take i) j:=by have a:=rX (L:=L.take i) (n:=c) (i:=j.toNat) o!;unfold sw;dsimp only;rw[a,HJ s.1];exact KJ _ _
def ABd(h:ID a)(H:a.length<=1099511627776)(hn:1<=c/\c<=64)(F:Ly d=some l)(N:l.length<=8)(E: ∀x∈l,PI a b c x){k:Int}(B:0<=j/\j<c):Ap (Sc (d,(j,k))) λr=>r.length<=8/\ ∀y,y∈r↔ ∃x∈l,sw x j<=k/\y=(sw x j,(x.1,sw x j)):=by
 unfold Sc;dsimp only;rw[F,AD];refine AA (P:=λr=>r.length<=8/\ ∀y,y∈r↔ ∃x∈l,sw x j<=k/\y=(sw x j,(x.1,sw x j))) ?_ λr hr=>?_
 ·dsimp only[len];rw[AY];refine Cu (λ(s:Int×List Bb)=> -1<=s.1/\s.1<l.length/\(s.2.length:Int)+s.1+1<=l.length/\ ∀y,y∈s.2↔ ∃x∈l.drop (s.1+1).toNat,sw x j<=k/\y=(sw x j,(x.1,sw x j))) (λs=>(s.1+1).toNat) ⟨d!,d!,q!,λy=>by dsimp only;rw[XN o!];simp⟩ ?_;rintro⟨i,o⟩ ⟨I,C,J,m⟩;dsimp only at I C J m;unfold Xt;dsimp only;refine AC (λG=>?_) (λ_=>Ap.done ⟨o!,by rw[show(i+1).toNat=0 by omega]at m;exact m⟩);rw[AY];refine AA (AI G C) λe f=>?_;obtain⟨V,O,K,M,D⟩:=E e f.2;have g:sw e j=Ba (a.take V) j:=by rw[D];exact AFL B
  have p:=ABf h H (j:=V) ⟨K,M⟩ hn B;rw[<-D]at p;have z:l.drop (i-1+1).toNat=e::l.drop (i+1).toNat:=by have L:=Cy f.1;have A:=f.1;rw[As L]at A;rw[show(i-1+1).toNat=i.toNat by omega,Qt L,BP A,show(i+1).toNat=i.toNat+1 by omega]
  rw[p,AD];dsimp only;rw[cond_true,show(eS (st (a.take V) j)).2.1=sw e j from(KJ _ _).trans g.symm];refine AC (λn=>?_) (λu=>Ap.next ⟨d!,d!,d!,λy=>?_⟩ d!)
  ·refine AA (Ac w!) λQ w=>Ap.next ⟨d!,d!,?_,λy=>?_⟩ d!
   rw[w.1];simp;omega;dsimp only;rw[w.1,z,An,BC,m y];constructor;rintro(⟨x,q1,q2⟩|q);exact⟨x,CZ _ q1,q2⟩;exact⟨e,Iq,n,q⟩;rintro⟨x,q1,q2⟩;rcases Au.1 q1 with q|q;rw[q]at q2;exact .inr q2.2;exact .inl ⟨x,q,q2⟩
  dsimp only;rw[z,m y];constructor;rintro⟨x,q1,q2⟩;exact⟨x,CZ _ q1,q2⟩;rintro⟨x,q1,q2⟩;rcases Au.1 q1 with q|q;rw[q]at q2;exact absurd q2.1 u;exact⟨x,q,q2⟩
 refine AA (AE7 o!) λv t=>?_;rw[lf t,cond_true];exact AB ⟨by have:=t.length_eq;omega,λy=>by rw[t.mem_iff];exact hr.2 y⟩
def AHA(n:l.length<=8){y:Bb}(h: ∃x∈l,x.1=y.2.1):Ap (Ai (Ri l) (0,y)) λr=> ∃(i:Int) (x:Az),r= .inl (i,y)/\0<=i/\l[i.toNat]? =some x/\x.1=y.2.1:=by
 refine Cu (λ(s:Int×Bb)=>s.2=y/\0<=s.1/\s.1<=l.length/\ ∀i:Nat,i<s.1-> ∀x,l[i]? =some x->x.1≠y.2.1) (λs=>((l.length:Int)-s.1).toNat) ⟨rfl,Af _,d!,λi k=>by dsimp only at k;omega⟩ ?_;rintro⟨i,o⟩ ⟨rfl,e,V,f⟩;dsimp only at e V f h;unfold Ri;dsimp only[len];apply AC<;>intro j
 ·refine AA (AI e j) λm g=>?_;unfold S1;rw[AD,AY];refine AP (λa=>Ap.done ⟨i,m,rfl,e,g.1,a⟩) (λd=>Ap.next ⟨rfl,d!,d!,λq c x b=>?_⟩ d!);dsimp only at c;by_cases a:q=i.toNat
  subst a;rw[g.1]at b;rw[<-BP b];exact d;exact f q o! x b
 exfalso;obtain⟨x,b,a⟩:=h;obtain⟨q,c⟩:=De b;exact f q (by have:=Cy c;omega) x c a
theorem ADv{D:List EN}{p i k:Int}(h:AR a f)(G:Xc a e)(K:0<=p/\p<f.2.1)(t:RC f c)(m:c<=12)(J:Hn (f,(e,(p,(i,k))))=some (D,0)):Ap (Nj (f,(e,(p,(i,k))))) λu=>u.2.2.2=0:=by
 unfold Nj;dsimp only;rw[J,AD,bne_self_eq_false,cond_false];refine AA (Q4 G.vl) λV _=>?_;have⟨l,R,w,_⟩:=ABn h.vb K;rw[w,AD,Cg,cond_false];obtain⟨q,y,v,O,W,rfl,X,Y⟩:=ABq h.vb h.ds (To h.vb) h.dis;rw[y,AD];have Q:(v.filter λL=>L.1.2.2.1==l).length<=12:=by rw[(O.filter _).length_eq];exact Dc (t l) m
 refine AA (P:=λb=>b.length<=12) ?_ λM n=>?_
 ·refine Cu (λ(s:Int×List Int)=> ∃k:Nat,s.1=k/\s.2.length<=((v.take k).filter λL=>L.1.2.2.1==l).length/\k<=v.length) (λs=>v.length-s.1.toNat) ⟨0,rfl,Bk _,Bk _⟩ ?_;rintro⟨_,o⟩ ⟨k,rfl,ok,S⟩;dsimp only at ok;unfold ZG;dsimp[len];have I:(v.map (·.1)).length=v.length:=B7 _;refine AC (λt=>?_) (λt=>Ap.done (by rw[BR o!]at ok;omega));have d:k<v.length:=o!
  have j:v.take (k+1)=v.take k++[v[k]]:=by grind[List.take_add_one,List.getElem?_eq_getElem]
  have z:ix (v.map (·.1)) (k:Int)=some v[k].1:=by unfold ix;rw[if_pos o!,Int.toNat_natCast,List.getElem?_map,List.getElem?_eq_getElem d];rfl
  have A:ix (v.map (·.2)) (k:Int)=some v[k].2:=by unfold ix;rw[if_pos o!,Int.toNat_natCast,List.getElem?_map,List.getElem?_eq_getElem d];rfl
  rw[z,AD,A,AY (x:=(k:Int)+1)];have H:((v.take k).filter λL=>L.1.2.2.1==l).length<=((v.take (k+1)).filter λL=>L.1.2.2.1==l).length:=by rw[j,GU,Aa];omega
  have B:Ap (some (Step.next ((k:Int)+1,o)):Option (Step (Int×List Int) (List Int))) (LW (λ(s:Int×List Int)=> ∃k:Nat,s.1=k/\s.2.length<=((v.take k).filter λL=>L.1.2.2.1==l).length/\k<=v.length) (λs=>v.length-s.1.toNat) (v.length-k) λb=>b.length<=12):=Ap.next ⟨k+1,rfl,d!,d⟩ d!
  refine AP (λF=>?_) (λ_=>B);rw[AD];have T:=Fy (λL=>L.1.2.2.1==l) (v.take k);have U:=dI k v;have g:Ap (Option.bind (app o [v[k].2]) λC=>some (Step.next ((k:Int)+1,C)):Option (Step (Int×List Int) (List Int))) (LW (λ(s:Int×List Int)=> ∃k:Nat,s.1=k/\s.2.length<=((v.take k).filter λL=>L.1.2.2.1==l).length/\k<=v.length) (λs=>v.length-s.1.toNat) (v.length-k) λb=>b.length<=12):=by
   refine AA (Ac w!) λC E=>Ap.next ⟨k+1,rfl,?_,d⟩ d!
   rw[E.1,j,GU,Aa,Aa,PW,show(v[k].1.2.2.1==l)=true by rw[F];exact beq_self_eq_true _];simp;exact ok
  exact AC (λ_=>B) (λ_=>AC (λ_=>g) (λ_=>AC (λ_=>g) (λ_=>AC (λ_=>g) (λ_=>B))))
 refine AA (AE4 n) λN r=>?_;rw[lf r,cond_true];exact AC (λ_=>AB rfl) (λ_=>AB rfl)
def AGg(h:ID a){p:Int}{j k:Nat}(L:Ba (a.take j) p<=k): ∃i:Nat,i<=k/\Ba (a.take i) p=Ba (a.take j) p/\st (a.take i) p=st (a.take j) p:=by have q0:=Vo h p j;have e:=XU h (p:=p) (k:=j);exact⟨(Ba (a.take j) p).toNat,o!,e,jq h e⟩
def AEe{p:Int}{j k:Nat}(i:LI b a)(n:ID a)(h:AR a f)(L:Xc a e)(m:Hn (f,(e,(p,(Ba (a.take j) p,(k:Int)))))=some (a.filter (Ka p (Ba (a.take j) p) k),0))(c:j<=k)(q:k<=a.length)(g:0<=p/\p<64):JQ (st (a.take j) p,(f,(e,(k:Int))))=some (st (a.take k) p,0):=by have l:=L.len;have d:=YV n g (by omega:a.length<=1099511627776);have r:=Vo n p j;have o:=ZL (n.take j) p;rw[BQ]at o;unfold JQ;dsimp only;rw[AC2 h.vb L.vl,AD,bne_self_eq_false,cond_false,cw (d j),AD];dsimp only;rw[bne_self_eq_false,cond_false,KJ,Uj,decide_eq_false o!,cond_false,m,AD];dsimp only;rw[bne_self_eq_false,cond_false,show Ba (a.take j) p=(((Ba (a.take j) p).toNat:Nat):Int) by omega,AAR n o!,mT n (j:=j) o! (XU n),AEo (ve n i g o! j k c) (by have:=Fy (Zx p) ((a.take k).drop j);rw[FY,BQ]at this;omega),<-jr c];rfl
def AIO{p C G s:Int}(z:LI b a)(l:ID a)(d:AR a f)(k:Xc a e)(hr:RC f c)(o:c<=12)(H:i<=a.length)(m:0<=p/\p<f.2.1)(L:p<64)(K:Xd f p C G)(E:yD (wa f e C) i s){j:Nat}(B:Ba (a.take j) p<=i):(s<=Ba (a.take j) p/\JQ (st (a.take j) p,(f,(e,(i:Int))))=some (st (a.take i) p,0)/\Ap (Nj (f,(e,(p,(Ba (a.take j) p,(i:Int)))))) λu=>u.2.2.2=0)\/(¬s<=Ba (a.take j) p/\Ap (JQ (st (a.take j) p,(f,(e,(i:Int))))) λr=>r.2≠0):=by have A:=k.len;obtain⟨n,v,y,D⟩:=AGg l B;have I:=Vo l p n;rw[<-y,<-D];rw[<-y]at B;obtain⟨J,M,F,x,q,_,r⟩:=ABg (p:=p) (i:=Ba (a.take n) p) (j:=(i:Int)) (CPa 4096) g! z o! I o! o! d k m;have w:=K.uniq d.vb.1 rfl rfl x;subst w;have t:=E.uniq (λ_=>Iff.rfl) q;subst t;rcases r with⟨q1,g⟩|⟨q1,g⟩;refine .inr ⟨o!,?_⟩;unfold JQ;dsimp only;rw[AC2 d.vb k.vl,AD,bne_self_eq_false,cond_false,cw (YV l ⟨m.1,L⟩ (by omega:a.length<=1099511627776) n),AD];dsimp only;rw[bne_self_eq_false,cond_false,KJ,Uj,decide_eq_false o!,cond_false,g,AD];exact AL (λ_=>AB g!) n!;exact .inl ⟨q1,AEe z l d k g v H ⟨m.1,L⟩,ADv d k m hr o g⟩
def nM{p:Int}{k m c:Nat}(hL:LI b a)(E:ID a)(X:AR a f)(N:Xc a e)(hr:RC f c)(T:c<=12)(hk:k<=a.length)(hm:(m:Int)=f.2.1)(hn:1<=m/\m<=64)(h8:d.length<=8)(hf: ∀L∈d,FB FG a j m L)(O:0<=p/\p<f.2.1): ∃R Y h,Xd f p R Y/\yD (wa f e R) k h/\Ap (CG (d,(f,(e,(p,(k:Int)))))) λr=>(r.2.2=49/\h≠0/\ ∀x,dF a j m d d.length x->sw x p<=k-> ¬h<=sw x p)\/(r.2.2=0/\r.1=st (a.take k) p/\r.2.1.1=p/\r.2.1.2.2.2.1=k/\(h=0\/ ∃x,dF a j m d d.length x/\sw x p<=k/\h<=sw x p)):=by
 have a0:=N.len;have ar:0<=p/\p<64:=⟨O.1,o!⟩
 have pm:0<=p/\p<m:=⟨O.1,o!⟩
 obtain⟨R,Y,h,p1,U,_,_⟩:=ABg (p:=p) (i:=0) (j:=(k:Int)) (CPa 4096) g! hL o! (Af _) o! o! X N O;refine⟨R,Y,h,p1,U,?_⟩;obtain⟨v,hv,rfl⟩:=Iu X.vb;obtain⟨w,hw,rfl⟩:=MA N.vl;have pg:=λl (hq:Ba (a.take l) p<=k)=>AIO hL E X N hr T hk O ar.2 p1 U (j:=l) hq;obtain⟨V,hV,v8,F⟩:=ABB E o! hn h8 hf;have hP: ∀x∈V,PI a j m x:=λx hx=>by obtain⟨i,L,_,_,q⟩:=(F x).1 hx;exact q.2.2.1
 unfold CG;dsimp only;rw[hv,AD,Cg,cond_false,hw,AD,Cg,cond_false,decide_eq_false o!,cond_false,decide_eq_false o!,cond_false,decide_eq_false o!,cond_false,hV,AD];refine AA (ABd E o! hn hV v8 hP pm) λn D=>?_;obtain⟨r8,A⟩:=D;refine AA (P:=λ(r:(Int×AU×Mf)⊕ (AU×Mf))=>((∃z,r= .inr z)/\ ∀y∈n,¬h<=y.1)\/ ∃y:Mf,r= .inl (0,(st (a.take k) p,y))/\y.1=p/\y.2.2.2.1=k/\ ∃x,dF a j m d d.length x/\sw x p<=k/\h<=sw x p) ?_ λr al=>?_
 ·refine Cu (λ(s:Int×AU×Mf)=>0<=s.1/\s.1<=n.length/\ ∀y∈n.take s.1.toNat,¬h<=y.1) (λs=>((n.length:Int)-s.1).toNat) ⟨Af _,d!,λy I=>by simp at I⟩ ?_;rintro⟨i,s⟩ ⟨i0,i1,Q⟩;dsimp only at i0 i1 Q;unfold Wk;dsimp only[len];refine AC (λG=>?_) (λG=>Ap.done (.inl ⟨⟨_,rfl⟩,by rw[BR o!]at Q;exact Q⟩));rw[AY (x:=i+1)];refine AA (AI i0 G) λv5 h5=>?_;obtain⟨x,S,xk,xe⟩:=(A v5).1 h5.2;obtain⟨l,hj,x1,x2,ex⟩:=hP x S;have a1:sw x p=Ba (a.take l) p:=by rw[ex];exact AFL pm
  refine AA (AHA v8 (y:=v5) ⟨x,S,by rw[xe]⟩) λv9 h9=>?_;obtain⟨g,J,rfl,g0,gx,W⟩:=h9;have ap:J=x:=dF.uniq E o! hn ((F J).1 (BN gx)) ((F x).1 S) (W.trans (by rw[xe]));subst ap;apply BK;have Z:ix V g=some J:=by unfold ix;rw[if_pos g0,gx]
  have o:=ADk E (by omega:a.length<=1099511627776) (j:=l) ⟨x1,x2⟩ hn pm;rw[<-ex]at o;rw[Z,AD,o,AD,bne_self_eq_false,cond_false,KJ];rcases pg l o! with⟨K,t,M⟩|⟨K,t⟩
  ·rw[t,AD,bne_self_eq_false,cond_false];refine AA M λu hu=>AP (λ_=>Ap.done (.inr ⟨_,rfl,rfl,rfl,J,(F J).1 S,xk,o!⟩)) (λC=>absurd hu C)
  ·refine AA t λax B=>AL (λ_=>Ap.next ⟨d!,d!,λy I=>?_⟩ d!) (λhz=>absurd hz B);dsimp only at I;rw[show(i+1).toNat=i.toNat+1 by omega,Cv,h5.1]at I;rcases An.1 I with q|q;exact Q y q;have q:=BC.1 q;rw[q,xe];dsimp only;omega
 rcases al with⟨⟨z,rfl⟩,ad⟩|⟨y,rfl,K,t,M⟩;apply A7;have H: ∀x,dF a j m d d.length x->sw x p<=k-> ¬h<=sw x p:=λx hx ao=>ad _ ((A _).2 ⟨x,(F x).2 hx,ao,rfl⟩);have l0:Ba (a.take 0) p=0:=rfl;have f0:=U.1;rw[show DG p=some (st (a.take 0) p)from rfl,AD,KJ];rcases pg 0 (by rw[l0];omega)with⟨K,t,M⟩|⟨K,t⟩;rw[t,AD,bne_self_eq_false,cond_false];exact AA M λu hu=>AP (λ_=>AB (.inr ⟨rfl,rfl,rfl,rfl,.inl o!⟩)) (λC=>absurd hu C);exact AA t λax B=>AL (λ_=>AB (.inl ⟨rfl,o!,H⟩)) (λhz=>absurd hz B);exact BK (AB (.inr ⟨rfl,rfl,K,t,.inr M⟩))
def jF{n d:Int}{L:List EN}{p:Int}{k m c:Nat}{fs:List Av}(s:LI n L)(t:ID L)(o:AR L f)(y:Xc L e)(u:Cov f e k)(hr:RC f c)(b:c<=12)(x:k<=L.length)(z:(m:Int)=f.2.1)(hn:1<=m/\m<=64)(j:fs.length<=8)(v: ∀l∈fs,FI L d m l)(A:0<=p/\p<f.2.1):Ap (CG (fs,(f,(e,(p,(k:Int)))))) λr=>r.1=st (L.take k) p/\r.2.2=0:=by obtain⟨C,w,i,D,⟨E,a,F,g⟩,B⟩:=nM s t o y hr b x z hn j (λl q=>.inl (v l q)) A;refine B.mono λr h=>?_;rcases h with⟨_,q,_⟩|⟨q1,q2,_⟩;exact absurd (u i o! a p C w D) (g.resolve_left q);exact⟨q2,q1⟩
def AC0(x:AU):Ap (Oj x) λr=>r=true-> ∀i,Fo (x.2.2 i)/\(x.2.1=0->(x.2.2 i).1=false):=by
 unfold Oj;refine AA (P:=λr=>r= .inl false\/(r= .inr ()/\ ∀i,Fo (x.2.2 i)/\(x.2.1=0->(x.2.2 i).1=false))) ?_ λr hr=>?_
 ·refine Cu (λ(s:Int)=>0<=s/\s<=16/\ ∀i:Fin 16,(i.val:Int)<s->Fo (x.2.2 i)/\(x.2.1=0->(x.2.2 i).1=false)) (λs=>(16-s).toNat) ⟨Af _,g!,λi l=>o!⟩ (λs k=>?_);obtain⟨n,p,f⟩:=k;unfold WP;refine AC (λe=>?_) (λe=>Ap.done (.inr ⟨rfl,λi=>f i (by have:=i.isLt;omega)⟩));refine AA (Cq n e) λv m=>?_;have d:Ap (some (Step.done (.inl false)):Option (Step Int (Bool ⊕ Unit))) (LW (λ(s:Int)=>0<=s/\s<=16/\ ∀i:Fin 16,(i.val:Int)<s->Fo (x.2.2 i)/\(x.2.1=0->(x.2.2 i).1=false)) (λs=>(16-s).toNat) (16-s).toNat λr=>r= .inl false\/(r= .inr ()/\ ∀i,Fo (x.2.2 i)/\(x.2.1=0->(x.2.2 i).1=false))):=Ap.done (.inl rfl);have g:(v.2.length<=12/\(v.1=true\/v.2=[]))->(x.2.1=0->v.1=false)->Ap (some (Step.next (wi (s+1))):Option (Step Int (Bool ⊕ Unit))) (LW (λ(s:Int)=>0<=s/\s<=16/\ ∀i:Fin 16,(i.val:Int)<s->Fo (x.2.2 i)/\(x.2.1=0->(x.2.2 i).1=false)) (λs=>(16-s).toNat) (16-s).toNat λr=>r= .inl false\/(r= .inr ()/\ ∀i,Fo (x.2.2 i)/\(x.2.1=0->(x.2.2 i).1=false))):=λa c=>by
   rw[AY];refine Ap.next ⟨o!,o!,λi l=>?_⟩ o!
   by_cases o:(i.val:Int)=s;have:x.2.2 i=v:=by rw[m,show i=⟨s.toNat,o!⟩from Fin.ext (by show i.val=s.toNat;omega)]
   rw[this];exact⟨a,c⟩;exact f i o!
  refine AC (λ_=>d) (λb=>?_);have b:v.2.length<=12:=by simp only[len]at b;omega
  refine AO (λa=>AL (λ_=>d) (λc=>?_)) (λa=>?_);rw[a,cond_false];exact g ⟨b,.inr c⟩ λ_=>a;rw[a,cond_true];exact AP (λ_=>d) (λj=>g ⟨b,.inl a⟩ λh=>absurd h j)
 rcases hr with rfl|⟨rfl,h⟩;exact BK (AB λh=>by cases h);exact A7 (AB λ_=>h)
def ABA(x:AU):Ap (I4 x) λr=>(r.2=0->GA x)/\r.1.length<=256:=by by_cases h:GA x;rw[cw h];exact AB ⟨λ_=>h,by rw[Xq h];decide⟩;unfold I4;refine AA (P:=λr=>r=true->0<=x.1/\x.1<64/\0<=x.2.1/\x.2.1<=1099511627776) ?_ λv l=>AO (λ_=>AB ⟨(λh=>by cases h),Bk _⟩) (λe=>AA (AC0 x) λw m=>AO (λ_=>AB ⟨(λh=>by cases h),Bk _⟩) (λf=>?_));unfold R2 GJ;by_cases g:x.1>=0<;>by_cases i:x.1<64<;>by_cases j:x.2.1>=0<;>by_cases k:x.2.1<=1099511627776<;>simp[g,i,j,k,Ap]<;>omega;obtain⟨a,b,c,d⟩:=l e;exact absurd ⟨a,b,c,d,m f⟩ h
def AEk(h:g.length=256):Ap (QU g) λ_=>True:=by
 have d: ∀i k:Int,Ap (FQ (g,(i,k))) λr=>k<=1->0<=r/\r<256:=λi k=>by unfold FQ;refine AA (Ei (x:=(g,(i,k))) d!) λv f=>AB λl=>?_;by_cases s:v.2=0;obtain⟨_,_,a,b⟩:=f.1 s;exact⟨(a d!).1,b l⟩;rw[f.2 s];decide
 unfold QU;refine AA (d _ _) λ_ _=>AA (d _ _) λ_ _=>AA (P:=λ_=>True) ?_ λr _=>BB (λ_ _=>AB trivial) (λ_ _=>AB trivial);refine Cu (λ(t:Int×AU×AU)=>0<=t.1/\t.1<=16) (λt=>(16-t.1).toNat) ⟨Af _,u!⟩ ?_;rintro⟨i,y,z⟩ ⟨c,m⟩;dsimp only at c m;unfold Xx;dsimp only;refine AC (λe=>?_) (λ_=>Ap.done trivial);rw[AY (x:=i*13),AY (x:=12+i*13),AY (x:=i+1),AY (x:=12+i*13+1)];refine AA (d _ _) λn j=>?_;obtain⟨o,p⟩:=j g!;refine AA (P:=λ_=>True) ?_ λr _=>BB (λ_ _=>Ap.next d! d!) (λ_ _=>Ap.done trivial);refine AP (λ_=>AB trivial) (λ_=>AC (λ_=>AB trivial) (λ_=>?_));rw[AY (x:=12+i*13+1+n)];exact AA (B8) λ_ _=>AA (Cq c e) λ_ _=>AA (Cq c e) λ_ _=>AB trivial
def AA8(h:g.length<=1099511627776):Ap (KM g) λr=>r.2=0->GA r.1:=by
 have a: ∀z:AU,∀k:Int,k≠0->Ap (some (z,k)) λr:AU×Int=>r.2=0->GA r.1:=λz k f=>AB λh=>absurd h f;unfold KM;refine AL (λ_=>a _ _ g!) (λb=>?_);have b:g.length=256:=by simp only[len]at b;omega
 have c:len g=256:=i!
 rw[c];unfold UQ;rw[vj g!,AD,AD];refine AP (λ_=>a _ _ g!) (λ_=>AA (B8 g! g! (by rw[b];decide)) λj _=>AA (B8 g! g! (by rw[b];decide)) λl _=>AL (λ_=>a _ _ g!) (λ_=>AA (B8 g! g! (by rw[b];decide)) λm d=>?_));refine AA (P:=λ_=>True) ?_ λn _=>AA (kR (by have:=d.2;omega)) λo _=>AL (λ_=>a _ _ g!) (λ_=>AA (AEk b) λi _=>AA (ABA i.1) λp e=>AO (λ_=>a _ _ g!) (λ_=>AL (λ_=>a _ _ g!) (λs=>AL (λ_=>a _ _ g!) (λ_=>AB λ_=>e.1 s))));unfold FQ;exact AA (Ei d!) λ_ _=>AB trivial
def xT(h:g.length<=1099511627776):Ap (Ea (g,b)) λr=>r.2=0->GA r.1/\r.1.1=b:=by have d: ∀z:AU,∀k:Int,k≠0->Ap (some (z,k)) λr:AU×Int=>r.2=0->GA r.1/\r.1.1=b:=λz k p=>AB λh=>absurd h p;unfold Ea;refine AA (P:=λr=>r=true->0<=b/\b<64) ?_ λv j=>AO (λ_=>d _ _ g!) (λc=>?_);unfold GJ;exact AC (λe=>AB λh=>⟨e,of_decide_eq_true h⟩) (λ_=>AB λh=>by cases h);obtain⟨m,n⟩:=j c;refine AA (AA8 h) λo f=>AP (λ_=>?_) (λ_=>AL (λs=>d _ _ s) (λl=>AL (λ_=>d _ _ g!) (λa=>AB λ_=>⟨f l,a⟩)));unfold DG;exact AB λ_=>⟨⟨m,n,u!,u!,λi=>⟨⟨by show 0<=12;decide,.inr rfl⟩,λ_=>rfl⟩⟩,rfl⟩
def CD(cs:List C3):Prop:= ∀c∈cs,c.2.2.length<=1099511627776
def AC5{x:Az}(j:x.2.2.length<=16777216)(g:CD x.2.2):Ap (Hg x) λ_=>True:=by unfold Hg;refine AC (λ_=>AB trivial) (λ_=>AC (λ_=>AB trivial) (λ_=>AC (λ_=>AB trivial) (λ_=>AC (λ_=>AB trivial) (λ_=>AC (λ_=>AB trivial) (λ_=>AA (P:=λ_=>True) ?_ λr _=>BB (λ_ _=>AB trivial) (λ_ _=>AB trivial))))));refine Cu (λ(s:Int)=>0<=s/\s<=x.2.2.length) (λs=>((x.2.2.length:Int)-s).toNat) ⟨Af _,o!⟩ (λi e=>?_);obtain⟨h,l⟩:=e;unfold Vd;dsimp only[len];refine AC (λf=>?_) (λ_=>Ap.done trivial);rw[AY (x:=i+1)];refine AA (AI h f) λa d=>AC (λ_=>Ap.done trivial) (λ_=>?_);have b:Ap (Option.bind (Ea (a.2.2,a.1)) λc=>bif c.2 !=0 then some (Step.done (.inl false))else bif c.1.2.1 !=a.2.1 then some (Step.done (.inl false))else some (Step.next (i+1)):Option (Step Int (Bool ⊕ Unit))) (LW (λ(s:Int)=>0<=s/\s<=x.2.2.length) (λs=>((x.2.2.length:Int)-s).toNat) ((x.2.2.length:Int)-i).toNat λ_=>True):=AA (xT (g _ d.2)) λ_ _=>AL (λ_=>Ap.done trivial) (λ_=>AL (λ_=>Ap.done trivial) (λ_=>Ap.next o! o!));refine AC (λk=>?_) (λ_=>b);rw[AY (x:=i-1)];exact AA (AI) λm _=>AC (λ_=>Ap.done trivial) (λ_=>b)
def zD(h:g.length=258):Ap (KV g) λc=>c.2.2.length<=1099511627776:=by unfold KV;rw[show len g=258 by simp only[len];omega];refine AA (B8 g! g!) λb a=>AA (Ei d!) λd _=>?_;have:=a.2;exact AA (xT o!) λe _=>AB d!
def u6:F3 ()=some true:=by
 suffices D:Ap (F3 ()) λr=>r=true by obtain⟨r,hr,rfl⟩:=D;exact hr
 have l:Dj ((1,([],0)):Ae):=⟨g!,g!,g!,g!,g!,λi e h=>by simp at h⟩
 have hn:Fv ()=some (1,([],0)):=rfl;unfold F3;refine AA (ABl (L:=[]) (x:=(2,[0])) ⟨g!,g!,g!,g!,rfl,λi a b G j A=>by simp at j A,λa j=>by simp at j;omega⟩) λv h=>?_;obtain⟨z,H,F,I,t,J⟩:=h;rw[hn,AD];obtain⟨r,e,E,o⟩:=jF (fs:=[]) (p:=1) (m:=2) (k:=0) (d:=0) (LI.nil 0) ID.nil z (Lx l) (wc (L:=[]) rfl (Bk _)) F g! (Ao _) t.symm g! g! (λf B=>by simp at B) ⟨g!,by rw[t];decide⟩;have u:CG ([],(v.1,((1,([],0)),(1,0))))=some r:=e;have kn: ∀p:Int,∀r:AU×Mf×Int,CG ([],(v.1,((1,([],0)),(p,0))))=some r->r.2.2≠49->JO ([],(v.1,((1,([],0)),p)))=some (bif r.2.2==0 then 0 else-1):=λp r hr g=>by obtain⟨w,n,s⟩:=Q4 l;unfold JO;dsimp only;rw[n,AD,s,H5];unfold Ub;dsimp;rw[hr,AD,beq_eq_false_iff_ne.2 g];cases r.2.2==0<;>rfl
 obtain⟨q,C,q1⟩:=Iu z.vb;obtain⟨w,n,s⟩:=MA l;rw[u,AD,o,beq_self_eq_true,cond_true,show DG 1=some r.1 by rw[E];rfl,AD,oZ,cond_true,AD,kn 1 r u (by rw[o];decide),AD,o,beq_self_eq_true,cond_true,AD];have c: ∃x y,CG ([],(v.1,((1,([],0)),(2,0))))=some (x,(y,1)):=by unfold CG;dsimp only;rw[C,q1,AD,Cg,cond_false,n,s,AD,Cg,cond_false,decide_eq_false g!,cond_false,decide_eq_true (by rw[t];decide),cond_true];exact⟨_,_,rfl⟩
 obtain⟨x,y,c⟩:=c;rw[kn 2 _ c u!];exact AB rfl
theorem xz{x:List Av}(a: ∀f∈x,f.2.2.length≠0/\f.2.2.length<=1099511627775)(h:CX k)(E:x.length<=1000000):Ap (Dv k x) λr=>CX r.2/\r.1.length<=x.length/\ ∀f∈r.1,f∈x\/ ∃g∈x,qV g.2.2 f.2.2/\f.2.2.length<=g.2.2.length+1:=by unfold Dv;refine AP (λ_=>AB ⟨h,Bk _,λf a=>by simp at a⟩) (λj=>?_);simp only[len]at j;refine AA (Ad h k!) λA u=>?_;have⟨s,c,t⟩:=u;simp[len]at t;rw[AY (x:=A.1+1)];refine AA (Ad s g!) λF l=>AP (λ_=>?_) (λ_=>?_);refine AA (Bj (Af _) c) λG m=>AA (Bj o! i! i!) λH n=>?_;have l2:=m.2;have z:=n.2;simp only[len]at z;refine AA (Ac w!) λI d=>AA (Ac (by rw[d.1];simp;omega)) λJ o=>AB ⟨l.1,?_,λf a=>.inl ?_⟩;rw[o.1,d.1];simp;omega;dsimp only at a;rw[o.1,d.1,m.1,n.1]at a;rcases An.1 a with q|q;rcases An.1 q with q|q;simp at q;exact OV (FA q);exact OV (FA q);refine AA (Ac w!) λK y=>?_;have b:=y.1;rw[Bw]at b;subst b;refine AA (AI c) λL _=>AA (AI c) λD p=>?_;obtain⟨a1,a2⟩:=a _ p.2;refine AA (wN l.1 a1 a2) λM e=>AA (AI c) λB _=>AA (AI c) λC v=>AB ⟨e.1,by simp[FT],λf i=>?_⟩;rcases OW i with w|w;exact .inl w;rw[w];exact .inr ⟨D,p.2,e.2.1,e.2.2⟩
def ADl(p:Dj e)(t: ∀k:Nat,(k:Int)≤e.1+e.2.1.length-1→Ap (CG (d,(f,(e,(b,(k:Int)))))) λr=>r.2.2=0∨r.2.2=49):
  Ap (JO (d,(f,(e,b)))) λv=> -1<=v/\v<=max (-1) (e.1+e.2.1.length-1)/\(0<=v-> ∃x,CG (d,(f,(e,(b,v))))=some x/\x.2.2=0)/\ ∀j:Int,v<j->j<=e.1+e.2.1.length-1-> ∃x,CG (d,(f,(e,(b,j))))=some x/\x.2.2≠0:=by
 have A:=p.1;have B:=p.2.1;have C:=p.2.2.1;unfold JO;refine AA (Q4 p) λw o=>?_;dsimp only at o;rw[o];refine AA (P:=λr=>(∃v:Int,r= .inl v/\0<=v/\v<=e.1+e.2.1.length-1/\(∃x,CG (d,(f,(e,(b,v))))=some x/\x.2.2=0)/\ ∀j:Int,v<j->j<=e.1+e.2.1.length-1-> ∃x,CG (d,(f,(e,(b,j))))=some x/\x.2.2≠0)\/(r= .inr ()/\ ∀j:Int,-1<j->j<=e.1+e.2.1.length-1-> ∃x,CG (d,(f,(e,(b,j))))=some x/\x.2.2≠0)) ?_ λr hr=>?_
 ·refine Cu (λ(s:Int)=> -1<=s/\s<=max (-1) (e.1+e.2.1.length-1)/\ ∀j:Int,s<j->j<=e.1+e.2.1.length-1-> ∃x,CG (d,(f,(e,(b,j))))=some x/\x.2.2≠0) (λs=>(s+1).toNat) ⟨o!,o!,λj h c=>o!⟩ (λs q=>?_);obtain⟨D,E,n⟩:=q;unfold Ub;dsimp only;refine AC (λg=>?_) (λg=>Ap.done (.inr ⟨rfl,λj h c=>n j o! c⟩));obtain⟨k,rfl⟩:=D6 g;obtain⟨x,i,m⟩:=t k o!;rw[i,AD,AY];refine AP (λa=>Ap.done (.inl ⟨k,rfl,g,o!,⟨x,i,a⟩,n⟩)) (λa=>AP (λ_=>Ap.next ⟨o!,o!,λj h c=>?_⟩ o!) (λl=>absurd (m.resolve_left a) l));by_cases u:j=k;rw[u];exact⟨x,i,a⟩;exact n j o! c
 rcases hr with⟨v,rfl,w,F,y,z⟩|⟨rfl,h⟩;exact BK (AB ⟨o!,o!,λ_=>y,z⟩);exact A7 (AB ⟨g!,o!,λh=>o!,h⟩)
def uk(h:CX k):Ap (IU k ()) λr=>1<=r.1/\r.1<=4/\r.2.1.2.1=r.1/\AR r.2.2.2.1.2.1 r.2.1/\RC r.2.1 10/\Xc r.2.2.2.1.2.1 r.2.2.1/\ID r.2.2.2.1.2.1/\r.2.2.1.1+r.2.2.1.2.1.length-1=r.2.2.2.1.2.1.length/\r.2.2.2.1.2.2=r.2.2.2.1.2.1.length/\CX r.2.2.2.2.2/\r.2.2.2.2.1.length<=8/\(∃m:Nat,(m:Int)=r.1/\ ∀f∈r.2.2.2.2.1,FI r.2.2.2.1.2.1 r.2.2.2.1.2.2 m f\/ ∃g,FI r.2.2.2.1.2.1 r.2.2.2.1.2.2 m g/\qV g.2.2 f.2.2/\f.2.2.length<=1099511627776)/\Dj r.2.2.2.1/\r.2.2.2.1.1=1/\ ∃n,LI n r.2.2.2.1.2.1:=by
 unfold IU;refine AA ((V3 h (x:=25) o!).and (qS h (x:=25) o!)) λa h0=>?_;obtain⟨⟨c0,O,n2,d,n,N⟩,Y,F⟩:=h0;refine AA (qM (x:=(a.1,a.2.1)) c0 ⟨O,d!⟩ d) λv1 h1=>?_;obtain⟨S,o,Q,⟨kc,hk,ad⟩,R,E,U,_⟩:=h1;dsimp only at o E U;have L:=d.2.2.1;have w:=d.num F;obtain⟨x1,x2,x3,x4,x5,x6⟩:=id d;have s:RC v1.1 10:=λlo=>Dc (hk lo) o!;have y3:=o.vb.2.1;have y4:=o.vb.2.2.1;obtain⟨m,M⟩:=D6 (show 0<=a.1 by omega);have X:a.2.1.2.2=a.2.1.2.1.length:=o!
 have D:(m:Int)=a.1:=M.symm;refine AA (P:=λr=>CX r.2/\r.1.length<=8/\ ∀f∈r.1,FI a.2.1.2.1 a.2.1.2.2 m f) (by rw[M];exact wK S N w o (Lx d) o! o! o!) λv2 h2=>?_;obtain⟨T,i8,z⟩:=h2;refine AA (Ad T (x:=2) o!) λv3 I=>?_;refine AA (P:=λ(r:AQ×Ae)=>CX r.1/\Xc a.2.1.2.1 r.2/\r.2.2.2=a.2.1.2.2/\r.2.1+r.2.2.1.length-1=a.2.1.2.1.length) ?_ λv6 B=>?_;refine AP (λ_=>?_) (λ_=>AB ⟨I.1,Lx d,rfl,d!⟩);refine AA (Ad I.1 o!) λv4 h4=>?_;obtain⟨q1,q2,q3⟩:=h4;rw[AY (x:=1+v4.1)];refine AA (AFH d Y o! o! o!) λu l=>AB ⟨q1,l.1,l.2.2,?_⟩;have V:=l.1.vl.2.2.2.2.1;have W:=l.2.2;have e3:=l.2.1;have al:u.1.1+u.1.2.1.length-1<=a.2.1.2.1.length:=by by_cases hz:u.1.2.1.length=0;omega;have y:=As (show u.1.2.1.length-1<u.1.2.1.length by omega);have A:=(l.1.vl.2.2.2.2.2 _ _ y).1;obtain⟨i,K⟩:=De ((l.1.tail _).1 (BN y)).1;have H:=(w i _ K).1;have Z:=Cy K;omega
 dsimp only;omega;refine AA (Ad B.1 (x:=3) o!) λv7 J=>?_;refine AA (P:=λ(r:AQ×AJ)=>CX r.1/\AR a.2.1.2.1 r.2/\RC r.2 10/\r.2.2.1=a.1) ?_ λv9 v=>?_;refine AP (λ_=>?_) (λ_=>AB ⟨J.1,o,s,E⟩);exact AA (AAW o Q J.1 R) λv8 C=>AB ⟨C.1,C.2.1,C.2.2.1 10 s,E⟩;refine AA (Ad v.1 (x:=3) o!) λao p=>?_;have G: ∀f∈v2.1,f.2.2.length≠0/\f.2.2.length<=1099511627775:=λf t=>by obtain⟨x,⟨j,hj,V,W,xe⟩,y⟩:=z f t;rw[y,xe];unfold encI;rw[Aa,Dn,jg,mf (λc hc=>pz w o! o! hc),Ma];omega
 refine AA (P:=λr=>CX r.2/\r.1.length<=8/\ ∀f∈r.1,FI a.2.1.2.1 a.2.1.2.2 m f\/ ∃g,FI a.2.1.2.1 a.2.1.2.2 m g/\qV g.2.2 f.2.2/\f.2.2.length<=1099511627776) ?_ λar b=>AB ⟨O,n2,v.2.2.2,v.2.1,v.2.2.1,B.2.1,w,B.2.2.2,X,b.1,b.2.1,⟨m,D,b.2.2⟩,d,F,n,N⟩;refine AP (λ_=>?_) (λ_=>AB ⟨p.1,i8,λf t=>.inl (z f t)⟩);refine AA (xz G p.1 o!) λap e=>AB ⟨e.1,by have:=e.2.1;omega,λf t=>?_⟩;rcases e.2.2 f t with q|⟨g,A,H,Z⟩;exact .inl (z f q);exact .inr ⟨g,z g A,H,by have:=(G g A).2;omega⟩
def kQ(P Q:List BT):frames (P++Q)=frames P++frames Q:=by unfold frames;rw[Jm,List.flatten_append]
def lD: ∀(P Q:List BT),P.map List.length=Q.map List.length-> ∀(u w:BT) (a b:UInt8),frames P=u++a::w->frames Q=u++b::w->a=b
 |[],Q,hl,u,w,a,b,h1,h2=>by have:=congrArg List.length h1;simp[frames]at this
 |p::P,[],hl,u,w,a,b,h1,h2=>by simp at hl
 |p::P,q::Q,hl,u,w,a,b,h1,h2=>by
  rw[Bi,Bi]at hl;injection hl with l1 l2;rw[JH]at h1 h2;have e:(HA p).length=(HA q).length:=by rw[Dn,Dn,l1]
  rcases jM.1 h1 with⟨x,c,d⟩|⟨x,c,d⟩;subst c;rw[Ax]at h2;obtain⟨g,f⟩:=D7 h2 e.symm;exact lD P Q l2 x w a b d f;cases x with
  |nil=>rw[C0]at c;rw[Bw]at d;rw[<-c]at h2;obtain⟨g,f⟩:=D7 h2 e.symm;exact lD P Q l2 [] w a b d.symm f
  |cons y x=>
   rw[Dr]at d;injection d with j k;subst j;have i:HA q++frames Q=(u++b::x)++frames P:=by rw[h2,k];simp
   have h:(HA q).length=(u++b::x).length:=by rw[<-e,c];simp
   obtain⟨g,f⟩:=D7 i h;exact zt l1 c g
def tA(h:g.length<=1099511627776):Ap (FG g) λr=>r.2=0-> ∃(p:BT) (R:List BT),g=frames (p::R)/\p.length=12/\ ∀q∈R,q.length=258:=by
 have l: ∀z:Az,∀k:Int,k≠0->Ap (some (z,k)) λr:Az×Int=>r.2=0-> ∃(p:BT) (R:List BT),g=frames (p::R)/\p.length=12/\ ∀q∈R,q.length=258:=λz k S=>AB λh=>absurd h S;have w:=Qq (a:=[]) (t:=g) (by rw[BX];omega);rw[Bw,BX]at w;unfold FG;rw[show DM (g,0)=_ from w,AD];refine AL (λj=>l _ _ j) (λE=>AL (λ_=>l _ _ g!) (λd=>AA VJ λv1 _=>AO (λ_=>l _ _ g!) (λ_=>?_)));have d:(UF 0 g).1.length=12:=by simp only[len]at d;omega
 obtain⟨a1,⟨y,a2⟩,a3⟩:=qW E;refine AA (Ei d!) λv2 _=>AA (Ei d!) λv3 _=>AA (Ei d!) λH _=>AC (λ_=>l _ _ g!) (λM=>?_);generalize Z:(UF 0 g).1=p at*;refine AA (P:=λr=>(∃e z,r= .inl (e,z)/\e≠0)\/ ∃(a:Int) (n:List C3) (z:Int×Int×Az),r= .inr (a,(n,z))/\n.length<=64/\CD n/\ ∃R t,g=frames (p::R)++t/\a=(frames (p::R)).length/\ ∀q∈R,q.length=258) ?_ λr hr=>?_
 ·refine Cu (λ(t:Int×Int×List C3×Int×Int×Az)=>0<=t.2.1/\t.2.1<=max 0 H.1/\t.2.2.1.length<=t.2.1/\CD t.2.2.1/\ ∃R o,g=frames (p::R)++o/\t.1=(frames (p::R)).length/\ ∀q∈R,q.length=258) (λt=>(H.1-t.2.1).toNat) ⟨Af _,d!,u!,λc u=>by simp at u,[],y,by rw[a2];simp[frames],by rw[a3];simp[frames,Dn];omega,λq C=>by simp at C⟩ ?_;rintro⟨I,i,n,z⟩ ⟨U,V,W,F,R,o,f,A,B⟩;dsimp only at U V W F A;unfold UN;dsimp only;refine AC (λu=>?_) (λu=>Ap.done (.inr ⟨_,_,_,rfl,o!,F,R,o,f,A,B⟩));have D:=congrArg List.length f;rw[Aa]at D;have w:=Qq (a:=frames (p::R)) (t:=o) o!;rw[A];rw[<-f]at w;rw[w,AD];refine AL (λj=>Ap.done (.inl ⟨_,_,rfl,j⟩)) (λE=>AL (λ_=>Ap.done (.inl ⟨_,_,rfl,g!⟩)) (λd=>?_));have d:(UF (frames (p::R)).length o).1.length=258:=by simp only[len]at d;omega
  obtain⟨X,⟨m,J⟩,K⟩:=qW E;refine AA (zD d) λv7 N=>AA (Ac w!) λv8 G=>?_;rw[AY (x:=i+1)];refine Ap.next ⟨d!,d!,?_,?_,R++[(UF (frames (p::R)).length o).1],m,?_,?_,?_⟩ d!
  rw[G.1];simp;omega;rw[G.1];intro c u;rcases An.1 u with q|q;exact F c q;rw[BC.1 q];exact N;rw[<-Dr,kQ,Ax];conv=>lhs;rw[f,J]
  simp[frames];dsimp only;rw[K,<-Dr,kQ,Aa];simp[frames,Dn];omega;intro q C;rcases An.1 C with s|s;exact B q s;rw[BC.1 s];exact d
 rcases hr with⟨e,z,rfl,Q⟩|⟨a,n,z,rfl,Y,L,R,t,f,A,B⟩;exact BK (l _ _ Q);refine A7 (AC (λ_=>l _ _ g!) (λv=>?_));dsimp only at v⊢;obtain⟨b,O,_⟩:=AC5 (x:=(z.1,(z.2.1,n))) d! L;rw[O,AD];refine AO (λ_=>l _ _ g!) (λhv=>AB λ_=>⟨p,R,?_,d,B⟩);have D:=congrArg List.length f;rw[Aa]at D;simp only[len]at v;have T:t=[]:=qa.1 o!;rw[f,T,C0]
def lP: ∀(R:List BT),(∀q∈R,q.length=258)->(frames R).length=266*R.length
 |[],_=>rfl
 |q::R,h=>by rw[JH,Aa,Dn,h q (Au.2 (.inl rfl)),lP R λx a=>h x (Au.2 (.inr a)),Bd];omega
def pE(x:Az):encI x=frames (tO x::x.2.2.map sy):=by unfold encI vQ;rw[JH];congr 1;unfold frames;rw[Mh];rfl
def tS(L:ID a)(t:a.length<=1099511627776)(hn:c<=64)(w:PI a b c h)(o:qV (encI h) g){p:BT}{R:List BT}(e:g=frames (p::R))(l1:p.length=12)(l2: ∀q∈R,q.length=258):False:=by
 obtain⟨j,_,_,_,A⟩:=w;have k: ∀q∈h.2.2.map sy,q.length=258:=λq n=>by obtain⟨m,k,rfl⟩:=Bv.1 n;rw[A]at k;exact pz L t hn k
 have k1:(encI h).length=20+266*(h.2.2.map sy).length:=by rw[pE,JH,Aa,Dn,jg,lP _ k]
 have B:g.length=20+266*R.length:=by rw[e,JH,Aa,Dn,l1,lP _ l2]
 rcases o with⟨u,v,d,s,i⟩|⟨u,v,d,s,i⟩|⟨u,v,x,d,l,s,i⟩;have q1:=congrArg List.length s;have q2:=congrArg List.length i;simp only[Aa,Bd]at q1 q2;omega;have q1:=congrArg List.length s;have q2:=congrArg List.length i;simp only[Aa,Bd]at q1 q2;omega;have q1:=congrArg List.length s;have q2:=congrArg List.length i;simp only[Aa,Bd]at q1 q2;rw[pE]at s;rw[e]at i;refine l (lD _ _ ?_ u v x d s i);have f: ∀Z:List BT,(∀q∈Z,q.length=258)->Z.map List.length=List.replicate Z.length 258:=λZ r=>List.eq_replicate_iff.2 ⟨B7 _,λy z=>by obtain⟨q,n,rfl⟩:=Bv.1 z;exact r q n⟩;rw[Bi,Bi,f _ k,f _ l2,jg,l1,show(h.2.2.map sy).length=R.length by omega]
def uo(L:ID a)(d:a.length<=1099511627776)(hn:c<=64)(f:PI a b c h)(m:g.length<=1099511627776)(x:qV (encI h) g):Ap (FG g) λr=>r.2≠0:=by refine(tA m).mono λr hr s=>?_;obtain⟨p,R,e,l1,l2⟩:=hr s;exact tS L d hn f x e l1 l2
end Go.Pm
namespace Go.Proofs.YtghpjojfhamomaaGreat
open Go.RowKit Go.Ab Go.Pm
def zg: ∃j,Tryz.prog.info? 263=some j/\j.size=2:=by
 have h:(Tryz.prog.info? 263).map (·.size)=some 2:=by kernel_rfl
 exact Sn.1 h
def AD1:liesAt Tryz.prog Tryz.prog.depth 263 (2/Tryz.prog.cellsOf 263) 0 263 1=true:=by kernel_rfl
set_option maxHeartbeats 1000000 in
set_option maxRecDepth 100000 in
def tD(b:Nat)(w:World)(d:w.cell? ⟨b,0,none⟩=some (.pointer (some ⟨b,0,none⟩))):
  Calls Tryz.prog 247 #[.pointer (some ⟨b,0,none⟩)] w λe c=>e= .returned (.tuple #[])/\c=w:=by
 obtain⟨j,a,_⟩:=zg;go_enter Tryz.func247,Tryz.ntmps247;go_wp2;rw[Lib.run_neq_ptr_same w _ Tryz.underlying261 a];go_wp2;go_end0;exact⟨rfl,rfl⟩
set_option maxHeartbeats 1000000 in
set_option maxRecDepth 100000 in
def gl(b:Nat)(w:World)(h:w.cell? ⟨b,0,none⟩=some (.pointer none))(a:w.shape? b=some (263,2))(f:w.frozen? ⟨b,0,none⟩=false):
  Calls Tryz.prog 247 #[.pointer (some ⟨b,0,none⟩)] w λe g=>e= .returned (.tuple #[])/\g=w.setCell ⟨b,0,none⟩ (.pointer (some ⟨b,0,none⟩)):=by
 obtain⟨j,d,c⟩:=zg;go_enter Tryz.func247,Tryz.ntmps247;go_wp2;rw[Lib.run_to_unsafe w ⟨b,0,none⟩ Tryz.underlying261 Tryz.underlying365 d (by rw[c];decide) a (Nat.zero_lt_succ 1)];simp only[Result.andThen];rw[Oper.upon_value];go_wp2;rw[run_callFunc_extern Tryz.func290 (by kernel_rfl) (by kernel_rfl) (by kernel_rfl) (e:=Extern.AbiNoEscape.same) (by kernel_rfl)];rw[Lib.run_noEscape];simp only[Result.andThen];rw[Oper.upon_value];go_wp2;rw[Lib.run_from_unsafe w ⟨b,0,none⟩ Tryz.underlying365 Tryz.underlying261 d a AD1];simp only[Result.andThen];rw[Oper.upon_value];go_wp2;go_end0;exact⟨rfl,rfl⟩
def wW(B b:Nat)(bs:List Value)(w:World)(h:Lib.IsBuilderF 263 5 B b bs w):
  Calls Tryz.prog 247 #[.pointer (some ⟨b,0,none⟩)] w λe a=>e= .returned (.tuple #[])/\Lib.BuilderAtF 263 5 B b (.pointer (some ⟨b,0,none⟩)) bs a/\Below B w a:=by
 rcases h with h|h;apply (gl b w h.cell0 h.shape h.frozen0).mono;rintro e a ⟨rfl,rfl⟩;exact⟨rfl,h.used _,(Below.refl B w).setCell (p:=⟨b,0,none⟩) h.1 _⟩;apply (tD b w h.cell0).mono;rintro e a ⟨rfl,rfl⟩;exact⟨rfl,h,Below.refl B _⟩
def zf: ∃i,Tryz.prog.info? 5=some i/\i.zero=some (.int .u8 0)/\i.size=1/\i.bytes=1:=by
 have h:(Tryz.prog.info? 5).map (λi=>(i.zero,i.size,i.bytes))=some (some (.int .u8 0),1,1):=by kernel_rfl
 obtain⟨i,b,a⟩:=Sn.1 h;simp only[EY]at a;exact⟨i,b,a.1,a.2.1,a.2.2⟩
variable {c i:Nat}
def ql{p:Value}{bs:List Value}{w:World}(h:Lib.BuilderAtF 263 5 c i p bs w): ∃v,w.heap[i]? =some (.cells #[p,v] 263 (0,0))/\w.cell? ⟨i,1,none⟩=some v/\w.ownsRowF c 5 1 v bs.length bs/\v.ownBlock≠some i:=by obtain⟨e,v,a,B,d⟩:=h;exact⟨v,a,by rw[Lib.cell_of_heap a];rfl,B,d⟩
set_option maxHeartbeats 1000000 in
set_option maxRecDepth 100000 in
def AFx(B b:Nat)(bs:List Value)(w:World)(h:Lib.IsBuilderF 263 5 B b bs w):
  Calls Tryz.prog 188 #[.pointer (some ⟨b,0,none⟩)] w λe l=>e= .returned (.int .i64 bs.length)/\l=w:=by
 obtain⟨p,j⟩: ∃p,Lib.BuilderAtF 263 5 B b p bs w:=h.elim (λh=>⟨_,h⟩) (λh=>⟨_,h⟩);obtain⟨v,k,m,a,_⟩:=ql j;obtain⟨d,cap,rfl⟩: ∃d cap,v= .slice d bs.length cap:=by rcases a.2 with⟨c,i⟩|⟨g,cap,f,n,c,_⟩;exact⟨none,0,by rw[c,i]⟩;exact⟨_,_,c⟩
 go_enter Tryz.func188,Tryz.ntmps188
 go_wp2
 go_ret
 exact⟨rfl,rfl⟩
set_option maxHeartbeats 2000000 in
set_option maxRecDepth 100000 in
def vA(B b:Nat)(bs:List Value)(c:Int)(w:World)(h:Lib.IsBuilderF 263 5 B b bs w)(C:bs.length+1≤140737488355328)(H:B≤w.heap.size):
  Calls Tryz.prog 184 #[.pointer (some ⟨b,0,none⟩),.int .u8 c] w λe E=>e= .returned .nilIface/\Lib.BuilderAtF 263 5 B b (.pointer (some ⟨b,0,none⟩)) (bs++[.int .u8 c]) E/\Below B w E:=by
 obtain⟨M,I,t,x,y⟩:=zf;go_enter Tryz.func184,Tryz.ntmps184;go_wp2_with (go_at_call 247;apply (wW B b bs _ h).mono)
 rintro e F ⟨rfl,m,l⟩;have A:=m.1;have r:=m.lt;have c0:=m.cell0;obtain⟨v,q,z,i,s⟩:=ql m;have K:=l.size;go_wp2_with (at_builtin;apply wpList_append_ownF _ rfl _ _ 22 rfl B 5 M (.int .u8 0) 1 1 Tryz.underlying22 I t x y rfl g! _ _ _ rfl (i.alloc _) ⟨F.heap.size,0,none⟩ 1 1 [.int .u8 c] rfl rfl ?z ?c2 ?c3 ?c4 ?c5)
 case z=>
  intro j u n;match j,n with
  |0,n=>simp at n;subst n;simp[Addr.add]
 case c2=>intro u D;simp at D;subst D;rfl
 case c3=>unfold maxLen;omega
 case c4=>omega
 case c5=>simp;omega
 intro N o d a _;have f:o.heap[b]? =some (.cells #[.pointer (some ⟨b,0,none⟩),v] 263 (0,0)):=by rw[a.block b w! (λe=>s e.symm),Lib.alloc_old F _ b r];exact q
 have O:o.cell? ⟨b,0,none⟩=some (.pointer (some ⟨b,0,none⟩)):=by rw[Lib.cell_of_heap f];rfl
 have P:o.cell? ⟨b,1,none⟩=some v:=by rw[Lib.cell_of_heap f];rfl
 have Q:o.frozen? ⟨b,1,none⟩=false:=Lib.frozen_of_heap f 1;obtain⟨g,cap,rfl⟩: ∃g cap,N= .slice (some ⟨g,0,none⟩) (bs.length+1) cap:=by rcases d.2 with⟨_,S⟩|⟨g,cap,G,R,L,_⟩;omega;exact⟨g,cap,L⟩
 go_wp2
 go_ret
 refine⟨rfl,?_,?_⟩;exact Lib.BuilderAtF.put (T:=263) (e:=5) A f (bs':=bs++[.int .u8 c]) (by simpa using d) g!;exact((l.alloc o! _).grown a w! (λk J=>(i.lt k J).1)).setCell (p:=⟨b,1,none⟩) A _
set_option maxHeartbeats 2000000 in
set_option maxRecDepth 100000 in
def Xk(B b:Nat)(bs:List Value)(s:ByteArray)(w:World)(h:Lib.IsBuilderF 263 5 B b bs w)(z:bs.length+s.size≤140737488355328)(E:B≤w.heap.size):
  Calls Tryz.prog 183 #[.pointer (some ⟨b,0,none⟩),.string s] w λe C=>e= .returned (.tuple #[.int .i64 s.size,.nilIface])/\Lib.BuilderAtF 263 5 B b (.pointer (some ⟨b,0,none⟩)) (bs++Lib.strCells s) C/\Below B w C:=by
 obtain⟨I,F,r,t,u⟩:=zf;go_enter Tryz.func183,Tryz.ntmps183;go_wp2_with (go_at_call 247;apply (wW B b bs _ h).mono)
 rintro e P ⟨rfl,j,i⟩;have y:=j.1;have n:=j.lt;have c0:=j.cell0;obtain⟨v,m,K,f,o⟩:=ql j;have H:=i.size;go_wp2_with (at_builtin;apply Lib.wpList_append_own_stringF _ rfl _ _ 22 9 rfl B 5 I Tryz.underlying22 Tryz.underlying9 F r t u _ _ _ rfl f s rfl ?c3 ?c4 ?c5)
 case c3=>unfold maxLen;omega
 case c4=>omega
 case c5=>omega
 intro J l c a _;have d:l.heap[b]? =some (.cells #[.pointer (some ⟨b,0,none⟩),v] 263 (0,0)):=by rw[a.block b n (λe=>o e.symm)];exact m
 have L:l.cell? ⟨b,0,none⟩=some (.pointer (some ⟨b,0,none⟩)):=by rw[Lib.cell_of_heap d];rfl
 have M:l.cell? ⟨b,1,none⟩=some v:=by rw[Lib.cell_of_heap d];rfl
 have N:l.frozen? ⟨b,1,none⟩=false:=Lib.frozen_of_heap d 1;obtain⟨x,A,cap,rfl⟩: ∃x A cap,J= .slice x A cap:=by rcases c.2 with⟨q,_⟩|⟨g,cap,D,O,q,_⟩;exact⟨_,_,_,q⟩;exact⟨_,_,_,q⟩
 go_wp2
 go_ret2
 refine⟨rfl,?_,?_⟩;exact Lib.BuilderAtF.put (T:=263) (e:=5) y d (bs':=bs++Lib.strCells s) (by simpa[Lib.strCells_length]using c) g!;exact(i.grown a o! (λk G=>(f.lt k G).1)).setCell (p:=⟨b,1,none⟩) y _
set_option maxHeartbeats 1000000 in
set_option maxRecDepth 100000 in
def tj(B b:Nat)(l:List UInt8)(w:World)(h:Lib.IsBuilderF 263 5 B b (Lib.byteCells l) w)(y:l≠ []):
  Calls Tryz.prog 185 #[.pointer (some ⟨b,0,none⟩)] w λe z=>e= .returned (.string ⟨l.toArray⟩)/\Lib.IsBuilderF 263 5 B b (Lib.byteCells l) z/\Below B w z:=by
 obtain⟨p,K,k⟩: ∃p,(p= .pointer none\/p= .pointer (some ⟨b,0,none⟩))/\Lib.BuilderAtF 263 5 B b p (Lib.byteCells l) w:=h.elim (λh=>⟨_,.inl rfl,h⟩) (λh=>⟨_,.inr rfl,h⟩);obtain⟨D,v,i,c,t⟩:=k;have s:l.length≠0:=by simpa using y
 rw[Lib.byteCells_length]at c;obtain⟨g,cap,a,f,rfl,n,I,H,J,o,G,u⟩: ∃g cap a f,v= .slice (some ⟨g,0,none⟩) l.length cap/\B<=g/\w.heap[g]? =some (.cells a 5 f)/\f.2<=l.length*1/\l.length<=cap/\cap<=maxLen/\a.size=cap*1/\a.toList.take (l.length*1)=Lib.byteCells l:=by rcases c.2 with⟨_,N⟩|⟨g,cap,a,f,L,r⟩;exact absurd N s;exact⟨g,cap,a,f,L,r⟩
 have A:w.drew.cell? ⟨b,1,none⟩=some (.slice (some ⟨g,0,none⟩) l.length cap):=by have:w.drew.heap[b]? =some (.cells #[p,.slice (some ⟨g,0,none⟩) l.length cap] 263 (0,0)):=i;rw[Lib.cell_of_heap this];rfl
 have E:(Builtin.unsafeSliceData_ #[22] 330 #[.slice (some ⟨g,0,none⟩) l.length cap]).run Tryz.prog w.drew= .ok (.pointer (some ⟨g,0,none⟩)) w.drew:=Lib.run_unsafeSliceData_row _ _ _ _ _ _ o!;have F:(Builtin.unsafeString_ #[330,3] 9 #[.pointer (some ⟨g,0,none⟩),.int .i64 l.length]).run Tryz.prog w.drew= .ok (.string ⟨l.toArray⟩) (w.drew.freeze ⟨g,0,none⟩ l.length):=by apply Lib.run_unsafeString_row w.drew 330 3 9 5 Tryz.underlying330 (by kernel_rfl) g a.size (by have q:w.drew.heap[g]? =some (.cells a 5 f):=I;simp[World.shape?,q]) l y o! (by unfold maxLen at o;omega);intro j x M;exact c.cells (g:=g) rfl j (.int .u8 x.toNat) (by simp[Lib.byteCells,M])
 have d:Lib.IsBuilderF 263 5 B b (Lib.byteCells l) (w.drew.freeze ⟨g,0,none⟩ l.length):=by
  have C:Lib.BuilderAtF 263 5 B b p (Lib.byteCells l) w.drew:=⟨D,_,i,by rw[Lib.byteCells_length];exact c,t⟩
  have m:=C.froze (g:=g) (cap:=cap) (by rw[Lib.byteCells_length];exact A);rw[Lib.byteCells_length]at m;rcases K with rfl|rfl;exact .inl m;exact .inr m
 go_enter Tryz.func185,Tryz.ntmps185
 go_wp2
 go_region
 all_goals (go_wp2;go_ret;exact⟨rfl,d,Lib.below_freeze (Below.drew (Below.refl B w)) (p:=⟨g,0,none⟩) n _⟩)
set_option maxHeartbeats 2000000 in
set_option maxRecDepth 1000000 in
def AB6(B b n:Nat)(w:World)(p:B≤b)(a:w.heap[b]? =some (.cells #[.pointer (some ⟨b,0,none⟩),.slice none 0 0] 263 (0,0)))(j:B≤w.heap.size)(hn:n≤281474976710656):
  Calls Tryz.prog 250 #[.pointer (some ⟨b,0,none⟩),.int .i64 n] w λe o=>e= .returned (.tuple #[])/\Lib.BuilderAt 263 5 B b (.pointer (some ⟨b,0,none⟩)) [] o/\Below B w o:=by
 obtain⟨c,h,q,g⟩:=Lib.run_makeNoZero (P:=Tryz.prog) w.drew #[3] 22 5 Tryz.underlying22 n hn;have m:IntKind.i64.wrap (IntKind.i64.wrap 0+(n:Int))=n:=by rw[IntKind.wrap_i64,IntKind.wrap_i64];omega
 have k:(callFunc 291 #[.int .i64 (IntKind.i64.wrap (IntKind.i64.wrap 0+(n:Int)))]).run Tryz.prog w.drew= .ok (.value (.slice (some ⟨w.drew.heap.size,0,none⟩) n c.size)) (w.drew.drew.drew.alloc (.cells c 5)):=by rw[m,run_callFunc_extern Tryz.func291 (by kernel_rfl) (by kernel_rfl) (by kernel_rfl) (e:=Extern.BytealgMakeNoZero.makeNoZero #[3] #[22]) (by kernel_rfl),h];rfl
 have f:b<w.heap.size:=by rcases Aw b w.heap.size with i|i;exact i;simp[qh i]at a
 have r:w.drew.cell? ⟨b,1,none⟩=some (.slice none 0 0):=by have:w.drew.heap[b]? =_:=a;rw[Lib.cell_of_heap this];rfl
 have s:(w.alloc (.cells c 5)).cell? ⟨b,1,none⟩=some (.slice none 0 0):=by have:(w.alloc (.cells c 5)).heap[b]? =_:=(Lib.alloc_old w _ b f).trans a;rw[Lib.cell_of_heap this];rfl
 have t:(w.alloc (.cells c 5)).frozen? ⟨b,1,none⟩=false:=Lib.frozen_of_heap ((Lib.alloc_old w _ b f).trans a) 1;have l: ∀W:World,(Builtin.copy_ #[22,22] 3 #[.slice (some ⟨w.heap.size,0,none⟩) 0 c.size,.slice none 0 0]).run Tryz.prog W= .ok (goInt 0) W:=λW=>run_copy_none W 22 22 3 5 _ _ 0 c.size 0 0 Tryz.underlying22 (by kernel_rfl) rfl;clear m;have d:=Lib.grown_fresh (T:=263) (e:=5) (cs:=c) p a j (g (by unfold maxLen;omega)) g!;rw[World.setCell_alloc_past _ _ _ _ f]at d;go_enter Tryz.func250,Tryz.ntmps250;go_wp2;go_region;all_goals (go_wp2;go_end0;exact⟨rfl,d⟩)
set_option maxHeartbeats 2000000 in
set_option maxRecDepth 1000000 in
def AD0(B b n:Nat)(w:World)(g:B≤b)(c:w.heap[b]? =some (.cells #[.pointer none,.slice none 0 0] 263 (0,0)))(h:B≤w.heap.size)(hn:n≤281474976710656):
  Calls Tryz.prog 187 #[.pointer (some ⟨b,0,none⟩),.int .i64 n] w λe f=>e= .returned (.tuple #[])/\Lib.BuilderAt 263 5 B b (.pointer (some ⟨b,0,none⟩)) [] f/\Below B w f:=by
 have a:(w.setCell ⟨b,0,none⟩ (.pointer (some ⟨b,0,none⟩))).heap[b]? =some (.cells #[.pointer (some ⟨b,0,none⟩),.slice none 0 0] 263 (0,0)):=by simp[World.setCell,ah,c]
 have i:(w.setCell ⟨b,0,none⟩ (.pointer (some ⟨b,0,none⟩))).cell? ⟨b,1,none⟩=some (.slice none 0 0):=by rw[Lib.cell_of_heap a];rfl
 have d:Below B w (w.setCell ⟨b,0,none⟩ (.pointer (some ⟨b,0,none⟩))):=(Below.refl B w).setCell (p:=⟨b,0,none⟩) g _;have m:Lib.BuilderAt 263 5 B b (.pointer (some ⟨b,0,none⟩)) [] (w.setCell ⟨b,0,none⟩ (.pointer (some ⟨b,0,none⟩))):=⟨g,.slice none 0 0,a,World.ownsRow_nil _ _ _ _,by simp[Value.ownBlock]⟩
 have j:(w.setCell ⟨b,0,none⟩ (.pointer (some ⟨b,0,none⟩))).drew.cell? ⟨b,1,none⟩=some (.slice none 0 0):=i;go_enter Tryz.func187,Tryz.ntmps187;go_wp2_with (go_at_call 247;apply (gl b w (by rw[Lib.cell_of_heap c];rfl) (by simp[World.shape?,c]) (Lib.frozen_of_heap c 0)).mono;rintro e f ⟨rfl,rfl⟩)
 go_region
 all_goals go_wp2_with (go_at_call 250;apply (AB6 B b n (w.setCell ⟨b,0,none⟩ (.pointer (some ⟨b,0,none⟩))).drew g a (by simpa[World.setCell,World.drew,-World.drew_eq]using h) hn).mono;rintro e f ⟨rfl,k,l⟩)
 all_goals first
  |(go_end0;exact⟨rfl,k,d.drew.trans l⟩)
  |(go_end0;exact⟨rfl,m.drew,d.drew⟩)
end Go.Proofs.YtghpjojfhamomaaGreat
