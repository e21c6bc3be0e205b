/- Parts of the proof; nothing is assumed. -/
import Derived.Test.YtdbincbpjobdpaaGreatK1
import Derived.Laws.IdiomRangeMap
noncomputable section
set_option linter.all false
set_option maxHeartbeats 1000000
open Option renaming some->δ,none->ε,bind->σ
open Bool renaming true->ζ,false->η
open List renaming length->θ,replicate->ς
open Go.IntKind renaming wrap->ι
open Sum renaming elim->ν
open Nat renaming beq->ξ
open Int renaming toNat->ο
open Decidable renaming decide->τ
namespace Go.Ab
def TZ(H:As)(id ver:Nat)(t:Ty)(n:Nat):Prop:=
 id<θ H/\∀ro t' l n' ver',H[id]?=δ (.buf ro t' l n' ver')->ver<=ver'/\(ver=ver'->t'=t/\n'=n)
def Bx.ok(H:As):Bx->Prop
 |.own id ver t n=>TZ H id ver t n
 |_=>True
def lok(H:As)(cs:Ψ Bx):Prop:=∀x∈cs,x.ok H
mutual
def TV.refs:TV->Ψ Bx
 |.c x=>[x]
 |.g cs=>cs
 |.aptr .. =>[]
 |.bptr id ver t n _ _=>[.own id ver t n]
 |.vw id ver t n _ _=>[.own id ver t n]
 |.vx .. =>[]
 |.vptr cs _=>cs
 |.tup vs=>TV.refsL vs
def TV.refsL:Ψ TV->Ψ Bx
 |[]=>[]
 |v::r=>v.refs++TV.refsL r
end
def TV.ok(H:As)(v:TV):Prop:=lok H v.refs
def Dx.ok(H:As):Dx->Prop
 |.live _ cs=>lok H cs
 |.buf _ _ l n _=>n=θ l
 |.dead=>True
 |.lp _ _ _ env _ _ _ _=>∀p∈env,∀id ver t n,Bx.own id ver t n∉p.2.refs
 |.mp .. =>True
structure OO(env:Bj)(H:As):Prop where
 env:∀p∈env,p.2.ok H
 heap:∀e∈H,e.ok H
variable {N n Y:Nat}{b W:TypeId}{c M:As}{d k:Ψ Nat}{e y:Operand}{P:Program}{g:Ψ Bx}{i:TV}{j H:Bj}{m:Code}{t:Ty}{R:Type}{p:Ψ Ad}{s:Ψ TV}{u:Env}{v:Ad}{z:Array Oper}{A:Ψ Oper}{o:Oper}{w:World}{B:Aw}{C:Exit→Act→World→Prop}{D:Bool}{E:Bx}{I:Ω (Nat×Bool)}{F:FuncId}{X:Nat->Prop}{h:Gh}{O:Dx}{S:IntKind}{x:Cx}{U:Ω Nat}{V:Nat→Prop}{Z:Ω TV}{a:Exit->Env->Aw->Prop}{l:Int}{r:Ψ (Int×Ad)}{K:Exit}{Q:Act}
theorem Je{b:Ψ Bx}:lok c (g++b)↔lok c g/\lok c b:=by grind[lok]
theorem AHN:lok c []:=λ_ h=>by cases h
def xL{v:TV}:∀{l:Ψ TV},v∈l->∀x∈v.refs,x∈TV.refsL l
 |w::r,a,x,hx=>by simp only[TV.refsL,Ak];rcases Av.1 a with rfl|a;exact .inl hx;exact .inr (xL a x hx)
def rN(h:(TV.tup s).ok c)(b:i∈s):i.ok c:=λx H=>h x (by simp only[TV.refs];exact xL b x H)
def Rz{H}:∀{vs:Ψ TV},(∀v∈vs,v.ok H)->(TV.tup vs).ok H
 |[],_=>λx a=>by simp[TV.refs,TV.refsL]at a
 |v::r,h=>by have:=Rz (vs:=r) λw b=>h w (by simp[b]);intro x a;simp only[TV.refs,TV.refsL,Ak]at a;rcases a with a|a;exact h v q! x a;exact this x a
theorem lV(h:∀p∈j,p.2.ok c)(t:Nat):(j.get t).ok c:=by
 induction j with
 |nil=>intro x a;simp only[Bj.get,Vx,TV.refs,A5]at a;subst a;trivial
 |cons p r b=>grind[Bj.get]
theorem ACM(v:Value):(AEo v).ok c:=by
 cases v with
 |pointer p=>cases p<;>trivial
 |slice a l H=>
  cases a with
  |some _=>trivial
  |none=>
   match l,H with
   |0,0=>trivial
   |0,_+1=>trivial
   |_+1,_=>trivial
 |_=>trivial
def jM:Vx.ok c:=λx a=>by simp only[Vx,TV.refs,A5]at a;subst a;trivial
theorem Jw{H}(h:E.ok H):(TV.c E).ok H:=λy a=>by grind[TV.refs]
theorem AI5(v:Value):(cvT v).ok c:=by
 cases v with
 |agg a=>
  simp only[cvT];cases h:a.toList.all (·.oneCell')with
  |false=>exact jM
  |true=>intro x b;grind[TV.refs,ACM]
 |_=>exact Jw (ACM _)
theorem iD{H:As}(h:∀p∈j,p.2.ok H)(x:Operand):(Jx j x).ok H:=by
 cases x with
 |tmp t=>exact lV h t
 |const v=>exact AI5 v
 |global _=>exact jM
 |func f=>exact Jw trivial
theorem G9(a b:Ψ Bx):lvs (a++b)=lvs a++lvs b:=We
theorem IA(x:Bx)(b:Ψ Bx):lvs (x::b)=x.enc++lvs b:=Ii
theorem fa:∀a:Ψ Bx,(lvs a).length=AGF a
 |[]=>rfl
 |x::r=>by rw[IA,Aa,x.enc_len,fa r];rfl
def PC:∀{c}{n}{a b:Ψ Bx},X1 c n=δ (a,b)->c=a++b/\(lvs a).length=n
 |c,0,a,b,h=>by cases c<;>simp only[X1]at h<;>obtain⟨rfl,rfl⟩:=h<;>exact⟨rfl,rfl⟩
 |x::r,n+1,a,b,h=>by simp only[X1]at h;split at h;rename_i e;split at h;rename_i g i f;obtain⟨rfl,rfl⟩:=h;obtain⟨j,d⟩:=PC f;rw[IA,Aa,d,x.enc_len];simp_all;cases h;cases h
mutual
theorem Ty.lvs_enc:∀(t:Ty)x,lvs (t.lvs x)=(t.enc x).cells
 |.bool,_=>rfl
 |.int _,_=>rfl
 |.str,_=>rfl
 |.list _,_=>rfl
 |.arr n t,a=>by simp only[Ty.lvs,lvs,Ii,qQ,Dc,Bx.enc]
 |.prod ts,x=>by simp only[Ty.lvs,Ty.enc,Ad.cells];exact ts.lvs_cells x
theorem Ss.lvs_cells:∀(a:Ss)x,Go.Ab.lvs (a.lvs x)=a.cells x
 |.one t,x=>by simp only[Ss.lvs,Ss.cells];exact t.lvs_enc x
 |.cons t a,x=>by simp only[Ss.lvs,Ss.cells];rw[G9,t.lvs_enc,a.lvs_cells]
end
mutual
theorem Ty.lvs_ok{H:As}:∀(t:Ty)x,lok H (t.lvs x)
 |.bool,_=>λy b=>by simp only[Ty.lvs,A5]at b;subst b;trivial
 |.int _,_=>λy b=>by simp only[Ty.lvs,A5]at b;subst b;trivial
 |.str,_=>λy b=>by simp only[Ty.lvs,A5]at b;subst b;trivial
 |.list _,_=>λy b=>by simp only[Ty.lvs,A5]at b;subst b;trivial
 |.arr n t,a=>λy b=>by simp only[Ty.lvs,A5]at b;subst b;trivial
 |.prod ts,x=>by simp only[Ty.lvs];exact ts.lvs_ok x
theorem Ss.lvs_ok{H:As}:∀(a:Ss)x,lok H (a.lvs x)
 |.one t,x=>by simp only[Ss.lvs];exact t.lvs_ok x
 |.cons t a,x=>by simp only[Ss.lvs];exact Je.2 ⟨t.lvs_ok _,a.lvs_ok _⟩
end
def My(h:E.scalar=ζ):E.enc=[E.one]:=by
 cases E with
 |ar n t a=>cases h
 |_=>rfl
def Bx.scalar_cells(h:E.scalar=ζ):E.one.cells=[E.one]:=by
 cases E with
 |ar n t a=>cases h
 |raw v=>cases v<;>first|rfl|cases h
 |_=>rfl
theorem R1(h:part P b g N=δ i):
  (∃n,tI P b=δ (ζ,n)/\N+n<=(lvs g).length/\i.enc=.agg (((lvs g).drop N).take n)\/tI P b=δ (η,n)/\(lvs g)[N]?=δ i.enc)/\∀H,lok H g->i.ok H:=by
 unfold part at h;split at h;rename_i a r l;obtain⟨rfl,j⟩:=PC l;split at h;rename_i n e;split at h;rename_i d c t;obtain⟨rfl,k⟩:=PC t;injection h with h;subst h;refine⟨⟨n,.inl ⟨e,?_,?_⟩⟩,λH f=>?_⟩;simp only[G9,Aa];omega;simp only[TV.enc,G9,Ad.agg.injEq];rw[<-j,Rn,<-k,Yr];exact(Je.1 (Je.1 f).2).1;cases h;rename_i n e;split at h;rename_i x r;split at h;rename_i m;injection h with h;subst h;refine⟨⟨n,.inr ⟨e,?_⟩⟩,λH f=>Jw ((Je.1 f).2 x q!)⟩;rw[G9,IA,My m,Cn o!];simp[j,TV.enc];cases h;cases h;cases h;cases h
def mg(h:part P b g N=δ i)
  (hr:∀n,N+n<=(lvs g).length->Qg B v n=δ (((lvs g).drop N).take n)):jV P b B v=δ i.enc:=by
 obtain⟨⟨n,e|e⟩,_⟩:=R1 h;obtain⟨c,t,d⟩:=e;simp only[jV,c,hr n t,Bt,d];obtain⟨c,d⟩:=e;have k:N<(lvs g).length:=by rcases A0 N (lvs g).length with f|f;exact f;rw[Ct f]at d;cases d
 simp only[jV,c,hr 1 o!,AD];rw[List.head?_take,List.head?_drop,d];rfl
theorem sR(h:X0 c N=δ g):∃ro,c[N]?=δ (.live ro g):=by grind[X0]
theorem EM(H:As)(id:Nat):(BL H)[id]?=(H[id]?).map Dx.enc:=CU
theorem vB(h:X0 c N=δ g):(BL c)[N]?=δ (.live 0 (lvs g)):=by obtain⟨ro,b⟩:=sR h;rw[EM,b];rfl
def AHL(b:∀e∈c,e.ok c)(h:X0 c N=δ g):lok c g:=by obtain⟨ro,H⟩:=sR h;exact b _ (BO H)
def AAz{l:Ψ t.D}(h:Yw c N n t=δ l):∃ro a,c[N]?=δ (.buf ro t l a n):=by unfold Yw at h;split at h;rename_i ro i j a d e;split at h;rename_i g;have H:=DB g;subst H;split at h;rename_i f;have b:=f;have:=Ty.beq_eq i t b;subst this;injection h with h;refine⟨ro,a,?_⟩;rw[e,<-h];rfl;cases h;cases h;cases h
def YA{l:Ψ t.D}(d:∀e∈c,e.ok c)(hr:TZ c N Y t n)(h:Yw c N Y t=δ l):(BL c)[N]?=δ (.live n (t.E.cl l))/\θ l=n:=by obtain⟨ro,f,b⟩:=AAz h;obtain⟨_,H⟩:=hr.2 _ _ _ _ _ b;obtain⟨_,rfl⟩:=H rfl;have:f=θ l:=d _ (BO b);refine⟨?_,this.symm⟩;rw[EM,b];rfl
def AAu{a:GK (n+1) t.D}(h:AET g N n t=δ a):∃pre b,g=pre++(.ar n t a::b)/\(lvs pre).length=N:=by unfold AET at h;split at h;rename_i pre k l j b f;split at h;rename_i i;have:=Ty.beq_eq _ _ i;injection this with d e;subst d e;injection h with h;obtain⟨d,e⟩:=PC f;refine⟨pre,b,?_,e⟩;rw[d,<-h];rfl;cases h;cases h
theorem dD(n:Nat)(t:Ty)(a:GK (n+1) t.D):(Bx.ar n t a).enc=fy (n+1) t.E a:=rfl
section
variable {P:Program}{R:Type}{H:As}{k:TV->Ω R}{r:R}
theorem XW(h:okT Z k=δ r):∃v,Z=δ v/\k v=δ r:=by unfold okT at h;grind
theorem jO(v:Ad):(tvA v).enc=v:=by cases v<;>rfl
theorem lz(v:Ad):(tvA v).ok H:=by cases v<;>exact Jw trivial
theorem lh{o}(h:okA o k=δ r):∃v,o=δ v/\k (tvA v)=δ r:=by unfold okA at h;grind
theorem mV{o}(h:cond D ε o=δ r):D=η/\o=δ r:=k!
theorem sS(B:∀e∈H,e.ok H)(C:i.ok H)(h:loadT P H b i k=δ r):∃u,jV P b (BL H) i.enc=δ u.enc/\k u=δ r/\u.ok H:=by
 unfold loadT at h;split at h;rename_i id g;split at h;rename_i A p;obtain⟨u,f,j⟩:=XW h;refine⟨u,mg f λn c=>?_,j,(R1 f).2 H (AHL B p)⟩;grind[TV.enc,Bx.one,Qg,vB];cases h;rename_i A d;obtain⟨u,f,j⟩:=XW h;refine⟨u,mg f λn c=>?_,j,(R1 f).2 H C⟩;simp only[TV.enc,Qg];grind;rename_i id o n t v g;split at h;rename_i A p;split at h;rename_i a F;obtain⟨e,y,h⟩:=DM.1 h;obtain⟨u,f,j⟩:=XW h;obtain⟨pre,d,rfl,q⟩:=AAu F;refine⟨u,mg f λm c=>?_,j,(R1 f).2 H (t.lvs_ok e)⟩;rw[t.lvs_enc,t.enc_len]at c;obtain⟨s,w⟩:=AEQ t.E (lvs pre) (lvs d) y c;have D:lvs (pre++(.ar n t a::d))=lvs pre++fy (n+1) t.E a++lvs d:=by rw[G9,IA,dD,A3]
 simp only[TV.enc,Qg,vB p,D];have x:o+v.toNat*t.sz+g=(lvs pre).length+v.toNat*t.E.sz+g:=by rw[q];rfl
 rw[x,C! ⟨P!,s⟩,w,t.lvs_enc];rfl;cases h;cases h;rename_i id z t n v g;split at h;rename_i l p;obtain⟨e,y,h⟩:=DM.1 h;obtain⟨u,f,j⟩:=XW h;obtain⟨x,_⟩:=YA B (C (.own id z t n) (by simp[TV.refs])) p;refine⟨u,mg f λm c=>?_,j,(R1 f).2 H (t.lvs_ok e)⟩;rw[t.lvs_enc,t.enc_len]at c;obtain⟨s,w⟩:=AIt t.E y c;simp only[TV.enc,Qg,x];rw[C! ⟨P!,s⟩];show δ (List.take m (List.drop (v.toNat*t.E.sz+g) (t.E.cl l)))=_;rw[w,t.lvs_enc];rfl;cases h;cases h
theorem AAw{x}{y}(h:AIu P x b i y k=δ r):∃u,zI P x b i.enc y.enc=δ u.enc/\k u=δ r/\u.ok H:=by
 unfold AIu at h;split at h;rename_i n a o t;simp only[TV.enc,Bx.one,zI];split at h;obtain⟨c,h⟩:=mV h;have d:¬t<0:=by simpa using c
 refine⟨_,?_,h,Jw trivial⟩;grind[lw,TV.enc,Bx.one];obtain⟨c,h⟩:=mV h;have d:¬t<0:=by simpa using c
 refine⟨_,?_,h,Jw trivial⟩;grind[lw,TV.enc,Bx.one];split at h;rename_i e;obtain⟨c,h⟩:=mV h;have d:¬t=0:=by simpa using c
 refine⟨_,?_,h,Jw trivial⟩;grind[qT,TV.enc,Bx.one];cases h;split at h;rename_i e;obtain⟨c,h⟩:=mV h;have d:¬t=0:=by simpa using c
 refine⟨_,?_,h,Jw trivial⟩;grind[qT,TV.enc,Bx.one];cases h;grind[lh,lz,jO];rename_i a t;simp only[TV.enc,Bx.one,zI];split at h;split at h;rename_i e;exact⟨_,by simp only[C! e,TV.enc,Bx.one],h,Jw trivial⟩;cases h;split at h;rename_i e;exact⟨_,by simp only[C! e,TV.enc,Bx.one],h,Jw trivial⟩;cases h;cases h;rename_i a t;simp only[TV.enc,Bx.one,zI];split at h;obtain⟨s,j,h⟩:=DM.1 h;exact⟨_,by simp only[xh,TV.enc,Bx.one];exact AJL j,h,Jw trivial⟩;grind[lh,jO,lz];rename_i l bs;split at h;rename_i m f;split at h;rename_i g;simp only[TV.enc,zI,f,C! g];split at h;exact⟨_,by simp only[TV.enc,Bx.one,eqT],h,Jw trivial⟩;exact⟨_,by simp only[TV.enc,Bx.one,eqT],h,Jw trivial⟩;cases h;cases h;cases h;cases h
def ADw{a}(h:unT a i k=δ r):∃u,unV a i.enc=δ u.enc/\k u=δ r/\u.ok H:=by unfold unT at h;split at h;obtain⟨i,b,h⟩:=lh h;exact⟨_,by rw[jO];exact b,h,lz i⟩;cases h
def AJ7(l:Ψ Int):(Ty.int .u8).E.cl l=l.map (xu .u8).f:=by
 unfold Sg.cl;induction l with
 |nil=>rfl
 |cons n l a=>simp only[B4,Ii,a];rfl
def ADD:X6 P B b W (.int S l)=X6 P [] b W (.int S l):=by unfold X6;cases kd P W<;>rfl
def ADE{s:Ψ UInt8}:X6 P B b W (.str s)=X6 P [] b W (.str s):=by unfold X6;cases kd P W<;>rfl
def zO(g:∀e∈H,e.ok H)(c:i.ok H)(h:AEl P H b W i k=δ r):∃u,X6 P (BL H) b W i.enc=δ u.enc/\k u=δ r/\u.ok H:=by
 unfold AEl at h;split at h;rename_i l;split at h;rename_i d;exact⟨_,AFS l d.1 d.2,h,Jw trivial⟩;cases h;rename_i id f n;split at h;rename_i d;split at h;rename_i l j;obtain⟨a,hn⟩:=YA g (c (.own id f (.int .u8) n) (by simp[TV.refs])) j;refine⟨_,?_,h,Jw trivial⟩;simp only[TV.enc,Bx.one,X6,d.1,d.2,if_true,rowsOf,a];rw[C! ⟨P!,rfl,by rw[(Ty.int .u8).E.clen,hn];show 0+n<=n*1;omega⟩];have:((Ty.int .u8).E.cl l).length=n:=by rw[(Ty.int .u8).E.clen,hn];exact Nat.mul_one n
 rw[Wc,<-this,Hk,AJ7];exact E! (Option.map Ad.str) (yo l);cases h;cases h;obtain⟨i,c,h⟩:=lh h;exact⟨_,by rw[jO];exact ADD.trans c,h,lz i⟩;obtain⟨i,c,h⟩:=lh h;exact⟨_,by rw[jO];exact ADE.trans c,h,lz i⟩;cases h
end
section
variable {P:Program}{R:Type}{H:As}{k:TV->Ω R}{r:R}
theorem kv(h:X0 H N=δ g):UB (BL H) N 0=ζ:=by simp[UB,vB h]
def pD{l:Ψ t.D}(b:∀e∈H,e.ok H)(hr:TZ H N Y t n)(h:Yw H N Y t=δ l):UB (BL H) N n=ζ:=by simp[UB,(YA b hr h).1]
theorem ql(x:∀e∈H,e.ok H)(g:i.ok H)(h:oF P H N n i k=δ r):∃u,Wn P (BL H) N n i.enc=δ u.enc/\k u=δ r/\u.ok H:=by
 unfold oF at h;split at h;rename_i B t s z;split at h;cases h;rename_i hn;have d:s≠0:=λe=>t!
 unfold Wn;simp only[z,D! d];split at h;rename_i id o;split at h;rename_i p c;exact⟨_,by simp only[TV.enc,Bx.one,shift,kv c,if_true],h,Jw trivial⟩;cases h;rename_i p q;split at h;rename_i a b A;obtain⟨rfl,y⟩:=PC A;refine⟨_,?_,h,(Je.1 g).2⟩;simp only[TV.enc,shift];rw[C! (by simp only[Aa,G9];omega),G9,A3,<-y,Rn];cases h;rename_i id m s w f o;split at h;rename_i p c;refine⟨_,?_,h,λ_ h=>by cases h⟩;grind[TV.enc,shift,kv];cases h;rename_i id j w s f o;split at h;rename_i l c;refine⟨_,?_,h,g⟩;simp only[TV.enc,shift,pD x (g (.own id j w s) (by simp[TV.refs])) c,if_true,WZ];cases h;cases h;cases h
theorem yS(h:part P b g N=δ i)(c:∀t,N+t<=(lvs g).length->n+t<=θ p/\(p.drop n).take t=((lvs g).drop N).take t):vN P b p n=δ i.enc:=by grind[R1,vN,List.head?_take,List.head?_drop]
theorem xv(d:i.ok H)(h:AA6 P N n i k=δ r):∃u,uZ P N n i.enc=δ u.enc/\k u=δ r/\u.ok H:=by unfold AA6 at h;split at h;rename_i e t s g a;obtain⟨u,c,b⟩:=XW h;refine⟨u,?_,b,(R1 c).2 H d⟩;simp only[uZ,a,TV.enc];grind[yS];cases h
theorem tq{a:GK n R}{x:R}(h:G2 a l=δ x):0<=l/\l<n:=by obtain⟨c,j,rfl,_⟩:=qD h;grind
theorem rD{v:TV}(q: ∀e∈H,e.ok H)(C:v.ok H)(h:oJ P H b v i k=some r): ∃u,Ws P (BL H) b v.enc i.enc=some u.enc/\k u=some r/\u.ok H:=by
 unfold oJ at h;split at h;rename_i N i;simp only[TV.enc,Bx.one,Ws];split at h;rename_i len F sz y;simp only[y];split at h;rename_i id J;split at h;rename_i K j;split at h;rename_i pre n t a p M;split at h;rename_i g;obtain⟨rfl,rfl⟩:=g;obtain⟨e,c,h⟩:=DM.1 h;refine⟨_,?_,h,λ_ h=>by cases h⟩;rw[if_pos (tq c)];simp only[TV.enc,Bx.one,shift,kv j,if_true,NV];cases h;cases h;cases h;rename_i n t a O p;split at h;rename_i g;obtain⟨rfl,rfl⟩:=g;obtain⟨e,c,h⟩:=DM.1 h;refine⟨_,?_,h,t.lvs_ok e⟩;rw[if_pos (tq c)];obtain⟨_,w,B,_⟩:=AEV t.E c [] [];simp only[B5,Dc,Bi,DZ]at w B;have G:i.toNat*t.sz+t.sz<=(fy (n+1) t.E a).length:=w;simp only[TV.enc,shift,IA,dD];rw[if_pos k!];rw[t.lvs_enc,A3,qP o!];have D:(fy (n+1) t.E a).drop (i.toNat*t.sz)=(t.enc e).cells++(fy (n+1) t.E a).drop (i.toNat*t.sz+t.sz):=by rw[<-LK];have L:((fy (n+1) t.E a).drop (i.toNat*t.sz)).take t.sz=(t.enc e).cells:=B;grind[List.take_append_drop]
 rw[D,A3];rfl;cases h;cases h;rename_i F sz y;simp only[y];split at h;rename_i t l;split at h;rename_i g;subst g;obtain⟨e,c,h⟩:=DM.1 h;obtain⟨q1,q2⟩:=ALH (f:=t.enc) c;refine⟨_,?_,h,t.lvs_ok e⟩;simp only[TV.enc,Bx.one];rw[if_pos ⟨q1,trivial⟩,q2,t.lvs_enc,Dc];rfl;cases h;rename_i id d t n;split at h;rename_i l j;split at h;rename_i g;subst g;obtain⟨e,c,h⟩:=DM.1 h;have hr:=C (.own id d t n) (by simp[TV.refs]);obtain⟨I,hn⟩:=YA q hr j;refine⟨.bptr id d t n i 0,?_,h,λx o=>by simp only[TV.refs,A5]at o;subst o;exact hr⟩;obtain⟨_,_,_,_,s,w,_,_⟩:=uP t.E c;simp only[TV.enc,Bx.one];rw[if_pos ⟨s,o!,trivial,pD q hr j⟩,DZ,NV];cases h;cases h;rename_i id d t n A m;split at h;rename_i l j;split at h;rename_i g;subst g;obtain⟨e,c,h⟩:=DM.1 h;have hr:=C (.own id d t n) (by simp[TV.refs]);obtain⟨I,hn⟩:=YA q hr j;refine⟨.bptr id d t n ((A:Int)+i) 0,?_,h,λx o=>by simp only[TV.refs,A5]at o;subst o;exact hr⟩;unfold ix at c;split at c;rename_i s;have z:=(EX.1 c).1;rw[BP,C5]at z;simp only[TV.enc,vwE];rw[if_neg o!];dsimp only;rw[if_pos ⟨s,o!,rfl,pD q hr j⟩,NV,show((A:Int)+i).toNat=A+i.toNat by omega,D5];cases c;cases h;cases h;cases h;cases h;cases h
theorem o9{e:TypeId}{sz}{cs}{i}(b:lok H cs):∀{m j},xl P e sz cs i k m j=δ r->∃u,(0<=i/\i<((j+m:Nat):Int))/\vN P e (lvs cs) (i.toNat*sz)=δ u.enc/\k u=δ r/\u.ok H
 |m+1,j,h=>by
  simp only[xl]at h;cases a:τ (i=Int.ofNat j)with
  |true=>
   rw[a]at h;have f:i=(j:Int):=k!
   obtain⟨u,d,c⟩:=XW h;refine⟨u,o!,?_,c,(R1 d).2 H b⟩;grind[yS]
  |false=>rw[a]at h;obtain⟨u,q1,q2⟩:=o9 b (m:=m) (j:=j+1) h;grind
theorem yD{v:TV}(A:v.ok H)(h:ABB P b v i k=some r): ∃u,lY P b v.enc i.enc=some u.enc/\k u=some r/\u.ok H:=by
 unfold ABB at h;split at h;rename_i B i;split at h;rename_i n c a;split at h;rename_i len x sz o;split at h;rename_i z;obtain⟨rfl,rfl⟩:=z;obtain⟨e,p,h⟩:=DM.1 h;obtain⟨u,q,f⟩:=XW h;refine⟨u,?_,f,(R1 q).2 H (c.lvs_ok e)⟩;simp only[TV.enc,Bx.one,lY,o];rw[if_pos (tq p)];refine yS q λm d=>?_;rw[c.lvs_enc,c.enc_len,DZ]at d;obtain⟨j,l⟩:=AEQ c.E (off:=0) [] [] p (m:=m) (by rw[DZ];exact d);simp at j l;have w:lvs [Bx.ar n c a]=fy (n+1) c.E a:=by grind[dD,lvs]
 rw[w,c.lvs_enc,Wc];exact⟨j,l⟩;cases h;cases h;rename_i g _;split at h;rename_i len x sz o;split at h;obtain⟨u,q1,q2,q3⟩:=o9 (cs:=g) (H:=H) A h;grind[TV.enc,Bx.one,lY];cases h;cases h;rename_i s;split at h;rename_i f;obtain⟨t,y,h⟩:=DM.1 h;exact⟨_,by simp only[TV.enc];exact AKP y f,h,Jw trivial⟩;cases h;cases h;cases h
theorem XA{d:Nat}(h:vn d Z=δ l)(a:0<=l):XB d (Z.map TV.enc)=δ l.toNat:=by unfold vn at h;grind[XB,TV.enc,Bx.one,vH]
theorem yj{G N:Option TV}(K:∀e∈H,e.ok H)(R:i.ok H)(h:ABp P H b i Z G N k=δ r):∃u,cZ P (BL H) b i.enc (Z.map TV.enc) (G.map TV.enc) (N.map TV.enc)=δ u.enc/\k u=δ r/\u.ok H:=by
 unfold ABp at h;split at h
 ·rename_i S m;split at h
  ·rename_i y g;split at h
   ·rename_i l v J sz j c C;split at h
    ·rename_i w;obtain⟨x,a,h⟩:=DM.1 h;refine⟨_,?_,h,λz F=>by simp[TV.refs]at F⟩;unfold AKM at a;split at a;rotate_left 1;cases a;rename_i D;unfold Sr at a;split at a;rename_i t;have f:(g.map y.enc).length=θ g:=BT _;have A:=XA (d:=0) j t.1;have o:=XA c (Ya t.1 t.2.1);have p:XB (θ g) (δ (Ad.int S m))=δ m.toNat:=by
      show(if 0<=m then δ m.toNat else ε)=δ m.toNat
      rw[C! o!]
     rw[D]at p;have Q:(G.map TV.enc).isSome=ζ:=by rw[Option.isSome_map];exact w.2
     rw[D];simp only[TV.enc,Bx.one,cZ,f,A,o,p,C,Bt];rw[C! ⟨w.1.symm,o!,Al _,o!,λ_=>Q⟩,C! trivial];injection a with a;rw[<-a,nh,fh];cases a
    cases h
   cases h
  cases h
 cases h;split at h;rename_i s;split at h;rename_i l v j c;split at h;rename_i w;obtain⟨x,a,h⟩:=DM.1 h;refine⟨_,?_,h,Jw trivial⟩;unfold R4 at a;split at a;rename_i t;simp only[TV.enc,Bx.one,cZ,XA (d:=0) j t.1,XA c (Ya t.1 t.2.1)];grind;cases a;cases h;cases h;rename_i y g;split at h;rename_i l v J sz j c C;split at h;rename_i w;obtain⟨x,a,h⟩:=DM.1 h;refine⟨_,?_,h,Jw trivial⟩;unfold Sr at a;split at a;rename_i t;have f:(g.map y.enc).length=θ g:=BT _;have A:=XA (d:=0) j t.1;have o:=XA c (Ya t.1 t.2.1);have p:XB (θ g) ε=δ (θ g):=rfl;simp only[TV.enc,Bx.one,cZ,f,A,o,p,C];grind[List.map_take,List.map_drop];cases a;cases h;cases h;rename_i id I y n;split at h;rename_i g L;split at h;rename_i l v J sz j c C;split at h;rename_i w;obtain⟨x,a,h⟩:=DM.1 h;have hr:=R (.own id I y n) (by simp[TV.refs]);obtain⟨T,O⟩:=YA K hr L;have B:=pD K hr L;refine⟨_,?_,h,λz F=>by simp only[TV.refs,A5]at F;subst F;exact hr⟩;unfold Sr at a;split at a;rename_i t;have A:=XA (d:=0) j t.1;have o:=XA c (Ya t.1 t.2.1);rw[O]at o;have p:XB n ε=δ n:=rfl;simp only[TV.enc,Bx.one,cZ,nq,A,o,p,C];rw[C! ⟨w.symm,y.sz_pos,o!,o!,Al _,B,λq=>by cases q⟩];have E:min (v.toNat-l.toNat) (n-l.toNat)=v.toNat-l.toNat:=o!
 unfold vwE;rw[E];by_cases q0:l.toNat=0;rw[C! q0,q0];by_cases q1:v.toNat=0;rw[q1];rfl;rw[D! o!,Yu,Wa];rw[D! q0];by_cases q1:l.toNat=v.toNat
 rw[C! q1,C! o!,D! q0];rw[D! q1,D! o!,DZ];cases a;cases h;cases h;cases h;cases h
def ABG(f:∀e∈H,e.ok H)(g:i.ok H)(h:AJF P H b i k=δ r):∃u,rE P (BL H) b i.enc=δ u.enc/\k u=δ r/\u.ok H:=by unfold AJF at h;split at h;rename_i s a;exact⟨_,by simp only[rE,a,TV.enc,Bx.one],h,Jw trivial⟩;rename_i n e a;exact⟨_,by simp only[rE,a,TV.enc,Bx.one],h,Jw trivial⟩;rename_i c l e a;exact⟨_,by simp only[rE,a,TV.enc,Bx.one,BT],h,Jw trivial⟩;rename_i e id t c n a;split at h;rename_i l d;refine⟨_,?_,h,Jw trivial⟩;simp only[rE,a,TV.enc,Bx.one];cases h;rename_i e a;exact⟨_,by simp only[rE,a,TV.enc,Bx.one],h,Jw trivial⟩;rename_i e id t c n v m a;split at h;rename_i l d;obtain⟨_,hn⟩:=YA f (g (.own id t c n) (by simp[TV.refs])) d;refine⟨_,?_,h,Jw trivial⟩;simp only[TV.enc,vwE,Bx.one,BP,C5,hn];split;rename_i q;rw[q];split<;>simp only[rE,a]<;>rfl;simp only[rE,a];cases h;cases h
end
def Zj(h:i.words=δ g):i.enc.solid=ζ/\i.enc.cells=lvs g/\∀H,i.ok H->lok H g:=by unfold TV.words at h;split at h;rename_i x;split at h;rename_i a;simp at a;injection h with h;subst h;refine⟨a.2,?_,λH b=>b⟩;rw[IA,My a.1];exact Bx.scalar_cells a.1;cases h;injection h with h;subst h;exact⟨rfl,rfl,λH b=>b⟩;cases h
theorem mj{f c:Ψ Bx}{d n}(h:ADp g d f n=δ c)(hn:(lvs f).length=n):lvs c=XZ (lvs g) d (lvs f)/\d+n<=(lvs g).length/\∀H,lok H g->lok H f->lok H c:=by unfold ADp at h;split at h;rename_i a r i;obtain⟨rfl,l⟩:=PC i;split at h;rename_i m b e;obtain⟨rfl,o⟩:=PC e;refine⟨?_,by simp only[G9,Aa];omega,λH j k=>?_⟩;grind[XZ,G9];grind[Je];cases h;cases h
mutual
theorem Ty.zlvs_ok{H:As}:∀t:Ty,lok H t.zlvs
 |.bool=>λy a=>by simp only[Ty.zlvs,A5]at a;subst a;trivial
 |.int _=>λy a=>by simp only[Ty.zlvs,A5]at a;subst a;trivial
 |.str=>λy a=>by simp only[Ty.zlvs,A5]at a;subst a;trivial
 |.list _=>λy a=>by simp only[Ty.zlvs,A5]at a;subst a;trivial
 |.arr n t=>λy a=>by simp only[Ty.zlvs,A5]at a;subst a;trivial
 |.prod b=>by simp only[Ty.zlvs];exact b.zlvs_ok
theorem Ss.zlvs_ok{H:As}:∀a:Ss,lok H a.zlvs
 |.one t=>by simp only[Ss.zlvs];exact t.zlvs_ok
 |.cons t a=>by simp only[Ss.zlvs];exact Je.2 ⟨t.zlvs_ok,a.zlvs_ok⟩
end
def ADT(v:Ad):(ww v).enc=[v]:=by cases v<;>rfl
theorem AFC(v:Ad):(ww v).ok c:=by cases v<;>trivial
theorem rH:∀z:Ψ Ad,lvs (z.map ww)=z
 |[]=>rfl
 |v::r=>by rw[B4,IA,rH r,ADT];rfl
theorem ACg(z:Ψ Ad):lok c (z.map ww):=λx a=>by grind[AFC]
theorem Zl(h:vj P b=δ g):Zk P b=δ (lvs g)/\∀H,lok H g:=by unfold vj at h;split at h;rename_i a t;split at h;rename_i e d;split at h;rename_i c;injection h with h;subst h;exact⟨by rw[t,mP _ _ c],λH=>e.zlvs_ok⟩;grind[rH,ACg];grind[rH,ACg];cases h
theorem ua{p}:∀{a}{c b:Ψ Bx},zZ p c a=δ b->sL p (lvs c) (a.map λq=>(q.1,q.2.enc))=δ (lvs b)/\∀H,lok H c->(∀q∈a,q.2.ok H)->lok H b
 |[],c,b,h=>by simp only[zZ,Ar]at h;subst h;exact⟨rfl,λH h _=>h⟩
 |(i,v)::r,c,b,h=>by simp only[zZ]at h;split at h;rename_i m size z t l;split at h;rename_i k;have e:=DB k;split at h;rename_i s d;obtain⟨x,y,o⟩:=Zj l;obtain⟨u,w,n⟩:=mj d (by rw[fa,e]);obtain⟨q1,q2⟩:=ua h;refine⟨?_,λH g f=>q2 H (n H g (o H (f (i,v) q!))) λq j=>f q (by simp[j])⟩;grind[sL,fa];cases h;cases h;cases h
section
variable {P:Program}{R:Type}{env:Bj}{H:As}{k:TV->Ω R}{r:R}
theorem zJ{a}(h:AA0 P b a=δ i):uG P b (a.map λq=>(q.1,q.2.enc))=δ i.enc/\((∀q∈a,q.2.ok H)->i.ok H):=by unfold AA0 at h;split at h;rename_i z p e j;obtain⟨k,f⟩:=Zl e;rw[Tu]at h;obtain⟨g,c,rfl⟩:=h;obtain⟨v,t⟩:=ua c;refine⟨?_,λd=>t H (f H) d⟩;grind[uG,TV.enc];cases h
def rU:∀{l}{m:Ψ Ad},rT l=δ m->m=l.map TV.enc
 |[],m,h=>by simp only[rT,Ar]at h;subst h;rfl
 |.c x::r,m,h=>by simp only[rT]at h;split at h;rename_i b _ a;injection h with h;subst h;rw[B4,<-rU a];rfl;cases h
 |.g _::_,m,h=>by simp[rT]at h
 |.aptr .. ::_,m,h=>by simp[rT]at h
 |.bptr .. ::_,m,h=>by simp[rT]at h
 |.vw .. ::_,m,h=>by simp[rT]at h
 |.vx .. ::_,m,h=>by simp[rT]at h
 |.vptr .. ::_,m,h=>by simp[rT]at h
 |.tup _::_,m,h=>by simp[rT]at h
def xA{y}(h:mmT D i y k=δ r):∃u,mmV D [i.enc,y.enc]=δ u.enc/\k u=δ r/\u.ok H:=by unfold mmT at h;split at h;exact⟨_,by simp only[TV.enc,Bx.one,mmV],h,Jw trivial⟩;cases h
def ABP{y z}(h:AJG i y z k=δ r):∃u,mm3 i.enc y.enc z.enc=δ u.enc/\k u=δ r/\u.ok H:=by unfold AJG at h;split at h;exact⟨_,by simp only[TV.enc,Bx.one,mm3],h,Jw trivial⟩;cases h
theorem xK{F}(ok:OO env H)(h:quT P env H F k=δ r):∃v,Ch P (B3 env) (BL H) F=δ v.enc/\k v=δ r/\v.ok H:=by
 have j:∀x,(Jx env x).ok H:=iD ok.env;have g:=Lu env;unfold quT at h;split at h;grind[Ch];grind[Ch];rename_i c a b;split at h;rename_i t K;have w:BR (B3 env) c=.bool t:=by rw[g,K];rfl
 grind[Ch,Bool.false_eq_true];cases h;obtain⟨u,d,e⟩:=sS ok.heap (j _) h;grind[Ch];rename_i x;split at h;grind[BR,B3,Ch,kv,TV.enc,Bx.one,Jw];grind[BR,B3,Ch,TV.enc,Bx.one,Jw];grind[BR,B3,lvs,Ch,TV.enc];grind[BR,B3,Ch,kv,TV.enc];rename_i id D G n i B s;split at h;rename_i l A;have w:BR (B3 env) x=.ptr id n (i.toNat*G.sz+B):=by rw[g,s];rfl
 have:=j x;rw[s]at this;exact⟨_,by simp only[Ch,w,pD ok.heap (this (.own id D G n) (by simp[TV.refs])) A,if_true,TV.enc],h,this⟩;cases h;cases h;simp_all[AAw,Ch];obtain⟨u,d,e⟩:=ADw (H:=H) h;exact⟨u,by simp only[Ch,g,d],e⟩;obtain⟨u,d,e⟩:=zO ok.heap (j _) h;exact⟨u,by simp only[Ch,g,d],e⟩;obtain⟨u,d,e⟩:=ql ok.heap (j _) h;exact⟨u,by simp only[Ch,g,d],e⟩;obtain⟨u,d,e⟩:=xv (j _) h;exact⟨u,by simp only[Ch,g,d],e⟩;obtain⟨u,d,e⟩:=rD ok.heap (j _) h;exact⟨u,by simp only[Ch,g,d],e⟩;obtain⟨u,d,e⟩:=yD (H:=H) (j _) h;exact⟨u,by simp only[Ch,g,d],e⟩;rename_i t x Q O R;obtain⟨u,d,e⟩:=yj ok.heap (j _) h;have q:∀o:Ω Operand,o.map (BR (B3 env))=(o.map (Jx env)).map TV.enc:=by
  intro o;cases o with
  |none=>rfl
  |some y=>simp only[Bt,g]
 exact⟨u,by simp only[Ch,g,q,d],e⟩;rename_i x i;split at h;rename_i N s;split at h;rename_i v z;have w:BR (B3 env) x=.tup (N.map TV.enc):=by rw[g,s];simp only[TV.enc,uW]
 have E:=j x;rw[s]at E;exact⟨v,by simp only[Ch,w,CU,z,Bt],h,rN E (BO z)⟩;cases h;cases h;rename_i f a b;split at h;rename_i l m A L;refine⟨_,?_,h,Jw trivial⟩;have q:∀o:Ψ Operand,o.map (BR (B3 env))=(o.map (Jx env)).map TV.enc:=by intro o;rw[PM];exact NT λy _=>g y
 simp only[Ch,q,<-rU A,<-rU L,TV.enc,Bx.one];cases h;rename_i t C;obtain⟨v,z,h⟩:=XW h;obtain⟨I,J⟩:=zJ (H:=H) z;refine⟨v,?_,h,J λq M=>?_⟩;simp only[Ch];rw[<-I,PM];congr 1;exact NT λp _=>by simp only[Function.comp,g]
 obtain⟨p,_,rfl⟩:=Bs.1 M;exact j _;obtain⟨u,d,e⟩:=ABG ok.heap (j _) h;exact⟨u,by simp only[Ch,g,d],e⟩;obtain⟨u,d,e⟩:=xA (H:=H) h;exact⟨u,by simp only[Ch,g,d],e⟩;obtain⟨u,d,e⟩:=xA (H:=H) h;exact⟨u,by simp only[Ch,g,d],e⟩;obtain⟨u,d,e⟩:=ABP (H:=H) h;exact⟨u,by simp only[Ch,g,d],e⟩;cases h
end
def Conv(x y:Cx)(v v':Ad):Prop:=∀c,Bv x v c->Bv y v' c
def Tm(x y:Cx)(H H2:Aw):Prop:=
 θ H2=θ H/\∀(j:Nat)(e':Fw),H2[j]?=δ e'->e'=.dead\/
  (∃g cs cs',H[j]?=δ (.live g cs)/\e'=.live g cs'/\θ cs'=θ cs/\∀(i:Nat)(v':Ad),cs'[i]?=δ v'->∃v,cs[i]?=δ v/\Conv x y v v')\/
  (H[j]?=δ e'/\∀g cs,e'≠.live g cs)
theorem Tm.refl(x:Cx)(H:Aw):Tm x x H H:=by
 refine⟨rfl,λj a d=>?_⟩;cases a with
 |live g c=>exact .inr (.inl ⟨g,c,c,d,rfl,rfl,λi v b=>⟨v,b,λ_ r=>r⟩⟩)
 |_=>grind
theorem Tm.own{y}{H d}{h}(hr:Tm x y H d):∀B,owned h d B->owned h H B:=by rintro B ⟨j,f,i,c,a⟩;rcases hr.2 j f i with b|⟨g,k,e,b,_⟩|⟨b,_⟩;grind;exact⟨j,_,b,q!,a⟩;exact⟨j,_,b,c,a⟩
def Tm.later{h}{H a}{w}{x y}(hr:Tm x y H a):(cx X h H w).Later (cx X h a w):={size:=Al _,keep:=λ_ _ _ _=>rfl,own:=λB _ b=>b.imp _root_.id (hr.own B),n:=by simp[cx,hr.1],gen:=λ_ _=>Al _,same:=λ_ _ _=>⟨rfl,rfl⟩}
theorem JT.rel{X:Nat->Prop}{h}{n}(s:JT X h B w)(hr:Tm (cx X h B w) (cx X h n w) B n):JT X h n w:=by
 have y:=hr.own (h:=h);have M:(cx X h B w).Later (cx X h n w):=hr.later;have back:∀{j:Nat}{e:Fw},n[j]?=δ e->e≠.dead->∃N,B[j]?=δ N/\N≠.dead:=by intro j e l ad;rcases hr.2 j e l with a|⟨g,z,C,a,_⟩|⟨a,_⟩;grind;grind;grind
 refine⟨λH p=>⟨(s.out H p).1,λho=>(s.out H p).2 (y H ho)⟩,λj Q C l=>?_,λj L l=>?_,λi j e e' H a c J K O D=>?_,s.bldKeep λj e l p=>?_⟩;rcases hr.2 j _ l with a|⟨g,z,o,a,c,O,D⟩|⟨_,a⟩;cases a;injection c with R S;subst R S;obtain⟨I,W⟩:=s.live j Q z a;refine⟨I,?_⟩;rcases W with⟨k,h0⟩|⟨H,A,T,P,f,k,V,q,Z,G,b⟩;refine .inl ⟨k,?_⟩;grind;refine .inr ⟨H,A,T,P,f,k,V,q,o!,G,λi v' Y=>?_⟩;obtain⟨v,hv,U⟩:=D i v' Y;obtain⟨p1,p2,p3⟩:=b i v hv;exact⟨p1,p2,U _ p3⟩;grind;rcases hr.2 j _ l with a|⟨g,z,o,_,c,_⟩|⟨a,_⟩;cases a;cases c;obtain⟨I,H,r,q1,q2,q3,q4,q5,q6,q7,q8,q9⟩:=s.lp j L a;exact⟨I,H,r,q1,q2,q3,q4,q5,q6,q7,q8,λt v m=>⟨(q9 t v m).1,(q9 t v m).2.later M⟩⟩;obtain⟨d,E,F⟩:=back a J;obtain⟨d',u,x⟩:=back c K;exact s.inj i j _ _ H E u F x O D;refine⟨?_,rfl,rfl,rfl,λ_ _ _ _ _=>rfl⟩;rcases hr.2 j _ l with a|⟨g,z,o,_,c,_⟩|⟨a,_⟩;subst a;cases p;subst c;cases p;exact a
theorem Tm.onto{a}(hr:Tm (cx X h B w) (cx X h B w) B a):Tm (cx X h B w) (cx X h a w) B a:=by have e:(cx X h B w).Later (cx X h a w):=hr.later;refine⟨hr.1,λj k p=>?_⟩;rcases hr.2 j k p with d|⟨g,f,b,d,l,m,n⟩|d;grind;refine .inr (.inl ⟨g,f,b,d,l,m,λi q o=>?_⟩);obtain⟨v,q1,q2⟩:=n i q o;exact⟨v,q1,λc r=>(q2 c r).later e⟩;grind
def W5{env2:Env}{b:Aw}(f:θ b=θ B)(hr:∀X h w,JT X h B w→Tm (cx X h B w) (cx X h b w) B b∧ ∀t c,(t,c)∈env2→ ∃v,(t,v)∈u∧Conv (cx X h B w) (cx X h b w) v c):
  Fa N (θ B) u B env2 b:=by
 refine⟨o!,λX h a w s=>?_⟩;obtain⟨q1,q2⟩:=hr X h w s.sim;refine⟨h,⟨s.sim.rel q1,λt c m=>?_,s.size⟩,λ_ _=>⟨rfl,rfl,rfl⟩,q1.own⟩;obtain⟨v,d,e⟩:=q2 t c m;exact⟨(s.env t v d).1,e _ (s.env t v d).2⟩
def Tm.ext{X:Nat->Prop}{c}{H a b}{d}{y}(hr:Tm x y H b)(e:G1 c a d h H w):G1 c a d h b w where
 os:=e.os
 tape:=e.tape
 output:=e.output
 size:=e.size
 keep:=e.keep
 n:=by rw[hr.1];exact e.n
 gen:=e.gen
 same:=e.same
 fresh B hB:=e.fresh B (hr.own B hB)
 loops:=e.loops
def JS.after{N:Nat}{H:Aw}{v f:Ad}{H1 b:Aw}(h:JS P N o u H (DO v H1))
  (hr:∀X h w,JT X h H1 w->Tm (cx X h H1 w) (cx X h b w) H1 b/\Conv (cx X h H1 w) (cx X h b w) v f):JS P N o u H (DO f b):=by
 intro r X g a w s Q;apply Ww (h r X g a w s Q);rintro n l ⟨c,p,d,m,i,⟨rfl,rfl⟩,j,e,k⟩;obtain⟨q1,q2⟩:=hr X d l e;exact⟨c,_,d,_,i,⟨rfl,rfl⟩,q2 _ j,e.rel q1,Tm.ext (X:=X) q1 k⟩
def JS.before{N}{env2}{H H2:Aw}{K:Ad->Aw->Prop}(b:Fa N (θ H) u H env2 H2)(h:JS P N o env2 H2 K):JS P N o u H K:=by intro r X g a w s Q;obtain⟨f,q,j,l⟩:=b.2 X g a w s;apply Ww (h r X f a w q Q);rintro t x ⟨c,v,e,d,i,k,n,m,p⟩;exact⟨c,v,e,d,i,k,n,m,(Fa.ext rfl b.1 j l (G1.refl g H w)).trans p⟩
def Ek.before{args args2:Ψ Ad}{H H2:Aw}{K:Ad→Aw→Prop}(hn:θ args2=θ args)
  (hr:∀X h w,JT X h H w->Tm (cx X h H w) (cx X h H2 w) H H2/\∀(j:Nat)(b:Ad),args2[j]?=δ b->∃v,args[j]?=δ v/\Conv (cx X h H w) (cx X h H2 w) v b)
  (h:Ek P F args2 H2 K):Ek P F args H K:=by
 intro X g w a s n k;obtain⟨q1,q2⟩:=hr X g w s;refine(h X g w a (s.rel q1) o! λj b c m l=>?_).mono ?_;obtain⟨v,o,d⟩:=q2 j b m;exact d _ (k j v c o l);rintro e t ⟨c,v,i,f,rfl,q,r,p,x⟩;exact⟨c,v,i,f,rfl,q,r,p,(Tm.ext (X:=X) q1 (G1.refl g H w)).trans x⟩
def Xg(v v':Ad):Prop:=∀x c,Bv x v c->Bv x v' c
def Xg.refl(v:Ad):Xg v v:=λ_ _ h=>h
def Xg.nil{sz:Nat}(h:0<sz):Xg .nils (.vs sz []):=λ_ _ r=>r.nil_vs h
def Dp(cs cs':Ψ Ad):Prop:=θ cs'=θ cs/\∀(i:Nat)(v':Ad),cs'[i]?=δ v'->∃v,cs[i]?=δ v/\Xg v v'
theorem Dp.refl(a:Ψ Ad):Dp a a:=⟨rfl,λ_ v h=>⟨v,h,.refl v⟩⟩
theorem Dp.append{e b f}(c:Dp p e)(g:Dp b f):Dp (p++b) (e++f):=by refine⟨by simp[c.1,g.1],λi j h=>?_⟩;rcases A0 i (θ e) with d|d;rw[CY d]at h;obtain⟨v,q1,q2⟩:=c.2 i j h;grind;rw[Cn d]at h;obtain⟨v,q1,q2⟩:=g.2 _ j h;exact⟨v,by rw[Cn (by rw[<-c.1];exact d),<-c.1];exact q1,q2⟩
theorem Dp.one{b}(h:Xg v b):Dp [v] [b]:=⟨rfl,λi u a=>by
 match i,a with
 |0,a=>grind
 |i+1,a=>simp at a⟩
def Dp.agg{b a}(h:Dp b a):Xg (.agg b) (.agg a):=by
 intro x c r;cases r with
 |agg i e hr=>refine .agg (by rw[i,h.1]) e λj k d g f=>?_;obtain⟨v,q1,q2⟩:=h.2 j k g;exact q2 _ _ (hr j v d q1 f)
mutual
def Ty.mk:(t:Ty)->Ψ Bx->Ω (t.D×Ψ Bx)
 |.bool,.bl b::r=>δ (b,r)
 |.int k,.it k' n::r=>if k=k' then δ (n,r)else ε
 |.str,.st s::r=>δ (s,r)
 |.list t,.ls t' l::r=>if h:(Ty.list t').beq (Ty.list t)=ζ then δ (Ty.cast h l,r)else ε
 |.list _,.nil::r=>δ ([],r)
 |.arr n t,.ar n' t' a::r=>if h:(Ty.arr n' t').beq (Ty.arr n t)=ζ then δ (Ty.cast h a,r)else ε
 |.prod ts,ls=>ts.mk ls
 |_,_=>ε
def Ss.mk:(ts:Ss)->Ψ Bx->Ω (ts.D×Ψ Bx)
 |.one t,ls=>t.mk ls
 |.cons t ts,ls=>
  match t.mk ls with
  |some (x,r)=>match ts.mk r with|some (y,r')=>δ ((x,y),r')|none=>ε
  |none=>ε
end
mutual
theorem Ty.mk_spec:∀(t:Ty)b(x:t.D)(r:Ψ Bx),t.mk b=δ (x,r)->∃a,b=a++r/\Dp (lvs a) (t.enc x).cells
 |.bool,b,x,r,h=>by
  cases b with
  |nil=>simp[Ty.mk]at h
  |cons y b=>
   cases y<;>simp only[Ty.mk]at h<;>try (cases h;done)
   simp only[Ar,Eh]at h;obtain⟨rfl,rfl⟩:=h;exact⟨[_],rfl,Dp.refl _⟩
 |.int k,b,x,r,h=>by
  cases b with
  |nil=>simp[Ty.mk]at h
  |cons y b=>
   cases y<;>simp only[Ty.mk]at h<;>try (cases h;done)
   split at h;rename_i f;subst f;simp only[Ar,Eh]at h;obtain⟨rfl,rfl⟩:=h;exact⟨[_],rfl,Dp.refl _⟩;cases h
 |.str,b,x,r,h=>by
  cases b with
  |nil=>simp[Ty.mk]at h
  |cons y b=>
   cases y<;>simp only[Ty.mk]at h<;>try (cases h;done)
   simp only[Ar,Eh]at h;obtain⟨rfl,rfl⟩:=h;exact⟨[_],rfl,Dp.refl _⟩
 |.list t,b,x,r,h=>by
  cases b with
  |nil=>simp[Ty.mk]at h
  |cons y b=>
   cases y<;>simp only[Ty.mk]at h<;>try (cases h;done)
   split at h;rename_i c;simp only[Ar,Eh]at h;obtain⟨rfl,rfl⟩:=h;refine⟨[_],rfl,?_⟩;have d:((Ty.list t).enc (Ty.cast c ‹_›))=_:=eO c _;rw[d];exact Dp.refl _;cases h;simp only[Ar,Eh]at h;obtain⟨rfl,rfl⟩:=h;exact⟨[_],rfl,Dp.one (Xg.nil t.sz_pos)⟩
 |.arr n t,b,x,r,h=>by
  cases b with
  |nil=>simp[Ty.mk]at h
  |cons y b=>
   cases y<;>simp only[Ty.mk]at h<;>try (cases h;done)
   split at h;rename_i c;simp only[Ar,Eh]at h;obtain⟨rfl,rfl⟩:=h;refine⟨[_],rfl,?_⟩;have d:((Ty.arr n t).enc (Ty.cast c ‹_›))=_:=eO c _;rw[d];have e:∀y:Bx,lvs [y]=y.enc:=λy=>by rw[IA];simp[lvs]
   rw[e];exact Dp.refl _;cases h
 |.prod ts,b,x,r,h=>ts.mk_spec b x r (by simpa only[Ty.mk]using h)
theorem Ss.mk_spec:∀(d:Ss)c(x:d.D)(r:Ψ Bx),d.mk c=δ (x,r)->∃a,c=a++r/\Dp (lvs a) (d.cells x)
 |.one t,c,x,r,h=>t.mk_spec c x r (by simpa only[Ss.mk]using h)
 |.cons t d,c,x,r,h=>by simp only[Ss.mk]at h;split at h;rename_i y e f;split at h;rename_i z k g;simp only[Ar,Eh]at h;obtain⟨rfl,rfl⟩:=h;obtain⟨a,rfl,i⟩:=t.mk_spec c y e f;obtain⟨b,rfl,j⟩:=d.mk_spec e z k g;exact⟨a++b,by rw[A3],by rw[G9];exact i.append j⟩;cases h;cases h
end
def Ty.isAgg:Ty->Bool
 |.arr .. =>ζ
 |.prod _=>ζ
 |_=>η
def Ty.all(t:Ty)(ls:Ψ Bx):Ω t.D:=
 match t.mk ls with
 |some (x,[])=>δ x
 |_=>ε
theorem F3{x:t.D}(h:t.all g=δ x):Dp (Go.Ab.lvs g) (t.enc x).cells:=by unfold Ty.all at h;split at h;rename_i y c;obtain⟨a,rfl,d⟩:=t.mk_spec g y [] c;grind;cases h
def Ty.data(t:Ty)(v:TV):Ω t.D:=
 match v with
 |.c x=>match t.isAgg|| !x.scalar with|true=>ε|false=>t.all [x]
 |.g cs=>match t.isAgg with|true=>t.all cs|false=>ε
 |_=>ε
def Ty.scalar_cells(h:t.isAgg=η)(x:t.D):(t.enc x).cells=[t.enc x]:=by cases t<;>first|rfl|cases h
def Ty.agg_enc(h:t.isAgg=ζ)(x:t.D):t.enc x=.agg (t.enc x).cells:=by cases t<;>first|rfl|cases h
def Mz{v}{x:t.D}(h:t.data v=δ x):Xg v.enc (t.enc x):=by unfold Ty.data at h;split at h;rename_i y;split at h;cases h;rename_i a;simp at a;have:=F3 h;rw[t.scalar_cells a.1,IA,My a.2]at this;obtain⟨u,b,c⟩:=this.2 0 _ rfl;simp at b;subst b;exact c;rename_i d;split at h;rename_i a;have:=(F3 h).agg;rw[<-t.agg_enc a]at this;exact this;cases h;cases h
def Ty.tv(t:Ty)(x:t.D):TV:=
 match t,x with
 |.bool,b=>.c (.bl b)
 |.int k,n=>.c (.it k n)
 |.str,s=>.c (.st s)
 |.list t,l=>.c (.ls t l)
 |.arr n t,a=>.g [.ar n t a]
 |.prod ts,x=>.g (ts.lvs x)
def Ty.tv_enc(t:Ty)(x:t.D):(t.tv x).enc=t.enc x:=by
 cases t with
 |arr n t=>
  have a:∀y:Bx,Go.Ab.lvs [y]=y.enc:=λy=>by rw[IA];simp[Go.Ab.lvs]
  simp only[Ty.tv,TV.enc,a];rfl
 |prod b=>simp only[Ty.tv,TV.enc,b.lvs_cells];rfl
 |_=>rfl
def Ty.tv_ok(t:Ty)(x:t.D):(t.tv x).ok c:=by
 cases t with
 |prod a=>exact a.lvs_ok x
 |_=>exact Jw trivial
def Dx.ro:Dx->Bool
 |.dead=>η
 |.live b _=>b
 |.buf b _ _ _ _=>b
 |.lp b _ _ _ _ _ _ _=>b
 |.mp b _ _ _=>b
def Dx.isLp:Dx->Bool
 |.lp .. =>ζ
 |_=>η
def LpS(H H':As):Prop:=∀(id:Nat),id<θ H->∀ro F n env ps a b s,H'[id]?=δ (.lp ro F n env ps a b s)->∃ro0 s0,H[id]?=δ (.lp ro0 F n env ps a b s0)
def LpS.refl(H:As):LpS H H:=λ_ _ _ _ _ _ _ _ _ _ h=>⟨_,_,h⟩
def Dx.lock:Dx->Dx
 |.dead=>.dead
 |.live _ cs=>.live ζ cs
 |.buf _ t l n ver=>.buf ζ t l n ver
 |.lp _ F n env ps a b s=>.lp ζ F n env ps a b s
 |.mp _ k t es=>.mp ζ k t es
theorem ph(e:Dx):e.lock.enc=e.enc:=by cases e<;>rfl
structure CE(H H':As):Prop where
 len:H.length<=H'.length
 refs:∀id ver t n,TZ H id ver t n->TZ H' id ver t n
 ro:∀(id:Nat)(e:Dx),H[id]?=some e->e.ro=true->H'[id]?=some e
 nb:∀id,id<H.length->(∀t l n ver,H[id]? ≠some (.buf false t l n ver))->∀t l n ver,H'[id]? ≠some (.buf false t l n ver)
 lp:LpS H H'
theorem CE.refl(H:As):CE H H:=⟨Al _,λ_ _ _ _ h=>h,λ_ _ h _=>h,λ_ _ h=>h,.refl H⟩
def CE.trans{a b c}(h:CE a b)(k:CE b c):CE a c:=⟨Cl h.len k.len,λid d t n q=>k.refs id d t n (h.refs id d t n q),λid e q r=>k.ro id e (h.ro id e q r) r,λid q r=>k.nb id (DH q h.len) (h.nb id q r),λid q _ _ _ _ _ _ _ _ r=>by obtain⟨g,i,f⟩:=k.lp id (DH q h.len) _ _ _ _ _ _ _ _ r;exact h.lp id q _ _ _ _ _ _ _ _ f⟩
def CE.leaf(h:CE c M)(k:E.ok c):E.ok M:=by
 cases E with
 |own id a t n=>exact h.refs id a t n k
 |_=>trivial
def CE.lok(h:CE c M)(k:lok c g):lok M g:=λx H=>h.leaf (k x H)
def CE.tv(h:CE c M)(k:i.ok c):i.ok M:=h.lok k
def CE.ent(h:CE c M)(k:O.ok c):O.ok M:=by
 cases O with
 |live b d=>exact h.lok k
 |buf b t l n H=>exact k
 |dead=>trivial
 |lp=>exact k
 |mp=>exact k
def CE.env{H a}(h:CE H a){env:Bj}(k:∀p∈env,p.2.ok H):∀p∈env,p.2.ok a:=λp b=>h.tv (k p b)
theorem CE.push(H:As)(e:Dx):CE H (H++[e]):=by refine⟨q!,λid g t n h=>⟨by have:=h.1;simp;omega,λro f l d a b=>?_⟩,λid i b hr=>?_,λid c h=>k!,λid c _ _ _ _ _ _ _ _ h=>k!⟩;rw[CY h.1]at b;exact h.2 ro f l d a b;grind
def CE.set{H:As}{id:Nat}{r:Dx}(o:H[id]?=δ O)(hr:O.ro=η)
  (y:∀ro t l n k,r=.buf ro t l n k->∃d v p f,O=.buf d t v p f/\(f<k\/(f=k/\p=n)))
  (B:∀ro F n env z a b s,r=.lp ro F n env z a b s->∃d w,O=.lp d F n env z a b w:=by intro _ _ _ _ _ _ _ _ h;cases h):CE H (H.set id r):=by
 have m:id<θ H:=by rcases A0 id (θ H) with u|u;exact u;rw[Ct u]at o;cases o
 refine⟨q!,λj k t n h=>⟨by simpa using h.1,λro I l G A g=>?_⟩,λj E g x=>?_,λj g h t l n k i=>?_,λj g _ _ _ _ _ _ _ _ i=>?_⟩;by_cases c:j=id;subst c;rw[HE m]at g;injection g with g;obtain⟨d,v,p,f,q1,q2⟩:=y _ _ _ _ _ g;subst q1;obtain⟨C,D⟩:=h.2 _ _ _ _ _ o;rcases q2 with q2|⟨rfl,rfl⟩;exact⟨o!,λO=>o!⟩;exact⟨C,D⟩;rw[Dd (c ·.symm)]at g;exact h.2 _ _ _ _ _ g;have c:j≠id:=by rintro rfl;rw[o]at g;injection g with g;subst g;rw[hr]at x;cases x
 rw[Dd (c ·.symm)];exact g;by_cases c:j=id;subst c;rw[HE m]at i;injection i with i;obtain⟨d,v,p,f,q1,_⟩:=y _ _ _ _ _ i;subst q1;have:d=η:=hr;subst this;exact h _ _ _ _ o;rw[Dd (c ·.symm)]at i;exact h _ _ _ _ i;by_cases c:j=id;subst c;rw[HE m]at i;injection i with i;obtain⟨d,w,q⟩:=B _ _ _ _ _ _ _ _ i;exact⟨d,w,by rw[o,q]⟩;rw[Dd (c ·.symm)]at i;exact⟨_,_,i⟩
theorem O5{H:As}(h:∀x∈H,x.ok H)(b:O.ok (H++[O])):∀x∈H++[O],x.ok (H++[O]):=by intro x a;rcases Ak.1 a with a|a;exact(CE.push H O).ent (h x a);grind
def R0{H}{id}(d:CE H (H.set id O))(h:∀x∈H,x.ok H)(c:O.ok (H.set id O)):∀x∈H.set id O,x.ok (H.set id O):=by intro x b;rcases Q9 b with b|rfl;exact d.ent (h x b);exact c
def Frame(F:Ψ Nat)(H H':As):Prop:=∀j,j<θ H->j∉F->H'[j]?=H[j]?
def Frame.refl(F:Ψ Nat)(H:As):Frame F H H:=λ_ _ _=>rfl
def Frame.push(F:Ψ Nat)(H:As)(e:Dx):Frame F H (H++[e]):=λ_ a _=>CY a
theorem Frame.set{F:Ψ Nat}{H}{id:Nat}(h:id∈F):Frame F H (H.set id O):=λj _ hn=>Dd λq:id=j=>hn k!
def idT:TV->Ψ Nat
 |.c (.raw a)=>qz a
 |.c (.own id _ _ _)=>[id]
 |.aptr id .. =>[id]
 |.bptr id .. =>[id]
 |.vw id .. =>[id]
 |_=>[]
def AHG(v:TV):∀id∈qz v.enc,id∈idT v:=by
 cases v with
 |c x=>
  cases x with
  |_=>exact λ_ h=>h
 |vw id a t n b m=>intro i h;simp only[TV.enc,vwE]at h;split at h;split at h;exact h;cases h;exact h
 |_=>exact λ_ h=>h
def QN(H:As)(e:Dx):BL (H++[e])=BL H++[e.enc]:=by simp[BL]
theorem LU(H:As)(id:Nat)(e:Dx):BL (H.set id e)=(BL H).set id e.enc:=by simp[BL]
theorem Cb(H:As):(BL H).length=θ H:=BT _
section
variable {R:Type}
def storeT(P:Program)(H:As)(t:TypeId)(p v:TV)(k:TV->As->Ω R):Ω R:=
 match v.words,tI P t with
 |some ws,δ (_,n)=>
  match ξ (AGF ws) n with
  |false=>ε
  |true=>
   match p with
   |.c (.raw (.ptr id 0 off))=>
    match H[id]? with
    |some (.live η cs)=>match ADp cs off ws n with|some cs'=>k Vx (H.set id (.live η cs'))|none=>ε
    |_=>ε
   |.aptr id base m te i off=>
    match H[id]? with
    |some (.live η cs)=>
     match X1 cs base with
     |some (pre,.ar m' te' a::post)=>
      if h:(Ty.arr m' te').beq (Ty.arr m te)=ζ then
       (G2 (n:=m+1) (Ty.cast h a) i).bind λe=>
        match ADp (te.lvs e) off ws n with
        |some ls=>match te.all ls with|some e'=>k Vx (H.set id (.live η (pre++(.ar m te (Xi (n:=m+1) (Ty.cast h a) i e')::post))))|none=>ε
        |none=>ε
      else ε
     |_=>ε
    |_=>ε
   |.bptr id ver te _ i off=>
    match H[id]? with
    |some (.buf η te' l n' ver')=>
     match ξ ver ver' with
     |true=>
      if h:(Ty.list te').beq (Ty.list te)=ζ then
       (ix (α:=te.D) (Ty.cast h l) i).bind λe=>
        match ADp (te.lvs e) off ws n with
        |some ls=>match te.all ls with|some e'=>k Vx (H.set id (.buf η te (EU (α:=te.D) (Ty.cast h l) i e') n' ver'))|none=>ε
        |none=>ε
      else ε
     |false=>ε
    |_=>ε
   |_=>ε
 |_,_=>ε
theorem AAU{x b d:Ψ Ad}(h:N+θ d<=θ x):XZ (p++x++b) (θ p+N) d=p++XZ x N d++b:=by
 unfold XZ;have e:(p++x++b).take (θ p+N)=p++x.take N:=by rw[A3,fj,BM o!,Tr,Yq o!]
 have f:(p++x++b).drop (θ p+N+θ d)=x.drop (N+θ d)++b:=by grind[List.drop_drop,List.drop_left]
 grind
theorem Tm.set_less{y}{H m n:Aw}{f cs':Ψ Ad}(k:N<θ H)(s:m=H.set N (.live Y f))(t:n=H.set N (.live Y cs'))(o:Dp f cs')(d:x.Later y):Tm x y m n:=by
 subst s t;refine⟨q!,λj p a=>?_⟩;by_cases b:j=N;subst b;rw[HE k]at a;injection a with a;subst a;refine .inr (.inl ⟨Y,f,cs',k!,rfl,o.1,λi l h=>?_⟩);obtain⟨v,q1,q2⟩:=o.2 i l h;exact⟨v,q1,λc r=>q2 _ _ (r.later d)⟩;rw[Dd (b ·.symm)]at a;cases p with
 |live q c0=>exact .inr (.inl ⟨q,c0,c0,k!,rfl,rfl,λi l h=>⟨l,h,λc r=>r.later d⟩⟩)
 |_=>grind
theorem jB{b:Aw}(l:θ b=θ B)(i:∀(j:Nat)(e:Fw),b[j]?=δ e->e≠.dead->∃a,B[j]?=δ a/\a≠.dead):(cx X h B w).Later (cx X h b w):={size:=Al _,keep:=λ_ _ _ _=>rfl,gen:=λ_ _=>Al _,same:=λ_ _ _=>⟨rfl,rfl⟩,n:=by simp[cx,l],own:=λH _ m=>m.imp _root_.id (λ⟨j,e,k,d,c⟩=>by obtain⟨a,f,g⟩:=i j e k d;exact⟨j,a,f,g,c⟩)}
theorem JS.set_less{N}{b cs':Ψ Ad}(d:n<θ B)(h:JS P N o u B (DO v (B.set n (.live Y b))))(f:Dp b cs'):JS P N o u B (DO v (B.set n (.live Y cs'))):=by
 refine JS.after h λX e w _=>?_;have a:(cx X e (B.set n (.live Y b)) w).Later (cx X e (B.set n (.live Y cs')) w):=by grind[jB]
 exact⟨Tm.set_less d rfl rfl f a,λc r=>r.later a⟩
theorem HO{l:Ψ R}{x:R}(h:l[N]?=δ x):N<θ l:=k!
variable {P:Program}{N:Nat}{o:Oper}{env:Bj}{H:As}{k:TV->As->Ω R}{r:R}
def nY(P:Program)(N:Nat)(o:Oper)(env:Bj)(H:As)(F:Ψ Nat)(k:TV->As->Ω R)(r:R):Prop:=
 ∃v H',JS P N o (B3 env) (BL H) (DO v.enc (BL H'))/\k v H'=δ r/\v.ok H'/\(∀e∈H',e.ok H')/\CE H H'/\Frame F H H'
theorem yk(ok:OO env H)(ho:o.op=.store b e y)(h:storeT P H b (Jx env e) (Jx env y) k=δ r):nY P N o env H (idT (Jx env e)) k r:=by
 have V:=Lu env;have a1:(Jx env y).ok H:=iD ok.env y;have ao:(Jx env e).ok H:=iD ok.env e;unfold storeT at h;split at h;rename_i ws t n hw ht;obtain⟨w1,Y,w3⟩:=Zj hw;split at h;cases h;rename_i hn;have f:(lvs ws).length=n:=by grind[fa,Nat.eq_of_beq_eq_true]
 have R:tI P b=δ (t,(Jx env y).enc.cells.length):=k!
 split at h;rename_i id d F;split at h;rename_i cs u;split at h;rename_i L hs;obtain⟨s1,s2,s3⟩:=mj hs f;have B:(BL H)[id]?=δ (.live 0 (lvs cs)):=by rw[EM,u];rfl
 have j:CE H (H.set id (.live η L)):=CE.set u rfl λ_ _ _ _ _ h=>by cases h
 refine⟨Vx,_,JS.store ho (id:=id) (g:=0) (off:=d) (v:=(Jx env y).enc) (by rw[V,F];rfl) (V y) w1 B R (by rw[Y,f];exact s2) ⟨rfl,?_⟩,h,jM,R0 j ok.heap (j.lok (s3 H (ok.heap _ (BO u)) (w3 H a1))),j,Frame.set (by rw[F];exact A5.2 rfl)⟩;rw[LU,Y,<-s1];rfl;cases h;cases h;rename_i id w m te i d F;split at h;rename_i cs u;split at h;rename_i pre W c a p hs;split at h;rename_i hb;have T:=Ty.beq_eq _ _ hb;injection T with hm S;subst hm S;obtain⟨x,hg,h⟩:=DM.1 h;split at h;rename_i ls Q;split at h;rename_i M A;obtain⟨ad,I⟩:=PC hs;obtain⟨s1,s2,_⟩:=mj Q f;have s:=F3 A;have q:(Ty.cast hb a:GK (W+1) c.D)=a:=rfl;rw[q]at hg h;obtain⟨h0,G,rfl,rfl⟩:=qD hg;obtain⟨J,Z,q1,q2,q3⟩:=uF c.E a G;have B:(BL H)[id]?=δ (.live 0 (lvs pre++J++(c.enc (a G)).cells++(Z++lvs p))):=by rw[EM,u,ad];show δ (Fw.live 0 (lvs (pre++(.ar W c a::p))))=_;rw[G9,IA,dD,q1];simp only[A3];rfl
 have j:CE H (H.set id (.live η (pre++(.ar W c (Xi (n:=W+1) a (G.val:Int) M)::p)))):=CE.set u rfl λ_ _ _ _ _ h=>by cases h
 have al:lok H cs:=ok.heap _ (BO u);rw[ad]at al;obtain⟨o1,o2⟩:=Je.1 al;refine⟨Vx,_,?_,h,jM,R0 j ok.heap (j.lok (Je.2 ⟨o1,λz hz=>?_⟩)),j,Frame.set (by rw[F];exact A5.2 rfl)⟩;have C:d+(lvs ws).length<=(c.enc (a G)).cells.length:=by rw[f,<-c.lvs_enc];exact s2
 have st:=JS.store (P:=P) (N:=N) (K:=DO .any ((BL H).set id (.live 0 (XZ (lvs pre++J++(c.enc (a G)).cells++(Z++lvs p)) (w+(G.val:Int).toNat*c.sz+d) (Jx env y).enc.cells)))) ho (id:=id) (g:=0)
  (off:=w+(G.val:Int).toNat*c.sz+d) (v:=(Jx env y).enc) (by rw[V,F];rfl) (V y) w1 B R (by rw[Y,f];simp only[Aa,q2,I];have:c.E.sz=c.sz:=rfl;rw[f]at C;simp only[CR,this];omega) ⟨rfl,rfl⟩
 have ea:w+(G.val:Int).toNat*c.sz+d=(lvs pre++J).length+d:=by rw[Aa,I,q2,CR];rfl
 rw[Y,ea,AAU C]at st;have O:=JS.set_less (cs':=lvs (pre++(.ar W c (Xi (n:=W+1) a (G.val:Int) M)::p))) (by rw[Cb];exact HO u) st (by rw[G9,IA,dD,q3 M];simp only[A3];refine(Dp.refl _).append ((Dp.refl _).append (Dp.append ?_ (Dp.refl _)));rw[<-c.lvs_enc,<-s1];exact s);rw[LU];exact O;rcases Av.1 hz with rfl|hz;trivial;exact o2 z (by simp[hz]);cases h;cases h;cases h;cases h;cases h;rename_i id U te nn i d F;split at h;rename_i c l X a2 u;split at h;rename_i hv;have a0:=DB hv;subst a0;split at h;rename_i hb;have T:=Ty.beq_eq _ _ hb;injection T with S;subst S;obtain⟨x,hg,h⟩:=DM.1 h;split at h;rename_i ls Q;split at h;rename_i M A;obtain⟨s1,s2,_⟩:=mj Q f;have s:=F3 A;have q:(Ty.cast hb l:Ψ c.D)=l:=rfl;rw[q]at hg h;obtain⟨J,Z,q1,q2,q3,q4,_,q5⟩:=uP c.E hg;have hr:TZ H id U c nn:=by rw[F]at ao;exact ao (.own id U c nn) (by simp[TV.refs])
 obtain⟨_,ax⟩:=hr.2 _ _ _ _ _ u;obtain⟨_,rfl⟩:=ax rfl;have ap:X=θ l:=ok.heap _ (BO u);have B:(BL H)[id]?=δ (.live X (J++(c.enc x).cells++Z)):=by rw[EM,u];show δ (Fw.live X (c.E.cl l))=_;rw[q1];rfl
 have j:CE H (H.set id (.buf η c (EU l i M) X U)):=CE.set u rfl λ_ _ _ _ _ h=>by cases h;exact⟨_,_,_,_,rfl,.inr ⟨rfl,rfl⟩⟩
 refine⟨Vx,_,?_,h,jM,R0 j ok.heap ((pj ap.symm).symm),j,Frame.set (by rw[F];exact A5.2 rfl)⟩;have C:d+(lvs ws).length<=(c.enc x).cells.length:=by rw[f,<-c.lvs_enc];exact s2
 have st:=JS.store (P:=P) (N:=N) (K:=DO .any ((BL H).set id (.live X (XZ (J++(c.enc x).cells++Z) (i.toNat*c.sz+d) (Jx env y).enc.cells)))) ho (id:=id) (g:=X)
  (off:=i.toNat*c.sz+d) (v:=(Jx env y).enc) (by rw[V,F];rfl) (V y) w1 B R (by rw[Y,f];simp only[Aa,q2];have:c.E.sz=c.sz:=rfl;rw[f]at C;rw[this];omega) ⟨rfl,rfl⟩
 have ea:i.toNat*c.sz+d=θ J+d:=by rw[q2];rfl
 rw[Y,ea,AAU C]at st;have O:=JS.set_less (cs':=c.E.cl (EU l i M)) (by rw[Cb];exact HO u) st (by unfold EU;rw[q5 M];refine Dp.append (Dp.append (Dp.refl _) ?_) (Dp.refl _);rw[<-c.lvs_enc,<-s1];exact s);rw[LU];exact O;cases h;cases h;cases h;cases h;cases h;cases h;cases h
end
section
variable {R:Type}
def AAr(P:Program)(H:As)(t:TypeId)(k:TV->As->Ω R):Ω R:=
 match vj P t with
 |some z=>k (.c (.raw (.ptr (θ H) 0 0))) (H++[.live η z])
 |none=>ε
def AGk(H:As)(v:TV)(k:TV->As->Ω R):Ω R:=
 match v.words with
 |some ws=>k (.c (.raw (.ptr (θ H) 0 0))) (H++[.live η ws])
 |none=>ε
def nP(t:Ty):Ψ TV->Ω (Ψ t.D)
 |[]=>δ []
 |v::r=>match t.data v,nP t r with|some x,δ xs=>δ (x::xs)|_,_=>ε
def elT(P:Program)(t:TypeId):Ω Ty:=
 match eI P t with
 |some (ε,e,sz)=>
  match ABx P 1000 e with
  |some te=>if sz=te.sz/\Qh P e=ζ then δ te else ε
  |none=>ε
 |_=>ε
def jG(len:Nat)(te:Ty)(parts:Array (Nat×Operand))(vs:Ψ TV):Bool:=
 τ (parts.toList.map (·.1)=List.range len)&&(vs.all λv=>match v.words with|some ws=>ξ (AGF ws) te.sz|none=>η)&&Nat.ble len 4096&&Nat.ble te.sz 4096
def aL(P:Program)(env:Bj)(H:As)(t:TypeId)(len:Nat)(parts:Array (Nat×Operand))(k:TV->As->Ω R):Ω R:=
 match elT P t with
 |some te=>
  match jG len te parts (parts.toList.map λp=>Jx env p.2)with
  |true=>match nP te (parts.toList.map λp=>Jx env p.2)with|some xs=>k (.c (.own (θ H) 0 te (θ xs))) (H++[.buf η te xs (θ xs) 0])|none=>ε
  |false=>ε
 |none=>ε
def rq(P:Program)(env:Bj)(t:TypeId)(len:Nat)(parts:Array (Nat×Operand))(k:TV->Ω R):Ω R:=
 match elT P t with
 |some te=>
  match jG len te parts (parts.toList.map λp=>Jx env p.2)with
  |true=>match nP te (parts.toList.map λp=>Jx env p.2)with|some xs=>k (.c (.ls te xs))|none=>ε
  |false=>ε
 |none=>ε
def jC(P:Program)(H:As)(t:TypeId)(x y:TV)(k:TV->As->Ω R):Ω R:=
 match eI P t,x,y with
 |some (ε,e,_),.c (.it _ l),.c (.it _ c)=>
  match elT P t,vj P e with
  |some te,δ z=>match te.all z with|some zd=>(mk zd l c).bind λr=>k (.c (.own (θ H) 0 te (θ r))) (H++[.buf η te r (θ r) 0])|none=>ε
  |_,_=>ε
 |_,_,_=>ε
def vd(P:Program)(H:As)(src dst:TypeId)(x:TV)(k:TV->As->Ω R):Ω R:=
 match P.underlying src,P.underlying dst,x with
 |some _,δ (.slice e),.c (.st s)=>
  match P.underlying e with
  |some (.int .u8)=>k (.c (.own (θ H) 0 (.int .u8) (Tl s).length)) (H++[.buf η (.int .u8) (Tl s) (Tl s).length 0])
  |_=>ε
 |_,_,_=>ε
def AFp(H:As)(te:Ty)(v:TV):Ω (Ψ te.D):=
 match v with
 |.c (.ls te' l)=>if h:(Ty.list te').beq (Ty.list te)=ζ then δ (Ty.cast h l)else ε
 |.c (.own id ver te' _)=>if h:(Ty.list te').beq (Ty.list te)=ζ then(match Yw H id ver te' with|some l=>δ (Ty.cast (t:=.list te') (t':=.list te) h l)|none=>ε)else ε
 |.vw id ver te' _ lo m=>if h:(Ty.list te').beq (Ty.list te)=ζ then(match Yw H id ver te' with|some l=>δ (Ty.cast (t:=.list te') (t':=.list te) h ((l.drop lo).take m))|none=>ε)else ε
 |.c .nil=>δ []
 |_=>ε
def tK(P:Program)(H:As)(t:TypeId)(s x:TV)(k:TV->As->Ω R):Ω R:=
 match elT P t with
 |some te=>
  match AFp H te x with
  |some xs=>
   match s with
   |.c .nil=>(app [] xs).bind λr=>k (.c (.own (θ H) 0 te (θ r))) (H++[.buf η te r (θ r) 0])
   |.c (.own id ver te' _)=>
    match H[id]? with
    |some (.buf η t2 l _ ver')=>
     match ξ ver ver' with
     |true=>
      if h:(Ty.list t2).beq (Ty.list te)=ζ/\(Ty.list te').beq (Ty.list te)=ζ then
       (app (α:=te.D) (Ty.cast h.1 l) xs).bind λr=>k (.c (.own id (ver+1) te (θ r))) (H.set id (.buf η te r (θ r) (ver+1)))
      else ε
     |false=>ε
    |_=>ε
   |.vx te' l=>
    if h:(Ty.list te').beq (Ty.list te)=ζ then
     (app (α:=te.D) (Ty.cast h l) xs).bind λr=>bif ξ (θ xs) 0 then k (.c (.ls te r)) H else k (.c (.own (θ H) 0 te (θ r))) (H++[.buf η te r (θ r) 0])
    else ε
   |_=>ε
  |none=>ε
 |none=>ε
variable {P:Program}{N:Nat}{o:Oper}{env:Bj}{H:As}{k:TV->As->Ω R}{r:R}
theorem rQ{H:As}{l:Ψ t.D}:(TV.c (.own (θ H) N t (θ l))).ok (H++[.buf D t l (θ l) N]):=by refine Jw ⟨q!,λd h f g b e=>?_⟩;grind
def po(H:As)(b:Ty)(n a:Nat):(TV.c (.own (θ H) a b n)).enc=.sl (BL H).length n b.sz 0 n:=by rw[Cb];rfl
def xf(ok:OO env H)(t:o.op=.alloc b)(h:AAr P H b k=δ r):nY P N o env H [] k r:=by
 unfold AAr at h;split at h;rename_i z d;obtain⟨e,f⟩:=Zl d;refine⟨_,_,?_,h,Jw trivial,O5 ok.heap (f _),CE.push _ _,Frame.push _ _ _⟩;have a:(TV.c (.raw (.ptr (θ H) 0 0))).enc=.ptr (BL H).length 0 0:=by rw[Cb];rfl
 rw[a,QN];exact JS.alloc t e ⟨rfl,rfl⟩;cases h
def AAy(ok:OO env H)(t:o.op=.box b e)(h:AGk H (Jx env e) k=δ r):nY P N o env H [] k r:=by
 unfold AGk at h;split at h;rename_i i d;obtain⟨x,f,g⟩:=Zj d;refine⟨_,_,?_,h,Jw trivial,O5 ok.heap ((CE.push _ _).lok (g H (iD ok.env e))),CE.push _ _,Frame.push _ _ _⟩;have a:(TV.c (.raw (.ptr (θ H) 0 0))).enc=.ptr (BL H).length 0 0:=by rw[Cb];rfl
 rw[a,QN];exact JS.box t (Lu env e) x ⟨rfl,by rw[f];rfl⟩;cases h
def oE{t:Ty}:∀{b}{a:Ψ t.D},nP t b=δ a->Dp (b.map TV.enc) (a.map t.enc)
 |[],a,h=>by simp only[nP,Ar]at h;subst h;exact Dp.refl _
 |v::r,a,h=>by simp only[nP]at h;split at h;rename_i x e c d;injection h with h;subst h;have:=oE d;exact(Dp.one (Mz c)).append this;cases h
def kw{t:Ty}:∀{e}{b:Ψ t.D},nP t e=δ b->Dp ((e.map TV.enc).flatMap Ad.cells) (t.E.cl b)
 |[],b,h=>by simp only[nP,Ar]at h;subst h;exact Dp.refl _
 |v::r,b,h=>by simp only[nP]at h;split at h;rename_i x k a g;injection h with h;subst h;have i:=kw g;refine Dp.append ?_ i;unfold Ty.data at a;split at a;rename_i y;split at a;cases a;rename_i d;simp at d;have c:=F3 a;rw[IA,My d.2,<-Bx.scalar_cells d.2]at c;have f:lvs ([]:Ψ Bx)=[]:=rfl;rw[f,Dc]at c;exact c;rename_i j;split at a;exact F3 a;cases a;cases a;cases h
theorem kz(h:elT P b=δ t):∃e,eI P b=δ (ε,e,t.sz)/\Qh P e=ζ:=by grind[elT]
theorem vO{a}(h:elT P b=δ t)(c:jG N t a (a.toList.map λp=>Jx env p.2)=ζ):
  Tb P (B3 env) b N a=δ (t.sz,(a.toList.map λp=>Jx env p.2).map TV.enc):=by
 obtain⟨e,k,l⟩:=kz h;unfold jG at c;simp only[Ba,K!]at c;obtain⟨⟨⟨f,g⟩,i⟩,j⟩:=c;have d:(a.toList.map λp=>BR (B3 env) p.2)=(a.toList.map λp=>Jx env p.2).map TV.enc:=by grind[List.map_congr_left,Lu]
 unfold Tb;simp only[k,d];refine C! ⟨t.sz_pos,l,f,?_,PO i,PO j⟩;rw[GL];intro v n;obtain⟨u,m,rfl⟩:=Bs.1 n;have:=GL.1 g u m;split at this<;>simp_all[Zj,fa]
theorem ADI{b:Ψ t.D}(h:nP t s=δ b):θ b=θ s:=by have:=(oE h).1;grind
theorem Tm.push_less{y}{H:Aw}{a}(n:Dp p a)(d:x.Later y):Tm x y (H++[.live N p]) (H++[.live N a]):=by
 refine⟨q!,λj o e=>?_⟩;rcases A0 j (θ H) with b|b;rw[CY b]at e;cases o with
 |live g c0=>exact .inr (.inl ⟨g,c0,c0,k!,rfl,rfl,λi m h=>⟨m,h,λc r=>r.later d⟩⟩)
 |_=>grind
 have k:=HO e;simp at k;have l:j=θ H:=o!
 subst l;simp at e;subst e;refine .inr (.inl ⟨N,p,a,q!,rfl,n.1,λi m h=>?_⟩);obtain⟨v,q1,q2⟩:=n.2 i m h;exact⟨v,q1,λc r=>q2 _ _ (r.later d)⟩
theorem JS.push_less{a}(h:JS P N o u B (DO v (B++[.live n p])))(i:Dp p a):JS P N o u B (DO v (B++[.live n a])):=by
 refine JS.after h λX f w _=>?_;have b:(cx X f (B++[.live n p]) w).Later (cx X f (B++[.live n a]) w):=by refine jB q! λj e l k=>?_;grind
 exact⟨Tm.push_less i b,λc r=>r.later b⟩
def oi{a:Array (Nat×Operand)}(ok:OO env H)(f:o.op=.buildSlice b n a)(h:aL P env H b n a k=δ r):nY P N o env H [] k r:=by unfold aL at h;split at h;rename_i i d;split at h;rename_i g;split at h;rename_i j c;have e:=vO d g;have t:=ADI c;refine⟨_,_,?_,h,rQ,O5 ok.heap rfl,CE.push _ _,Frame.push _ _ _⟩;rw[po,QN];have:=UX (N:=N) (H:=BL H) (K:=DO _ _) f e ⟨rfl,rfl⟩;rw[BT,<-t]at this;exact JS.push_less this (kw c);cases h;cases h;cases h
theorem AH4{a:Ty}{vs:List Ad}{l:List a.D}(h:Dp vs (l.map a.enc))(I:Dp (vs.flatMap Ad.cells) (a.E.cl l))(z: ∀v∈vs,v.cells.length=a.sz):Xg (.vs a.sz vs) (.vs a.sz (l.map a.enc)):=by
 intro x c L;cases L with
 |vs f t o w C p=>
  have hn:(l.map a.enc).length=vs.length:=h.1;rw[<-hn];have key: ∀(j:Nat) (e:Ad) (i:Nat) (v:Ad),(l.map a.enc)[j]? =some e->e.cells[i]? =some v-> ∃b k,vs[j]? =some b/\b.cells[i]? =some k/\Xg k v:=by
   intro j e i v d m;obtain⟨b,q1,_⟩:=h.2 j e d;have g: ∀u∈l.map a.enc,u.cells.length=a.sz:=λu J=>by obtain⟨y,_,rfl⟩:=Bs.1 J;exact a.enc_len y
   have A:=pK g j e i v d m;obtain⟨k,r,s⟩:=I.2 _ v A;have H:i<a.sz:=by grind
   have F:=z b (BO q1);have G:b.cells[i]? =some (b.cells[i]'(by omega)):=Au (by omega);have M:=pK z j b i _ q1 G;grind
  refine Bv.vs f (by grind) o (λj e d=>?_) (λn=>?_) λj e i v d m=>?_
  ·obtain⟨y,_,rfl⟩:=Bs.1 (BO d);exact a.enc_len y
  ·obtain⟨B,q,q1,q2,q3,q4⟩:=C (λe=>n (D8 (by grind)));refine⟨B,q,q1,q2,q3,λj e i v d m=>?_⟩;obtain⟨b,k,r,s,_⟩:=key j e i v d m;grind
  ·obtain⟨b,k,r,s,K⟩:=key j e i v d m;exact K _ _ (p j b i k r s)
def rI(ok:OO env H)(s:o.op=.makeSlice b e y)(h:jC P H b (Jx env e) (Jx env y) k=δ r):nY P N o env H [] k r:=by
 have i:=Lu env;unfold jC at h;split at h;rename_i x sz Q l O c j v w;split at h;rename_i t z d A;split at h;rename_i L f;obtain⟨I,q,h⟩:=DM.1 h;obtain⟨M,m,u⟩:=kz d;rw[j]at m;obtain⟨rfl,rfl⟩:=m;obtain⟨J,R⟩:=Zl A;have a:=F3 f;obtain⟨⟨C,D,F⟩,p,G⟩:=ALI t.E L q;refine⟨_,_,?_,h,rQ,O5 ok.heap rfl,CE.push _ _,Frame.push _ _ _⟩;rw[po,QN];have g:(lvs z).length=t.sz:=by rw[<-a.1,t.enc_len]
 have:=JS.makeSlice (N:=N) (H:=BL H) (K:=DO _ _) s j t.sz_pos u J g (by rw[i,v];rfl) (by rw[i,w];rfl) C D F ⟨rfl,rfl⟩;rw[p]at this;apply JS.push_less this;rw[<-G,p];induction θ I with
 |zero=>exact Dp.refl _
 |succ n B=>exact Dp.append a B
 cases h;cases h;cases h
def ve(ok:OO env H)(j:o.op=.convert b W e)(h:vd P H b W (Jx env e) k=δ r):nY P N o env H [] k r:=by have f:=Lu env;unfold vd at h;split at h;rename_i u a s l g m;split at h;rename_i i;refine⟨_,_,?_,h,rQ,O5 ok.heap rfl,CE.push _ _,Frame.push _ _ _⟩;rw[po,QN];obtain⟨c,d⟩:=AKQ s;have:=qo (N:=N) (H:=BL H) (K:=DO _ _) j l g i (by rw[f,m];rfl) ⟨rfl,rfl⟩;rw[d,c]at this;exact this;cases h;cases h
def ACG(a:Ty):∀l(k:Nat),(a.E.cl l).drop (k*a.sz)=a.E.cl (l.drop k)
 |l,0=>by rw[Yu];rfl
 |[],k+1=>by simp[Sg.cl]
 |x::r,k+1=>by have e:a.E.cl (x::r)=(a.enc x).cells++a.E.cl r:=rfl;have b:=a.enc_len x;rw[e,show(k+1)*a.sz=(a.enc x).cells.length+k*a.sz by rw[b,D5,Nat.one_mul,Ys],Yb,Ro o!,B5,Tr];exact ACG a r k
def ACH(a:Ty):∀l(k:Nat),(a.E.cl l).take (k*a.sz)=a.E.cl (l.take k)
 |l,0=>by rw[Yu];rfl
 |[],k+1=>by simp[Sg.cl]
 |x::r,k+1=>by have e:a.E.cl (x::r)=(a.enc x).cells++a.E.cl r:=rfl;have b:a.E.cl (List.take (k+1) (x::r))=(a.enc x).cells++a.E.cl (r.take k):=rfl;have c:=a.enc_len x;rw[e,b,show(k+1)*a.sz=(a.enc x).cells.length+k*a.sz by rw[c,D5,Nat.one_mul,Ys],fj,BM o!,Tr,ACH a r k]
theorem ABi{f:Ψ t.D}(x:∀e∈H,e.ok H)(z:i.ok H)(h:AFp H t i=δ f):ID (BL H) t.sz i.enc=δ (θ f,t.E.cl f):=by
 unfold AFp at h;split at h;rename_i a l;split at h;rename_i j;have c:=Ty.beq_eq _ _ j;injection c with b;subst b;injection h with h;have v:=h;subst v;simp only[TV.enc,Bx.one,ID,BT];rfl;cases h;rename_i id g a n;split at h;rename_i j;have c:=Ty.beq_eq _ _ j;injection c with b;subst b;split at h;rename_i l r;injection h with h;have v:l=f:=h;obtain⟨s,p⟩:=YA x (z (.own id g a n) (by simp[TV.refs])) r;have y:=a.E.clen l;have A:a.E.sz=a.sz:=rfl;grind[TV.enc,Bx.one,ID];cases h;cases h;rename_i id g a n d m;split at h;rename_i j;have c:=Ty.beq_eq _ _ j;injection c with b;subst b;split at h;rename_i l r;injection h with h;have v:(l.drop d).take m=f:=h;obtain⟨s,p⟩:=YA x (z (.own id g a n) (by simp[TV.refs])) r;have o:θ f=min m (n-d):=by rw[<-v,BP,C5,p]
 have w:f=(l.drop d).take (min m (n-d)):=by rw[<-v,<-p,<-C5,List.take_eq_take_min]
 have y:(a.E.cl l).length=n*a.sz:=by rw[<-p];exact a.E.clen l
 show ID (BL H) a.sz (vwE id n a.sz d m)=_;unfold vwE;by_cases q:min m (n-d)=0;have u:f=[]:=uA.1 o!;rw[C! q,u];by_cases q0:d=0;rw[C! q0];simp only[ID,s];rw[C! ⟨P!,P!,q!⟩,Yu];rfl;rw[D! q0];simp[ID,Sg.cl];rw[D! q];simp only[ID,s];have k:(d+min m (n-d))*a.sz<=n*a.sz:=NW _ o!;rw[D5]at k;rw[C! ⟨P!,P!,by rw[y];exact k⟩,o,ACG,ACH,<-w];cases h;cases h;injection h with h;subst h;rfl;cases h
theorem vk(ok:OO env H)(F:o.op=.call {callee:=.builtin .append,args:= #[e,y],argTypes:= #[b,W]})(ht:b=W)(h:tK P H b (Jx env e) (Jx env y) k=δ r):nY P N o env H (idT (Jx env e)) k r:=by
 subst ht;have v:=Lu env;unfold tK at h;split at h;rename_i te Q;obtain⟨J,C,G⟩:=kz Q;split at h;rename_i u T;have a:=ABi ok.heap (iD ok.env y) T;rw[<-v]at a;split at h;rename_i V;obtain⟨l,j,hk⟩:=DM.1 h;obtain⟨X,x⟩:=kK j;rw[B5]at x;subst x;refine⟨_,_,?_,hk,rQ,O5 ok.heap rfl,CE.push _ _,Frame.push _ _ _⟩;rw[po,QN];have:=eM (N:=N) (H:=BL H) (K:=DO _ _) F C te.sz_pos G (by rw[v,V];rfl) a k! ⟨rfl,rfl⟩;exact this;rename_i id q f n V;split at h;rename_i i l U Z g;split at h;rename_i hv;have R:=DB hv;subst R;split at h;rename_i s;have p:=Ty.beq_eq _ _ s.1;injection p with d;have A:=Ty.beq_eq _ _ s.2;injection A with z;subst z;subst d;obtain⟨l2,j,h⟩:=DM.1 h;have c:(Ty.cast s.1 l:Ψ i.D)=l:=rfl;rw[c]at j;obtain⟨X,rfl⟩:=kK j;have hr:TZ H id q i n:=by have:=iD ok.env e;rw[V]at this;exact this (.own id q i n) (by simp[TV.refs])
 obtain⟨_,M⟩:=hr.2 _ _ _ _ _ g;obtain⟨_,rfl⟩:=M rfl;have L:U=θ l:=ok.heap _ (BO g);have w:(BL H)[id]?=δ (.live U (i.E.cl l)):=by rw[EM,g];rfl
 have t:CE H (H.set id (.buf η i (l++u) (l++u).length (q+1))):=CE.set g rfl λ_ _ _ _ _ h=>by cases h;exact⟨_,_,_,_,rfl,.inl (nl _)⟩
 refine⟨_,_,?_,h,Jw ⟨k!,λal W l' n2 ad hg=>?_⟩,R0 t ok.heap rfl,t,Frame.set (by rw[V];exact A5.2 rfl)⟩;have Y:=i.E.clen l;have O:i.E.sz=i.sz:=rfl;rw[O]at Y;have:=Sl (N:=N) (H:=BL H) (g':=U+θ u) (K:=DO _ _) F C i.sz_pos G (by rw[v,V];rfl) w (by rw[Y,L]) a k! (by rcases Ts (θ u) with h0|h0;grind;exact .inl o!) ⟨rfl,rfl⟩;grind[LU,n?,Sg.cl,TV.enc,Bx.one,Dx.enc];grind;cases h;cases h;cases h;rename_i f l V;split at h;rename_i s;have p:=Ty.beq_eq _ _ s;injection p with d;subst d;obtain⟨l2,j,h⟩:=DM.1 h;have c:(Ty.cast s l:Ψ f.D)=l:=rfl;rw[c]at j;obtain⟨X,rfl⟩:=kK j;have m:(l.map f.enc).length=θ l:=BT _;cases I:ξ (θ u) 0 with
 |true=>rw[I,B!]at h;have B:=DB I;have S:u=[]:=D8 B;subst S;refine⟨_,_,?_,h,Jw trivial,ok.heap,CE.refl _,Frame.refl _ _⟩;rw[Dc];exact Y4 F C f.sz_pos G (by rw[v,V];rfl) a (by rw[m];omega) (λ_=>⟨rfl,rfl⟩) λh=>O! h q!
 |false=>rw[I,A!]at h;have B:=Nat.ne_of_beq_eq_false I;refine⟨_,_,?_,h,rQ,O5 ok.heap rfl,CE.push _ _,Frame.push _ _ _⟩;rw[po,QN];refine iH (N:=N) (H:=BL H) (K:=DO _ _) F C f.sz_pos G (by rw[v,V];rfl) a (by rw[m];omega) o! (by rw[m,Aa]) ?_ ⟨rfl,rfl⟩;simp[Sg.cl,We,List.flatMap_map];rfl
 cases h;cases h;cases h;cases h
end
def OB(id ver:Nat)(t:Ty)(l:Ψ t.D):Bx->Bx
 |.own id' ver' t' n=>match ξ id id'&&ξ ver ver' with|true=>.ls t l|false=>.own id' ver' t' n
 |x=>x
mutual
def pP(id ver:Nat)(t:Ty)(l:Ψ t.D):TV->TV
 |.c x=>.c (OB id ver t l x)
 |.g cs=>.g (cs.map (OB id ver t l))
 |.tup vs=>.tup (iK id ver t l vs)
 |.aptr a b n te i o=>.aptr a b n te i o
 |.bptr a v te n i o=>.bptr a v te n i o
 |.vw a v te n i m=>.vw a v te n i m
 |.vx te l'=>.vx te l'
 |.vptr cs post=>.vptr cs post
def iK(id ver:Nat)(t:Ty)(l:Ψ t.D):Ψ TV->Ψ TV
 |[]=>[]
 |v::r=>pP id ver t l v::iK id ver t l r
end
def RN(id ver:Nat)(t:Ty)(l:Ψ t.D):Dx->Dx
 |.live η cs=>.live η (cs.map (OB id ver t l))
 |e=>e
def frz(id:Nat)(env:Bj)(H:As):Ω (Bj×As):=
 match H[id]? with
 |some (.buf η t l _ ver)=>δ (env.map λp=>(p.1,pP id ver t l p.2),(H.map (RN id ver t l)).set id .dead)
 |_=>ε
def UD(x y:Cx)(a b:Ψ Ad):Prop:=θ b=θ a/\∀(i:Nat)(v':Ad),b[i]?=δ v'->∃v,a[i]?=δ v/\Conv x y v v'
theorem UD.append{y}{e b f}(c:UD x y p e)(g:UD x y b f):UD x y (p++b) (e++f):=by refine⟨by simp[c.1,g.1],λi j h=>?_⟩;rcases A0 i (θ e) with d|d;rw[CY d]at h;obtain⟨v,q1,q2⟩:=c.2 i j h;grind;rw[Cn d]at h;obtain⟨v,q1,q2⟩:=g.2 _ j h;exact⟨v,by rw[Cn (by rw[<-c.1];exact d),<-c.1];exact q1,q2⟩
def UD.later{x y:Cx}(l:x.Later y)(a:Ψ Ad):UD x y a a:=⟨rfl,λ_ v h=>⟨v,h,λ_ r=>r.later l⟩⟩
theorem UD.one{y}{b}(h:Conv x y v b):UD x y [v] [b]:=⟨rfl,λi u a=>by
 match i,a with
 |0,a=>grind
 |i+1,a=>simp at a⟩
def UD.agg{x y}{b a}(h:UD x y b a):Conv x y (.agg b) (.agg a):=by
 intro c r;cases r with
 |agg i e hr=>refine .agg (by rw[i,h.1]) e λj k d g f=>?_;obtain⟨v,q1,q2⟩:=h.2 j k g;exact q2 _ (hr j v d q1 f)
def UD.tup{x y}{b a}(h:UD x y b a):Conv x y (.tup b) (.tup a):=by
 intro c r;cases r with
 |tup g hr=>refine .tup (by rw[g,h.1]) λj i d f e=>?_;obtain⟨v,q1,q2⟩:=h.2 j i f;exact q2 _ (hr j v d q1 e)
section
variable {x y:Cx}{H:As}{id n ver:Nat}{t:Ty}{l:Ψ t.D} (lat:x.Later y) (hid:H[id]?=δ (.buf η t l n ver)) (hc:Conv x y (.sl id n t.sz 0 n) (.vs t.sz (l.map t.enc)))
include lat hid hc
theorem pN(e:E.ok H):UD x y E.enc (OB id ver t l E).enc/\Conv x y E.one (OB id ver t l E).one:=by
 have same:∀w:Bx,UD x y w.enc w.enc/\Conv x y w.one w.one:=λw=>⟨.later lat _,λ_ r=>r.later lat⟩
 cases E with
 |own f b h g=>simp only[OB];split;rename_i a;simp only[Ba]at a;have c:=DB a.1;have d:=DB a.2;subst c d;obtain⟨_,q⟩:=e.2 _ _ _ _ _ hid;obtain⟨rfl,rfl⟩:=q rfl;exact⟨.one hc,hc⟩;grind
 |_=>exact same _
def qt:∀{a},lok H a->UD x y (lvs a) (lvs (a.map (OB id ver t l)))
 |[],_=>.later lat _
 |z::r,h=>by rw[B4,IA,IA];exact(pN lat hid hc (h z q!)).1.append (qt λw b=>h w (by simp[b]))
mutual
theorem uj:∀{v:TV},v.ok H->Conv x y v.enc (pP id ver t l v).enc
 |.c z,h=>(pN lat hid hc (h z (by simp[TV.refs]))).2
 |.g cs,h=>(qt lat hid hc h).agg
 |.tup vs,h=>UD.tup (sM (vs:=vs) h)
 |.aptr ..,_=>λ_ r=>r.later lat
 |.bptr ..,_=>λ_ r=>r.later lat
 |.vw ..,_=>λ_ r=>r.later lat
 |.vx ..,_=>λ_ r=>r.later lat
 |.vptr ..,_=>λ_ r=>r.later lat
theorem sM:∀{vs},(TV.tup vs).ok H->UD x y (TV.encL vs) (TV.encL (iK id ver t l vs))
 |[],_=>.later lat _
 |v::r,h=>by simp only[TV.encL,iK];have a:v.ok H:=rN h q!;have b:(TV.tup r).ok H:=Rz λw c=>rN h (by simp[c]);exact(UD.one (uj a)).append (sM b)
end
end
def ui{l}(H:CE c M)(d:E.ok c):(OB N n t l E).ok M:=by
 cases E with
 |own f e h g=>simp only[OB];split;trivial;exact H.leaf d
 |_=>exact H.leaf d
def ACR{l}(d:CE c M)(h:lok c g):lok M (g.map (OB N n t l)):=λz f=>by obtain⟨w,e,rfl⟩:=Bs.1 f;exact ui d (h w e)
mutual
theorem zb{H d:As}{id b:Nat}{t:Ty}{l:Ψ t.D}(a:CE H d):∀{v:TV},v.ok H->(pP id b t l v).ok d
 |.c z,h=>Jw (ui a (h z (by simp[TV.refs])))
 |.g cs,h=>ACR a h
 |.tup vs,h=>wm a h
 |.aptr ..,h=>a.lok h
 |.bptr ..,h=>a.lok h
 |.vw ..,h=>a.lok h
 |.vx ..,h=>a.lok h
 |.vptr ..,h=>a.lok h
theorem wm{H c}{id b}{t}{l}(d:CE H c):∀{e},(TV.tup e).ok H->(TV.tup (iK id b t l e)).ok c
 |[],_=>λz i=>by simp[iK,TV.refs,TV.refsL]at i
 |v::r,h=>by have f:v.ok H:=rN h q!;have g:(TV.tup r).ok H:=Rz λw a=>rN h (by simp[a]);refine Rz λw a=>?_;simp only[iK]at a;rcases Av.1 a with rfl|a;exact zb d f;exact rN (wm d g) a
end
theorem AE2{l:Ψ t.D}(f:c[N]?=δ (.buf η t l n Y)):CE c ((c.map (RN N Y t l)).set N .dead):=by
 have s:=HO f;refine⟨q!,λj y x v h=>⟨by simpa using h.1,λro K E F u H=>?_⟩,λj e H hr=>?_,λj m h x l2 v y a=>?_,λj m _ _ _ _ _ _ _ _ a=>?_⟩;by_cases d:j=N;grind;rw[Dd (d ·.symm),CU]at H;cases a:c[j]? with
 |none=>grind
 |some e=>
  rw[a]at H;simp only[Bt,Ar]at H;cases e with
  |live b k=>cases b<;>simp[RN]at H
  |dead=>cases H
  |lp=>cases H
  |mp=>cases H
  |buf b q o p r=>simp only[RN]at H;exact h.2 _ _ _ _ _ (by rw[a,H])
 have d:j≠N:=by rintro rfl;rw[f]at H;injection H with H;subst H;cases hr
 rw[Dd (d ·.symm),CU,H];cases e with
 |live b k=>cases b with|true=>rfl|false=>cases hr
 |dead=>cases hr
 |buf b q o p r=>rfl
 |lp=>rfl
 |mp=>rfl
 by_cases d:j=N;grind;rw[Dd (d ·.symm),CU]at a;cases g:c[j]? with
 |none=>rw[g]at a;cases a
 |some e=>
  rw[g]at a;simp only[Bt,Ar]at a;cases e with
  |live b k=>cases b<;>simp[RN]at a
  |dead=>cases a
  |lp=>cases a
  |mp=>cases a
  |buf b q o p r=>grind[RN]
 by_cases d:j=N;grind[List.getElem?_set_self];rw[Dd (d ·.symm),CU]at a;cases g:c[j]? with
 |none=>rw[g]at a;cases a
 |some e=>
  rw[g]at a;simp only[Bt,Ar]at a;cases e with
  |live b k=>cases b<;>simp[RN]at a
  |dead=>cases a
  |buf b q o p r=>cases a
  |mp=>cases a
  |lp w z G C I A B J=>injection a with _ q2 q3 q4 q5 q6 q7 _;subst q2 q3 q4 q5 q6 q7;exact⟨_,_,rfl⟩
theorem AJB{id:Nat}{env env2:Bj}{H K:As}(ok:OO env H)(h:frz id env H=some (env2,K)):OO env2 K/\CE H K/\ ∀N,Fa N (BL H).length (B3 env) (BL H) (B3 env2) (BL K):=by
 unfold frz at h;split at h;rename_i t l n i d;simp only[Ar,Eh]at h;obtain⟨rfl,rfl⟩:=h;have G:=HO d;have A:=AE2 d;have hn:n=l.length:=ok.heap _ (BO d);refine⟨⟨λp M=>?_,λe R=>?_⟩,A,λN=>?_⟩;obtain⟨q,z,rfl⟩:=Bs.1 M;exact zb A (ok.env q z);rcases Q9 R with R|rfl;obtain⟨k,S,rfl⟩:=Bs.1 R;have F:=ok.heap k S;cases k with
 |live b D=>
  cases b with
  |true=>exact A.lok F
  |false=>exact ACR A F
 |dead=>trivial
 |buf b Q P T U=>exact F
 |lp=>exact F
 |mp=>exact F
 trivial;have u:(BL H)[id]? =some (.live n (t.E.cl l)):=by rw[EM,d];rfl
 refine W5 (by simp[BL]) λX g w s=>?_;have C: ∀j,(BL ((H.map (RN id i t l)).set id .dead))[j]? =if j=id then some .dead else(H[j]?).map λe=>(RN id i t l e).enc:=by intro j;rw[EM];by_cases v:j=id;subst v;rw[if_pos rfl,HE (by simpa using G)];rfl;grind
 have back: ∀(j:Nat) (e:Fw),(BL ((H.map (RN id i t l)).set id .dead))[j]? =some e->e≠ .dead->j≠id/\ ∃k,(BL H)[j]? =some k/\k≠ .dead:=by
  intro j e a f;rw[C]at a;split at a;injection a with a;exact(f a.symm).elim;rename_i v;refine⟨v,?_⟩;cases z:H[j]? with
  |none=>rw[z]at a;cases a
  |some k=>
   refine⟨k.enc,by rw[EM,z];rfl,λL=>f ?_⟩;rw[z]at a;simp only[Bt,Ar]at a;cases k with
   |live b D=>simp[Dx.enc]at L
   |dead=>exact a.symm
   |buf b Q P T U=>simp[Dx.enc]at L
   |lp=>simp[Dx.enc]at L
   |mp=>simp[Dx.enc]at L
 have y:(cx X g (BL H) w).Later (cx X g (BL ((H.map (RN id i t l)).set id .dead)) w):=jB (by simp[BL]) λj e a f=>(back j e a f).2;have hO: ∀B,g.io id=some B-> ¬(cx X g (BL ((H.map (RN id i t l)).set id .dead)) w).O B:=by rintro B I (hX|⟨j,e,a,f,J⟩);exact(s.out B hX).2 ⟨id,_,u,q!,I⟩;obtain⟨v,k,Y,Z⟩:=back j e a f;exact v (s.inj j id _ _ B Y u Z q! J I)
 have o:Conv (cx X g (BL H) w) (cx X g (BL ((H.map (RN id i t l)).set id .dead)) w) (.sl id n t.sz 0 n) (.vs t.sz (l.map t.enc)):=λc r=>Bv.froze s u (AJK t.E l) (by rw[hn];exact BT _) y rfl hO r;refine⟨⟨by simp[BL],λj e' a=>?_⟩,λtt v' m=>?_⟩;rw[C]at a;split at a;injection a with a;exact .inl a.symm;cases z:H[j]? with
 |none=>rw[z]at a;cases a
 |some k=>
  rw[z]at a;simp only[Bt,Ar]at a;have x:(BL H)[j]? =some k.enc:=by rw[EM,z];rfl
  cases k with
  |live b D=>
   refine .inr (.inl ?_);cases b with
   |true=>simp only[RN,Dx.enc]at a;exact⟨0,lvs D,lvs D,x,a.symm,rfl,(UD.later y _).2⟩
   |false=>simp only[RN,Dx.enc]at a;obtain⟨V,W⟩:=qt y d o (ok.heap _ (BO z));exact⟨0,lvs D,_,x,a.symm,V,W⟩
  |dead=>exact .inl a.symm
  |buf b Q P T U=>simp only[RN,Dx.enc]at a;exact .inr (.inl ⟨T,Q.E.cl P,Q.E.cl P,x,a.symm,rfl,(UD.later y _).2⟩)
  |lp=>subst a;exact .inr (.inr ⟨x,λ_ _ h=>by cases h⟩)
  |mp=>subst a;exact .inr (.inr ⟨x,λ_ _ h=>by cases h⟩)
 simp only[B3,PM,Bs]at m;obtain⟨p,M,e⟩:=m;simp only[Function.comp,Eh]at e;obtain⟨rfl,rfl⟩:=e;exact⟨p.2.enc,Bs.2 ⟨p,M,rfl⟩,uj y d o (ok.env p M)⟩;cases h
@[reducible] def DL:Ψ Ty->Type
 |[]=>Unit
 |[t]=>t.D
 |t::u::r=>t.D×DL (u::r)
def inp:(ts:Ψ Ty)->Ψ TV->Ω (DL ts)
 |[],[]=>δ ()
 |[t],[v]=>t.data v
 |t::u::r,v::vs=>
  match t.data v,inp (u::r) vs with
  |some x,δ y=>δ (x,y)
  |_,_=>ε
 |_,_=>ε
def yn:(ts:Ψ Ty)->DL ts->Ψ TV
 |[],_=>[]
 |[t],x=>[t.tv x]
 |t::u::r,x=>t.tv x.1::yn (u::r) x.2
def nu:(ts:Ψ Ty)->DL ts->Ψ Ad
 |[],_=>[]
 |[t],x=>[t.enc x]
 |t::u::r,x=>t.enc x.1::nu (u::r) x.2
def one:Ψ TV->TV
 |[v]=>v
 |vs=>.tup vs
def rP:Ψ Ad->Ad
 |[v]=>v
 |vs=>.tup vs
def Lq(bt:Ty):(rs:Ψ Ty)->DL (rs++[bt])->DL rs×bt.D
 |[],y=>((),y)
 |[_],y=>(y.1,y.2)
 |_::u::r,y=>((y.1,(Lq bt (u::r) y.2).1),(Lq bt (u::r) y.2).2)
inductive Qi where
 |c2 (f:FuncId) (te:Ty) (ds rs:List Ty) (post:List Ad) (g:List te.D->DL ds->Option (DL (rs++[.list te])))
 |cl (f:FuncId) (t:Ty)
 |c0 (f:FuncId) (ds rs:List Ty) (g:DL ds->Option (DL rs))
 |c1 (f:FuncId) (pos:Nat) (bt:Ty) (ds rs:List Ty) (g:bt.D->DL ds->Option (DL (rs++[bt])))
def Qi.f:Qi->FuncId
 |.c0 f .. =>f
 |.c1 f .. =>f
 |.c2 f .. =>f
 |.cl f _=>f
def fnB:Ad->Ad->Bool
 |.fn (.func F) [] [],.fn (.func G) [] []=>ξ F G
 |_,_=>η
def AI9{w}(h:fnB v w=ζ):v=w:=by unfold fnB at h;split at h<;>simp_all
def xI:Ψ TV->Ψ Ad->Bool
 |[],[]=>ζ
 |.c (.raw v)::r,w::s=>fnB v w&&xI r s
 |_,_=>η
def AAJ:∀{l}{p},xI l p=ζ->l.map TV.enc=p
 |[],[],_=>rfl
 |[],_::_,h=>by simp[xI]at h
 |v::r,[],h=>by cases v<;>simp[xI]at h
 |v::r,w::s,h=>by unfold xI at h;split at h;rename_i e;cases e;rename_i c d;injection c with a1 a2;injection d with a b;subst a1 a2 a b;simp only[Ba]at h;rw[B4,AAJ h.2];exact E! (· ::_) (AI9 h.1);cases h
def WT:Nat->Ad->Ψ Ad->Ψ Ad
 |0,v,l=>v::l
 |n+1,v,x::l=>x::WT n v l
 |_+1,v,[]=>[v]
def Qi.Ok(P:Program):Qi->Prop
 |.c2 f te ds rs post g=>∀l x y,g l x=δ y->(Lq (.list te) rs y).2.length=θ l->∀H id,H[id]?=δ (.live (θ l) (te.E.cl l))->
  Ek P f (.sl id (θ l) te.sz 0 (θ l)::(nu ds x++post)) H (DO (rP (nu rs (Lq (.list te) rs y).1)) (H.set id (.live (θ l) (te.E.cl (Lq (.list te) rs y).2))))
 |.cl f t=>∀(l:Ψ t.D)(H:As),(∀e∈H,e.ok H)->(l=[]->Ek P f [.vs t.sz []] (BL H) (DO (.vs t.sz []) (BL (H++[.dead]))))/\
  ∀r,l≠ []->app [] l=δ r->Ek P f [.vs t.sz (l.map t.enc)] (BL H) (DO (.sl (θ H) (θ r) t.sz 0 (θ r)) (BL (H++[.buf η t r (θ r) 0])))
 |.c0 f ds rs g=>∀x y,g x=δ y->∀H,Ek P f (nu ds x) H (DO (rP (nu rs y)) H)
 |.c1 f pos bt ds rs g=>∀b x y,g b x=δ y->∀H id,H[id]?=δ (.live 0 (bt.enc b).cells)->Ek P f (WT pos (.ptr id 0 0) (nu ds x)) H (DO (rP (nu rs (Lq bt rs y).1)) (H.set id (.live 0 (bt.enc (Lq bt rs y).2).cells)))
section
variable {R:Type}
def ACD(c:Qi)(vs:Ψ TV)(H:As)(k:TV->As->Ω R):Ω R:=
 match c with
 |.c0 _ ds rs g=>match inp ds vs with|some x=>(g x).bind λy=>k (one (yn rs y)) H|none=>ε
 |.c1 _ pos bt ds rs g=>
  match vs[pos]? with
  |some (.c (.raw (.ptr id 0 0)))=>
   match H[id]? with
   |some (.live η cs)=>
    match bt.all cs,inp ds (vs.take pos++vs.drop (pos+1))with
    |some b,δ x=>(g b x).bind λy=>k (one (yn rs (Lq bt rs y).1)) (H.set id (.live η (bt.lvs (Lq bt rs y).2)))
    |_,_=>ε
   |_=>ε
  |_=>ε
 |.c2 _ te ds rs post g=>
  match vs with
  |.c (.own id ver _ _)::r=>
   match H[id]? with
   |some (.buf η t l n' ver')=>
    match ξ ver ver' with
    |true=>
     if h:(Ty.list t).beq (Ty.list te)=ζ then
      match inp ds (r.take (θ ds)),xI (r.drop (θ ds)) post with
      |some x,ζ=>(g (Ty.cast h l) x).bind λy=>
       cond (ξ (Lq (.list te) rs y).2.length n') (k (one (yn rs (Lq (.list te) rs y).1)) (H.set id (.buf η te (Lq (.list te) rs y).2 n' ver'))) ε
      |_,_=>ε
     else ε
    |false=>ε
   |_=>ε
  |_=>ε
 |.cl _ t=>
  match vs with
  |[.c (.ls te l)]=>
   if h:(Ty.list te).beq (Ty.list t)=ζ then
    cond (τ (((θ l:Nat):Int)=0)) (k (.c (.ls t [])) (H++[.dead])) ((app (α:=t.D) [] (Ty.cast h l)).bind λr=>k (.c (.own (θ H) 0 t (θ r))) (H++[.buf η t r (θ r) 0]))
   else ε
  |[.c .nil]=>k (.c (.ls t [])) (H++[.dead])
  |_=>ε
def ag:∀a x,(yn a x).map TV.enc=nu a x
 |[],_=>rfl
 |[t],x=>by simp only[yn,nu,B4,Hj,t.tv_enc]
 |t::u::r,x=>by simp only[yn,nu,B4,t.tv_enc,ag (u::r)]
theorem oU{H:As}:∀b x,∀v∈yn b x,v.ok H
 |[],_,v,a=>by simp[yn]at a
 |[t],x,v,a=>by simp only[yn,A5]at a;subst a;exact t.tv_ok x
 |t::u::r,x,v,a=>by simp only[yn,Av]at a;rcases a with rfl|a;exact t.tv_ok _;exact oU (u::r) x.2 v a
def tR(a:Ψ TV):(one a).enc=rP (a.map TV.enc):=by
 match a with
 |[]=>rfl
 |[v]=>rfl
 |v::w::r=>simp only[one,rP,TV.enc,uW,B4]
def yL(h:∀v∈s,v.ok c):(one s).ok c:=by
 match s,h with
 |[],h=>exact Rz h
 |[v],h=>exact h v q!
 |v::w::r,h=>exact Rz h
def Zb:∀{a}{b}{x:DL a},inp a b=δ x->Dp (b.map TV.enc) (nu a x)
 |[],[],x,h=>Dp.refl _
 |[t],[v],x,h=>Dp.one (Mz h)
 |t::u::r,v::b,x,h=>by simp only[inp]at h;split at h;rename_i y z c d;injection h with h;subst h;exact(Dp.one (Mz c)).append (Zb d);cases h
 |[],_::_,x,h=>by simp[inp]at h
 |[t],[],x,h=>by simp[inp]at h
 |[t],_::_::_,x,h=>by simp[inp]at h
 |_::_::_,[],x,h=>by simp[inp]at h
theorem ut:∀{n:Nat}{a:Ψ Ad}{v:Ad}{b},a[n]?=δ v->Dp (a.take n++a.drop (n+1)) b->Dp a (WT n v b)
 |0,u::a,v,b,h,hl=>by simp at h;subst h;exact(Dp.one (Xg.refl u)).append hl
 |n+1,u::a,v,b,h,hl=>by
  cases b with
  |nil=>have:=hl.1;simp at this
  |cons d b=>
   have c:Xg u d:=by obtain⟨w,q1,q2⟩:=hl.2 0 d rfl;grind
   have e:Dp (a.take n++a.drop (n+1)) b:=⟨by have:=hl.1;simpa using this,λi g f=>hl.2 (i+1) g f⟩
   exact(Dp.one c).append (ut h e)
def AGz(c:Qi)(vs:Ψ TV):Ψ Nat:=
 match c with
 |.c0 .. =>[]
 |.c1 _ pos .. =>match vs[pos]? with|some v=>idT v|none=>[]
 |.c2 .. =>match vs[0]? with|some v=>idT v|none=>[]
 |.cl .. =>[]
def ALB(c:Qi)(vs:Ψ TV):Ψ TV:=
 match c with
 |.c2 .. =>vs.drop 1
 |_=>vs
def zM{D:Qi}(hc:D.Ok P){k:TV→As→Ω R}{r:R}(hv:∀v∈s,v.ok c)(K:∀e∈c,e.ok c)(h:ACD D s c k=δ r):
  ∃v O,Ek P D.f (s.map TV.enc) (BL c) (DO v.enc (BL O))/\k v O=δ r/\v.ok O/\(∀e∈O,e.ok O)/\CE c O/\Frame (AGz D s) c O:=by
 unfold ACD at h;split at h;rename_i f S A g;split at h;rename_i x hx;obtain⟨y,hy,h⟩:=DM.1 h;refine⟨_,c,?_,h,yL (oU A y),K,CE.refl c,Frame.refl _ _⟩;rw[tR,ag];have hl:=Zb hx;refine Ek.before (args2:=nu S x) (H2:=BL c) hl.1 (λX g0 w H=>⟨⟨rfl,λj e' p=>?_⟩,λj Z p=>?_⟩) (hc x y hy _);cases e' with
 |dead=>exact .inl rfl
 |live g1 L=>exact .inr (.inl ⟨g1,L,L,p,rfl,rfl,λi v hi=>⟨v,hi,λ_ r=>r⟩⟩)
 |_=>exact .inr (.inr ⟨p,q!⟩)
 obtain⟨v,q1,q2⟩:=hl.2 j Z p;exact⟨v,q1,λd W=>q2 _ _ W⟩;cases h;rename_i f pos J S A g;split at h;rename_i id hp;split at h;rename_i cs o;split at h;rename_i b x hb hx;obtain⟨y,hy,h⟩:=DM.1 h;have G:CE c (c.set id (.live η (J.lvs (Lq J A y).2))):=CE.set o rfl λ_ _ _ _ _ h=>by cases h
 refine⟨_,_,?_,h,yL (oU A _),R0 G K (J.lvs_ok _),G,Frame.set (by simp only[AGz,hp];exact A5.2 rfl)⟩;rw[tR,ag,LU];have C:id<(BL c).length:=by rw[Cb];exact HO o
 have hl:=Zb hx;have ap:=F3 hb;have a:Dp (s.map TV.enc) (WT pos (.ptr id 0 0) (nu S x)):=by refine ut ?_ (by rw[<-nh,<-fh,<-Ke];exact hl);rw[CU,hp];rfl
 have m:=hc b x y hy ((BL c).set id (.live 0 (J.enc b).cells)) id (by rw[HE C]);rw[Yo]at m;have e1:(Dx.live η (J.lvs (Lq J A y).2)).enc=.live 0 (J.enc (Lq J A y).2).cells:=by simp only[Dx.enc,J.lvs_enc]
 rw[e1];refine Ek.before a.1 (λX g0 w H=>?_) m;have ad:BL c=(BL c).set id (.live 0 (lvs cs)):=by
  have:(BL c)[id]?=δ (.live 0 (lvs cs)):=by rw[EM,o];rfl
  apply JX;intro j;by_cases F:j=id;subst F;rw[HE C,this];rw[Dd (F ·.symm)]
 have ao:(cx X g0 (BL c) w).Later (cx X g0 ((BL c).set id (.live 0 (J.enc b).cells)) w):=by refine jB q! λj e p ar=>?_;by_cases F:j=id;subst F;exact⟨.live 0 (lvs cs),by rw[EM,o];rfl,q!⟩;rw[Dd (F ·.symm)]at p;exact⟨e,p,ar⟩
 refine⟨Tm.set_less C ad rfl ap ao,λj Z p=>?_⟩;obtain⟨v,q1,q2⟩:=a.2 j Z p;exact⟨v,q1,λd W=>q2 _ _ (W.later ao)⟩;cases h;cases h;cases h;rename_i f Y S A N g;split at h;rename_i id B t0 n0 r0;split at h;rename_i t l V ax o;split at h;rename_i hb;have al:=DB hb;subst al;split at h;rename_i I;have n:=Ty.beq_eq _ _ I;injection n with n;subst n;split at h;rename_i x hx hp;obtain⟨y,hy,h⟩:=DM.1 h;have z:(Ty.cast I l:Ψ t.D)=l:=rfl;rw[z]at hy;have hn:V=θ l:=K _ (BO o);have hr:TZ c id B t0 n0:=hv _ JV (.own id B t0 n0) (by simp[TV.refs]);obtain⟨_,q⟩:=hr.2 _ _ _ _ _ o;obtain⟨rfl,rfl⟩:=q rfl;cases T:ξ (Lq (.list t) A y).2.length V with
 |false=>rw[T]at h;cases h
 |true=>
  rw[T]at h;have M:(Lq (.list t) A y).2.length=V:=DB T;have G:CE c (c.set id (.buf η t (Lq (.list t) A y).2 V B)):=CE.set o rfl λ_ _ _ _ _ e=>by cases e;exact⟨_,_,_,_,rfl,.inr ⟨rfl,rfl⟩⟩
  refine⟨_,_,?_,h,yL (oU A _),R0 G K M.symm,G,Frame.set (by simp[AGz,idT])⟩;rw[tR,ag,LU];have hl:=Zb hx;have U:=AAJ hp;have a:Dp ((TV.c (.own id B t V)::r0).map TV.enc) (.sl id (θ l) t.sz 0 (θ l)::(nu S x++N)):=by
   rw[B4,<-DG (θ S) r0,Ke,U];have e1:(TV.c (.own id B t V)).enc=.sl id (θ l) t.sz 0 (θ l):=by rw[<-hn];rfl
   rw[e1];rw[<-uC];rw[<-uC (l:=nu S x++N)];exact(Dp.refl _).append (hl.append (Dp.refl _))
  have m:=hc l x y hy (by rw[M,hn]) (BL c) id (by rw[EM,o,<-hn];rfl);have e2:(Dx.buf η t (Lq (.list t) A y).2 V B).enc=.live (θ l) (t.E.cl (Lq (.list t) A y).2):=by rw[<-hn];rfl
  rw[e2];refine Ek.before a.1 (λX g0 w H=>⟨⟨rfl,λj e' p=>?_⟩,λj Z p=>?_⟩) m;cases e' with
  |dead=>exact .inl rfl
  |live g1 L=>exact .inr (.inl ⟨g1,L,L,p,rfl,rfl,λi v hi=>⟨v,hi,λ_ r=>r⟩⟩)
  |_=>exact .inr (.inr ⟨p,q!⟩)
  obtain⟨v,q1,q2⟩:=a.2 j Z p;exact⟨v,q1,λd W=>q2 _ _ W⟩
 cases h;cases h;cases h;cases h;cases h;rename_i f t;have same:∀{args u}{Q},Dp args u->Ek P f u (BL c) Q->Ek P f args (BL c) Q:=λa m=>by
  refine Ek.before a.1 (λX g0 w H=>⟨⟨rfl,λj e' p=>?_⟩,λj Z p=>?_⟩) m;cases e' with
  |dead=>exact .inl rfl
  |live g1 L=>exact .inr (.inl ⟨g1,L,L,p,rfl,rfl,λi v hi=>⟨v,hi,λ_ r=>r⟩⟩)
  |_=>exact .inr (.inr ⟨p,q!⟩)
  obtain⟨v,q1,q2⟩:=a.2 j Z p;exact⟨v,q1,λd W=>q2 _ _ W⟩
 split at h;rename_i Y l;split at h;rename_i I;have n:=Ty.beq_eq _ _ I;injection n with n;subst n;have z:(Ty.cast I l:Ψ Y.D)=l:=rfl;rw[z]at h;cases hz:τ (((θ l:Nat):Int)=0)with
 |true=>
  rw[hz]at h;have h0:l=[]:=by
   have:((θ l:Nat):Int)=0:=by simpa using hz
   exact D8 o!
  subst h0;refine⟨TV.c (Bx.ls Y []),c++[Dx.dead],?_,h,Jw trivial,O5 K trivial,CE.push _ _,Frame.push _ _ _⟩;exact(hc [] c K).1 rfl
 |false=>
  rw[hz]at h;have h0:l≠ []:=by rintro rfl;simp at hz
  obtain⟨r,hr,h⟩:=DM.1 h;have e:Dx.ok (c++[.buf η Y r (θ r) 0]) (.buf η Y r (θ r) 0):=rfl;have q:=(hc l c K).2 r h0 hr;refine⟨TV.c (Bx.own (θ c) 0 Y (θ r)),c++[Dx.buf η Y r (θ r) 0],?_,h,rQ,O5 K e,CE.push _ _,Frame.push _ _ _⟩;exact q
 cases h;refine⟨TV.c (Bx.ls t []),c++[Dx.dead],?_,h,Jw trivial,O5 K trivial,CE.push _ _,Frame.push _ _ _⟩;exact same (Dp.one (Xg.nil t.sz_pos)) ((hc [] c K).1 rfl);cases h
end
section
variable {P:Program}{N:Nat}{o:Oper}{env:Env}{H:Aw}{K:Ad->Aw->Prop}
def ue{I:TypeId}{sz:Nat}{rows:Ψ Ad}(n:o.op=.binOp .eql b e (.const (.slice ε 0 0)) W)(E:P.underlying b=δ (.slice I))(F:BR env e=.vs sz rows)
  (C:∀t,(rows≠ []->t=η)->K (.bool t) H):JS P N o env H K:=by
 apply C1 (by rw[n];rfl);intro X h a w s Q;have l:=DN s.env e;rw[F]at l;generalize i:a.eval e=cx0 at l;cases l with
 | @vs sz rows c cap f m D p z J=>
  have k:=run_underlying E w;have g:(execOp a.eval o).run P w=.ok (.value (.bool c.isNone)) w:=by
   unfold execOp;rw[n];have r:a.eval (.const (.slice ε 0 0))=.slice ε 0 0:=rfl;have u:(eqGuard .eql b e (.const (.slice ε 0 0)) (.slice c (θ rows) cap) (.slice ε 0 0)).run P w=.ok () w:=by unfold eqGuard;simp
   have v:(Op.equal b (.slice c (θ rows) cap) (.slice ε 0 0)).run P w=.ok c.isNone w:=by
    have y:∃d,Op.maxDepth=d+1:=⟨9999,rfl⟩
    obtain⟨d,A⟩:=y;unfold Op.equal;rw[A];cases c<;>simp[Op.equalIn,k]
   simp only[i,r,Sem.run_bind,u,Result.andThen_ok,binOp,v,Sem.run_pure]
  unfold Oper.wp;rw[g,Oper.upon_value];refine⟨_,_,h,H,rfl,C c.isNone (λj=>?_),.bool _,s.sim,G1.refl _ _ _⟩;obtain⟨B,G,q,_⟩:=z j;rw[q];rfl
def JS.clear{t e:TypeId}{x:Operand}{id g l n sz:Nat}{z:List Ad}(ho:o.op=.call {callee:=.builtin .clear,args:= #[x],argTypes:= #[t]})(hd:o.dst=ε)(he:eI P t=δ (ε,e,sz))(bN:Qh P e=ζ)(hz:Zk P e=δ z)(W:θ z=sz)
  (hx:BR env x=.sl id g sz l n) (E:H[id]?=δ (Fw.live g p)) (a4:l+n*sz<=θ p) (hk:K (.tup []) (H.set id (.live g (XZ p l (ς n z).flatten)))):JS P N o env H K:=by
 apply C1 (by rw[ho];rfl);intro X h a w s Q;obtain⟨b1,b,hi⟩:=QB he;obtain⟨i,zv,v,b4,a',b2⟩:=Rl bN;have a2:=jN hi v;obtain⟨i',y,a0,a8,a6⟩:=fb (cx X h H w) hz;have:i'=i:=by rw[v]at a0;exact(BY a0).symm
 subst this;have:y=zv:=by rw[a']at a8;exact(BY a8).symm
 subst this;have A:y.cells.size=sz:=by rw[b2,a2]
 have rx:=DN s.env x;rw[hx]at rx;have R:=run_underlying b1 w;have S:(ς n z).flatten.length=n*sz:=by simp[W]
 obtain⟨ar,ao⟩:=s.sim.live id g p E;have b0:∃ad cap,a.eval x=.slice ad n cap/\(n≠0->∃B,h.io id=δ B/\ad=δ ⟨B,l,ε⟩):=by
  generalize a.eval x=c at rx;cases rx with
  |sl h1 h2 h3 hc=>rcases hc ar with⟨_,q2,_,q4⟩|⟨B,cap,q1,_,_,q4⟩;exact⟨ε,0,by rw[q4,q2],λbG=>(bG q2).elim⟩;exact⟨_,cap,q4,λ_=>⟨B,q1,rfl⟩⟩
 obtain⟨ad,cap,Z,bb⟩:=b0;have a1:id<θ H:=by rcases A0 id (θ H) with h2|h2;exact h2;rw[Ct h2]at E;cases E
 by_cases hn:n=0;subst hn;have F:(execOp a.eval o).run P w=.ok (.value (.tuple #[])) w:=by unfold execOp;rw[ho];simp only[resolve,invoke,builtin,Sem.run_bind,Sem.run_pure,Result.andThen_ok,Q7,B4,Hj,Z,Builtin.clear_];simp[R];cases ad<;>simp
 unfold Oper.wp;rw[F,Oper.upon_value];have e1:H.set id (.live g (XZ p l (ς 0 z).flatten))=H:=by
  have:XZ p l (ς 0 z).flatten=p:=by simp[XZ]
  rw[this];apply JX;intro j;by_cases a3:j=id;subst a3;rw[HE a1,E];rw[Dd λe=>a3 e.symm]
 rw[e1]at hk;exact⟨_,_,h,H,rfl,hk,.tup rfl λ_ _ _ h=>by (cases h),s.sim,G1.refl _ _ _⟩;obtain⟨B,J,rfl⟩:=bb hn;rcases ao with⟨a5,_⟩|⟨B',Y,T,fz,f,O,hb,al,b3,ap,I⟩;rw[show(cx X h H w).io id=h.io id from rfl,J]at a5;cases a5;rw[show(cx X h H w).io id=h.io id from rfl,J]at O;injection O with e0;subst e0;have V:(Builtin.zeroCells y.cells n).size=n*sz:=by rw[Vq,A]
 have G:∀j,j<n*sz->∃d u,(Builtin.zeroCells y.cells n)[j]?=δ d/\(ς n z).flatten[j]?=δ u/\d.oneCell'=ζ/\Bv (cx X h H w) u d:=by
  intro j r;have a7:0<sz:=by rcases Ts sz with q|q;subst q;simp at r;exact q
  have hm:j%sz<y.cells.size:=by rw[A];exact Yt _ a7
  have D:y.cells[j%sz]?=δ (y.cells[j%sz]'hm):=OR hm;have ax:∀(m j:Nat),j<m*sz->(ς m z).flatten[j]?=z[j%sz]? :=by
   intro m;induction m with
   |zero=>intro j r;omega
   |succ m ih=>intro j r;rw[nj,qR];rcases A0 j sz with bt|bl;rw[CY o!,Tt bt];rw[Cn o!,W,ih (j-sz) (by rw[D5]at r;omega),<-Nat.mod_eq_sub_mod bl]
  have a9:z[j%sz]?=δ (z[j%sz]'(by rw[W];exact Yt _ a7)):=Au _;have U:(Builtin.zeroCells y.cells n)[j]?=δ (y.cells[j%sz]'hm):=by
   unfold Builtin.zeroCells;rw[dC,Array.getElem?_range,C! (by rw[A];exact r)];have bz:j%y.cells.size<y.cells.size:=by rw[A];rw[A]at hm;exact hm
   rw[Bt,getElem!_pos y.cells _ bz];simp only[A]
  cases a6 with
  |agg q1 q2 q3=>exact⟨_,_,U,by rw[ax n j r,a9],q2 _ _ D,q3 _ _ _ a9 D⟩
 obtain⟨w',L,p1,p2,p3,p4,p5,p6,p7,p8,p9⟩:=Vp (P:=P) (off:=l) (Builtin.zeroCells y.cells n).toList 0 Y w hb (by simp[V];omega) ap (λd hd=>by
  obtain⟨j,r⟩:=DW hd;have bm:j<n*sz:=by rw[<-V];have:=(EX.1 r).1;simpa using this
  obtain⟨d',u,q1,_,q3,_⟩:=G j bm;rw[QJ]at r;rw[r]at q1;injection q1 with q1;rw[q1];exact q3)
 have F:(execOp a.eval o).run P w=.ok (.value (.tuple #[])) w':=by
  unfold execOp;rw[ho];simp only[resolve,invoke,builtin,Sem.run_bind,Sem.run_pure,Result.andThen_ok,Q7,B4,Hj,Z,Builtin.clear_];have b5:∀(α:Type)(M q:α),(match n with|0=>M|_+1=>q)=q:=by
   intro α M q;cases n with
   |zero=>exact(hn rfl).elim
   |succ m=>rfl
  obtain⟨m,rfl⟩:∃m,n=m+1:=⟨n-1,o!⟩
  simp[R,zeroValue,typeInfo,v,a'];rw[p1];rfl
 have hh:Holds (cx X h H w) (XZ p l (ς n z).flatten) L fz:=by
  refine⟨λj=>if l<=j/\j<l+n*sz then(Builtin.zeroCells y.cells n).getD (j-l) undef else f j,by rw[lu (by rw[S];exact a4)];omega,by rw[p3];exact ap,λj u r=>?_⟩;rw[vV (by rw[S];exact a4),S]at r;rw[p4];simp only[NV,Dy,V,QJ];split at r;rename_i C;rw[C! C,C! C];obtain⟨d,u',q1,q2,q3,q4⟩:=G (j-l) o!;rw[q2]at r;injection r with r;subst r;have e:(Builtin.zeroCells y.cells n).getD (j-l) undef=d:=by rw[RI,q1];rfl
  rw[e];exact⟨q1,q3,q4⟩;rename_i C;rw[D! C,D! C];exact I j u r
 obtain⟨q1,q2⟩:=s.sim.upd (g':=g) (B:=B) (arr:=L) (T:=T) (fz:=fz) (w':=w') E (Al _) (λ_=>⟨J,by rw[p3];exact al.symm⟩) (.inl J) p2 (λk _ hk=>p5 k hk) p6 p7 p8 (by rw[p9];exact Al _) hh;unfold Oper.wp;rw[F,Oper.upon_value];exact⟨_,_,_,_,rfl,hk,.tup rfl λ_ _ _ h=>by (cases h),q1,q2⟩
def tC(k:o.op=.call {callee:=.builtin .clear,args:= #[e],argTypes:= #[b]})(m:P.underlying b=δ (.slice W))
  (x:BR env e=.vs n []) (l:K (.tup []) H):JS P N o env H K:=by
 apply C1 (by rw[k];rfl);intro X h a w s Q;have j:=DN s.env e;rw[x]at j;have d:=run_underlying m w;have i:∃f cap,a.eval e=.slice f 0 cap:=by
  generalize a.eval e=c at j;cases j with
  |vs=>exact⟨_,_,rfl⟩
 obtain⟨f,cap,g⟩:=i;have t:(execOp a.eval o).run P w=.ok (.value (.tuple #[])) w:=by unfold execOp;rw[k];simp only[resolve,invoke,builtin,Sem.run_bind,Sem.run_pure,Result.andThen_ok,Q7,B4,Hj,g,Builtin.clear_];simp[d];cases f<;>simp
 unfold Oper.wp;rw[t,Oper.upon_value];exact⟨_,_,h,H,rfl,l,.tup rfl λ_ _ _ h=>by (cases h),s.sim,G1.refl _ _ _⟩
end
def Xh(P:Program)(N:Nat)(ops:Array Oper):Ψ Oper->Env->Aw->(Env->Aw->Prop)->Prop
 |[],env,H,Q=>∃env1 H1,Fa N (θ H) env H env1 H1/\Q env1 H1
 |o::rest,env,H,Q=>∃env1 H1,Fa N (θ H) env H env1 H1/\
  Yl ops o.guard env1 (JS P N o env1 H1 λv H'=>Xh P N ops rest (env1.putO o.dst v) H' Q) (Xh P N ops rest (env1.putO o.dst (.tup [])) H1 Q)
def Xh.weak{N}{Q:Env->Aw->Prop}{env1}{H e:Aw}(w:Fa N (θ H) u H env1 e):∀{os},Xh P N z os env1 e Q->Xh P N z os u H Q
 |[],h=>by obtain⟨c,b,d,q⟩:=h;exact⟨c,b,w.trans (d.of_le w.1),q⟩
 |o::os,h=>by obtain⟨c,b,d,q⟩:=h;exact⟨c,b,w.trans (d.of_le w.1),q⟩
theorem uf{Q:Env→Aw→Prop}:
  ∀(l:Ψ Nat)(os:Ψ Oper),l.map (z[·]?)=os.map δ->∀env H h a w,PZ N os=ζ->Xh P N z os env H Q->St V h N env H a w->(∀f n y u q,Q f n->St V y N f n u q->G1 h H w y n q->u.defers=a.defers->C .normal u q)->wpOpsIn (FR U) 0 P z C l a w:=by
 intro l;induction l with
 |nil=>
  intro os d env H h a w _ hr s X;have:os=[]:=t!
  subst this;obtain⟨env1,A,b,hr⟩:=hr;obtain⟨x,e,E,d⟩:=b.2 V h a w s;exact X env1 A x a w hr e (Fa.ext rfl b.1 E d (G1.refl h H w)) rfl
 |cons i l L=>
  intro os d env H h a w T hr s X;match os,d with
  |o::os,d=>
   simp at d;obtain⟨O,m⟩:=d;simp only[wpOpsIn,O];have g:∀t,o.dst=δ t->t<a.tmps.size:=by intro t Y;simp only[PZ]at T;rw[s.size];grind
   have p:PZ N os=ζ:=by simp_all[PZ]
   obtain⟨env1,A,b,hr⟩:=hr;obtain⟨x,e,E,d⟩:=b.2 V h a w s;have M:=Fa.ext rfl b.1 E d (G1.refl h H w);rcases zh e.env hr with⟨J,R⟩|⟨J,S⟩;rw[C! J];refine Oper.wpIn_mono ?_ (R U V x a w e C);rintro u q ⟨c,v,y,n,rfl,k,W,r,K⟩;have j:=K.later V;apply L os m _ n y _ q p k ⟨r,PD.putO (e.env.later j) g W,(fT _ _ _).trans e.size⟩;intro env2 B m a2 G q2 F I D;exact X env2 B m a2 G q2 F (M.trans (K.trans I)) (D.trans (by cases o.dst<;>rfl));rw[D! k!];refine⟨λ_ _=>P!,L os m _ A x _ w p S ⟨e.sim,PD.putO e.env g (.tup rfl λ_ _ _ h=>by cases h),(fT _ _ _).trans e.size⟩ ?_⟩;intro env2 B m a2 G q2 F I D;exact X env2 B m a2 G q2 F (M.trans I) (D.trans (by cases o.dst<;>rfl))
theorem Fz{N}{H}{id:Nat}{b:Array Oper}(i:PZ N b.toList=ζ)(h:Xh P N b b.toList u H (a .normal)):J9 P N (.region id b η) u H a:=by intro r X g Q w s _;refine wpIn_region (uf (List.range b.size) b.toList ?_ u H g Q w i h s ?_);apply JX;grind;intro c d f l m q j k e;exact⟨f,c,d,q,j,k,.same e⟩
open Go.MapKept (IsKey)
def Qf{α:Type}(n:Int)(v:α):Ψ (Int×α)->Ψ (Int×α)
 |[]=>[(n,v)]
 |p::r=>bif p.1==n then(n,v)::r else p::Qf n v r
def Lk{α:Type}(n:Int):Ψ (Int×α)->Ω α
 |[]=>ε
 |p::r=>bif p.1==n then δ p.2 else Lk n r
def AAB{a c:Type}(f:a->c)(n:Int)(v:a):∀b:Ψ (Int×a),(Qf n v b).map (λp=>(p.1,f p.2))=Qf n (f v) (b.map λp=>(p.1,f p.2))
 |[]=>rfl
 |p::r=>by simp only[Qf,B4];cases p.1==n<;>simp[AAB f n v r]
def vG{b c:Type}(f:b->c)(n:Int):∀a:Ψ (Int×b),Lk n (a.map λp=>(p.1,f p.2))=(Lk n a).map f
 |[]=>rfl
 |p::r=>by simp only[Lk,B4];cases p.1==n<;>simp[vG f n r]
section
variable {X:Nat->Prop}{h:Gh}{H:Aw}{w:World}
def JT.of_extM{a:Gh}{d:World}(s:JT X h H w)(k:G1 h H w a B d)
  (key:∀(id:Nat)(e:Fw),B[id]?=δ e->e≠.dead->(H[id]?=δ e/\a.gen id=h.gen id/\a.io id=h.io id/\a.cap id=h.cap id/\∀c,h.io id=δ c->d.heap[c]?=w.heap[c]?)\/(e.isB=ζ/\BAt a d id e))
  (inj:∀(id b:Nat)(e g:Fw)(c:Nat),B[id]?=δ e->B[b]?=δ g->e≠.dead->g≠.dead->a.io id=δ c->a.io b=δ c->id=b):JT X a B d:=
 s.of_ext' k (λi e j f=>(key i e j f).imp id λh=>.inr (.inr h)) inj
theorem JT.push_m(s:JT X h H w)(o:Obj)(cap:Nat)(E:Fw)(u:E.isB=ζ)
  (t:BAt (h.at_ (θ H) (δ w.heap.size) 0 cap) {w with heap:=w.heap.push o} (θ H) E):
  JT X (h.at_ (θ H) (δ w.heap.size) 0 cap) (H++[E]) {w with heap:=w.heap.push o}:=by
 refine s.of_extM (G1.push o cap E) (λid e d g=>?_) λid q e r B m n b c k l=>?_;rcases JQ d with⟨a,d⟩|⟨rfl,rfl⟩;refine .inl ⟨d,by simp[Gh.at_,Bq a],by simp[Gh.at_,Bq a],by simp[Gh.at_,Bq a],λB f=>?_⟩;have:=s.io_at d g f;grind;grind;rcases JQ m with⟨l1,i⟩|⟨rfl,_⟩<;>rcases JQ n with⟨l2,j⟩|⟨rfl,_⟩;exact s.inj _ _ _ _ B i j b c (by simpa[Gh.at_,Bq l1]using k) (by simpa[Gh.at_,Bq l2]using l);have p:=s.io_at i b (by simpa[Gh.at_,Bq l1]using k);grind[Gh.at_];have p:=s.io_at j c (by simpa[Gh.at_,Bq l2]using l);grind[Gh.at_];rfl
def JT.setM(s:JT X h H w){E E':Fw}{o o':Obj}{w':World}(g:H[N]?=δ E)(J:E.isB=ζ)(v:E'.isB=ζ)(m:h.io N=δ n)(K:w.heap[n]?=δ o)(A:∀r,o≠.loop r)
  (G:w'.heap=w.heap.setIfInBounds n o') (C:w'.os=w.os) (O:w'.tape=w.tape) (M:w'.output=w.output) (x:BAt h w' N E'):
  JT X h (H.set N E') w'/\G1 h H w h (H.set N E') w':=by
 have d:N<θ H:=by rcases A0 N (θ H) with f|f;exact f;rw[Ct f]at g;cases g
 have b:E≠.dead:=by rintro rfl;cases J
 have B:∀k,k≠n->w'.heap[k]?=w.heap[k]? :=λk h=>by rw[G];simp[PP h]
 have own:∀k,owned h (H.set N E') k->owned h H k:=by rintro k ⟨i,e,j,c,f⟩;rcases Jv d j with⟨y,a⟩|⟨rfl,_⟩;exact⟨i,e,a,c,f⟩;exact⟨i,E,g,b,f⟩
 have I:G1 h H w h (H.set N E') w':=by refine⟨C,O,M,by rw[G];simp,λk _ hn=>B k λe=>hn ⟨N,E,g,b,by rw[e];exact m⟩,q!,λ_ _=>Al _,λ_ _ _=>⟨rfl,rfl⟩,λk B=>.inl (own k B),λk r hr=>⟨r,?_⟩⟩;refine(B k λe=>?_).trans hr;subst e;rw[K]at hr;injection hr with hr;exact A r hr
 refine⟨s.of_extM I (λi e j c=>?_) (λi D e F k j f p q t u=>?_),I⟩;rcases Jv d j with⟨y,a⟩|⟨rfl,rfl⟩;refine .inl ⟨a,rfl,rfl,rfl,λk z=>B k λe=>?_⟩;subst e;exact y (s.inj i N _ _ k a g c b z m);exact .inr ⟨v,x⟩;rcases Jv d j with⟨y,a⟩|⟨rfl,rfl⟩<;>rcases Jv d f with⟨L,l⟩|⟨rfl,rfl⟩;exact s.inj i D e F k a l p q t u;exact s.inj i D e E k a g p b t u;exact s.inj i D E F k g l b q t u;rfl
end
def oG{k:IntKind}{n:Int}:∀(l:Ψ MapEntry)(a:Ψ (Int×Ad))i,θ l=θ a→(∀(j:Nat)(p:Int×Ad),a[j]?=δ p→ ∃e:MapEntry,l[j]?=δ e∧e.key=.int k p.1)→
  (Instr.findNow (.int k) (.int k n) l i=δ ε/\Lk n a=ε/\∀v,Qf n v a=a++[(n,v)])\/∃j e p,Instr.findNow (.int k) (.int k n) l i=δ (δ (i+j,e.val))/\l[j]?=δ e/\a[j]?=δ p/\e.key=.int k n/\Lk n a=δ p.2/\∀v,Qf n v a=a.set j (n,v)
 |[],[],_,_,_=>.inl ⟨rfl,rfl,λ_=>rfl⟩
 |[],_::_,_,hl,_=>by simp at hl
 |_::_,[],_,hl,_=>by simp at hl
 |e::l,p::a,i,hl,h=>by
  obtain⟨z,o,r⟩:=h 0 p rfl;simp only[cy,Ar]at o;subst o;have m:Instr.sameNow (.int k) (.int k n) e.key=δ (n==p.1):=by rw[r];simp[Instr.sameNow]
  by_cases hn:p.1=n;refine .inr ⟨0,e,p,?_,rfl,rfl,by rw[r,hn],?_,λv=>?_⟩;simp[Instr.findNow,m,hn];simp[Lk,hn];simp[Qf,hn];have c:(n==p.1)=η:=by simp;exact λe=>hn e.symm
  have b:(p.1==n)=η:=by simpa using hn
  rcases oG (k:=k) (n:=n) l a (i+1) (by simpa using hl) (λj q x=>by simpa using h (j+1) q (by simpa using x))with⟨d,f,g⟩|⟨j,s,y,d,f,g,t,u,w⟩;exact .inl ⟨by simp[Instr.findNow,m,c,d],by simp[Lk,b,f],λv=>by simp[Qf,b,g]⟩;exact .inr ⟨j+1,s,y,by simp[Instr.findNow,m,c,d];omega,by simpa using f,by simpa using g,t,by simp[Lk,b,u],λv=>by simp[Qf,b,w]⟩
section
variable {P:Program}{N:Nat}{o:Oper}{env:Env}{H:Aw}{K:Ad->Aw->Prop}
def JS.makeMap(k:IntKind)(c:o.op=.makeMap b ε)(e:K (.mp (θ H)) (H++[.mp k []])):JS P N o env H K:=by
 apply C1 (by rw[c];rfl);intro X h a w s Q;have t:(execOp a.eval o).run P w=.ok (.value (.map (δ w.heap.size))) {w with heap:=w.heap.push (.map #[] 0)}:=by unfold execOp;rw[c];rfl
 unfold Oper.wp;rw[t,Oper.upon_value];refine⟨_,_,_,_,rfl,e,?_,s.sim.push_m (.map #[] 0) 0 (.mp k []) rfl ⟨w.heap.size, #[],by simp[Gh.at_],by simp[Gh.at_],q!,rfl,λj p d=>by simp at d⟩,G1.push _ _ _⟩;exact .mp (by simp[cx]) rfl λ_=>⟨w.heap.size,by simp[cx,Gh.at_],rfl⟩
def AFM(s:St V h N env H Q w)(u:BR env e=.mp n)(X:H[n]?=δ (.mp S r)):
  ∃(B:Nat)(b:Array MapEntry),Q.eval e=.map (δ B)/\h.io n=δ B/\h.gen n=0/\w.heap[B]?=δ (.map b b.size)/\b.size=θ r/\∀(j:Nat)(p:Int×Ad),r[j]?=δ p->∃a:MapEntry,b[j]?=δ a/\a.born=j/\a.key=.int S p.1/\∀e,Bv e p.2 a.val:=by
 have g:=DN s.env e;rw[u]at g;obtain⟨B,b,i,l,m,x,o⟩:=s.sim.bld n _ X rfl;generalize Q.eval e=c at g;cases g with
 |mp t y q=>obtain⟨v,d,rfl⟩:=q l;rw[show(cx V h H w).io n=h.io n from rfl,i]at d;injection d with d;subst d;exact⟨B,b,rfl,i,l,m,x,o⟩
def AE8(s:St X h N env H Q w)(d:BR env e=.int S l):Q.eval e=.int S l:=by have b:=DN s.env e;rw[d]at b;generalize Q.eval e=c at b;cases b;rfl
theorem JS.mapUpdate{et:TypeId}{A:Operand}{id:Nat}{k:IntKind}{es:Ψ (Int×Ad)}{n:Int}{v:Ad}(S:o.op=.mapUpdate b e y A)(hm:BR env e=.mp id)(G:BR env y=.int k n)
  (hp:∀x c,Bv x (BR env A) c->∀t,Bv t v c) (T:P.underlying b=δ (.map W et)) (l:P.underlying W=δ (.int k)) (E:H[id]?=δ (.mp k es)) (R:K .any (H.set id (.mp k (Qf n v es)))):JS P N o env H K:=by
 apply C1 (by rw[S];rfl);intro X h a w s Q;obtain⟨B,U,q1,q2,q3,q4,q5,q6⟩:=AFM s hm E;have V:=AE8 s G;have m:=hp _ _ (DN s.env A);generalize u:a.eval A=c at m;have al:id<θ H:=k!
 have f:IsKey (.int k) (.int k n):=rfl;have q:B<w.heap.size:=(cz.1 q4).1;have z:execOp a.eval o=(do Instr.mapUpdate b (a.eval e) (a.eval y) (a.eval A);pure .skip):=by unfold execOp;rw[S]
 rcases oG (n:=n) (k:=k) U.toList es 0 k! (λj p d=>by obtain⟨I,Z,_,C,_⟩:=q6 j p d;exact⟨I,k!,C⟩)with⟨D,M,O⟩|⟨j,Y,p0,D,M,O,h4,h5,h6⟩;have g:(execOp a.eval o).run P w=.ok .skip {w with heap:=w.heap.setIfInBounds B (.map (U.push {key:=.int k n,val:=c,born:=U.size}) (U.size+1))}:=by rw[z,q1,V,u];simp[Instr.mapUpdate,run_underlying T,MapKept.run_getObj_map q4,MapKept.run_checkKey l f,MapKept.run_findKey l D,MapKept.run_setObj_map _ q4]
 unfold Oper.wp;rw[g,Oper.upon_skip];obtain⟨J,L⟩:=s.sim.setM (E':=.mp k (Qf n v es)) (o':=.map (U.push {key:=.int k n,val:=c,born:=U.size}) (U.size+1))
  (w':={w with heap:=w.heap.setIfInBounds B (.map (U.push {key:=.int k n,val:=c,born:=U.size}) (U.size+1))}) E rfl rfl q2 q4 (λr I=>by cases I) rfl rfl rfl rfl (by refine⟨B,U.push {key:=.int k n,val:=c,born:=U.size},q2,q3,by simp[q],k!,λj p d=>?_⟩;rw[O]at d;rcases RG j (θ es) with ar|rfl|ad;grind;rw[Cn (Al _),G5]at d;simp only[cy,Ar]at d;subst d;exact⟨{key:=.int k n,val:=c,born:=U.size},k!,q5,rfl,m⟩;rw[Ct w!]at d;cases d)
 exact⟨_,_,_,_,rfl,R,.any _,J,L⟩;have d:U[j]?=δ Y:=by simpa using M
 have ap:j<U.size:=(cz.1 d).1;have g:(execOp a.eval o).run P w=.ok .skip {w with heap:=w.heap.setIfInBounds B (.map (U.modify j λI=>{I with key:=.int k n,val:=c}) U.size)}:=by rw[z,q1,V,u];simp[Instr.mapUpdate,run_underlying T,MapKept.run_getObj_map q4,MapKept.run_checkKey l f,MapKept.run_findKey l D,d,h4,MapKept.run_keyThatStays f,MapKept.run_setObj_map _ q4]
 unfold Oper.wp;rw[g,Oper.upon_skip];obtain⟨J,L⟩:=s.sim.setM (E':=.mp k (Qf n v es)) (o':=.map (U.modify j λI=>{I with key:=.int k n,val:=c}) U.size)
  (w':={w with heap:=w.heap.setIfInBounds B (.map (U.modify j λI=>{I with key:=.int k n,val:=c}) U.size)}) E rfl rfl q2 q4 (λr I=>by cases I) rfl rfl rfl rfl (by refine⟨B,U.modify j λI=>{I with key:=.int k n,val:=c},q2,q3,by simp[q],k!,λi p F=>?_⟩;rw[h6,Wf]at F;split at F;grind;rename_i ao;obtain⟨I,Z,C⟩:=q6 i p F;exact⟨I,k!,C⟩)
 exact⟨_,_,_,_,rfl,R,.any _,J,L⟩
def ACt(P:Program)(t:TypeId):Ω Ad:=
 match (P.info? t).bind (·.zero)with
 |some (.agg cs)=>if cs.toList.all (·.oneCell')then δ (.agg (cs.toList.map sH))else ε
 |some (.bool b)=>δ (.bool b)
 |_=>ε
theorem ADy(h:ACt P b=δ v)(w:World):∃z,(zeroValue b).run P w=.ok z w/\∀x,Bv x v z:=by unfold ACt at h;split at h;rename_i d a;split at h;rename_i e;obtain⟨i,c,a⟩:=DM.1 a;refine⟨.agg d,by simp[zeroValue,typeInfo,c,a],λx=>?_⟩;have:=zS x (.agg d);grind[ADH];cases h;rename_i t a;obtain⟨i,c,a⟩:=DM.1 a;injection h with h;subst h;exact⟨.bool t,by simp[zeroValue,typeInfo,c,a],λx=>.bool t⟩;cases h
theorem JS.lookup{O:TypeId}{id:Nat}{k:IntKind}{es:Ψ (Int×Ad)}{n:Int}{z:Ad}{g:Bool}(T:o.op=.lookup b e y g)(hm:BR env e=.mp id)(G:BR env y=.int k n)
  (U:P.underlying b=δ (.map W O)) (f:P.underlying W=δ (.int k)) (hz:ACt P O=δ z) (he:H[id]?=δ (.mp k es))
  (hk:K (bif g then .tup [(Lk n es).getD z,.bool (Lk n es).isSome]else(Lk n es).getD z) H):JS P N o env H K:=by
 apply C1 (by rw[T];cases g<;>rfl);intro X h a w s Q;obtain⟨B,q,q1,q2,q3,q4,q5,q6⟩:=AFM s hm he;have Y:=AE8 s G;have i:IsKey (.int k) (.int k n):=rfl;have t:execOp a.eval o=(do pure (.value (<-Instr.lookup b (a.eval e) (a.eval y) g))):=by unfold execOp;rw[T]
 have x:∀(c:Value)v V,(execOp a.eval o).run P w=.ok (.value (bif g then .tuple #[c,.bool V]else c)) w→Bv (cx X h H w) v c→K (bif g then .tup [v,.bool V]else v) H→
   Oper.wp P o a w (λZ L=>∃c v E C,Z=a.put o.dst c/\K v C/\Bv (cx X E C L) v c/\JT X E C L/\G1 h H w E C L) Q:=by
  intro c v V A I hK;unfold Oper.wp;rw[A,Oper.upon_value];refine⟨_,_,h,H,rfl,hK,?_,s.sim,G1.refl _ _ _⟩;cases g;exact I;refine .tup q! λj u d l S=>?_;rcases j with _|_|j;grind;simp at l S;subst l S;exact .bool V;grind
 rcases oG (n:=n) (k:=k) q.toList es 0 k! (λj p l=>by obtain⟨J,r,_,D,_⟩:=q6 j p l;exact⟨J,k!,D⟩)with⟨F,h2,R⟩|⟨j,M,m,F,h2,R,h4,h5,h6⟩;obtain⟨v,I,hr⟩:=ADy hz w;refine x v z η ?_ (hr _) k!;rw[t,q1,Y];cases g<;>simp[Instr.lookup,run_underlying U,MapKept.run_getObj_map q4,MapKept.run_checkKey f i,MapKept.run_findKey f F,I];obtain⟨e',r,_,_,D⟩:=q6 j m R;have l:q[j]?=δ M:=k!
 rw[l]at r;injection r with r;subst r;refine x M.val m.2 ζ ?_ (D _) k!;rw[t,q1,Y];cases g<;>simp[Instr.lookup,run_underlying U,MapKept.run_getObj_map q4,MapKept.run_checkKey f i,MapKept.run_findKey f F]
theorem JS.range{f:TypeId}{id:Nat}{k:IntKind}{es:Ψ (Int×Ad)}(d:o.op=.range b e)(j:BR env e=.mp id)(l:P.underlying b=δ (.map W f))(g:H[id]?=δ (.mp k es))
  (i:K (.itp (θ H) id) (H++[.it (θ es) []])):JS P N o env H K:=by
 apply C1 (by rw[d];rfl);intro X h a w s Q;obtain⟨B,n,q1,q2,q3,q4,q5,q6⟩:=AFM s j g;have c:id<θ H:=k!
 have t:(execOp a.eval o).run P w=.ok (.value (.pointer (δ ⟨w.heap.size,0,ε⟩))) {w with heap:=w.heap.push (.mapIter (δ B) (θ es) #[] (θ es))}:=by unfold execOp;rw[d];simp only[q1];simp[Instr.range,run_underlying l,MapKept.run_getObj_map q4,newObj,q5];rfl
 unfold Oper.wp;rw[t,Oper.upon_value];refine⟨_,_,_,_,rfl,i,?_,s.sim.push_m (.mapIter (δ B) (θ es) #[] (θ es)) B (.it (θ es) []) rfl ⟨w.heap.size,by simp[Gh.at_],by simp[Gh.at_],by simp[Gh.at_]⟩,G1.push _ _ _⟩;exact .itp (by simp[cx]) (by simp[cx];omega) rfl λ_=>⟨w.heap.size,by simp[cx,Gh.at_],rfl,λ_=>by simp[cx,Gh.at_,Bq c,q2]⟩
def AIK{m:Nat}(s:St V h N env H Q w)(F:BR env e=.itp Y m)(D:H[Y]?=δ (.it n d))(C:H[m]?=δ (.mp S r)):
  ∃(B f:Nat)(b:Array MapEntry),Q.eval e=.pointer (δ ⟨B,0,ε⟩)/\h.io Y=δ B/\h.gen Y=0/\w.heap[B]?=δ (.mapIter (δ f) n d.toArray n)/\h.cap Y=f/\w.heap[f]?=δ (.map b b.size)/\b.size=θ r/\∀(j:Nat)(p:Int×Ad),r[j]?=δ p->∃a:MapEntry,b[j]?=δ a/\a.born=j/\a.key=.int S p.1/\∀e,Bv e p.2 a.val:=by
 have l:=DN s.env e;rw[F]at l;obtain⟨B,o,q,X⟩:=s.sim.bld Y _ D rfl;obtain⟨f,b,t,u,v,y,z⟩:=s.sim.bld m _ C rfl;generalize Q.eval e=c at l;cases l with
 |itp E J I A=>obtain⟨G,g,rfl,x⟩:=A q;rw[show(cx V h H w).io Y=h.io Y from rfl,o]at g;injection g with g;subst g;have x:=x u;rw[show(cx V h H w).io m=h.io m from rfl,t]at x;injection x with x;have x:f=h.cap Y:=x;subst x;exact⟨B,_,b,rfl,o,q,X,rfl,v,y,z⟩
theorem JS.next{x:Operand}{id m:Nat}{k:IntKind}{es:List (Int×Ad)}{seen:List Nat}(ho:o.op= .next x false)(hx:BR env x= .itp id m)(f:H[id]? =some (.it es.length seen))(he:H[m]? =some (.mp k es))
  (z:(∀j,j<es.length->j∈seen)->K (.tup [.bool false]) H)
  (C: ∀(j:Nat) (p:Int×Ad),es[j]? =some p->j∉seen->K (.tup [.bool true,.int k p.1,p.2]) (H.set id (.it es.length (seen++[j])))):JS P N o env H K:=by
 apply C1 (by rw[ho];rfl);intro X h a w s Q;obtain⟨B,v,c,q1,q2,q3,q4,qc,q5,q6,q7⟩:=AIK s hx f he;have ap:execOp a.eval o=(do pure (.value (<-Instr.next (a.eval x) false o.type))):=by unfold execOp;rw[ho]
 have y: ∀(j:Nat) (e:MapEntry),c[j]? =some e->e.born=j/\j<es.length:=by
  intro j e q;have I:j<es.length:=by grind[Array.getElem?_eq_some_iff]
  obtain⟨e',E,T,_⟩:=q7 j _ (Au I);rw[q]at E;injection E with E;subst E;exact⟨T,I⟩
 have t: ∀e∈c.toList,e.born<es.length:=λe A=>by grind[List.getElem?_of_mem]
 have M:w.heap[B]? =some (.mapIter (some v) es.length seen.toArray es.length):=q4;generalize V:Array.filter (λe:MapEntry=>!seen.toArray.contains e.born) c=L;have G: ∀e∈L.toList,e∈c.toList/\e.born∉seen:=λe A=>by rw[<-V]at A;simpa using A
 have E:L.filter (λx=>decide (x.born<es.length))=L:=Array.filter_eq_self.2 (λx hx=>by simpa using t x (G x (by simpa using hx)).1);have T:L.filter (λx=>decide (x.born>=es.length))= #[]:=by grind[Array.filter_eq_empty_iff]
 have D:(Instr.next (.pointer (some ⟨B,0,none⟩)) false o.type).run P w=((do
   let b:=(if L.isEmpty then #[none]else #[])++L.map some;match b[<-choose (.mapNext b.size)]? with
   |some (some e)=>
    setObj B (.mapIter (some v) es.length (seen.toArray.push e.born) c.size)
    pure (.tuple #[.bool true,e.key,e.val])
   |some none=>pure (.tuple #[.bool false])
   |none=>stuck "Next: no such candidate"):Sem Value).run P w:=by
  simp only[Instr.next,getObj,Sem.run_bind,Sem.run,M,q5,Result.andThen,next_test_false seen.toArray c es.length es.length t (Al _),QK,if_false,V,E,T,Array.append_empty];rfl
 by_cases h0:L.size=0;have W:L= #[]:=tu h0;subst W;have g:(execOp a.eval o).run P w= .ok (.value (.tuple #[.bool false])) w:=by simp_all[Sem.run_bind,Sem.run,Question.forced]
 unfold Oper.wp;rw[g,Oper.upon_value];refine⟨_,_,h,H,rfl,z λj q=>?_,.tup q! λi u d f n=>?_,s.sim,G1.refl _ _ _⟩;obtain⟨e,O,R,_⟩:=q7 j _ (Au q);rcases Classical.em (j∈seen)with U|U;exact U;have:e∈(Array.filter (λe:MapEntry=>!seen.toArray.contains e.born) c).toList:=by have A:e∈c:=wL O;simp[A,R,U]
 rw[V]at this;simp at this;rcases i with _|i;simp at f n;subst f n;exact .bool false;simp at f;have ax:L.isEmpty=false:=by simp[Array.isEmpty,h0]
 obtain⟨i,l,ar,Y,Z,ad,al,ao⟩: ∃(i:Nat) (l:World),i<L.size/\l.heap=w.heap/\l.os=w.os/\l.output=w.output/\l.tape=w.tape/\(choose (Question.mapNext L.size)).run P w= .ok i l:=by by_cases hf:L.size<=1;exact⟨0,w,o!,rfl,rfl,rfl,rfl,by simp[choose,Sem.run,Question.forced,hf]⟩;exact⟨_,w.drew,Yt _ o!,rfl,rfl,rfl,rfl,by simp only[choose,Sem.run,Question.forced,decide_eq_true_eq,hf,if_false,Question.cut];rfl⟩
 have A:L[i]∈L.toList:=q!
 obtain⟨m1,m2⟩:=G _ A;obtain⟨j,q⟩:=DW m1;have q:c[j]? =some L[i]:=by simpa using q
 obtain⟨O,R⟩:=y j _ q;obtain⟨e,S,c2,c3,c4⟩:=q7 j _ (Au R);rw[q]at S;injection S with S;subst S;have F:B<w.heap.size:=(cz.1 q4).1;have g:(execOp a.eval o).run P w= .ok (.value (.tuple #[.bool true,.int k es[j].1,L[i].val])) {l with heap:=w.heap.setIfInBounds B (.mapIter (some v) es.length (seen++[j]).toArray es.length)}:=by
  rw[ap,q1,Sem.run_bind,D];simp only[ax,QK,if_false,Array.empty_append,Array.size_map,Sem.run_bind,ao,Result.andThen_ok,dC,OR ar,Bt];have J:(setObj B (.mapIter (some v) es.length (seen.toArray.push L[i].born) c.size)).run P l= .ok () {l with heap:=w.heap.setIfInBounds B (.mapIter (some v) es.length (seen++[j]).toArray es.length)}:=by simp[setObj,Sem.run,Y,M,O,q6]
  simp only[J,Result.andThen_ok,Sem.run_pure,c3]
 unfold Oper.wp;rw[g,Oper.upon_value];obtain⟨s1,s2⟩:=s.sim.setM (E':=.it es.length (seen++[j])) (o':=.mapIter (some v) es.length (seen++[j]).toArray es.length) (w':={l with heap:=w.heap.setIfInBounds B (.mapIter (some v) es.length (seen++[j]).toArray es.length)}) f rfl rfl q2 q4 (λr e=>by cases e) rfl Z al ad
  ⟨B,q2,q3,by simp[F,qc]⟩
 refine⟨_,_,_,_,rfl,C j _ (Au R) (by rw[<-O];exact m2),.tup q! λi u d f n=>?_,s1,s2⟩;rcases i with _|_|_|i;simp at f n;subst f n;exact .bool true;simp at f n;subst f n;exact .int _ _;simp at f n;subst f n;exact c4 _;simp at f
theorem JS.entry{x:Operand}{id m j:Nat}{k:IntKind}{es:Ψ (Int×Ad)}{seen:Ψ Nat}{p:Int×Ad}(l:o.op=.entry x)(A:BR env x=.itp id m)(f:H[id]?=δ (.it (θ es) (seen++[j])))(r:H[m]?=δ (.mp k es))
  (v:es[j]?=δ p) (y:K (.tup [.int k p.1,p.2]) H):JS P N o env H K:=by
 apply C1 (by rw[l];rfl);intro X h a w s Q;obtain⟨B,C,b,q1,q2,q3,q4,J,q5,q6,q7⟩:=AIK s A f r;obtain⟨e,D,n,q,E⟩:=q7 j p v;have t:b.find? (·.born==j)=δ e:=by
  rw[<-Array.find?_toList,<-n];refine find_born e b.toList ?_ k!;have I:b.toList.map (·.born)=List.range b.size:=by refine JX λi=>?_;rw[CU,QJ];rcases A0 i b.size with z|z;obtain⟨e,F,G,_⟩:=q7 i _ (Au (by omega:i<θ es));grind;grind
  grind
 have c:(execOp a.eval o).run P w=.ok (.value (.tuple #[.int k p.1,e.val])) w:=by unfold execOp;rw[l];simp only[q1];simp[Instr.entry,getObj,Sem.run,q4,q5,q6,t,q]
 unfold Oper.wp;rw[c,Oper.upon_value];refine⟨_,_,h,H,rfl,y,.tup q! λi u d f g=>?_,s.sim,G1.refl _ _ _⟩;rcases i with _|_|i;simp at f g;subst f g;exact .int _ _;grind;grind
end
mutual
def Ty.flat:Ty->Bool
 |.list _=>η
 |.arr _ t=>t.flat
 |.prod ts=>ts.flat
 |_=>ζ
def Ss.flat:Ss->Bool
 |.one t=>t.flat
 |.cons t ts=>t.flat&&ts.flat
end
def Plain(v:Ad):Prop:=∀x c,Bv x v c->∀y,Bv y v c
theorem Plain.agg{a:Ψ Ad}(h:∀v∈a,Plain v):Plain (.agg a):=λx c r y=>by
 cases r with
 |agg e f i=>exact .agg e f λj v d b g=>h v (BO b) x d (i j v d b g) y
mutual
theorem Ty.plain_cells:∀(t:Ty),t.flat=ζ->∀x:t.D,∀v∈(t.enc x).cells,Plain v
 |.bool,_,b,v,d=>by simp only[Ty.enc,Ad.cells,A5]at d;subst d;exact λ_ c r y=>by cases r;exact .bool _
 |.int k,_,n,v,d=>by simp only[Ty.enc,Ad.cells,A5]at d;subst d;exact λ_ c r y=>by cases r;exact .int _ _
 |.str,_,s,v,d=>by
  simp only[Ty.enc,Ad.cells,A5]at d;subst d;exact λ_ c r y=>by
   cases r with
   |str t e=>exact .str t e
 |.list t,h,_,_,_=>by cases h
 |.arr n t,h,a,v,d=>by simp only[Ty.enc,Ad.cells,G3]at d;obtain⟨i,_,d⟩:=d;exact t.plain_cells h _ v d
 |.prod ts,h,x,v,d=>ts.plain_cells h x v d
theorem Ss.plain_cells:∀(b:Ss),b.flat=ζ->∀x:b.D,∀v∈b.cells x,Plain v
 |.one t,h,x,v,a=>t.plain_cells h x v a
 |.cons t b,h,x,v,a=>by simp only[Ss.flat,Ba]at h;simp only[Ss.cells,Ak]at a;rcases a with a|a;exact t.plain_cells h.1 _ v a;exact b.plain_cells h.2 _ v a
end
theorem Ty.plain(t:Ty)(h:t.flat=ζ)(x:t.D):Plain (t.enc x):=by have a:=t.plain_cells h x;cases t<;>grind[Plain.agg,Ty.enc,Ad.cells]
section
variable {R:Type}
def vD(P:Program)(H:As)(t:TypeId)(k:TV->As->Ω R):Ω R:=
 match P.underlying t with
 |some (.map kt et)=>
  match P.underlying kt,ABx P 1000 et with
  |some (.int kk),δ ty=>k (.c (.raw (.mp (θ H)))) (H++[.mp η kk ty []])
  |_,_=>ε
 |_=>ε
def oN(P:Program)(H:As)(t:TypeId)(m kx v:TV)(k:TV->As->Ω R):Ω R:=
 match P.underlying t with
 |some (.map kt _)=>
  match m,kx with
  |.c (.raw (.mp id)),.c (.it kk n)=>
   match P.underlying kt,H[id]? with
   |some (.int k1),δ (.mp η k2 ty es)=>
    if k1=kk/\k2=kk then
     match ty.flat with
     |true=>match ty.data v with|some x=>k Vx (H.set id (.mp η k2 ty (Qf n x es)))|none=>ε
     |false=>ε
    else ε
   |_,_=>ε
  |_,_=>ε
 |_=>ε
def yH(P:Program)(H:As)(t:TypeId)(g:Bool)(m kx:TV)(k:TV->As->Ω R):Ω R:=
 match P.underlying t with
 |some (.map kt et)=>
  match m,kx with
  |.c (.raw (.mp id)),.c (.it kk n)=>
   match P.underlying kt,H[id]?,ACt P et with
   |some (.int k1),δ (.mp _ k2 ty es),δ z=>
    if k1=kk/\k2=kk then
     match Ad.beq z (ty.enc ty.zero)with
     |true=>k (bif g then .tup [ty.tv ((Lk n es).getD ty.zero),.c (.bl (Lk n es).isSome)]else ty.tv ((Lk n es).getD ty.zero)) H
     |false=>ε
    else ε
   |_,_,_=>ε
  |_,_=>ε
 |_=>ε
variable {P:Program}{N:Nat}{o:Oper}{env:Bj}{H:As}{k:TV->As->Ω R}{r:R}
theorem vE(ok:OO env H)(t:o.op=.makeMap b ε)(h:vD P H b k=δ r):∀F,nY P N o env H F k r:=by intro F;unfold vD at h;split at h;split at h;rename_i a c _ _;have st:CE H (H++[.mp η a c []]):=CE.push H _;refine⟨_,_,JS.makeMap a t ⟨?_,?_⟩,h,Jw trivial,O5 ok.heap trivial,st,Frame.push F H _⟩;show Ad.mp (BL H).length=Ad.mp (θ H);rw[Cb];rw[QN];rfl;cases h;cases h
def rJ{u:Operand}(ok:OO env H)(E:o.op=.mapUpdate b e y u)(h:oN P H b (Jx env e) (Jx env y) (Jx env u) k=δ r):nY P N o env H (List.range (θ H)) k r:=by
 have m:=Lu env;unfold oN at h;split at h;rename_i K I F;split at h;rename_i id J n D C;split at h;rename_i k1 q a d g i;split at h;rename_i f;obtain⟨w,A⟩:=f;subst w A;split at h;rename_i s;split at h;rename_i x G;have st:CE H (H.set id (.mp η q a (Qf n x d))):=CE.set i rfl λ_ _ _ _ _ h=>by cases h
 refine⟨Vx,_,JS.mapUpdate (id:=id) (k:=q) (n:=n) (v:=a.enc x) (es:=d.map λp=>(p.1,a.enc p.2)) E (by rw[m,D];rfl) (by rw[m,C];rfl) (λt c l z=>?_) F g (by rw[EM,i];rfl) ⟨rfl,?_⟩,h,jM,R0 st ok.heap trivial,st,λj B hn=>(hn (IH.2 B)).elim⟩;rw[m]at l;exact a.plain s x t c (Mz G t c l) z;rw[LU,<-AAB];rfl;cases h;cases h;cases h;cases h;cases h;cases h
theorem wF(ok:OO env H)(t:o.op=.lookup b e y D)(h:yH P H b D (Jx env e) (Jx env y) k=δ r):∀F,nY P N o env H F k r:=by
 intro F;have i:=Lu env;unfold yH at h;split at h;rename_i G j A;split at h;rename_i id E n x w;split at h;rename_i k1 ro C c a z f u B;split at h;rename_i d;obtain⟨l,q⟩:=d;subst l q;split at h;rename_i s;have g:(Lk n (a.map λp=>(p.1,c.enc p.2))).getD z=(c.tv ((Lk n a).getD c.zero)).enc:=by rw[vG,beq_eq _ _ s,Ty.tv_enc];cases Lk n a<;>rfl
 refine⟨_,H,JS.lookup (id:=id) (k:=C) (n:=n) (z:=z) (g:=D) (es:=a.map λp=>(p.1,c.enc p.2)) t (by rw[i,x];rfl) (by rw[i,w];rfl) A f B (by rw[EM,u];rfl) ⟨?_,rfl⟩,h,?_,ok.heap,CE.refl H,Frame.refl F H⟩;rw[g,vG];cases D<;>cases Lk n a<;>rfl;cases D;exact Ty.tv_ok _ _;refine Rz λv m=>?_;rcases Av.1 m with rfl|m;exact Ty.tv_ok _ _;simp at m;subst m;exact Jw trivial;cases h;cases h;cases h;cases h;cases h
end
inductive Tgt where
 |fn (F:FuncId)
 |yd (id:Nat)
abbrev Su:=∀{R:Type},Tgt->Ψ TV->As->(TV->As->Ω R)->Ω R
def iy(ops:Array Oper)(g:Ω (Nat×Bool))(env:Bj):Ω Bool:=
 match g with
 |none=>δ ζ
 |some (j,want)=>
  match (ops[j]?).bind (·.dst)with
  |some d=>match env.get d with|.c (.bl b)=>δ (b==want)|.tup []=>δ η|_=>ε
  |none=>ε
def Ll:Ψ Bx->Ψ Nat
 |[]=>[]
 |.own id _ _ _::r=>id::Ll r
 |_::r=>Ll r
def behind(H:As)(v:TV):Ψ Nat:=
 match v with
 |.c (.raw (.ptr id 0 0))=>match H[id]? with|some (.live η cs)=>Ll cs|_=>[]
 |v=>Ll v.refs
def IM:Ψ Nat->Bj->As->Bj×As
 |[],env,H=>(env,H)
 |id::r,env,H=>match frz id env H with|some (e,h)=>IM r e h|none=>IM r env H
def wj:Ψ Qi->FuncId->Ω Qi
 |[],_=>ε
 |c::r,F=>match ξ c.f F with|true=>δ c|false=>wj r F
def AHY:Ψ Ad->Ψ TV->Bool
 |[.fn (.func C) _ _],vs=>match vs.getLast? with|some (.c (.raw (.fn (.func D) _ _)))=>ξ C D|_=>ζ
 |_,_=>ζ
def AKF:Qi->Ψ TV->Bool
 |.c2 _ _ _ _ post _,.c (.own _ _ _ _)::r=>AHY post r
 |.c2 _ _ _ _ _ _,_=>η
 |_,_=>ζ
def pH:Ψ Qi->FuncId->Ψ TV->Ω Qi
 |[],_,_=>ε
 |c::r,F,vs=>match ξ c.f F&&AKF c vs with|true=>δ c|false=>pH r F vs
def aQ(env:Bj)(op:Op):Ω (FuncId×Ψ TV):=
 match op with
 |.call c=>
  match c.callee with
  |.value f=>match Jx env f with|.c (.raw (.fn (.func F) first caps))=>δ (F,first.map tvA++c.args.toList.map (Jx env)++caps.map tvA)|_=>ε
  |_=>ε
 |_=>ε
def vi(env:Bj)(c:Call):Ω (Nat×Ψ TV):=
 match c.callee with
 |.value f=>match Jx env f with|.c (.raw (.yf id))=>δ (id,c.args.toList.map (Jx env))|_=>ε
 |_=>ε
def AIX:FuncId:=1152921504606846976
def AKq:Qi:=.c0 AIX [] [] λ_=>ε
def AF8:AKq.Ok P:=λ_ _ h=>by cases h
def AF9:FuncId:=1152921504606846977
def AKr:Qi:=.c0 AF9 [] [] λ_=>ε
def AGA:AKr.Ok P:=λ_ _ h=>by cases h
def nV(cs:Ψ Qi)(env:Bj)(H:As)(op:Op):Ψ Nat:=
 match op with
 |.call c=>
  match aQ env (.call c)with
  |some (F,vs)=>match pH cs F vs with|some ct=>(ALB ct vs).flatMap (behind H)|none=>[]
  |none=>[]
 |.buildSlice _ _ parts=>parts.toList.flatMap λp=>Ll (Jx env p.2).refs
 |.store _ a v=>match Jx env a with|.aptr .. =>Ll (Jx env v).refs|.bptr .. =>Ll (Jx env v).refs|_=>[]
 |.slice _ x lo _ _=>match wj cs AIX with|some _=>[]|none=>match lo,wj cs AF9 with|some _,δ _=>[]|_,_=>Ll (Jx env x).refs
 |_=>[]
def X3(H H':As):As:=H++H'.drop (θ H)
def isNil:Ψ R->Bool
 |[]=>ζ
 |_=>η
section
variable {R:Type}
def uV(cs:Ψ Qi)(env:Bj)(H:As)(op:Op):Ψ Nat:=
 match op with
 |.store _ a _=>idT (Jx env a)
 |.mapUpdate .. =>List.range (θ H)
 |.call c=>
  match aQ env (.call c)with
  |some (F,vs)=>match pH cs F vs with|some ct=>AGz ct vs|none=>(match isNil vs with|true=>[]|false=>List.range (θ H))
  |none=>
   match vi env c with
   |some _=>List.range (θ H)
   |none=>match c with|{callee:=.builtin .append,args:=⟨[s,_]⟩,.. }=>idT (Jx env s)|_=>[]
 |_=>[]
def sJ(P:Program)(cs:Ψ Qi)(call:Su)(env:Bj)(H:As)(op:Op)(k:TV->As->Ω R):Ω R:=
 match op with
 |.alloc t=>AAr P H t k
 |.box _ x=>AGk H (Jx env x) k
 |.store t a v=>storeT P H t (Jx env a) (Jx env v) k
 |.buildSlice t len parts=>aL P env H t len parts k
 |.makeSlice t x y=>jC P H t (Jx env x) (Jx env y) k
 |.makeMap t ε=>vD P H t k
 |.mapUpdate t m x y=>oN P H t (Jx env m) (Jx env x) (Jx env y) k
 |.lookup t m x g=>yH P H t g (Jx env m) (Jx env x) k
 |.convert s d x=>
  match kd P d with
  |.bytes=>vd P H s d (Jx env x) k
  |_=>quT P env H (.convert s d x) λv=>k v H
 |.call c=>
  match aQ env (.call c)with
  |some (F,vs)=>
   match Enters P F with
   |true=>
    match pH cs F vs with
    |some ct=>ACD ct vs H k
    |none=>match isNil vs with|true=>call (.fn F) [] (H.map Dx.lock) λv H'=>k v (X3 H H')|false=>call (.fn F) vs H k
   |false=>ε
  |none=>
   match vi env c with
   |some (id,vs)=>call (.yd id) vs H k
   |none=>
    match c with
    |{callee:=.builtin .append,args:=⟨[s,x]⟩,argTypes:=⟨[t,t']⟩}=>match ξ t t' with|true=>tK P H t (Jx env s) (Jx env x) k|false=>ε
    |c=>quT P env H (.call c) λv=>k v H
 |op=>quT P env H op λv=>k v H
def force(f:Bool)(v:TV)(k:TV->Ω R):Ω R:=
 match f with
 |true=>match v with|.c (.bl b)=>cond b (k (.c (.bl ζ))) (k (.c (.bl η)))|v=>k v
 |false=>k v
def guards(ops:Array Oper):Ψ Nat:=ops.toList.filterMap λo=>o.guard.map (·.1)
def Jf(j:Nat):Ψ Nat->Bool
 |[]=>η
 |i::r=>match ξ i j with|true=>ζ|false=>Jf j r
def wE{α:Type}(l:Ψ α)(i:Int)(z:α):Ω (Ψ α):=if 0<=i/\i<=(θ l:Int)then δ (l.take (ο i)++ς (θ l-ο i) z)else ε
def ACI(o1 o2:Oper):Ω (Nat×TypeId×Operand×Operand):=
 match o1.dst,o1.op,o1.guard,o2.dst,o2.op,o2.guard with
 |some d,.slice t x (δ lo) ε ε,ε,ε,.call {callee:=.builtin .clear,args:=⟨[.tmp d']⟩,argTypes:=⟨[t']⟩},ε=>match ξ d d'&&ξ t t' with|true=>δ (d,t,x,lo)|false=>ε
 |_,_,_,_,_,_=>ε
def AI3(P:Program)(H:As)(t:TypeId)(x lo:TV)(k:As->Ω R):Ω R:=
 match x,lo with
 |.c (.own id ver _ _),.c (.it _ i)=>
  match H[id]? with
  |some (.buf η t2 l n2 ver2)=>
   match ξ ver ver2,elT P t,eI P t with
   |true,δ te,δ (ε,e,_)=>
    if h:(Ty.list t2).beq (Ty.list te)=ζ then
     match vj P e with
     |some z=>match te.all z with|some zd=>(wE (α:=te.D) (Ty.cast h l) i zd).bind λl'=>k (H.set id (.buf η te l' n2 ver2))|none=>ε
     |none=>ε
    else ε
   |_,_,_=>ε
  |_=>ε
 |_,_=>ε
def AGt(o:Oper):Ψ Oper->Ω (Nat×TypeId×Operand×Operand)
 |o2::_=>ACI o o2
 |[]=>ε
def AAP(P:Program)(cs:Ψ Qi)(call:Su)(ops:Array Oper)(gs:Ψ Nat)(sk:Bool):Ψ Oper->Nat->Bj->As->(Bj->As->Ω R)->Ω R
 |[],_,env,H,k=>k env H
 |o::r,j,env,H,k=>
  match sk with
  |true=>AAP P cs call ops gs η r (j+1) env H k
  |false=>
   match AGt o r with
   |some (d,t,x,lo)=>AI3 P H t (Jx env x) (Jx env lo) λH'=>AAP P cs call ops gs ζ r (j+1) (env.put d Vx) H' k
   |none=>
    match iy ops o.guard env with
    |some ζ=>
     match IM (nV cs env H o.op) env H with
     |(env1,H1)=>sJ P cs call env1 H1 o.op λv H'=>force (Jf j gs) v λv'=>AAP P cs call ops gs η r (j+1) (env1.putO o.dst v') H' k
    |some η=>AAP P cs call ops gs η r (j+1) (env.putO o.dst (.tup [])) H k
    |none=>ε
end
def pZ(H:As)(v:TV):Prop:=∀id ver t n,Bx.own id ver t n∈v.refs->∀t' l n' ver',H[id]? ≠δ (.buf η t' l n' ver')
structure EH(A:List Nat)(env:Bj)(H:As)(env':Bj)(H':As):Prop where
 step:CE H H'
 same:∀t,t∉A->pZ H (env.get t)->env'.get t=env.get t
def pZ.step(h:CE c M)(d:i.ok c)(k:pZ c i):pZ M i:=by intro id a t n H;have hr:=d (.own id a t n) H;exact h.nb id hr.1 (k id a t n H)
theorem EH.refl(A:Ψ Nat)(env:Bj)(H:As):EH A env H env H:=⟨CE.refl H,λ_ _ _=>rfl⟩
def EH.trans{A B}{d g i:Bj}{c e f:As}(ok:∀p∈d,p.2.ok c)(a:EH A d c g e)(b:EH B g e i f):EH (A++B) d c i f:=by refine⟨a.step.trans b.step,λt l k=>?_⟩;have j:=a.same t (λh=>l (GU _ h)) k;rw[b.same t (λh=>l (NU _ h)) (by rw[j];exact k.step a.step (lV ok t)),j]
def EH.mono(a:EH d j M H c)(h:∀t,t∈d->t∈k):EH k j M H c:=⟨a.step,λt g f=>a.same t (λq=>g (h t q)) f⟩
def tM{t u:Nat}(h:u≠t):∀env:Bj,(Bj.del t env).get u=env.get u
 |[]=>rfl
 |(k,v)::r=>by simp only[Bj.del];by_cases a:k=t;subst a;rw[Hl];simp only[Bj.get,beq_false (PP h)];exact tM h r;rw[beq_false a];simp only[Bj.get];rw[tM h r]
def pu(h:n≠N):(j.put N i).get n=j.get n:=by simp_all[Bj.put,Bj.get,beq_false,PP,tM]
theorem yI{p:Nat×TV}{t:Nat}:∀{env},p∈Bj.del t env->p∈env
 |(k,v)::r,h=>by simp only[Bj.del]at h;split at h;exact CZ _ (yI h);rcases Av.1 h with rfl|h;simp;exact CZ _ (yI h)
theorem cV{d:Ω Nat}(h:∀p∈j,p.2.ok c)(b:i.ok c):∀p∈j.putO d i,p.2.ok c:=by
 cases d with
 |none=>exact h
 |some t=>intro p a;rcases Av.1 a with rfl|a;exact b;grind[yI]
def pO{l:Ψ t.D}(g:c[N]?=δ (.buf η t l n Y))(j:∀a f e d,E=.own a f e d->∀i l2 h H,c[a]? ≠δ (.buf η i l2 h H)):OB N Y t l E=E:=by
 cases E with
 |own a f e d=>simp only[OB];split<;>simp_all
 |_=>rfl
mutual
theorem uk{H:As}{id n k:Nat}{t:Ty}{l:Ψ t.D}(d:H[id]?=δ (.buf η t l n k)):∀{v},pZ H v->pP id k t l v=v
 |.c z,h=>by simp only[pP];rw[pO d λa j i f e=>h a j i f (by simp[TV.refs,e])]
 |.g b,h=>by
  simp only[pP,TV.g.injEq];have:∀b:Ψ Bx,(∀a j i f,Bx.own a j i f∈b->∀s l2 q m,H[a]? ≠δ (.buf η s l2 q m))->b.map (OB id k t l)=b:=by
   intro b;induction b with
   |nil=>intro _;rfl
   |cons z r p=>intro h;rw[B4,p λa j i f o=>h a j i f (by simp[o]),pO d λa j i f e=>h a j i f (by simp[e])]
  exact this b h
 |.tup vs,h=>by simp only[pP];rw[sN d (vs:=vs) h]
 |.aptr ..,_=>rfl
 |.bptr ..,_=>rfl
 |.vw ..,_=>rfl
 |.vx ..,_=>rfl
 |.vptr ..,_=>rfl
theorem sN{H:As}{id n c:Nat}{t:Ty}{l:Ψ t.D}(b:H[id]?=δ (.buf η t l n c)):∀{vs},pZ H (.tup vs)->iK id c t l vs=vs
 |[],_=>rfl
 |v::r,h=>by simp only[iK];rw[uk b (v:=v) λa g f e d=>h a g f e (by simp only[TV.refs,TV.refsL,Ak];exact .inl d),sN b (vs:=r) λa g f e d=>h a g f e (by simp only[TV.refs,TV.refsL,Ak]at d⊢;exact .inr d)]
end
def ACT{f:TV->TV}(a:f Vx=Vx)(t:Nat):∀env:Bj,Bj.get (env.map λp=>(p.1,f p.2)) t=f (env.get t)
 |[]=>a.symm
 |(k,v)::r=>by simp only[B4,Bj.get];split;rfl;exact ACT a t r
def AE1(h:frz N j M=δ (H,c))(t:Nat)(d:pZ M (j.get t)):H.get t=j.get t:=by unfold frz at h;split at h;rename_i e l n b a;obtain⟨rfl,rfl⟩:=h;rw[ACT (f:=pP N b e l) rfl];exact uk a d;cases h
def QO:∀a{env}{H},OO env H→OO (IM a env H).1 (IM a env H).2∧EH [] env H (IM a env H).1 (IM a env H).2∧
  ∀N,Fa N (BL H).length (B3 env) (BL H) (B3 (IM a env H).1) (BL (IM a env H).2)
 |[],env,H,ok=>⟨ok,EH.refl _ _ _,λN=>Fa.refl N _ _⟩
 |id::r,env,H,ok=>by simp only[IM];split;rename_i e h b;obtain⟨f,c,j⟩:=AJB ok b;obtain⟨g,i,k⟩:=QO r f;refine⟨g,(EH.trans (A:=[]) (B:=[]) ok.env ⟨c,λt _ d=>AE1 b t d⟩ i),λN=>(j N).trans ((k N).of_le (by rw[Cb,Cb];exact c.len))⟩;exact QO r ok
variable {q:Ψ Qi}{L:Su}
section
variable {P:Program}{N:Nat}{R:Type}
def zA(P:Program)(args:Ψ Ad)(H:Aw)(v:Ad)(H':Aw):Tgt->Prop
 |.fn F=>Ek P F args H (DO v H')
 |.yd id=>∀N(o:Oper)c f env,o.op=.call c->c.callee=.value f->BR env f=.yf id->c.args.toList.map (BR env)=args->JS P N o env H (DO v H')
def Wy(P:Program)(call:Su):Prop:=∀{R:Type} tg vs H (k:TV->As->Ω R) r,(∀v∈vs,v.ok H)->(∀e∈H,e.ok H)->call tg vs H k=δ r->
 ∃v H',zA P (vs.map TV.enc) (BL H) v.enc (BL H') tg/\k v H'=δ r/\v.ok H'/\(∀e∈H',e.ok H')/\CE H H'
theorem lW(h:iy z I j=δ ζ){A B:Prop}(a:A):Yl z I (B3 j) A B:=by unfold iy at h;grind[Yl,XT,VM,TV.enc,Bx.one]
theorem pX(h:iy z I j=δ η){A B:Prop}(b:B):Yl z I (B3 j) A B:=by unfold iy at h;unfold Yl;split at h;cases h;rename_i a want;unfold XT;split at h;rename_i d e;simp only[e,VM];split at h;grind[TV.enc,Bx.one];rename_i c;simp[c];exact b;cases h;cases h
theorem yB(e:∀d b,j.get d=.c (.bl b)->H.get d=.c (.bl b))(h:iy z I j=δ ζ):iy z I H=δ ζ:=by cases I<;>grind[iy]
theorem uc:∀{a}{F}{c:Qi},wj a F=δ c->c∈a/\c.f=F
 |d::r,F,c,h=>by simp only[wj]at h;split at h;simp_all;obtain⟨b,e⟩:=uc h;grind
theorem ud:∀{a}{F}{b}{c:Qi},pH a F b=δ c->c∈a/\c.f=F
 |d::r,F,b,c,h=>by simp only[pH]at h;split at h;simp_all;obtain⟨e,g⟩:=ud h;grind
theorem o8{e}(h:aQ j e=δ (F,s)):Go.Ab.callT (BR (B3 j)) e=δ (.inl (F,s.map TV.enc))/\∀H,(∀p∈j,p.2.ok H)->∀v∈s,v.ok H:=by
 unfold aQ at h;split at h;rename_i c;split at h;rename_i f d;split at h;rename_i G first a g
 simp at h;obtain⟨rfl,rfl⟩:=h;have b:BR (B3 j) f=.fn (.func G) first a:=by rw[Lu,g];rfl
 have k:∀l:Ψ Ad,(l.map tvA).map TV.enc=l:=by
  intro l;conv=>rhs;rw[<-fi l]
  grind[List.map_congr_left,jO]
 refine⟨?_,λH m v i=>?_⟩;simp_all[Go.Ab.callT,Lu];simp at i;grind[lz,iD];cases h;cases h;cases h
theorem AAc{c}(h:vi j c=δ (N,s)):(∃f,c.callee=.value f/\BR (B3 j) f=.yf N/\c.args.toList.map (BR (B3 j))=s.map TV.enc)/\∀H,(∀p∈j,p.2.ok H)->∀v∈s,v.ok H:=by unfold vi at h;split at h;rename_i f a;split at h;rename_i i g;injection h with h;injection h with d e;subst d e;refine⟨⟨f,a,by rw[Lu,g];rfl,?_⟩,λH b v k=>?_⟩;grind[List.map_congr_left,Lu];grind[iD];cases h;cases h
def AJb{k:TV->As->Ω R}{r:R}(ok:OO j c)(h:quT P j c o.op (k · c)=δ r):∀F,nY P N o j c F k r:=by intro F;obtain⟨v,a,b,H⟩:=xK ok h;exact⟨v,c,Du a ⟨rfl,rfl⟩,b,H,ok.heap,CE.refl c,Frame.refl F c⟩
theorem vu(H:As):BL (H.map Dx.lock)=BL H:=by grind[BL,List.map_congr_left,ph]
theorem zy(h: ∀e∈c,e.ok c): ∀e∈c.map Dx.lock,e.ok (c.map Dx.lock):=by
 have f: ∀id a t n,TZ c id a t n->TZ (c.map Dx.lock) id a t n:=λid a t n q=>by
  refine⟨by simpa using q.1,λro y l w k H=>?_⟩;rw[CU]at H;cases j:c[id]? with
  |none=>grind
  |some e=>
   rw[j]at H;simp at H;cases e<;>simp only[Dx.lock]at H<;>first|(cases H;done)|skip
   injection H with _ m v o p;subst m o p;exact q.2 _ _ _ _ _ j
 have d: ∀x:Bx,x.ok c->x.ok (c.map Dx.lock):=λx i=>by
  cases x with
  |own id a t n=>exact f _ _ _ _ i
  |_=>trivial
 intro e H;obtain⟨u,r,rfl⟩:=Bs.1 H;have g:=h u r;cases u with
 |dead=>trivial
 |live b s=>exact λx i=>d x (g x i)
 |buf=>exact g
 |lp=>exact g
 |mp=>exact g
theorem AEX(L: ∀e∈c,e.ok c)(st:CE (c.map Dx.lock) M)(F: ∀e∈M,e.ok M):
  (∀v:TV,v.ok M->v.ok (X3 c M))/\(∀e∈X3 c M,e.ok (X3 c M))/\CE c (X3 c M)/\ ∀x:Cx,Tm x x (BL M) (BL (X3 c M)):=by
 have K:c.length<=M.length:=by simpa using st.len
 have a:(X3 c M).length=M.length:=by grind[X3,List.length_append,List.length_drop]
 have o: ∀j,j<c.length->(X3 c M)[j]? =c[j]? :=λj p=>CY p;have I: ∀j,c.length<=j->(X3 c M)[j]? =M[j]? :=λj p=>by grind[X3]
 have keep: ∀(j:Nat) (e:Dx),c[j]? =some e->e≠ .dead->M[j]? =some e.lock:=λj e p G=>by apply st.ro j e.lock (by rw[CU,p];rfl);cases e<;>first|rfl|exact(G rfl).elim
 have A: ∀id f t n,TZ M id f t n->TZ (X3 c M) id f t n:=λid f t n q=>by refine⟨by rw[a];exact q.1,λro P l O D d=>?_⟩;rcases A0 id c.length with h|h;rw[o id h]at d;exact q.2 _ _ _ _ _ (keep id _ d q!);rw[I id h]at d;exact q.2 _ _ _ _ _ d
 have k: ∀x:Bx,x.ok M->x.ok (X3 c M):=λx C=>by
  cases x with
  |own id f t n=>exact A _ _ _ _ C
  |_=>trivial
 have B:CE c (X3 c M):=by refine⟨by rw[a];exact K,λid f t n q=>⟨by rw[a];exact DH q.1 K,λro P l O D d=>?_⟩,λid e d _=>?_,λid w h=>by rw[o id w];exact h,λid w _ _ _ _ _ _ _ _ h=>by rw[o id w]at h;exact⟨_,_,h⟩⟩;rw[o id q.1]at d;exact q.2 _ _ _ _ _ d;grind
 refine⟨λv N x C=>k x (N x C),λe d=>?_,B,λx=>⟨by rw[Cb,Cb,a],λj Q p=>?_⟩⟩;rcases Ak.1 d with d|d;exact B.ent (L e d);have E:=F e (Q8 d);cases e with
 |dead=>trivial
 |live b s=>exact λx C=>k x (E x C)
 |buf=>exact E
 |lp=>exact E
 |mp=>exact E
 rw[EM]at p;cases J:(X3 c M)[j]? with
 |none=>grind
 |some y=>
  rw[J]at p;simp at p;subst p;have same:(BL M)[j]? =some y.enc->y.enc= .dead\/(∃g s u,(BL M)[j]? =some (.live g s)/\y.enc= .live g u/\u.length=s.length/\ ∀(i:Nat) (z:Ad),u[i]? =some z-> ∃v,s[i]? =some v/\Conv x x v z)\/((BL M)[j]? =some y.enc/\ ∀g s,y.enc≠ .live g s):=λh=>by
   cases y with
   |dead=>exact .inl rfl
   |live b s=>exact .inr (.inl ⟨_,_,_,h,rfl,rfl,λi z h=>⟨z,h,λ_ r=>r⟩⟩)
   |buf b t l m f=>exact .inr (.inl ⟨_,_,_,h,rfl,rfl,λi z h=>⟨z,h,λ_ r=>r⟩⟩)
   |lp=>exact .inr (.inr ⟨h,λ_ _ h=>by cases h⟩)
   |mp=>exact .inr (.inr ⟨h,λ_ _ h=>by cases h⟩)
  rcases A0 j c.length with h|h;rw[o j h]at J;by_cases H:y= .dead;subst H;exact .inl rfl;grind[EM,ph];grind[EM]
theorem sK(y:∀W∈q,W.Ok P)(l:Wy P L){k:TV->As->Ω R}{r:R}(ok:OO j c)(h:sJ P q L j c o.op k=δ r):nY P N o j c (uV q j c o.op) k r:=by
 have s:∀t,o.op=t->quT P j c t (k · c)=δ r->∀F,nY P N o j c F k r:=λt e h=>AJb ok k!;generalize a:o.op=t at h;unfold sJ at h;split at h;exact xf ok a h;exact AAy ok a h;exact yk ok a h;exact oi ok a h;exact rI ok a h;grind[vE];exact rJ ok a h;grind[wF];split at h;exact ve ok a h;grind;rename_i W;split at h;rename_i F H m;obtain⟨K,C⟩:=o8 m;split at h;rename_i x;split at h;rename_i u n;obtain⟨M,O⟩:=ud n;obtain⟨v,d,q1,q2,q3,q4,q5,q6⟩:=zM (y u M) (C c ok.env) ok.heap h;rw[O]at q1;exact⟨v,d,lj k! x q1,q2,q3,q4,q5,by simp only[uV,m,n];exact q6⟩;rename_i n;split at h;rename_i b;have A:H=[]:=by cases H<;>first|rfl|cases b
 subst A;obtain⟨v,d,q1,q2,q3,q4,q5⟩:=l (.fn F) [] (c.map Dx.lock) _ r (λv Q=>by cases Q) (zy ok.heap) h;obtain⟨E,G,I,J⟩:=AEX ok.heap q5 q4;have B:Ek P F [] (BL c) (DO v.enc (BL d)):=by grind[zA,vu]
 refine⟨v,X3 c d,JS.after (lj k! x B) λX g w _=>?_,q2,E v q3,G,I,?_⟩;have hr:=(J (cx X g (BL d) w)).onto;exact⟨hr,λW r=>r.later hr.later⟩;simp only[uV,m,n];exact λi p _=>CY p;rename_i b;obtain⟨v,d,q1,q2,q3,q4,q5⟩:=l (.fn F) H c k r (C c ok.env) ok.heap h;have z:=b;exact⟨v,d,lj (by rw[a];exact K) x q1,q2,q3,q4,q5,by simp only[uV,m,n,z];exact λi p hn=>(hn (IH.2 p)).elim⟩;cases h;rename_i m;split at h;rename_i id H D;obtain⟨⟨f,S,T,U⟩,V⟩:=AAc D;obtain⟨v,d,q1,q2,q3,q4,q5⟩:=l (.yd id) H c k r (V c ok.env) ok.heap h;exact⟨v,d,q1 N o W f (B3 j) a S T U,q2,q3,q4,q5,by simp only[uV,m,D];exact λi p hn=>(hn (IH.2 p)).elim⟩;grind[vk,Nat.eq_of_beq_eq_true,uV];grind
theorem oH{k:TV->Ω R}{r:R}(h:force D i k=δ r):k i=δ r:=by unfold force at h;grind
def pE(ops:Ψ Oper):Ψ Nat:=ops.filterMap (·.dst)
def uQ{a}{d:Nat}(h:ACI o a=δ (d,b,e,y)):o.dst=δ d/\o.op=.slice b e (δ y) ε ε/\o.guard=ε/\a.dst=ε/\a.op=.call {callee:=.builtin .clear,args:= #[.tmp d],argTypes:= #[b]}/\a.guard=ε:=by unfold ACI at h;split at h;rename_i t f g i j k;split at h<;>simp_all;cases h
def wk{a:Ty}{z:Ψ Ad}{b:a.D}(h:Dp z (a.enc b).cells):∀n:Nat,Dp (ς n z).flatten (a.E.cl (ς n b))
 |0=>Dp.refl _
 |n+1=>by exact Dp.append h (wk h n)
theorem AA2{o1 o2}{d:Nat}{t:TypeId}{x lo:Operand}{env}{H}{k:As→Ω R}{r:R}(ok:OO env H)(hc:ACI o1 o2=δ (d,t,x,lo))(h:AI3 P H t (Jx env x) (Jx env lo) k=δ r):
  ∃v G,JS P N o1 (B3 env) (BL H) (DO v (BL H))/\JS P N o2 ((B3 env).put d v) (BL H) (DO (.tup []) (BL G))/\k G=δ r/\(∀e∈G,e.ok G)/\CE H G:=by
 obtain⟨_,c2,_,c4,U,_⟩:=uQ hc;unfold AI3 at h;split at h;rename_i id c t0 n0 kk i hx Z;split at h;rename_i a l b ap y;split at h;rename_i te e ax hb al F;split at h;rename_i S;split at h;rename_i z hz;split at h;rename_i zd ao;obtain⟨w,o,h⟩:=DM.1 h;have T:=DB hb;subst T;have u:=Ty.beq_eq _ _ S;injection u with u;subst u;have B:(Ty.cast S l:Ψ a.D)=l:=rfl;rw[B]at o;have hr:TZ H id c t0 n0:=by have:=iD ok.env x;rw[hx]at this;exact this (.own id c t0 n0) (by simp[TV.refs])
 obtain⟨_,q⟩:=hr.2 _ _ _ _ _ y;obtain⟨rfl,rfl⟩:=q rfl;have hn:b=θ l:=ok.heap _ (BO y);obtain⟨e',I,M⟩:=kz al;rw[I]at F;injection F with F;injection F with _ F;injection F with X Y;subst X Y;obtain⟨z1,z2⟩:=Zl hz;have p:=F3 ao;have C:(lvs z).length=a.sz:=by rw[<-p.1,a.enc_len]
 unfold wE at o;split at o;rename_i hi;injection o with o;have O:CE H (H.set id (.buf η a w b c)):=CE.set y rfl λ_ _ _ _ _ e=>k!
 have J:Dx.ok (H.set id (.buf η a w b c)) (.buf η a w b c):=by show b=θ w;grind
 have m:(BL H)[id]?=δ (.live b (a.E.cl l)):=by rw[EM,y];rfl
 have A:id<(BL H).length:=k!
 have ex:BR (B3 env) x=.sl id b a.sz 0 b:=by rw[Lu,hx];rfl
 have el:BR (B3 env) lo=.int kk i:=by rw[Lu,Z];rfl
 have W:UB (BL H) id b=ζ:=by simp[UB,m]
 have s:∀v,BR ((B3 env).put d v) (.tmp d)=v:=λv=>by simp[BR,Env.put,Env.get]
 have j:=a.E.clen l;have Q:a.E.sz=a.sz:=rfl;rw[Q]at j;have ad:Ch P (B3 env) (BL H) o1.op=δ (if i.toNat=0 then .sl id b a.sz 0 b else if i.toNat=b then .vs a.sz []else .sl id b a.sz (0+i.toNat*a.sz) (b-i.toNat)):=by
  rw[c2];have b1:XB 0 (δ (Ad.int kk i))=δ i.toNat:=by grind[XB,vH]
  have b2:∀n,XB n ε=δ n:=λ_=>rfl;simp only[Ch,ex,el,Bt,nq,cZ,b1,b2,I];rw[C! ⟨P!,a.sz_pos,o!,Al _,Al _,W,q!⟩];grind
 have g:∀V,a.E.cl l=V->(BL H).set id (.live b V)=BL H:=λV ar=>by apply JX;grind
 have f:Dp (XZ (a.E.cl l) (i.toNat*a.sz) (ς (b-i.toNat) (lvs z)).flatten) (a.E.cl w):=by
  have e1:a.E.cl w=a.E.cl (l.take i.toNat)++a.E.cl (ς (b-i.toNat) zd):=by grind[Sg.cl]
  have e2:(a.E.cl l).take (i.toNat*a.sz)=a.E.cl (l.take i.toNat):=by
   have e3:a.E.cl l=a.E.cl (l.take i.toNat)++a.E.cl (l.drop i.toNat):=by grind[List.take_append_drop,Sg.cl]
   have e4:(a.E.cl (l.take i.toNat)).length=i.toNat*a.sz:=by rw[a.E.clen,BP,Q];grind
   grind
  have e5:(a.E.cl l).drop (i.toNat*a.sz+(ς (b-i.toNat) (lvs z)).flatten.length)=[]:=by apply mJ;simp[C];rw[<-D5];grind
  unfold XZ;rw[e1,e2,e5,Dc];exact(Dp.refl _).append (wk p _)
 have L:JS P N o2 ((B3 env).put d (if i.toNat=0 then .sl id b a.sz 0 b else if i.toNat=b then .vs a.sz []else .sl id b a.sz (0+i.toNat*a.sz) (b-i.toNat))) (BL H) (DO (.tup []) (BL (H.set id (.buf η a w b c)))):=by
  have e6:BL (H.set id (.buf η a w b c))=(BL H).set id (.live b (a.E.cl w)):=by rw[LU];rfl
  rw[e6];by_cases h0:i.toNat=0;rw[C! h0];refine JS.set_less A ?_ f;have:=JS.clear (N:=N) (K:=DO (.tup []) _) U c4 I M z1 C (s (.sl id b a.sz 0 b)) m (by rw[j,hn];omega) ⟨rfl,rfl⟩;grind;rw[D! h0];by_cases h1:i.toNat=b;rw[C! h1];have e7:w=l:=t!
  rw[e7,g _ rfl];exact tC U (QB I).1 (s _) ⟨rfl,rfl⟩;rw[D! h1];refine JS.set_less A ?_ f;have:=JS.clear (N:=N) (K:=DO (.tup []) _) U c4 I M z1 C (s (.sl id b a.sz (0+i.toNat*a.sz) (b-i.toNat))) m (by rw[j,<-hn,DZ,<-D5];apply NW;omega) ⟨rfl,rfl⟩;grind
 exact⟨_,_,Du ad ⟨rfl,rfl⟩,L,h,R0 O ok.heap J,O⟩;grind;cases h;cases h;cases h;cases h;cases h;cases h
def AGD:Fa N (BL c).length ((B3 j).put n v) (BL c) (B3 (j.put n Vx)) (BL c):=by
 refine W5 rfl λX g w s=>⟨Tm.refl _ _,λt f m=>?_⟩
 rw[lC]at m;rcases Av.1 m with e|m;injection e with a b;subst a b;exact⟨v,JV,λH _=>.any H⟩;exact⟨f,CZ _ m,λ_ r=>r⟩
theorem jH{J:Ψ Qi}(m:∀c∈J,c.Ok P){p}(l:Wy P p){D:Array Oper}{gs:Ψ Nat}:∀os j env H k(r:R),OO env H→AAP P J p D gs η os j env H k=δ r→
  ∃f i,Xh P N D os (B3 env) (BL H) (λe h=>e=B3 f/\h=BL i)/\k f i=δ r/\OO f i/\EH (pE os) env H f i
 |[],j,env,H,k,r,ok,h=>⟨env,H,⟨_,_,Fa.refl _ _ _,rfl,rfl⟩,h,ok,EH.refl _ _ _⟩
 |o::os,j,env,H,k,r,ok,h=>by
  simp only[AAP]at h;have B:∀{e}{h}{v},EH (pE [o]) e h (e.putO o.dst v) h:=by
   intro e h v;refine⟨CE.refl h,λt U _=>?_⟩;cases hd:o.dst with
   |none=>rfl
   |some d=>refine pu λe=>U ?_;simp[pE,hd,e]
  have z:∀t,t∈pE [o]++pE os->t∈pE (o::os):=by grind[pE]
  split at h;rename_i d t x lo y;cases os with
  |nil=>cases y
  |cons o2 E=>
   have hc:=y;obtain⟨c1,c2,c3,c4,c5,c6⟩:=uQ hc;obtain⟨v,C,M,w2,T,W,st⟩:=AA2 (N:=N) ok hc h;have g:OO (env.put d Vx) C:=⟨cV (d:=δ d) (st.env ok.env) jM,W⟩
   obtain⟨f,i,L,Y,F,G⟩:=jH m l E (j+1+1) _ C k r g T;refine⟨f,i,⟨B3 env,BL H,Fa.refl N _ _,?_⟩,Y,F,?_⟩;rw[c3];apply JS.mono M;rintro u _ ⟨rfl,rfl⟩;rw[c1];refine⟨(B3 env).put d u,BL H,Fa.refl N _ _,?_⟩;rw[c6];apply JS.mono w2;rintro _ _ ⟨rfl,rfl⟩;rw[c4];exact Xh.weak AGD L;have Z:EH (pE [o]) env H (env.put d Vx) C:=by exact⟨st,λu hu _=>pu λe=>hu (by simp[pE,c1,e])⟩
   refine(EH.trans ok.env Z G).mono λu hu=>?_;grind[pE,List.mem_cons_of_mem]
  split at h;rename_i S;obtain⟨K,t1,M⟩:=QO (nV J env H o.op) ok;generalize IM (nV J env H o.op) env H=q at h K t1 M;obtain⟨env1,C⟩:=q;obtain⟨v,I,e1,e2,e3,e4,e5,_⟩:=sK (N:=N) m l K h;have O:=oH e2;have g:OO (env1.putO o.dst v) I:=⟨cV (e5.env K.env) e3,e4⟩
  obtain⟨f,i,L,E,F,G⟩:=jH m l os (j+1) _ I k r g O;refine⟨f,i,?_,E,F,?_⟩;refine⟨B3 env1,BL C,M N,lW ?_ ?_⟩;exact yB (λd b hb=>by rw[t1.same d (λh=>by cases h) (by rw[hb];intro id al t n hm;simp[TV.refs]at hm),hb]) S;exact λrr X h0 a w s Q=>Ww (e1 rr X h0 a w s Q) (by rintro a' w' ⟨c,u,h',ad,ha,⟨rfl,rfl⟩,V,hs,hx⟩;exact⟨c,_,h',_,ha,by show Xh P N D os ((B3 env1).putO o.dst v.enc) (BL I) _;rw[<-Ye];exact L,V,hs,hx⟩);have Z:EH (pE [o]) env1 C (env1.putO o.dst v) I:=by exact⟨e5,λt U T=>(B (h:=C)).same t U T⟩
  have:=(EH.trans (A:=[]) ok.env t1 (EH.trans K.env Z G))
  exact this.mono z;rename_i S;have g:OO (env.putO o.dst (.tup [])) H:=⟨cV ok.env (Rz λv V=>by cases V),ok.heap⟩
  obtain⟨f,i,L,E,F,G⟩:=jH m l os (j+1) _ H k r g h;refine⟨f,i,⟨B3 env,BL H,Fa.refl N _ _,pX S ?_⟩,E,F,(EH.trans ok.env B G).mono z⟩;have:(B3 env).putO o.dst (.tup [])=B3 (env.putO o.dst (.tup [])):=by rw[Ye];rfl
  grind;cases h
end
def Ks(S:Ψ Nat):Nat->As->As
 |_,[]=>[]
 |j,e::r=>(match Jf j S with|true=>e|false=>e.lock)::Ks S (j+1) r
theorem Jd{S:Ψ Nat}:∀H(i j:Nat),(Ks S i H)[j]?=(H[j]?).map λe=>match Jf (i+j) S with|true=>e|false=>e.lock
 |[],i,j=>by simp[Ks]
 |e::r,i,0=>by simp[Ks]
 |e::r,i,j+1=>by simp only[Ks,mN];rw[Jd r (i+1) j];grind
def Io{S:Ψ Nat}:∀H i,(Ks S i H).length=θ H
 |[],_=>rfl
 |e::r,i=>by simp[Ks,Io r]
theorem rF{S}:∀H i,BL (Ks S i H)=BL H
 |[],_=>rfl
 |e::r,i=>by have:=rF (S:=S) r (i+1);grind[BL,Ks,ph]
theorem oM(h:TZ c N n t Y):TZ (Ks d 0 c) N n t Y:=by
 refine⟨by rw[Io];exact h.1,λro r l p f a=>?_⟩;rw[Jd]at a;cases S:c[N]? with
 |none=>grind
 |some e=>
  rw[S]at a;simp at a;split at a;subst a;exact h.2 _ _ _ _ _ S;cases e with
  |dead=>cases a
  |live b k=>cases a
  |lp=>cases a
  |mp=>cases a
  |buf b s o q u=>injection a with _ g m i j;subst g i j;exact h.2 _ _ _ _ _ S
def rG{S:List Nat}(h:E.ok c):E.ok (Ks S 0 c):=by
 cases E with
 |own id a t n=>exact oM h
 |_=>trivial
theorem lf{S:List Nat}(ok:OO j c):OO j (Ks S 0 c):=by
 refine⟨λp o x g=>rG (ok.env p o x g),λe m=>?_⟩;obtain⟨H,a⟩:=Eg.1 m;rw[Jd]at a;cases i:c[H]? with
 |none=>grind
 |some q=>
  rw[i]at a;simp at a;have d:=ok.heap q (BO i);have f:q.ok (Ks S 0 c):=by
   cases q with
   |dead=>trivial
   |live b k=>exact λx g=>rG (d x g)
   |buf b t l n h=>exact d
   |lp=>exact d
   |mp=>exact d
  split at a;grind;subst a;cases q with
  |dead=>trivial
  |live b k=>exact f
  |buf b t l n h=>exact f
  |lp=>exact f
  |mp=>exact f
def w7{j:Nat}:∀{l},Jf j l=ζ->j∈l
 |i::r,h=>by simp only[Jf]at h;split at h;rename_i a;exact Av.2 (.inl (DB a).symm);exact CZ _ (w7 h)
def R5(S:Ψ Nat):Nat->As->As->As
 |j,e::r,e'::r'=>(match Jf j S with|true=>e'|false=>e)::R5 S (j+1) r r'
 |_,_,H'=>H'
def wQ{S}:∀{H a:As}(i j:Nat),θ H<=θ a->(R5 S i H a)[j]?=match τ (j<θ H)&& !Jf (i+j) S with|true=>H[j]? |false=>a[j]?
 |[],a,i,j,_=>by simp[R5]
 |e::r,[],i,j,h=>by simp at h
 |e::r,e'::r',i,0,h=>by simp only[R5,NV,cy,Bh,Nat.zero_lt_succ,decide_true,mE];cases Jf i S<;>rfl
 |e::r,e'::r',i,j+1,h=>by
  simp only[R5,mN];rw[wQ (i+1) j (by simpa using h),show i+1+j=i+(j+1) by omega];have:τ (j+1<(e::r).length)=τ (j<θ r):=q!
  rw[this]
def wR{S:Ψ Nat}:∀{H a:As}i,θ H<=θ a->(R5 S i H a).length=θ a
 |[],a,i,_=>by simp[R5]
 |e::r,[],i,h=>by simp at h
 |e::r,e'::r',i,h=>by simp[R5,wR (i+1) (show θ r<=θ r' by simpa using h)]
theorem AEY{S:List Nat}(V: ∀e∈c,e.ok c)(st:CE (Ks S 0 c) M)(Q: ∀e∈M,e.ok M):
  (∀v:TV,v.ok M->v.ok (R5 S 0 c M))/\(∀e∈R5 S 0 c M,e.ok (R5 S 0 c M))/\CE c (R5 S 0 c M)/\Frame S c (R5 S 0 c M)/\ ∀x:Cx,Tm x x (BL M) (BL (R5 S 0 c M)):=by
 have P:c.length<=M.length:=by simpa[Io]using st.len
 have z:=wR (S:=S) 0 P;have C:=λj=>wQ (S:=S) 0 j P;have o: ∀j,j<c.length->Jf j S=false->(R5 S 0 c M)[j]? =c[j]? :=λj k d=>by rw[C,DZ,d,decide_eq_true k];rfl
 have u: ∀j,(c.length<=j\/Jf j S=true)->(R5 S 0 c M)[j]? =M[j]? :=λj k=>by rw[C,DZ];rcases k with h|h;rw[decide_eq_false o!];rfl;rw[h,Bn,Bool.and_false]
 have T: ∀j,Jf j S=true->(Ks S 0 c)[j]? =c[j]? :=λj k=>by rw[Jd,DZ,k];cases c[j]? <;>rfl
 have keep: ∀(j:Nat) (e:Dx),Jf j S=false->c[j]? =some e->e≠ .dead->M[j]? =some e.lock:=λj e d k R=>by apply st.ro j e.lock (by rw[Jd,k,DZ,d];rfl);cases e<;>first|rfl|exact(R rfl).elim
 have f: ∀j,(j<c.length/\Jf j S=false)\/(c.length<=j\/Jf j S=true):=λj=>by
  rcases A0 j c.length with h|h;cases d:Jf j S with
  |false=>exact .inl ⟨h,rfl⟩
  |true=>exact .inr (.inr rfl)
  exact .inr (.inl h)
 have K: ∀id w t n,TZ M id w t n->TZ (R5 S 0 c M) id w t n:=λid w t n q=>by refine⟨by rw[z];exact q.1,λro Z l Y N p=>?_⟩;rcases f id with⟨h,d⟩|h;rw[o id h d]at p;exact q.2 _ _ _ _ _ (keep id _ d p q!);rw[u id h]at p;exact q.2 _ _ _ _ _ p
 have A: ∀x:Bx,x.ok M->x.ok (R5 S 0 c M):=λx H=>by
  cases x with
  |own id w t n=>exact K _ _ _ _ H
  |_=>trivial
 have L:CE c (R5 S 0 c M):=by refine⟨by rw[z];exact P,λid w t n q=>⟨by rw[z];exact DH q.1 P,λro Z l Y N p=>?_⟩,λid e p hr=>?_,λid G h=>?_,λid G ro F n env ps a b s h=>?_⟩;rcases f id with⟨h,d⟩|h;rw[o id h d]at p;exact q.2 _ _ _ _ _ p;rw[u id h]at p;exact(st.refs id w t n (oM q)).2 _ _ _ _ _ p;have W:=(EX.1 p).1;rcases f id with⟨h,d⟩|h;rw[o id h d];exact p;have d:=h.resolve_left o!;rw[u id h];exact st.ro id e (by rw[T id d];exact p) hr;rcases f id with⟨B,d⟩|B;rw[o id B d];exact h;have d:=B.resolve_left o!;rw[u id B];exact st.nb id (by rw[Io];exact G) (by rw[T id d];exact h);rcases f id with⟨B,d⟩|B;rw[o id B d]at h;exact⟨_,_,h⟩;have d:=B.resolve_left o!;rw[u id B]at h;obtain⟨r1,s1,q⟩:=st.lp id (by rw[Io];exact G) _ _ _ _ _ _ _ _ h;rw[T id d]at q;exact⟨_,_,q⟩
 refine⟨λv X x H=>A x (X x H),λe p=>?_,L,λj k hn=>o j k (by
  cases d:Jf j S with
  |false=>rfl
  |true=>exact absurd (w7 d) hn),λx=>⟨by rw[Cb,Cb,z],λj e' k=>?_⟩⟩
 obtain⟨j,k⟩:=Eg.1 p;rcases f j with⟨h,d⟩|h;rw[o j h d]at k;exact L.ent (V e (BO k));rw[u j h]at k;have O:=Q e (BO k);cases e with
 |dead=>trivial
 |live b D=>exact λx H=>A x (O x H)
 |buf=>exact O
 |lp=>exact O
 |mp=>exact O
 rw[EM]at k;cases J:(R5 S 0 c M)[j]? with
 |none=>grind
 |some y=>
  rw[J]at k;simp at k;subst k;have same:(BL M)[j]? =some y.enc->y.enc= .dead\/(∃g D E,(BL M)[j]? =some (.live g D)/\y.enc= .live g E/\E.length=D.length/\ ∀(i:Nat) (I:Ad),E[i]? =some I-> ∃v,D[i]? =some v/\Conv x x v I)\/((BL M)[j]? =some y.enc/\ ∀g D,y.enc≠ .live g D):=λh=>by
   cases y with
   |dead=>exact .inl rfl
   |live b D=>exact .inr (.inl ⟨_,_,_,h,rfl,rfl,λi I h=>⟨I,h,λ_ r=>r⟩⟩)
   |buf b t l m w=>exact .inr (.inl ⟨_,_,_,h,rfl,rfl,λi I h=>⟨I,h,λ_ r=>r⟩⟩)
   |lp=>exact .inr (.inr ⟨h,λ_ _ h=>by cases h⟩)
   |mp=>exact .inr (.inr ⟨h,λ_ _ h=>by cases h⟩)
  rcases f j with⟨h,d⟩|h;rw[o j h d]at J;by_cases U:y= .dead;subst U;exact .inl rfl;exact same (by rw[EM,keep j y d J U];simp[ph]);rw[u j h]at J;exact same (by rw[EM,J];rfl)
def isLen:Op->Bool
 |.call {callee:=.builtin .len,.. }=>ζ
 |.move _=>ζ
 |.assign _=>ζ
 |.extract _ _=>ζ
 |_=>η
def rdT(env:Bj)(op:Op):Ψ Nat:=match isLen op with|true=>[]|false=>op.operands.toList.flatMap λx=>idT (Jx env x)
def XX(o:Oper)(env:Bj):Bj:=(tmpsOf o).filterMap λt=>match env.get t with|.c (.raw .any)=>ε|v=>δ (t,v)
def lm(ids:Ψ Nat):Nat->As->Ψ Nat
 |_,[]=>[]
 |j,.live η cs::r=>match (Ll cs).any λi=>Jf i ids with|true=>j::lm ids (j+1) r|false=>lm ids (j+1) r
 |j,_::r=>lm ids (j+1) r
def AFd:Bx->Bool
 |.own .. =>η
 |.raw _=>η
 |_=>ζ
def xg:Ψ TV->Ω (Ψ Nat)
 |[]=>δ []
 |v::r=>
  match xg r with
  |none=>ε
  |some ids=>
   match v with
   |.c (.own id _ _ _)=>δ (id::ids)
   |.c x=>match AFd x with|true=>δ ids|false=>ε
   |.g cs=>match cs.all AFd with|true=>δ ids|false=>ε
   |_=>ε
section
variable {R:Type}
def quD(P:Program)(env:Bj)(H:As)(op:Op)(k:TV->Ω R):Ω R:=
 match op with
 |.buildSlice t len parts=>rq P env t len parts k
 |op=>quT P env H op k
def uU(P:Program)(cs:Ψ Qi)(call:Su)(env:Bj)(H:As)(op:Op)(k:TV->As->Ω R):Ω R:=
 match op with
 |.box _ x=>AGk H (Jx env x) k
 |.store t a v=>storeT P H t (Jx env a) (Jx env v) k
 |.makeSlice t x y=>jC P H t (Jx env x) (Jx env y) k
 |.buildSlice t len parts=>aL P env H t len parts k
 |.call c=>
  match aQ env (.call c)with
  |some (F,vs)=>
   match Enters P F with
   |true=>
    match pH cs F vs with
    |some ct=>ACD ct vs H k
    |none=>match xg vs with|some ids=>call (.fn F) vs (Ks ids 0 H) λv H'=>k v (R5 ids 0 H H')|none=>call (.fn F) vs H k
   |false=>ε
  |none=>
   match vi env c with
   |some (id,vs)=>call (.yd id) vs H k
   |none=>
    match c with
    |{callee:=.builtin .append,args:=⟨[s,x]⟩,argTypes:=⟨[t,t']⟩}=>match ξ t t' with|true=>tK P H t (Jx env s) (Jx env x) k|false=>ε
    |_=>ε
 |_=>ε
def AJ9(P:Program)(cs:Ψ Qi)(call:Su)(env:Bj)(H:As)(op:Op)(k:TV->As->Ω R):Ω R:=
 match IM (nV cs env H op) env H with
 |(ef,hf)=>uU P cs call ef hf op k
def vt(cs:Ψ Qi)(env:Bj)(H:As)(op:Op):Ψ Nat:=
 match op with
 |.call c=>
  match aQ env (.call c)with
  |some (F,vs)=>match pH cs F vs with|some _=>uV cs env H (.call c)|none=>match xg vs with|some ids=>ids|none=>uV cs env H (.call c)
  |none=>uV cs env H (.call c)
 |op=>uV cs env H op
def zW(cs:Ψ Qi)(env:Bj)(H:As)(op:Op):Ψ Nat:=
 match nV cs env H op with
 |[]=>vt cs env H op
 |ids=>ids++lm ids 0 H++(match IM ids env H with|(ef,hf)=>vt cs ef hf op)
def AKI:Op->Bool
 |.buildSlice .. =>ζ
 |_=>η
def ABm(P:Program)(cs:Ψ Qi)(call:Su)(ops:Array Oper)(m:Ψ Nat)(gs:Ψ Nat)(ow:Bool):Ψ Nat->Ψ (Nat×Ψ Nat)->Bj->As->(Bj->As->Ω R)->Ω R
 |[],_,env,H,k=>k env H
 |i::r,pend,env,H,k=>
  match ops[i]? with
  |none=>ε
  |some o=>
   match o.op with
   |.alloc t=>
    match vj P t with
    |some z=>
     match o.guard.isNone&&r.all (λj=>P1 m i j||Ig ops j)with
     |true=>ABm P cs call ops m gs ow r pend (env.putO o.dst (.c (.raw (.ptr (θ H) 0 0)))) (H++[.live η z]) k
     |false=>ε
    |none=>ε
   |op=>
    match iy ops o.guard env with
    |some η=>ABm P cs call ops m gs ow r ((i,[])::pend) (env.putO o.dst (.tup [])) H k
    |some ζ=>
     match dq op&& !(ow&&AKI op)with
     |true=>
      match (rdT env op).all λid=>Nat.blt id (θ H) with
      |true=>quD P env H op λv=>force (Jf i gs) v λv'=>ABm P cs call ops m gs ow r ((i,rdT env op)::pend) (env.putO o.dst v') H k
      |false=>ε
     |false=>
      match r.all (λj=>P1 m i j||Ig ops j)&&pend.all (λp=>P1 m p.1 i||p.2.all λid=>!Jf id (zW cs (XX o env) H op))with
      |true=>AJ9 P cs call (XX o env) H op λv H'=>force (Jf i gs) v λv'=>ABm P cs call ops m gs ow r pend (env.putO o.dst v') H' k
      |false=>ε
    |none=>ε
variable {P:Program}{N:Nat}{o:Oper}{env:Bj}{H:As}{r:R}
def ACh(env:Bj)(b:Op)(h:isLen b=η):∀id∈ABd (B3 env) b,id∈rdT env b:=by intro id a;unfold ABd at a;unfold rdT;rw[h];obtain⟨x,c,d⟩:=G3.1 a;refine G3.2 ⟨x,c,AHG _ _ ?_⟩;rwa [<-Lu]
def aJ.mono{H}{v}{a b:Ψ Nat}(h:aJ P N o u H a v)(s:∀id∈a,id∈b):aJ P N o u H b v:=λ_ _ d e=>h _ _ d λid c=>e id (s id c)
theorem aJ.len{env}{H}{v:Ad}(b:isLen o.op=ζ)(e:Ch P env H o.op=δ v):aJ P N o env H [] v:=by
 intro c f d _;refine Du (v:=v) ?_ ⟨rfl,rfl⟩;rw[xJ (iE d),<-e];generalize o.op=op at b;unfold isLen at b;split at b;rename_i args a;obtain⟨args⟩:=args;obtain⟨a⟩:=a;match args,a with
 |[x],[t]=>rfl
 |[],_=>rfl
 |_::_::_,_=>rfl
 |[_],[]=>rfl
 |[_],_::_::_=>rfl
 rfl;rfl;rfl;cases b
theorem ADh{k:TV->Ω R}(ok:OO env H)(h:quD P env H o.op k=δ r):∃v,aJ P N o (B3 env) (BL H) (rdT env o.op) v.enc/\k v=δ r/\v.ok H:=by
 have main:quT P env H o.op k=δ r->∃v,aJ P N o (B3 env) (BL H) (rdT env o.op) v.enc/\k v=δ r/\v.ok H:=λh=>by
  obtain⟨v,i,j,l⟩:=xK ok h;refine⟨v,?_,j,l⟩;cases z:isLen o.op with
  |true=>grind[rdT,aJ.len]
  |false=>exact(X7 i).mono (ACh _ _ z)
 generalize d:o.op=op at h;unfold quD at h;split at h;rename_i t len b;unfold rq at h;split at h;rename_i q m;split at h;rename_i f;split at h;rename_i F e;have E:=vO m f;refine⟨_,?_,h,Jw trivial⟩;rw[<-d];refine aJ.mono (a:=ABd (B3 env) o.op) ?_ (ACh _ _ (by rw[d];rfl));have y:xt P (B3 env) (BL H) o.op=δ (.vs q.sz ((b.toList.map λp=>Jx env p.2).map TV.enc)):=by grind[xt]
 have A:=lI (N:=N) y;intro x n i j;have l:=A x n i j;refine JS.after (v:=.vs q.sz ((b.toList.map λp:Nat×Operand=>Jx env p.2).map TV.enc)) (H1:=n) l λX g w s=>⟨Tm.refl _ _,λc D=>AH4 (oE e) (kw e) (λv C=>?_) _ _ D⟩
 unfold jG at f;simp only[Ba]at f;obtain⟨u,B,rfl⟩:=Bs.1 C;have:=GL.1 f.1.1.2 u B;split at this;simp_all[Zj,fa];cases this;cases h;cases h;cases h;grind
theorem zU{d:List Qi}(u: ∀c∈d,c.Ok P){call:Su}(n:Wy P call){k:TV->As->Option R}(ok:OO env H)(h:uU P d call env H o.op k=some r):nY P N o env H (vt d env H o.op) k r:=by
 have b: ∀j,o.op=j->sJ P d call env H j k=some r->vt d env H j=uV d env H j->nY P N o env H (vt d env H o.op) k r:=λj a e f=>by subst a;rw[f];exact sK u n ok e
 generalize a:o.op=j at h;rw[<-a];cases j with
 |call c=>
  cases l:aQ env (.call c)with
  |none=>exact b _ a (by unfold uU at h;unfold sJ;grind) (by simp only[vt,l])
  |some p=>
   obtain⟨F,m⟩:=p;cases s:pH d F m with
   |some M=>exact b _ a (by unfold uU at h;unfold sJ;grind) (by simp only[vt,l,s])
   |none=>
    cases q:xg m with
    |none=>
     have hn:isNil m=false:=by cases m<;>first|rfl|cases q
     exact b _ a (by unfold uU at h;unfold sJ;grind) (by simp only[vt,l,s,q])
    |some i=>
     obtain⟨E,G⟩:=o8 l;simp only[uU,l,s,q]at h;split at h
     ·rename_i I;have L:=lf (S:=i) ok;obtain⟨v,t,q1,q2,q3,q4,q5⟩:=n (.fn F) m (Ks i 0 H) _ r (λv J x K=>rG (G H ok.env v J x K)) L.heap h;obtain⟨z,A,B,C,D⟩:=AEY ok.heap q5 q4;have y:Ek P F (m.map TV.enc) (BL H) (DO v.enc (BL t)):=by have:=q1;rw[zA,rF]at this;exact this
      refine⟨v,R5 i 0 H t,JS.after (lj (by rw[a];exact E) I y) λX g w _=>?_,q2,z v q3,A,B,?_⟩
      ·have hr:=(D (cx X g (BL t) w)).onto;exact⟨hr,λc r=>r.later hr.later⟩
      ·rw[a];simp only[vt,l,s,q];exact C
     ·cases h
 |_=>exact b _ a (by unfold uU at h;unfold sJ;grind) rfl
theorem xE{p:Nat×TV}(h:p∈XX o j):p.1∈tmpsOf o/\p.2=j.get p.1/\p.2≠.c (.raw .any):=by obtain⟨t,b,a⟩:=PN.1 h;grind
theorem AG9(h:i.enc=.any):i=.c (.raw .any):=by
 cases i with
 |c x=>
  cases x with
  |ar n t a=>cases h
  |_=>grind[TV.enc,Bx.one]
 |vw id b t n d m=>simp only[TV.enc,vwE]at h;split at h;split at h<;>cases h;cases h
 |_=>simp[TV.enc]at h
theorem nT{t:Nat}:∀{l:Bj},(∀p∈l,p.1≠t)->Bj.get l t=Vx
 |[],_=>rfl
 |(k,u)::r,h=>by simp only[Bj.get,beq_false (h (k,u) q!)];exact nT λp a=>h p (by simp[a])
theorem w6{j:Nat}:∀{l:Ψ Nat},j∈l->Jf j l=ζ
 |i::r,h=>by simp only[Jf];rcases Av.1 h with rfl|h;rw[Hl];rw[w6 h];split<;>rfl
def AH9(ids:Ψ Nat)(H:As)(j:Nat):Prop:=∀cs,H[j]?=δ (.live η cs)->∀i∈Ll cs,i∉ids
theorem sU{ids:Ψ Nat}:∀{H}{i j:Nat},i+j∉lm ids i H->AH9 ids H j
 |e::r,i,0,hn,c,h=>by grind[lm,w6]
 |e::r,i,j+1,hn,c,h=>by
  have d:(i+1)+j∉lm ids (i+1) r:=by
   have f:i+1+j=i+(j+1):=o!
   rw[f];intro a;apply hn;cases e with
   |live b c=>cases b<;>grind[lm]
   |dead=>exact a
   |buf=>exact a
   |lp=>exact a
   |mp=>exact a
  exact sU (ids:=ids) d c h
def oO{id b:Nat}{t:Ty}{l:Ψ t.D}:∀{a},id∉Ll a->a.map (OB id b t l)=a
 |[],_=>rfl
 |x::r,h=>by
  cases x with
  |own d c e n=>simp only[Ll,Av,not_or]at h;simp only[B4,OB,beq_false h.1,qH,oO h.2]
  |_=>simp only[Ll]at h;simp only[B4,OB,oO h]
def iJ:∀(a:Ψ Nat){env}{H}{j:Nat},j∉a->AH9 a H j->(IM a env H).2[j]?=H[j]?
 |[],_,_,_,_,_=>rfl
 |id::r,env,H,j,hj,hn=>by
  simp at hj;simp only[IM];split;rename_i e h d;have m:h[j]?=H[j]? :=by
   unfold frz at d;split at d;rename_i t l n q s;simp at d;rw[<-d.2,Dd (hj.1 ·.symm),CU];cases p:H[j]? with
   |none=>rfl
   |some o=>
    simp;cases o with
    |live b c=>
     cases b with
     |false=>simp only[RN];rw[oO λf=>hn c p id f JV]
     |true=>rfl
    |_=>rfl
   cases d
  rw[iJ r hj.2 λc g i k f=>hn c (m▸g) i k (CZ _ f),m];exact iJ r hj.2 λc g i k f=>hn c g i k (CZ _ f)
theorem AA5(l:∀c∈q,c.Ok P)(g:Wy P L){k:TV→As→Ω R}(ok:OO env H)(h:AJ9 P q L (XX o env) H o.op k=δ r):
  ∃v d,Eff P N o (B3 env) (BL H) (zW q (XX o env) H o.op) (DO v.enc (BL d))/\k v d=δ r/\v.ok d/\(∀e∈d,e.ok d)/\CE H d:=by
 have n:OO (XX o env) H:=⟨λp m=>by rw[(xE m).2.1];exact lV ok.env _,ok.heap⟩
 obtain⟨s,u,A⟩:=QO (nV q (XX o env) H o.op) n;have w:=λj=>iJ (nV q (XX o env) H o.op) (env:=XX o env) (H:=H) (j:=j);have x:∀id,id∉zW q (XX o env) H o.op->id∉vt q (IM (nV q (XX o env) H o.op) (XX o env) H).1 (IM (nV q (XX o env) H o.op) (XX o env) H).2 o.op/\(IM (nV q (XX o env) H o.op) (XX o env) H).2[id]?=H[id]? :=by intro id a;unfold zW at a;split at a;rename_i z;rw[z];exact⟨a,rfl⟩;simp only[Ak,not_or]at a;refine⟨a.2,w id a.1.1 (sU (i:=0) k!)⟩
 obtain⟨v,d,q1,q2,q3,q4,q5,q6⟩:=zU (N:=N) l g s h;refine⟨v,d,⟨λt G=>JS.before (Fa.subset λb y=>?_) (JS.before (A N) q1),?_⟩,q2,q3,q4,u.step.trans q5⟩;obtain⟨p,m,rfl⟩:=Bs.1 y;obtain⟨D,E,F⟩:=xE m;grind[VM,OU,AG9];rintro _ _ ⟨rfl,rfl⟩ id a hn;rw[Cb]at a;obtain⟨B,C⟩:=x id hn;rw[EM,EM,q6 id (DH a u.step.len) B,C]
def Ux{j:Nat}:∀{l},Jf j l=η->j∉l
 |i::r,h=>by simp only[Jf]at h;split at h;cases h;rename_i b;intro a;rcases Av.1 a with rfl|a;rw[Hl]at b;cases b;exact Ux h a
 |[],_=>λh=>by cases h
def vr(ops:Array Oper)(l:Ψ Nat):Ψ Nat:=l.filterMap λi=>(ops[i]?).bind (·.dst)
theorem Zf{L:Ψ Qi}(u:∀c∈L,c.Ok P){w}(s:Wy P w){b}{X}{ow}:∀l n env H k(r:R),OO env H→
  ABm P L w b (Iq b.toList []) X ow l n env H k=δ r->
  ∃a q,RA P N b l n (B3 env) (BL H) (λe h=>e=B3 a/\h=BL q)/\k a q=δ r/\OO a q/\EH (vr b l) env H a q
 |[],n,env,H,k,r,ok,h=>⟨env,H,⟨rfl,rfl⟩,h,ok,EH.refl _ _ _⟩
 |i::l,n,env,H,k,r,ok,h=>by
  simp only[ABm]at h;simp only[RA];cases J:b[i]? with
  |none=>rw[J]at h;cases h
  |some o=>
   rw[J]at h;simp only at h⊢;have m:∀{e}{h}{v},EH (vr b [i]) e h (e.putO o.dst v) h:=by
    intro e h v;refine⟨CE.refl h,λt T _=>?_⟩;cases hd:o.dst with
    |none=>rfl
    |some d=>refine pu λe=>T ?_;simp[vr,J,hd,e]
   have g:∀t,t∈vr b [i]++vr b l->t∈vr b (i::l):=by grind[vr]
   split at h;rename_i t Q;split at h;rename_i z hz;split at h;rename_i F;simp only[Ba]at F;obtain⟨z1,z2⟩:=Zl hz;have I:=CE.push H (.live η z);have f:OO (env.putO o.dst (.c (.raw (.ptr (θ H) 0 0)))) (H++[.live η z]):=⟨cV (I.env ok.env) (Jw trivial),O5 ok.heap (z2 _)⟩
   obtain⟨a,q,x,C,D,E⟩:=Zf u s l _ _ _ _ _ f h;have G:o.guard=ε:=by simpa using F.1
   refine⟨a,q,?_,C,D,?_⟩;rw[G];refine .inr (.inr ⟨t,lvs z,Q,z1,λj V=>?_,?_⟩);grind[List.all_eq_true];have M:B3 (env.putO o.dst (.c (.raw (.ptr (θ H) 0 0))))=(B3 env).putO o.dst (.ptr (BL H).length 0 0):=by rw[Ye,Cb];rfl
   have W:BL (H++[.live η z])=BL H++[.live 0 (lvs z)]:=QN _ _;rw[M,W]at x;exact x;have U:EH (vr b [i]) env H (env.putO o.dst (.c (.raw (.ptr (θ H) 0 0)))) (H++[.live η z]):=⟨I,(m (h:=H)).same⟩
   exact(EH.trans ok.env U E).mono g;cases h;cases h;rename_i O;have y:Ig b i=η:=by
    cases Z:Ig b i with
    |false=>rfl
    |true=>obtain⟨t,T⟩:=(XU J).1 Z;exact(O t T).elim
   split at h;rename_i G;have f:OO (env.putO o.dst (.tup [])) H:=⟨cV ok.env (Rz λv hv=>by cases hv),ok.heap⟩
   obtain⟨a,q,x,C,D,E⟩:=Zf u s l _ _ _ _ _ f h;have M:(B3 env).putO o.dst (.tup [])=B3 (env.putO o.dst (.tup [])):=by rw[Ye];rfl
   exact⟨a,q,pX G ⟨y,by rw[M];exact x⟩,C,D,(EH.trans ok.env m E).mono g⟩;rename_i G;split at h;split at h;rename_i S;obtain⟨v,q1,q2,q3⟩:=ADh (N:=N) ok h;have B:=oH q2;have f:OO (env.putO o.dst v) H:=⟨cV ok.env q3,ok.heap⟩
   obtain⟨a,q,x,C,D,E⟩:=Zf u s l _ _ _ _ _ f B;refine⟨a,q,lW G (.inl ⟨y,v.enc,rdT env o.op,q1,λid A=>?_,by rw[<-Ye];exact x⟩),C,D,(EH.trans ok.env m E).mono g⟩;have:=GL.1 S id A;rw[Cb];exact PO this;cases h;split at h;rename_i F;simp only[Ba]at F;obtain⟨v,K,q1,q2,q3,q4,q5⟩:=AA5 (N:=N) u s ok h;have B:=oH q2;have f:OO (env.putO o.dst v) K:=⟨cV (q5.env ok.env) q3,q4⟩
   obtain⟨a,q,x,C,D,E⟩:=Zf u s l _ _ _ _ _ f B;refine⟨a,q,lW G (.inr (.inl ⟨y,zW L (XX o env) H o.op,λj V=>by simpa using List.all_eq_true.1 F.1 j V,λp hp=>?_,DO v.enc (BL K),q1,?_,?_⟩)),C,D,?_⟩;have:=GL.1 F.2 p hp;simp only[UH,GL,Wb]at this;exact this.imp id λY id A=>Ux (Y id A);rintro _ _ ⟨rfl,rfl⟩;rw[Cb,Cb];exact q5.len;rintro _ _ ⟨rfl,rfl⟩;rw[<-Ye];exact x;have U:EH (vr b [i]) env H (env.putO o.dst v) K:=⟨q5,(m (h:=H)).same⟩
   exact(EH.trans ok.env U E).mono g;cases h;cases h
end
abbrev DV:=(t:Ty)×t.D
def dvs:(ts:Ψ Ty)->DL ts->Ψ DV
 |[],_=>[]
 |[t],x=>[⟨t,x⟩]
 |t::u::r,x=>⟨t,x.1⟩::dvs (u::r) x.2
def ABO:(ts:Ψ Ty)->Ψ DV->Ω (DL ts)
 |[],[]=>δ ()
 |[t],[⟨t',x⟩]=>if h:t'.beq t=ζ then δ (Ty.cast h x)else ε
 |t::u::r,⟨t',x⟩::ds=>if h:t'.beq t=ζ then match ABO (u::r) ds with|some y=>δ (Ty.cast h x,y)|none=>ε else ε
 |_,_=>ε
def ACN{a:Ty}(h:a.beq t=ζ)(x:a.D):(⟨t,Ty.cast h x⟩:DV)=⟨a,x⟩:=by have e:=Ty.beq_eq a t h;subst e;rfl
theorem rK:∀{b}{a}{s:DL b},ABO b a=δ s->dvs b s=a
 |[],[],s,_=>rfl
 |[],_::_,s,h=>by cases h
 |[t],[],s,h=>by cases h
 |[t],[⟨t',x⟩],s,h=>by simp only[ABO]at h;split at h;rename_i c;injection h with h;subst h;simp only[dvs,ACN];cases h
 |[t],_::_::_,s,h=>by simp[ABO]at h
 |t::u::r,[],s,h=>by cases h
 |t::u::r,⟨t',x⟩::a,s,h=>by simp only[ABO]at h;split at h;rename_i c;split at h;rename_i y d;injection h with h;subst h;simp only[dvs,ACN,rK d];cases h;cases h
inductive Part where
 |d (t:Ty)
 |o (id:Nat)
inductive PF where
 |t (tmp:Nat) (ty:Ty)
 |g (tmp id:Nat)
 |p (id:Nat) (ps:List Part)
 |u (id:Nat) (ty:Ty)
 |x (id:Nat)
 |k (tmp:Nat) (v:Ad)
 |y (id:Nat) (s:LS)
 |m (id:Nat) (k:IntKind) (t:Ty)
 |w (tmp id:Nat)
def AJf:Ad->Ad->Bool
 |.ptr a b c,.ptr a' b' c'=>ξ a a'&&(ξ b b'&&ξ c c')
 |.nilp,.nilp=>ζ
 |.nilf,.nilf=>ζ
 |_,_=>η
def AHh{w}(h:AJf v w=ζ):v=w:=by unfold AJf at h;split at h<;>simp_all
def Lo:Ψ PF->Ψ Nat
 |[]=>[]
 |.p id _::r=>id::Lo r
 |.u id _::r=>id::Lo r
 |.x id::r=>id::Lo r
 |.y id _::r=>id::Lo r
 |.m id _ _::r=>id::Lo r
 |_::r=>Lo r
def WU:Ψ PF->Ψ Nat
 |[]=>[]
 |.t tmp _::r=>tmp::WU r
 |.g tmp _::r=>tmp::WU r
 |.k tmp _::r=>tmp::WU r
 |.w tmp _::r=>tmp::WU r
 |_::r=>WU r
def AJY:Ψ Part->Ψ Ty
 |[]=>[]
 |.d t::r=>t::AJY r
 |_::r=>AJY r
def fW:Ψ PF->Ψ Ty
 |[]=>[]
 |.t _ t::r=>t::fW r
 |.p _ ps::r=>AJY ps++fW r
 |.u _ t::r=>.list t::fW r
 |.m _ k t::r=>.list (.prod (.cons (.int k) (.one t)))::fW r
 |.w _ _::r=>.int .i64:: .int .i64::fW r
 |_::r=>fW r
def uS(H:As)(id:Nat):Bx->Bool
 |.own id' ver _ _=>match ξ id id' with
  |true=>match H[id]? with|some (.buf _ _ _ _ ver')=>ξ ver ver'|_=>η
  |false=>η
 |_=>η
def sF(H:As)(rest:Ψ Nat):Ψ Part->Ψ Bx->Ω (Ψ DV)
 |[],[]=>δ []
 |.d t::ps,cs=>
  match t.mk cs with
  |some (x,cs')=>match sF H rest ps cs' with|some ds=>δ (⟨t,x⟩::ds)|none=>ε
  |none=>ε
 |.o id::ps,c::cs=>
  match uS H id c&& !Jf id rest with
  |true=>sF H rest ps cs
  |false=>ε
 |_,_=>ε
def Y2(env:Bj)(H:As):Ψ PF->Ω (Ψ DV)
 |[]=>δ []
 |.t tmp ty::r=>
  match ty.data (env.get tmp),Y2 env H r with
  |some x,δ ds=>δ (⟨ty,x⟩::ds)
  |_,_=>ε
 |.g tmp id::r=>
  match env.get tmp with
  |.c x=>match uS H id x&& !Jf id (Lo r)with|true=>Y2 env H r|false=>ε
  |_=>ε
 |.p id ps::r=>
  match H[id]? with
  |some (.live _ cs)=>
   match sF H (id::Lo r) ps cs,Y2 env H r with
   |some a,δ b=>δ (a++b)
   |_,_=>ε
  |_=>ε
 |.u id ty::r=>
  match H[id]? with
  |some (.buf _ t l _ _)=>match t.beq ty,Y2 env H r with|true,δ ds=>δ (⟨.list t,l⟩::ds)|_,_=>ε
  |_=>ε
 |.x _::r=>Y2 env H r
 |.k tmp v::r=>
  match env.get tmp with
  |.c (.raw w)=>match AJf v w with|true=>Y2 env H r|false=>ε
  |_=>ε
 |.y id s::r=>
  match H[id]? with
  |some (.lp _ _ _ _ _ _ _ s')=>match s.beq s' with|true=>Y2 env H r|false=>ε
  |_=>ε
 |.m id k t::r=>
  match H[id]? with
  |some (.mp _ k' t' es)=>match τ (k'=k)&&t'.beq t,Y2 env H r with|true,δ ds=>δ (⟨.list (.prod (.cons (.int k') (.one t'))),es⟩::ds)|_,_=>ε
  |_=>ε
 |.w tmp id::r=>
  match env.get tmp with
  |.vw id' ver te n lo m=>match uS H id (.own id' ver te n)&& !Jf id (Lo r),Y2 env H r with|true,δ ds=>δ (⟨.int .i64,(lo:Int)⟩::⟨.int .i64,(m:Int)⟩::ds)|_,_=>ε
  |_=>ε
def uw(H:As):Ψ Part->Ψ DV->Ω (Ψ Bx×Ψ DV)
 |[],ds=>δ ([],ds)
 |.d _::ps,⟨t,x⟩::ds=>match uw H ps ds with|some (cs,r)=>δ (t.lvs x++cs,r)|none=>ε
 |.o id::ps,ds=>
  match H[id]? with
  |some (.buf _ t _ n ver)=>match uw H ps ds with|some (cs,r)=>δ (.own id ver t n::cs,r)|none=>ε
  |_=>ε
 |_,_=>ε
def Wt:Ψ PF->Ψ DV->Bj->As->Ω (Bj×As)
 |[],[],env,H=>δ (env,H)
 |.t tmp _::r,⟨t,x⟩::ds,env,H=>Wt r ds ((tmp,t.tv x)::env) H
 |.g tmp id::r,ds,env,H=>
  match H[id]? with
  |some (.buf _ t _ n ver)=>Wt r ds ((tmp,.c (.own id ver t n))::env) H
  |_=>ε
 |.p id ps::r,ds,env,H=>
  match H[id]? with
  |some (.live η _)=>match uw H ps ds with|some (cs,ds')=>Wt r ds' env (H.set id (.live η cs))|none=>ε
  |_=>ε
 |.u id _::r,⟨.list t,l⟩::ds,env,H=>
  match H[id]? with
  |some (.buf η t' _ _ ver)=>match t'.beq t with|true=>Wt r ds env (H.set id (.buf η t l (θ l) (ver+1)))|false=>ε
  |_=>ε
 |.x id::r,ds,env,H=>
  match H[id]? with
  |some e=>match e.ro||e.isLp with|false=>Wt r ds env (H.set id .dead)|true=>ε
  |none=>ε
 |.k tmp v::r,ds,env,H=>Wt r ds ((tmp,.c (.raw v))::env) H
 |.y id s::r,ds,env,H=>
  match H[id]? with
  |some (.lp η F n e ps a b _)=>Wt r ds env (H.set id (.lp η F n e ps a b s))
  |_=>ε
 |.m id _ _::r,⟨.list (.prod (.cons (.int k) (.one t))),es⟩::ds,env,H=>
  match H[id]? with
  |some (.mp η k' t' _)=>match τ (k'=k)&&t'.beq t with|true=>Wt r ds env (H.set id (.mp η k t es))|false=>ε
  |_=>ε
 |.w tmp id::r,⟨.int _,lo⟩::⟨.int _,m⟩::ds,env,H=>
  match H[id]? with
  |some (.buf _ t _ n ver)=>Wt r ds ((tmp,.vw id ver t n (ο lo) (ο m))::env) H
  |_=>ε
 |_,_,_,_=>ε
def AIn(e e':Dx):Prop:=e'=.dead\/(∃b cs b' cs',e=.live b cs/\e'=.live b' cs'/\Dp (lvs cs) (lvs cs'))\/(∃b t l n v b' v',e=.buf b t l n v/\e'=.buf b' t l n v')\/(∃ro ro' F n env ps a b s,e=.lp ro F n env ps a b s/\e'=.lp ro' F n env ps a b s)\/(∃b b' k t es,e=.mp b k t es/\e'=.mp b' k t es)
def HR(H1 H:As)(rest:Ψ Nat):Prop:=∀j(e':Dx),Jf j rest=η->H[j]?=δ e'->∃e,H1[j]?=δ e/\AIn e e'
theorem QR:Jf N (n::d)=η↔N≠n/\Jf N d=η:=by simp[Jf];by_cases h:N=n;simp_all;grind[beq_false]
theorem ku(j:E.ok c)(h:uS c N E=ζ):∃b t l n a,E=.own N a t n/\c[N]?=δ (.buf b t l n a):=by unfold uS at h;split at h;rename_i k a t n;split at h;rename_i i;have e:=DB i;subst e;split at h;rename_i b o l m d g;have f:=DB h;subst f;have⟨rfl,rfl⟩:=(j.2 _ _ _ _ _ g).2 rfl;grind;cases h;cases h;cases h
theorem Wx{b:Bool}{l:Ψ t.D}(h:c[N]?=δ (.buf b t l n Y)):TZ c N Y t n:=by refine⟨?_,λro g e f H d=>?_⟩;grind;grind
theorem oD{q H}{i}(hr:HR q H i):∀{p}{m}{a b j:Ψ DV}{f:Ψ Bx},lok q m→sF q i p m=δ a→uw H p (a++b)=δ (f,j)→
  j=b/\Dp (lvs m) (lvs f)/\lok H f
 |[],[],a,b,j,f,ok,h,k=>by grind[sF,Option.some.injEq,uw,Prod.mk.injEq,Dp.refl,AHN]
 |[],_::_,a,b,j,f,ok,h,k=>by simp[sF]at h
 |.d t::p,m,a,b,j,f,ok,h,k=>by simp[sF]at h;split at h;rename_i x R z;split at h;rename_i S u;cases h;obtain⟨Q,rfl,M⟩:=t.mk_spec _ _ _ z;simp[EW,uw]at k;split at k;rename_i E r v;obtain⟨rfl,rfl⟩:=k;have⟨q1,q2,q3⟩:=oD hr (Je.1 ok).2 u v;refine⟨q1,?_,Je.2 ⟨t.lvs_ok x,q3⟩⟩;rw[G9,G9,t.lvs_enc];exact M.append q2;cases k;cases h;cases h
 |.o id::p,c::m,a,b,j,f,ok,h,k=>by
  simp[sF]at h;split at h
  ·rename_i s;simp[Ba,Wb]at s;obtain⟨O,t,l,n,N,rfl,L⟩:=ku (ok c q!) s.1;simp[uw]at k;split at k
   ·rename_i P t2 l2 Z D B;split at k
    ·rename_i E r v;obtain⟨rfl,rfl⟩:=k;have⟨q1,q2,q3⟩:=oD hr (λx z=>ok x (by simp[z])) h v;have⟨e,C,w⟩:=hr id _ s.2 B;rw[L]at C;cases C;rcases w with g|⟨_,_,_,_,g,_⟩|⟨_,_,_,_,_,_,_,g,K⟩|⟨_,_,_,_,_,_,_,_,_,g,_⟩|⟨_,_,_,_,_,g,_⟩;cases g;cases g;rotate_left;cases g;cases g;injection g with T F U G V;injection K with W I X J Y;subst F G I J;refine⟨q1,?_,λy A=>?_⟩;rw[IA,IA];exact(Dp.refl _).append q2;rcases Av.1 A with rfl|A;exact Wx B;exact q3 y A
    cases k
   cases k
  cases h
structure IS(env1:Bj)(H1:As)(slots:List PF)(env:Bj)(H:As)(env2:Bj)(H2:As):Prop where
 get:∀t,Jf t (WU slots)=false->env2.get t=env.get t
 ok:OO env2 H2
 env:∀p∈env2,∃v,(p.1,v)∈env1/\Xg v.enc p.2.enc
 hr:HR H1 H2 []
 step:CE H H2
 len:H2.length=H.length
 same:∀j,Jf j (Lo slots)=false->H2[j]?=H[j]?
def Zi{t:Nat}{v:TV}:∀{env:Bj},env.get t=v->v≠Vx->(t,v)∈env
 |[],h,hv=>O! h.symm hv
 |(k,u)::r,h,hv=>by simp only[Bj.get]at h;split at h;simp_all;exact CZ _ (Zi h hv)
def heap_set(b:CE c (c.set N O))(ok:∀x∈c,x.ok c)(a:O.ok (c.set N O)):∀x∈c.set N O,x.ok (c.set N O):=by intro x H;rcases Q9 H with h|rfl;exact b.ent (ok x h);exact a
theorem HR.set{a H}{id:Nat}{e d:Dx}(h:HR a H (id::k))(g:a[id]?=δ e)(hr:AIn e d):HR a (H.set id d) k:=by intro j x f c;rw[Wf]at c;split at c;grind;rename_i b;exact h j x (QR.2 ⟨λq=>b q.symm,f⟩) c
theorem LpS.set{H c}{id:Nat}{i:Dx}(h:LpS H c)(l:id<θ H)(p:∀ro F n env f a b s,c[id]?=δ (.lp ro F n env f a b s)->∃g o,i=.lp g F n env f a b o):LpS (H.set id i) c:=by intro j k ro F n env f a b s m;rw[WW]at k;by_cases d:j=id;grind;rw[Dd λe=>d e.symm];exact h j k _ _ _ _ _ _ _ _ m
variable {J:Ψ PF}
theorem sQ(id:Nat){env2:Bj}{f:As}(r:M[id]?=δ O)(g:(O.ro||O.isLp)=η)(l:θ M≤θ c)(lp:LpS M c)
  (hr:HR c M (id::Lo J)) (ok:OO H M) (q0:OO H (M.set id .dead)->LpS (M.set id .dead) c->HR c (M.set id .dead) (Lo J)->IS j c J H (M.set id .dead) env2 f):IS j c (.x id::J) H M env2 f:=by
 have b:O.isLp=η:=k!
 have st:CE M (M.set id .dead):=CE.set r k! λ_ _ _ _ _ O=>by cases O
 have d:id<θ c:=k!
 have q:=q0 ⟨st.env ok.env,heap_set st ok.heap trivial⟩ (lp.set (HO r) λ_ _ _ _ _ _ _ _ i=>by have⟨k,m,q⟩:=lp id (HO r) _ _ _ _ _ _ _ _ i;rw[r]at q;injection q with q;rw[q]at b;cases b) (HR.set hr (Au d) (.inl rfl));refine⟨q.get,q.ok,q.env,q.hr,st.trans q.step,by simpa using q.len,λa h=>?_⟩;have:=QR.1 h;rw[q.same a this.2,Dd λO=>this.1 O.symm]
def Mu{env1}{J}(z:OO env1 J):∀{slots}{B:Ψ DV}{env}{H}{env2:Bj}{E:As},Y2 env1 J slots=δ B→Wt slots B env H=δ (env2,E)→OO env H→
  θ H<=θ J->(∀p∈env,∃v,(p.1,v)∈env1/\Xg v.enc p.2.enc)->HR J H (Lo slots)->LpS H J->IS env1 J slots env H env2 E
 |[],B,env,H,env2,E,h,k,ok,hl,he,hr,lp=>by simp only[Y2,Ar]at h;subst h;simp only[Wt,Ar,Eh]at k;obtain⟨rfl,rfl⟩:=k;exact⟨λ_ _=>rfl,ok,he,hr,CE.refl _,rfl,λ_ _=>rfl⟩
 |.t tmp ty::r,B,env,H,env2,E,h,k,ok,hl,he,hr,lp=>by
  simp[Y2]at h;split at h;rename_i x d I R;cases h;simp[Wt]at k;have f:OO ((tmp,ty.tv x)::env) H:=⟨λp o=>by rcases Av.1 o with rfl|o;exact ty.tv_ok x;exact ok.env p o,ok.heap⟩
  have q:=Mu z R k f hl (λp o=>by rcases Av.1 o with rfl|o;refine⟨env1.get tmp,Zi rfl λe=>?_,?_⟩;rw[e]at I;cases ty<;>cases I;simp[ty.tv_enc];exact Mz I;exact he p o) hr lp;refine⟨λt G=>?_,q.ok,q.env,q.hr,q.step,q.len,q.same⟩;have:=QR.1 G;rw[q.get t this.2];simp[Bj.get,beq_false λe=>this.1 e.symm];cases h
 |.g tmp id::r,B,env,H,env2,E,h,k,ok,hl,he,hr,lp=>by
  simp[Y2]at h;split at h
  ·rename_i x I;split at h
   ·rename_i D;simp[Ba,Wb]at D;have V:x.ok J:=lV z.env tmp x (by rw[I];simp[TV.refs]);obtain⟨b1,t,l,n,ad,rfl,C⟩:=ku V D.1;simp[Wt]at k;split at k
    ·rename_i b2 O l2 n2 N h2;have⟨e,L,T⟩:=hr id _ D.2 h2;rw[C]at L;cases L;rcases T with i|⟨_,_,_,_,i,_⟩|⟨_,_,_,_,_,_,_,i,h1⟩|⟨_,_,_,_,_,_,_,_,_,i,_⟩|⟨_,_,_,_,_,i,_⟩;cases i;cases i;rotate_left;cases i;cases i;injection i with e1 Z e3 e4 e5;injection h1 with f1 f2 f3 f4 f5;subst Z e4 f2 f4;have f:OO ((tmp,.c (.own id N O n2))::env) H:=⟨λp o=>by rcases Av.1 o with rfl|o;exact Jw (Wx h2);exact ok.env p o,ok.heap⟩
     have q:=Mu z h k f hl (λp o=>by rcases Av.1 o with rfl|o;exact⟨_,Zi I (λe=>by cases e),Xg.refl _⟩;exact he p o) hr lp;refine⟨λt G=>?_,q.ok,q.env,q.hr,q.step,q.len,q.same⟩;have:=QR.1 G;rw[q.get t this.2];simp[Bj.get,beq_false λe=>this.1 e.symm]
    cases k
   cases h
  cases h
 |.p id Y::r,B,env,H,env2,E,h,k,ok,hl,he,hr,lp=>by
  simp[Y2]at h;split at h;rename_i b cs C;split at h;rename_i a b1 ha D;cases h;simp[Wt]at k;split at k;rename_i ap i;split at k;rename_i P Q hi;have ao:lok J cs:=by simpa only[Dx.ok]using z.heap _ (BO C)
  have⟨rfl,q2,q3⟩:=oD hr ao ha hi;have st:CE H (H.set id (.live η P)):=CE.set i rfl λ_ _ _ _ _ e=>by cases e
  have A:HR J (H.set id (.live η P)) (Lo r):=HR.set hr C (.inr (.inl ⟨_,_,_,_,rfl,rfl,q2⟩));have f:OO env (H.set id (.live η P)):=⟨st.env ok.env,heap_set st ok.heap (by simpa only[Dx.ok]using st.lok q3)⟩
  have q:=Mu z D k f (by simpa using hl) he A (lp.set (HO i) λ_ _ _ _ _ _ _ _ K=>by rw[C]at K;cases K);refine⟨q.get,q.ok,q.env,q.hr,st.trans q.step,by simpa using q.len,λj S=>?_⟩;have:=QR.1 S;rw[q.same j this.2,Dd λe=>this.1 e.symm];cases k;cases k;cases h;cases h
 |.u id ty::r,B,env,H,env2,E,h,k,ok,hl,he,hr,lp=>by
  simp[Y2]at h;split at h;rename_i b t l n ad C;split at h;rename_i Q D R;cases h;simp[Wt]at k;split at k;rename_i t' l0 n0 M i;split at k;rename_i G;have e:=Ty.beq_eq _ _ G;subst e;have hn:n=θ l:=by simpa only[Dx.ok]using z.heap _ (BO C)
  have st:CE H (H.set id (.buf η t' l (θ l) (M+1))):=CE.set i rfl λro O l2 n2 v2 e=>by cases e;exact⟨_,_,_,_,rfl,.inl o!⟩
  have A:HR J (H.set id (.buf η t' l (θ l) (M+1))) (Lo r):=HR.set hr C (.inr (.inr (.inl ⟨_,_,_,_,_,_,_,rfl,by rw[hn]⟩)));have f:OO env (H.set id (.buf η t' l (θ l) (M+1))):=⟨st.env ok.env,heap_set st ok.heap rfl⟩
  have q:=Mu z R k f (by simpa using hl) he A (lp.set (HO i) λ_ _ _ _ _ _ _ _ K=>by rw[C]at K;cases K);refine⟨q.get,q.ok,q.env,q.hr,st.trans q.step,by simpa using q.len,λj S=>?_⟩;have:=QR.1 S;rw[q.same j this.2,Dd λe=>this.1 e.symm];cases k;cases k;cases h;cases h
 |.x id::r,B,env,H,env2,E,h,k,ok,hl,he,hr,lp=>by
  simp[Y2]at h;cases B with
  |nil=>simp[Wt]at k;split at k;rename_i e i;split at k;rename_i U;exact sQ id i U hl lp hr ok λf X A=>Mu z h k f (by simpa using hl) he A X;cases k;cases k
  |cons d B=>simp[Wt]at k;split at k;rename_i e i;split at k;rename_i U;exact sQ id i U hl lp hr ok λf X A=>Mu z h k f (by simpa using hl) he A X;cases k;cases k
 |.k tmp w::r,B,env,H,env2,E,h,k,ok,hl,he,hr,lp=>by
  have k':Wt r B ((tmp,.c (.raw w))::env) H=δ (env2,E):=by cases B<;>simpa only[Wt]using k
  simp[Y2]at h;split at h;rename_i w' I;split at h;rename_i D;have e:=AHh D;subst e;have f:OO ((tmp,.c (.raw w))::env) H:=⟨λp o=>by rcases Av.1 o with rfl|o;exact Jw trivial;exact ok.env p o,ok.heap⟩
  have hw:w≠.any:=by rintro rfl;cases D
  have q:=Mu z h k' f hl (λp o=>by rcases Av.1 o with rfl|o;refine⟨_,Zi I (λe=>?_),Xg.refl _⟩;injection e with e;injection e with e;exact hw e;exact he p o) hr lp;refine⟨λt G=>?_,q.ok,q.env,q.hr,q.step,q.len,q.same⟩;have:=QR.1 G;rw[q.get t this.2];simp[Bj.get,beq_false λe=>this.1 e.symm];cases h;cases h
 |.y id s::r,B,env,H,env2,E,h,k,ok,hl,he,hr,lp=>by
  simp[Y2]at h;split at h;rename_i ax F1 n1 e1 p1 a1 b1 s1 C;split at h;rename_i D;have e0:=LS.beq_eq D;subst e0;obtain⟨F,n,e,Y,a,b,s0,i,k'⟩:∃F n e Y a b s0,H[id]?=δ (.lp η F n e Y a b s0)/\Wt r B env (H.set id (.lp η F n e Y a b s))=δ (env2,E):=by cases B<;>simp[Wt]at k<;>split at k<;>first|exact⟨_,_,_,_,_,_,_,‹_›,k⟩|cases k
  have⟨a0,s2,q⟩:=lp id (HO i) _ _ _ _ _ _ _ _ C;rw[i]at q;injection q with q;injection q with _ q2 q3 q4 q5 q6 q7 _;subst q2 q3 q4 q5 q6 q7;have st:CE H (H.set id (.lp η F n e Y a b s)):=CE.set i rfl (λ_ _ _ _ _ e=>by cases e) λ_ _ _ _ _ _ _ _ e=>by cases e;exact⟨_,_,rfl⟩
  have A:HR J (H.set id (.lp η F n e Y a b s)) (Lo r):=HR.set hr C (.inr (.inr (.inr (.inl ⟨_,_,_,_,_,_,_,_,_,rfl,rfl⟩))));have f:OO env (H.set id (.lp η F n e Y a b s)):=⟨st.env ok.env,heap_set st ok.heap (by have:=ok.heap _ (BO i);simpa only[Dx.ok]using this)⟩
  have q:=Mu z h k' f (by simpa using hl) he A (lp.set (HO i) λ_ _ _ _ _ _ _ _ K=>by rw[C]at K;injection K with K;cases K;exact⟨_,_,rfl⟩);refine⟨q.get,q.ok,q.env,q.hr,st.trans q.step,by simpa using q.len,λj S=>?_⟩;have:=QR.1 S;rw[q.same j this.2,Dd λe=>this.1 e.symm];cases h;cases h
 |.m id kk ty::r,B,env,H,env2,E,h,k,ok,hl,he,hr,lp=>by
  simp[Y2]at h;split at h;rename_i b k1 t1 es C;split at h;rename_i Q D R;cases h;simp[Wt]at k;split at k;rename_i k2 O ar i;split at k;rename_i G;simp[Ba,K!]at G;have⟨rfl,G⟩:=G;have e:=Ty.beq_eq _ _ G;subst e;have st:CE H (H.set id (.mp η k2 O es)):=CE.set i rfl λ_ _ _ _ _ e=>by cases e
  have A:HR J (H.set id (.mp η k2 O es)) (Lo r):=HR.set hr C (.inr (.inr (.inr (.inr ⟨_,_,_,_,_,rfl,rfl⟩))));have f:OO env (H.set id (.mp η k2 O es)):=⟨st.env ok.env,heap_set st ok.heap trivial⟩
  have q:=Mu z R k f (by simpa using hl) he A (lp.set (HO i) λ_ _ _ _ _ _ _ _ K=>by rw[C]at K;cases K);refine⟨q.get,q.ok,q.env,q.hr,st.trans q.step,by simpa using q.len,λj S=>?_⟩;have:=QR.1 S;rw[q.same j this.2,Dd λe=>this.1 e.symm];cases k;cases k;cases h;cases h
 |.w tmp id::r,B,env,H,env2,E,h,k,ok,hl,he,hr,lp=>by
  simp[Y2]at h;split at h
  ·rename_i W al te n1 lo m I;split at h
   ·rename_i Q D R;cases h;simp[Ba,Wb]at D;have V:(Bx.own W al te n1).ok J:=lV z.env tmp _ (by rw[I];simp[TV.refs]);obtain⟨b1,t,l,n,ad,e0,C⟩:=ku V D.1;injection e0 with e1 Z e3 e4;subst e1 Z e3 e4;simp[Wt]at k;split at k
    ·rename_i b2 O l2 n2 N h2;have⟨e,L,T⟩:=hr W _ D.2 h2;rw[C]at L;cases L;rcases T with i|⟨_,_,_,_,i,_⟩|⟨_,_,_,_,_,_,_,i,h1⟩|⟨_,_,_,_,_,_,_,_,_,i,_⟩|⟨_,_,_,_,_,i,_⟩;cases i;cases i;rotate_left;cases i;cases i;injection i with e1 Z e3 e4 e5;injection h1 with f1 f2 f3 f4 f5;subst Z e4 f2 f4;have f:OO ((tmp,.vw W N O n2 lo m)::env) H:=⟨λp o=>by rcases Av.1 o with rfl|o;intro x I;simp only[TV.refs,A5]at I;subst I;exact Wx h2;exact ok.env p o,ok.heap⟩
     have q:=Mu z R k f hl (λp o=>by rcases Av.1 o with rfl|o;exact⟨_,Zi I (λe=>by cases e),Xg.refl _⟩;exact he p o) hr lp;refine⟨λt G=>?_,q.ok,q.env,q.hr,q.step,q.len,q.same⟩;have:=QR.1 G;rw[q.get t this.2];simp[Bj.get,beq_false λe=>this.1 e.symm]
    cases k
   cases h
  cases h
def ba(n:Nat):Ψ Bx->Bool
 |[]=>ζ
 |.own id _ _ _::r=>Nat.blt id n&&ba n r
 |.raw v::r=>v.idsAll (Nat.blt · n)&&ba n r
 |_::r=>ba n r
mutual
def wX(n:Nat):TV->Bool
 |.c x=>ba n [x]
 |.g cs=>ba n cs
 |.aptr id .. =>Nat.blt id n
 |.bptr id .. =>Nat.blt id n
 |.vw id .. =>Nat.blt id n
 |.vx .. =>ζ
 |.vptr cs post=>ba n cs&&Ad.idsAllL (Nat.blt · n) post
 |.tup vs=>xn n vs
def xn(n:Nat):Ψ TV->Bool
 |[]=>ζ
 |v::r=>wX n v&&xn n r
end
def vq(n:Nat):Bj->Bool
 |[]=>ζ
 |(_,v)::r=>wX n v&&vq n r
def nA(n:Nat):As->Bool
 |[]=>ζ
 |.live _ cs::r=>ba n cs&&nA n r
 |.lp _ _ _ env _ _ _ _::r=>vq n env&&nA n r
 |_::r=>nA n r
def mQ(h:Nat.blt N n=ζ):τ (N<n)=ζ:=t!
def ln(h:Pure v)(n:Nat):(v.idsAll λid=>decide (id<n))=ζ:=Rk (λ_ h=>by cases h) v h
def vA{n}:∀{x:Bx},ba n [x]=ζ->(∀v∈x.enc,(v.idsAll λid=>decide (id<n))=ζ)/\(x.one.idsAll λid=>decide (id<n))=ζ
 |.bl _,_=>⟨λv b=>by simp only[Bx.enc,A5]at b;subst b;rfl,rfl⟩
 |.it _ _,_=>⟨λv b=>by simp only[Bx.enc,A5]at b;subst b;rfl,rfl⟩
 |.st _,_=>⟨λv b=>by simp only[Bx.enc,A5]at b;subst b;rfl,rfl⟩
 |.ls t l,_=>⟨λv b=>by simp only[Bx.enc,A5]at b;subst b;exact ln ((Ty.list t).enc_pure l) n,ln ((Ty.list t).enc_pure l) n⟩
 |.ar m t a,_=>by have h:=ln ((Ty.arr m t).enc_pure a) n;refine⟨λv b=>?_,h⟩;exact((Dv _ _).1 h) v b
 |.own id ver t m,h=>by simp only[ba,Rm]at h;have:=mQ h;exact⟨λv b=>by simp only[Bx.enc,A5]at b;subst b;exact this,this⟩
 |.nil,_=>⟨λv b=>by simp only[Bx.enc,A5]at b;subst b;rfl,rfl⟩
 |.raw v,h=>by simp only[ba,Rm]at h;have:=Rk (λ_ h=>mQ h) v h;exact⟨λu c=>by simp only[Bx.enc,A5]at c;subst c;exact this,this⟩
def wW(h:ba n (E::g)=ζ):ba n [E]=ζ/\ba n g=ζ:=by cases E<;>simp only[ba,Rm,Ba]at h⊢ <;>first|exact h|exact⟨P!,h⟩
def mU{n}:∀{b},ba n b=ζ->Ad.idsAllL (λid=>decide (id<n)) (lvs b)=ζ
 |[],_=>rfl
 |x::r,h=>by obtain⟨c,d⟩:=wW h;rw[IA,Dv];intro v a;rcases Ak.1 a with a|a;exact(vA c).1 v a;exact((Dv _ _).1 (mU d)) v a
mutual
theorem hZ{n}:∀{v},wX n v=ζ->(v.enc.idsAll λid=>decide (id<n))=ζ
 |.c x,h=>(vA h).2
 |.g cs,h=>mU h
 |.aptr ..,h=>mQ h
 |.bptr ..,h=>mQ h
 |.vx t l,_=>(vA (n:=n) (x:=.ls t l) rfl).2
 |.vw id ver t k lo m,h=>by have b:=mQ h;show((vwE id k t.sz lo m).idsAll λid=>decide (id<n))=ζ;unfold vwE;split;split;exact b;rfl;exact b
 |.vptr cs post,h=>by simp only[wX,Ba]at h;simp only[TV.enc,Ad.idsAll];rw[Dv];intro v a;rcases Ak.1 a with a|a;exact((Dv _ _).1 (mU h.1)) v a;exact((Dv _ _).1 (If (λ_ h=>mQ h) post h.2)) v a
 |.tup vs,h=>by simp only[wX]at h;simp only[TV.enc,Ad.idsAll];exact sE h
theorem sE{n:Nat}:∀{a},xn n a=ζ->Ad.idsAllL (λid=>decide (id<n)) (TV.encL a)=ζ
 |[],_=>rfl
 |v::r,h=>by simp only[xn,Ba]at h;simp only[TV.encL,Ad.idsAllL,Ba];exact⟨hZ h.1,sE h.2⟩
end
def mS{n:Nat}:∀{env},vq n env=ζ->∀p∈env,wX n p.2=ζ
 |[],_,p,a=>by cases a
 |(t,v)::r,h,p,a=>by simp only[vq,Ba]at h;rcases Av.1 a with rfl|a;exact h.1;exact mS h.2 p a
def mT{n}:∀{H},nA n H=ζ->∀e∈BL H,(e.idsAll λid=>decide (id<n))=ζ
 |x::r,h,e,c=>by
  have g:nA n r=ζ:=by cases x<;>simp only[nA,Ba]at h<;>first|exact h|exact h.2
  simp only[BL,B4,Av]at c;rcases c with rfl|c;cases x with
  |dead=>rfl
  |live b o=>simp only[nA,Ba]at h;exact mU h.1
  |buf b t l m k=>simp only[Dx.enc,Fw.idsAll];rw[Dv];intro v d;obtain⟨u,j,d⟩:=G3.1 d;obtain⟨y,_,rfl⟩:=Bs.1 j;have h:=ln (t.E.pure y) n;cases q:t.E.f y<;>simp_all[Ad.idsAll,Dv,Ad.cells]
  |mp=>rfl
  |lp ro F m env w a b s=>simp only[nA,Ba]at h;simp only[Dx.enc,Fw.idsAll,B3,List.all_map,GL];exact λp i=>hZ (mS h.1 p i)
  exact mT g e c
def Fa.cut{N n0:Nat}{env:Env}{H:Aw}(hn:n0≤θ H)(d:∀t v,(t,v)∈env→(v.idsAll λid=>decide (id<n0))=ζ)
  (c:∀e∈H.take n0,(e.idsAll λid=>decide (id<n0))=ζ):Fa N n0 env H env (H.take n0):=
 ⟨w!,λX g a w s=>⟨g,⟨s.sim.trunc hn c,λt v m=>⟨(s.env t v m).1,(s.env t v m).2.trunc hn (d t v m)⟩,s.size⟩,λ_ _=>⟨rfl,rfl,rfl⟩,λB b=>jF b⟩⟩
theorem wa{e:Fw}(h:(BL c)[N]?=δ e):∃x,c[N]?=δ x/\e=x.enc:=by grind[BL]
theorem HR.rel(A:θ M<=θ c)(hr:HR c M [])(x:Cx):Tm x x (BL c) (BL M++(BL c).drop (θ M)):=by
 refine⟨by simp[BL];omega,λj w z=>?_⟩;have same:∀{y:Dx},c[j]?=δ y->w=y.enc->w=.dead\/(∃g p o,(BL c)[j]?=δ (.live g p)/\w=.live g o/\θ o=θ p/\∀(i:Nat)(f:Ad),o[i]?=δ f->∃v,p[i]?=δ v/\Conv x x v f)\/((BL c)[j]?=δ w/\∀g p,w≠.live g p):=by
  intro y D q;have d:(BL c)[j]?=δ y.enc:=by grind[BL]
  subst q;cases y with
  |dead=>exact .inl rfl
  |live b p=>exact .inr (.inl ⟨_,_,_,d,rfl,rfl,λi f h=>⟨f,h,λ_ r=>r⟩⟩)
  |buf b t l m H=>exact .inr (.inl ⟨_,_,_,d,rfl,rfl,λi f h=>⟨f,h,λ_ r=>r⟩⟩)
  |lp=>exact .inr (.inr ⟨d,λ_ _ h=>by cases h⟩)
  |mp=>exact .inr (.inr ⟨d,λ_ _ h=>by cases h⟩)
 rcases A0 j (θ M) with h|h;rw[CY (by rw[Cb];exact h)]at z;obtain⟨y,D,rfl⟩:=wa z;obtain⟨e,q,B⟩:=hr j y rfl D;rcases B with rfl|⟨b,p,C,o,rfl,rfl,A⟩|⟨b,t,l,m,v,C,f,rfl,rfl⟩|⟨ro,G,F,n,env,J,a,b,s,rfl,rfl⟩|⟨b,C,k,t,I,rfl,rfl⟩;exact .inl rfl;refine .inr (.inl ⟨0,lvs p,lvs o,by simp only[BL,CU,q,Bt,Dx.enc],rfl,A.1,λi f E=>?_⟩);obtain⟨v,q1,q2⟩:=A.2 i f E;exact⟨v,q1,q2 x⟩;exact same q rfl;exact same q rfl;exact same q rfl;rw[Cn (by rw[Cb];exact h),KC]at z;rw[Cb]at z;grind[wa]
def IS.weak{N}{b}{env}{H}{env2}(s:IS j b J env H env2 c)(k:θ H≤θ b)(n:vq (θ H) env2=ζ)(o:nA (θ H) c=ζ):
  Fa N (θ H) (B3 j) (BL b) (B3 env2) (BL c):=by
 have g:θ c<=θ b:=by rw[s.len];exact k
 have x:Fa N (BL b).length (B3 j) (BL b) (B3 env2) (BL c++(BL b).drop (θ c)):=by refine W5 (by simp[BL];omega) λX h w _=>?_;have q:=(HR.rel g s.hr (cx X h (BL b) w)).onto;refine⟨q,λt z m=>?_⟩;obtain⟨p,a,e⟩:=Bs.1 m;injection e with d f;subst d f;obtain⟨v,u,i⟩:=s.env p a;exact⟨v.enc,Bs.2 ⟨_,u,rfl⟩,λA r=>(i _ A r).later q.later⟩
 have l:(BL c++(BL b).drop (θ c)).take (θ H)=BL c:=by rw[<-s.len,<-Cb c,Fi];rfl
 have y:Fa N (θ H) (B3 env2) (BL c++(BL b).drop (θ c)) (B3 env2) (BL c):=by have:=Fa.cut (N:=N) (n0:=θ H) (env:=B3 env2) (H:=BL c++(BL b).drop (θ c)) (by simp[BL,s.len]) (λt v m=>by obtain⟨p,a,e⟩:=Bs.1 m;injection e with d f;subst d f;exact hZ (mS n p a)) (by rw[l];exact mT o);rwa [l]at this
 exact(x.of_le (by rw[Cb];exact k)).trans y
def wc:Exit->Exit->Bool
 |.normal,.normal=>ζ
 |.exit a,.exit b=>ξ a b
 |.ret,.ret=>ζ
 |_,_=>η
def uY{b}(h:wc K b=ζ):K=b:=by cases K<;>cases b<;>simp only[wc]at h<;>first|rfl|cases h|exact E! _ (DB h)
structure Hint where
 kind:Nat
 key:Nat
 virt:List (Nat×Ty)
 virtC:List (Nat×Nat×Ty)
 kill:List Nat
 drop:List Nat
 slots:List PF
 exits:List (Exit×List PF)
def wG(n id:Nat):Nat:=match Nat.ble 100 id with|true=>id+n-150|false=>id
def Part.rel(n:Nat):Part->Part
 |.o id=>.o (wG n id)
 |p=>p
def PF.rel(n:Nat):PF->PF
 |.g tmp id=>.g tmp (wG n id)
 |.p id ps=>.p (wG n id) (ps.map (Part.rel n))
 |.u id ty=>.u (wG n id) ty
 |.x id=>.x (wG n id)
 |.y id st=>.y (wG n id) st
 |.m id kk ty=>.m (wG n id) kk ty
 |.w tmp id=>.w tmp (wG n id)
 |z=>z
def Hint.rel(n:Nat)(h:Hint):Hint:=⟨h.kind,h.key,h.virt,h.virtC.map λp=>(wG n p.1,p.2),h.kill.map (wG n),h.drop,h.slots.map (PF.rel n),h.exits.map λp=>(p.1,p.2.map (PF.rel n))⟩
def Hint.tmps(h:Hint):Ψ Nat:=h.drop++h.virt.map (·.1)++WU h.slots++h.exits.flatMap λp=>WU p.2
def xS(n:Nat):∀l:Ψ PF,WU (l.map (PF.rel n))=WU l
 |[]=>rfl
 |s::r=>by cases s<;>simp[WU,PF.rel,xS n r]
def T2(n:Nat)(h:Hint):(h.rel n).tmps=h.tmps:=by simp[Hint.tmps,Hint.rel,xS,List.flatMap_map]
def nQ(kind key:Nat):Ψ Hint->Ω Hint
 |[]=>ε
 |h::r=>match ξ kind h.kind&&ξ key h.key with|true=>δ h|false=>nQ kind key r
def zc:Code->Ω Nat
 |.region id _ _=>δ id
 |.seq a b=>match zc a with|some x=>δ x|none=>zc b
 |.cond _ a b=>match zc a with|some x=>δ x|none=>zc b
 |.block _ b=>zc b
 |.loop b=>zc b
 |_=>ε
def uo:Code->Bool
 |.seq a _=>uo a
 |.block _ b=>uo b
 |.loop _=>ζ
 |_=>η
def AKE(b:Code)(r:Nat)(hs:Ψ Hint):Ω Hint:=
 match uo b with
 |true=>(match nQ 5 r hs with|some h=>δ h|none=>nQ 0 r hs)
 |false=>nQ 0 r hs
def hintOf(hs:Ψ Hint):Code->Ω Hint
 |.loop b=>match zc b with|some r=>(match nQ 8 r hs with|some h=>δ h|none=>AKE b r hs)|none=>ε
 |.block id _=>nQ 1 id hs
 |.cond _ a b=>match zc (.seq a b)with|some r=>nQ 2 r hs|none=>ε
 |.region id _ _=>nQ 6 id hs
 |_=>ε
def sO(hs:Ψ Hint)(c:Code):Ψ Nat:=
 match hintOf hs c with
 |some h=>h.tmps
 |none=>[]
def tT(hs:Ψ Hint):Code->Code->Ω Hint
 |.region id _ _,.cond _ _ _=>nQ 4 id hs
 |_,_=>ε
def vY(hs:Ψ Hint)(a b:Code):Ψ Nat:=
 match tT hs a b with
 |some h=>h.tmps
 |none=>[]
def PQ(hs:Ψ Hint):Code->Ψ Nat
 |.region id ops d=>pE ops.toList++sO hs (.region id ops d)
 |.seq a b=>(PQ hs a++PQ hs b)++vY hs a b
 |.cond c a b=>PQ hs a++PQ hs b++sO hs (.cond c a b)
 |.block id b=>PQ hs b++sO hs (.block id b)
 |.loop b=>PQ hs b++sO hs (.loop b)
 |_=>[]
def zD:TV->Bool
 |.c (.raw .any)=>ζ
 |_=>η
def AES(h:zD i=η):i≠Vx:=by rintro rfl;cases h
def xz(H:As)(id:Nat):Bool:=match H[id]? with|some (.buf η _ _ _ _)=>ζ|_=>η
def jU(A S:Ψ Nat)(H:As)(t:Nat)(v:TV):Bool:=
 match Jf t A with
 |true=>η
 |false=>match zD v with
  |true=>η
  |false=>(Ll v.refs).all λid=>!(Jf id S&&xz H id)
def RJ(A S:Ψ Nat)(H:As):Bj->Bj
 |[]=>[]
 |(t,v)::r=>match jU A S H t v with|true=>(t,v)::RJ A S H r|false=>RJ A S H r
def rL:Bj->Bool
 |[]=>ζ
 |(t,_)::r=>!Jf t (r.map (·.1))&&rL r
theorem Wu(h:N∉d):Jf N d=η:=by
 cases a:Jf N d with
 |false=>rfl
 |true=>induction d<;>grind[Jf,Nat.eq_of_beq_eq_true]
def ab:∀{env},rL env=ζ->(env.map (·.1)).Nodup
 |[],_=>RE
 |(t,v)::r,h=>by simp only[rL,Ba,Wb]at h;exact G4.2 ⟨Ux h.1,ab h.2⟩
theorem mO{A S}{H}:∀{env:Bj},(env.map (·.1)).Nodup->∀t,jU A S H t (env.get t)=ζ->(RJ A S H env).get t=env.get t
 |[],_,t,_=>rfl
 |(u,v)::r,nd,t,h=>by have a:=G4.1 nd;simp only[Bj.get]at h⊢;by_cases b:u=t;grind[Nat.beq_refl,RJ,Bj.get];rw[beq_false b]at h⊢;have c:=mO a.2 t h;grind[RJ,Bj.get,beq_false]
theorem Rr{A S:Ψ Nat}{H:As}:∀{env:Bj},(env.map (·.1)).Nodup->∀p∈RJ A S H env,env.get p.1=p.2/\jU A S H p.1 p.2=ζ/\p∈env
 |(u,v)::r,nd,p,h=>by
  have a:=G4.1 nd;have tail:p∈RJ A S H r->Bj.get ((u,v)::r) p.1=p.2/\jU A S H p.1 p.2=ζ/\p∈(u,v)::r:=λh=>by obtain⟨q1,q2,q3⟩:=Rr a.2 p h;grind[Bj.get,beq_false]
  grind[RJ,Bj.get,Nat.beq_refl]
theorem AHM(H:As):LpS (Ks d 0 H) H:=by intro id c ro F n env S a b s h;rw[Jd,h];split;grind;exact⟨_,_,rfl⟩
theorem AFD(H:As):LpS H (Ks d 0 H):=by
 intro id S ro F n env f a b s h;rw[Jd]at h;cases c:H[id]? with
 |none=>grind
 |some e=>
  rw[c]at h;simp at h;split at h;grind;cases e with
  |lp=>injection h with _ q2 q3 q4 q5 q6 q7 _;grind
  |_=>cases h
def oP{id a n}{t}:∀{b:Ψ Bx},Bx.own id a t n∈b->id∈Ll b
 |x::r,h=>by rcases Av.1 h with rfl|h;exact JV;have:=oP h;cases x<;>simp only[Ll]<;>first|exact this|exact CZ _ this
def zp(h:jU d k c N i=ζ)(m:i.ok c)(st:CE (Ks k 0 c) M):pZ M i:=by
 intro id o r n g;unfold jU at h;split at h;cases h;split at h;cases h;have b:=GL.1 h id (oP g);have H:id<θ c:=(m _ g).1;refine st.nb id (by rw[Io];exact H) λq l p S a=>?_;rw[Jd,DZ]at a;cases t:c[id]? with
 |none=>rw[t]at a;cases a
 |some e=>rw[t]at a;simp only[Bt,Ar]at a;split at a;rename_i A;subst a;simp only[A,xz,t]at b;cases b;cases e<;>simp only[Dx.lock]at a<;>first|cases a|(injection a with j;cases j)
theorem AFB(g:Jf N d=η)(S:zD i=η)(j:pZ c i):jU d k c N i=ζ:=by
 unfold jU;rw[g,S];refine GL.2 λid e=>?_;have:∃H f n,Bx.own id H f n∈i.refs:=by
  generalize i.refs=cs at e;induction cs with
  |nil=>cases e
  |cons x r m=>
   cases x with
   |own l H f n=>grind[Ll]
   |_=>obtain⟨a,b,t,h⟩:=m e;grind
 obtain⟨H,f,n,A⟩:=this;have:=j id H f n A;grind[xz]
def AJJ:Ψ Part->Ψ Nat
 |[]=>[]
 |.o id::r=>id::AJJ r
 |_::r=>AJJ r
def nX(env:Bj)(H:As):Ψ PF->Ψ Nat
 |[]=>[]
 |.t tmp _::r=>Ll (env.get tmp).refs++nX env H r
 |.p id ps::r=>(match H[id]? with|some (.live _ cs)=>(Ll cs).filter λi=>!Jf i (AJJ ps)|_=>[])++nX env H r
 |_::r=>nX env H r
def zN(sl:Ψ PF)(env:Bj)(H:As):Ω (DL (fW sl)):=
 match IM (nX env H sl) env H with
 |(e,h)=>match Y2 e h sl with|some ds=>ABO (fW sl) ds|none=>ε
def yN:Ψ (Exit×Ψ PF)->Type
 |[]=>Unit
 |[p]=>DL (fW p.2)
 |p::q::r=>DL (fW p.2)⊕yN (q::r)
def ABU:(xs:Ψ (Exit×Ψ PF))->Exit->Bj->As->Ω (yN xs)
 |[],_,_,_=>ε
 |[p],x,env,H=>match wc p.1 x with|true=>zN p.2 env H|false=>ε
 |p::q::r,x,env,H=>
  match wc p.1 x with
  |true=>(match zN p.2 env H with|some s=>δ (.inl s)|none=>ε)
  |false=>(match ABU (q::r) x env H with|some s=>δ (.inr s)|none=>ε)
def AJQ{R:Type}:(xs:Ψ (Exit×Ψ PF))->yN xs->(Exit->Ψ PF->Ψ DV->Ω R)->Ω R
 |[],_,_=>ε
 |[p],s,k=>k p.1 p.2 (dvs (fW p.2) s)
 |p::q::r,o,k=>ν (λs=>k p.1 p.2 (dvs (fW p.2) s)) (AJQ (q::r) · k) o
def yO:(xs:Ψ (Exit×Ψ PF))->yN xs->Exit×Ψ PF×Ψ DV
 |[],_=>(.normal,[],[])
 |[p],s=>(p.1,p.2,dvs (fW p.2) s)
 |p::q::r,.inl s=>(p.1,p.2,dvs (fW p.2) s)
 |p::q::r,.inr s=>yO (q::r) s
def xF{R:Type}:∀{xs}{o}{k}{r:R},AJQ xs o k=δ r->k (yO xs o).1 (yO xs o).2.1 (yO xs o).2.2=δ r
 |[],_,_,_,h=>by cases h
 |[p],s,k,r,h=>h
 |p::q::t,.inl s,k,r,h=>h
 |p::q::t,.inr s,k,r,h=>xF (xs:=q::t) h
def AGN(sl:Ψ PF)(ds:Ψ DV)(env:Bj)(H:As):Prop:=Y2 (IM (nX env H sl) env H).1 (IM (nX env H sl) env H).2 sl=δ ds
theorem oC{s:DL (fW J)}(h:zN J j c=δ s):AGN J (dvs (fW J) s) j c:=by grind[zN,AGN,rK]
def xG:∀{xs}{x}{env}{H}{o:yN xs},ABU xs x env H=δ o→
  (yO xs o).1=x/\AGN (yO xs o).2.1 (yO xs o).2.2 env H/\∃p∈xs,(yO xs o).2.1=p.2
 |[p],x,env,H,o,h=>by simp only[ABU]at h;split at h;rename_i a;exact⟨uY a,oC h,p,q!,rfl⟩;cases h
 |p::q::r,x,env,H,o,h=>by simp only[ABU]at h;split at h;rename_i a;split at h;rename_i s b;injection h with h;subst h;exact⟨uY a,oC b,p,q!,rfl⟩;cases h;split at h;rename_i s b;injection h with h;subst h;obtain⟨q1,q2,c,q3,q4⟩:=xG (xs:=q::r) b;exact⟨q1,q2,c,CZ _ q3,q4⟩;cases h
structure AAk(A S:List Nat)(env0:Bj)(H0:As)(e2:Bj)(h2:As):Prop where
 ok:OO e2 h2
 step:CE (Ks S 0 H0) h2
 len:h2.length=H0.length
 same:∀j,Jf j S=false->h2[j]?=(Ks S 0 H0)[j]?
 get:∀p∈RJ A S H0 env0,e2.get p.1=p.2
theorem AB9{A B S:List Nat}{env0:Bj}{a:As}{L:Bj}{s:As}(m:OO env0 a)(nd:(env0.map (·.1)).Nodup)(g:AAk A S env0 a L s)
  {env1:Bj} {d:As} (G:OO env1 d) (st:EH B L s env1 d) (U: ∀t,t∈B->t∈A) {o:List PF} {K:List DV} (W:AGN o K env1 d)
  {Hx:As} (J: ∀e∈Hx,e.ok Hx) (y:Hx.length=a.length) (F:LpS Hx (Ks S 0 a)) (rx: ∀id c t n,TZ a id c t n->TZ Hx id c t n) (E: ∀(j:Nat) (i:Dx),Jf j (Lo o)=false->Hx[j]? =some i->i= .dead\/ ∃e,Jf j S=false/\(Ks S 0 a)[j]? =some e/\e.ro=true/\AIn e i)
  {r:Bj} {f:As} (Y:Wt o K (RJ A S a env0) Hx=some (r,f)) (ce:vq a.length r=true) (ch:nA a.length f=true) (N:Nat):
  Fa N a.length (B3 env1) (BL d) (B3 r) (BL f)/\ ∃P V,IS P V o (RJ A S a env0) Hx r f:=by
 obtain⟨I,z,wf⟩:=QO (nX env1 d o) G;have u:a.length<=d.length:=by rw[<-g.len];exact st.step.len
 have b:=EH.trans g.ok.env st z;have H: ∀p∈RJ A S a env0,p.2.ok Hx:=λp v x E=>by
  have:=m.env p (Rr nd p v).2.2 x E;cases x with
  |own id c t n=>exact rx _ _ _ _ this
  |_=>trivial
 have q:=Mu I W Y ⟨H,J⟩ (by rw[y];exact Cl u z.step.len) (λp v=>by
  obtain⟨b1,M,O⟩:=Rr nd p v;have hk:=zp M (m.env p O) g.step;have T:Jf p.1 A=false:=by grind[jU]
  have k:zD p.2=false:=by grind[jU]
  have X:=g.get p v;have:=b.same p.1 (λh=>by rw[Dc]at h;exact Ux T (U _ h)) k!;rw[X]at this;exact⟨p.2,Zi this (AES k),Xg.refl _⟩) (λj i Z C=>by
   have D:j<a.length:=k!
   rcases E j i Z C with rfl|⟨e,Q,s,f,R⟩;exact⟨_,Au (DH D (Cl u z.step.len)),.inl rfl⟩;exact⟨e,b.step.ro j e (by rw[g.same j Q];exact s) f,R⟩) (λid l _ _ _ _ _ _ _ _ hq=>by
  obtain⟨ad,s1,q1⟩:=(g.step.trans b.step).lp id (by rw[Io,<-y];exact l) _ _ _ _ _ _ _ _ hq;exact F id l _ _ _ _ _ _ _ _ q1)
 have w:=q.weak (N:=N) (by rw[y];exact Cl u z.step.len) k! k!;rw[y]at w;exact⟨((wf N).of_le (by rw[Cb];exact u)).trans w,_,_,q⟩
open Classical in
noncomputable def vP{α:Type}(g:Ψ α->Unit->Ω (Ψ α))(l:Ψ α):Ω (Ψ α):=if∀m,l.Perm m->g m ()=g l ()then g l ()else ε
theorem ABY{g:Ψ R->Unit->Ω (Ψ R)}{l s:Ψ R}(h:vP g l=δ s):∀m,l.Perm m->g m ()=δ s:=by grind[vP]
def yQ:Ψ Oper->Ω (Nat×Nat×Nat×TypeId×TypeId)
 |[⟨δ a1,.load ty1 (.tmp c0),_,_,_,ε⟩,⟨δ a2,.range ty2 (.tmp b1),_,_,_,ε⟩]=>match ξ a1 b1 with|true=>δ (c0,a1,a2,ty1,ty2)|false=>ε
 |_=>ε
def vK:Ψ Oper->Ω (Nat×Nat×Nat)
 |[⟨δ a3,.next (.tmp a2) η,_,_,_,ε⟩,⟨δ a4,.extract (.tmp b3) 0,_,_,_,ε⟩]=>match ξ a3 b3 with|true=>δ (a2,a3,a4)|false=>ε
 |_=>ε
def vL:Ψ Oper->Ω (Nat×Nat×Nat×Nat×TypeId×TypeId)
 |[⟨δ a5,.entry (.tmp a2),_,_,_,ε⟩,⟨δ a6,.extract (.tmp b5) 1,_,_,_,ε⟩,⟨δ a7,.alloc te1,_,_,_,ε⟩,⟨ε,.store te2 (.tmp b7) (.tmp b6),_,_,_,ε⟩]=>
  match ξ a5 b5&&(ξ a6 b6&&ξ a7 b7)with|true=>δ (a2,a5,a6,a7,te1,te2)|false=>ε
 |_=>ε
def vM:Ψ Oper->Ω (Nat×Nat×Nat×Nat×Nat×Nat×TypeId×TypeId×TypeId)
 |[⟨δ a8,.move (.tmp out),_,_,_,ε⟩,⟨δ a9,.load te3 (.tmp a7),_,_,_,ε⟩,⟨δ a10,.buildSlice ts1 1 ⟨[(0,.tmp b9)]⟩,_,_,_,ε⟩,
   ⟨δ a11,.call {callee:=.builtin .append,args:=⟨[.tmp b8,.tmp b10]⟩,argTypes:=⟨[ts2,ts3]⟩},_,_,_,ε⟩,⟨δ out2,.assign (.tmp b11),_,_,_,ε⟩]=>
  match ξ a8 b8&&(ξ a9 b9&&(ξ a10 b10&&(ξ a11 b11&&(ξ out out2&&ξ ts2 ts3))))with|true=>δ (out,a7,a8,a9,a10,a11,te3,ts1,ts2)|false=>ε
 |_=>ε
def yR:Ψ Oper->Ω (Nat×Nat×Nat×FuncId×FuncId)
 |[⟨δ a12,.move (.tmp out),_,_,_,ε⟩,⟨δ a13,.call {callee:=.value (.func F),args:=⟨[.tmp b12,.func G]⟩,.. },_,_,_,ε⟩]=>match ξ a12 b12 with|true=>δ (out,a12,a13,F,G)|false=>ε
 |_=>ε
def sV(h:yQ A=δ (N,n,Y,b,W)):
  ∃e c a f d l,A=[⟨δ n,.load b (.tmp N),e,c,a,ε⟩,⟨δ Y,.range W (.tmp n),f,d,l,ε⟩]:=by
 unfold yQ at h;split at h;split at h<;>simp_all;cases h
def sW(h:vK A=δ (N,n,Y)):
  ∃e c a f d b,A=[⟨δ n,.next (.tmp N) η,e,c,a,ε⟩,⟨δ Y,.extract (.tmp n) 0,f,d,b,ε⟩]:=by
 unfold vK at h;split at h;split at h<;>simp_all;cases h
def sX{a7:Nat}(h:vL A=δ (N,n,Y,a7,b,W)):
  ∃j e a k f l m g c o i d,A=[⟨δ n,.entry (.tmp N),j,e,a,ε⟩,⟨δ Y,.extract (.tmp n) 1,k,f,l,ε⟩,⟨δ a7,.alloc b,m,g,c,ε⟩,⟨ε,.store W (.tmp a7) (.tmp Y),o,i,d,ε⟩]:=by
 unfold vL at h;split at h;split at h<;>simp_all;cases h
def sY{a9 a10 a11:Nat}{ts2:TypeId}(h:vM A=δ (N,n,Y,a9,a10,a11,b,W,ts2)):
  ∃m f a r g l o i c p j d q k e,A=[⟨δ Y,.move (.tmp N),m,f,a,ε⟩,⟨δ a9,.load b (.tmp n),r,g,l,ε⟩,⟨δ a10,.buildSlice W 1 #[(0,.tmp a9)],o,i,c,ε⟩,⟨δ a11,.call {callee:=.builtin .append,args:= #[.tmp Y,.tmp a10],argTypes:= #[ts2,ts2]},p,j,d,ε⟩,⟨δ N,.assign (.tmp a11),q,k,e,ε⟩]:=by
 unfold vM at h;split at h;split at h<;>simp_all;cases h
def sZ{G:FuncId}(h:yR A=δ (N,n,Y,F,G)):
  ∃f d b a g e c,A=[⟨δ n,.move (.tmp N),f,d,b,ε⟩,⟨δ Y,.call {callee:=.value (.func F),args:= #[.tmp n,.func G],argTypes:=a},g,e,c,ε⟩]:=by
 unfold yR at h;split at h;split at h<;>simp_all;cases h
structure Yj where
 c0:Nat
 a1:Nat
 a2:Nat
 a3:Nat
 a4:Nat
 a5:Nat
 a6:Nat
 a7:Nat
 a8:Nat
 a9:Nat
 a10:Nat
 a11:Nat
 a12:Nat
 a13:Nat
 out:Nat
 ty1:TypeId
 ty2:TypeId
 te1:TypeId
 te2:TypeId
 te3:TypeId
 ts1:TypeId
 ts2:TypeId
 F:FuncId
 G:FuncId
def yK:Ψ Nat->Bool
 |[]=>ζ
 |t::r=>!Jf t r&&yK r
def sT:∀{l},yK l=ζ->l.Nodup
 |[],_=>RE
 |t::r,h=>by simp only[yK,Ba,Wb]at h;exact G4.2 ⟨Ux h.1,sT h.2⟩
def pA:Code->Code->Ω Yj
 |.seq (.region _ o1 η) (.block b1 (.loop (.seq (.region _ o2 η) (.seq (.cond (.tmp x4) .skip (.exit b2)) (.block _ (.seq (.region _ o3 η) (.region _ o4 η))))))),.region _ o5 η=>
  match yQ o1.toList,vK o2.toList,vL o3.toList,vM o4.toList,yR o5.toList with
  |some (c0,a1,a2,ty1,ty2),δ (x2,a3,a4),δ (y2,a5,a6,a7,te1,te2),δ (out,x7,a8,a9,a10,a11,te3,ts1,ts2),δ (out2,a12,a13,F,G)=>
   match (ξ b1 b2&&(ξ a4 x4&&(ξ a2 x2&&(ξ a2 y2&&(ξ a7 x7&&ξ out out2)))))&&yK [out,a1,a2,a3,a4,a5,a6,a7,a8,a9,a10,a11,a12,a13]with
   |true=>δ ⟨c0,a1,a2,a3,a4,a5,a6,a7,a8,a9,a10,a11,a12,a13,out,ty1,ty2,te1,te2,te3,ts1,ts2,F,G⟩
   |false=>ε
  |_,_,_,_,_=>ε
 |_,_=>ε
def Yj.tmps(p:Yj):Ψ Nat:=[p.out,p.a1,p.a2,p.a3,p.a4,p.a5,p.a6,p.a7,p.a8,p.a9,p.a10,p.a11,p.a12,p.a13]
def aT(A:Ψ Nat):Bj->Bj
 |[]=>[]
 |(t,v)::r=>match Jf t A with|true=>aT A r|false=>(t,v)::aT A r
def Wm{A:Ψ Nat}:∀{env}{q:Nat×TV},q∈aT A env->q∈env/\q.1∉A
 |[],_,h=>by cases h
 |(t,v)::r,q,h=>by simp only[aT]at h;split at h;exact⟨CZ _ (Wm h).1,(Wm h).2⟩;rename_i a;rcases Av.1 h with rfl|h;exact⟨JV,Ux a⟩;exact⟨CZ _ (Wm h).1,(Wm h).2⟩
theorem qh{A:Ψ Nat}{u:Nat}(a:u∉A):∀env:Bj,(aT A env).get u=env.get u
 |[]=>rfl
 |(t,v)::r=>by
  simp only[aT,Bj.get];split;rename_i b;have:t≠u:=λe=>by grind[Wu]
  rw[beq_false this];exact qh a r;simp[Bj.get,qh a r]
noncomputable def AEh(P:Program)(N:Nat)(cs:Ψ Qi)(p:Yj)(env:Bj)(H:As){R:Type}(k:Bj->As->Ω R):Ω R:=
 match env.get p.c0,env.get p.out with
 |.c (.raw (.ptr c 0 0)),.c .nil=>
  match H[c]? with
  |some (.live _ [.raw (.mp id)])=>
   match H[id]?,wj cs p.F,Enters P p.F with
   |some (.mp _ kk ty es),δ (.c2 _ te [] [] [.fn (.func G) [] []] g),ζ=>
    if h:(Ty.list ty).beq (Ty.list te)=ζ then
     match tI P p.ty1,P.underlying p.ty2,tI P p.te2,tI P p.te3,Zk P p.te1,eI P p.ts1,eI P p.ts2 with
     |some (η,_),δ (.map kt _),δ (_,n2),δ (tr3,n3),δ z,δ (ε,e1,s1),δ (ε,e2,s2)=>
      match (ξ G p.G&&(te.isAgg&&(ξ n2 te.sz&&(tr3&&(ξ n3 te.sz&&(ξ (θ z) te.sz&&(ξ s1 te.sz&&(ξ s2 te.sz&&(Qh P e1&&(Qh P e2&&Nat.ble te.sz 4096))))))))))&&
        ((match P.underlying kt with|some (.int k2)=>decide (k2=kk)|_=>η)&&(vq (θ H) (aT p.tmps env)&&(nA (θ H) H&&p.tmps.all λt=>Nat.blt t N)))with
      |true=>cond (τ (((θ es:Nat):Int)≤16777216))
        ((vP g (Ty.cast h (es.map (·.2)))).bind λs=>cond (ξ (θ s) (θ es)) (k ((p.out,.c (.own (θ H) 0 te (θ s)))::aT p.tmps env) (H++[.buf η te s (θ s) 0,.dead])) ε) ε
      |false=>ε
     |_,_,_,_,_,_,_=>ε
    else ε
   |_,_,_=>ε
  |_=>ε
 |_,_=>ε
theorem FM{q:Nat×Ad}{v:Ad}(h:q∈u)(a:q.1≠N):q∈u.put N v:=CZ _ (BQ.2 ⟨h,k!⟩)
def yZ:(N,v)∈u.put N v:=JV
def pW{v:Ad}:Env.get ((N,v)::u) N=v:=C! rfl
def zg{v:Ad}(h:N≠n):Env.get ((N,v)::u) n=u.get n:=D! h
def jX(vals:Ψ R)(seen:Ψ Nat):Ψ R:=seen.filterMap (vals[·]?)
theorem ABo{a:Ψ R}{x:R}(h:a[N]?=δ x):jX a (d++[N])=jX a d++[x]:=by grind[jX]
theorem AAL{b:Type}:∀a:Ψ b,(List.range (θ a)).filterMap (a[·]?)=a
 |[]=>rfl
 |x::r=>by
  rw[Bh,List.range_succ_eq_map,List.filterMap_cons];simp;have:((λi=>(x::r)[i]?)∘Nat.succ)=(r[·]?):=k!
  rw[this,AAL r]
def ABn{a:Ψ R}(hn:d.Nodup)(c:∀j∈d,j<θ a)(b:∀j,j<θ a->j∈d):a.Perm (jX a d):=by have:=((ni List.nodup_range hn).2 λj=>⟨λh=>b j (IH.1 h),λh=>IH.2 (c j h)⟩).filterMap (a[·]?);rwa [AAL]at this
section
variable {P:Program}{N:Nat}{env:Env}{H:Aw}{Q:Env->Aw->Prop}{ops:Array Oper}
def Xh.nil(h:Q env H):Xh P N ops [] env H Q:=⟨_,_,Fa.refl _ _ _,h⟩
def Xh.cons(b:o.guard=ε)(h:JS P N o env H λv a=>Xh P N ops A (env.putO o.dst v) a Q):Xh P N ops (o::A) env H Q:=by refine⟨_,_,Fa.refl _ _ _,?_⟩;rw[b];exact h
end
section
variable {P:Program}{N:Nat}
theorem xm(t:Ty)(l:Ψ t.D):∀v∈t.E.cl l,Pure v:=by intro v a;have⟨u,b,a⟩:=G3.1 a;obtain⟨y,_,rfl⟩:=Bs.1 b;exact Vk (t.enc_pure y) v a
theorem AFf(h:Pure v)(p:Nat->Bool):v.idsAll p=ζ:=Rk (λ_ h=>by cases h) v h
theorem AEv{p q:Nat->Bool}(h:∀id,p id=ζ->q id=ζ)(e:Fw)(k:e.idsAll p=ζ):e.idsAll q=ζ:=by cases e<;>grind[If,Fw.idsAll,List.all_eq_true,Rk]
theorem AI1(t:Ty)(g:Nat)(l:Ψ t.D)(p:Nat->Bool):(Fw.live g (t.E.cl l)).idsAll p=ζ:=by grind[Fw.idsAll,Dv,AFf,xm]
theorem flt{a:Type}(p q:a->Bool)(b:∀x,q x=ζ->p x=ζ)(e:a)(d:p e=ζ)(f:q e=η):∀l:Ψ a,e∈l->(l.filter q).length<(l.filter p).length
 |x::l,he=>by
  have c:∀l:Ψ a,(l.filter q).length<=(l.filter p).length:=by intro l;induction l<;>grind
  rcases Av.1 he with rfl|h;grind;have:=flt p q b e d f l h;grind
theorem AIP(h:d.Nodup){i j a b:Nat}(l:d[i]?=δ a)(e:d[j]?=δ b)(c:i≠j):a≠b:=by grind[List.getElem?_inj]
def ADC{te:Ty}{kk:IntKind}{es:Ψ (Int×te.D)}{Hb:Aw}{base:Env}{id a2 a3 a4 a5 a6 a7 a8 a9 a10 a11 out:Nat}{b1 b2:Nat}{i2 i3 i4:Nat}{o2 o3 o4:Array Oper}{te1 te2 te3 ts1 ts2:TypeId}{z:Ψ Ad}{e1 e2:TypeId}{bb:Bool}
  (h2:vK o2.toList=δ (a2,a3,a4)) (h3:vL o3.toList=δ (a2,a5,a6,a7,te1,te2)) (h4:vM o4.toList=δ (out,a7,a8,a9,a10,a11,te3,ts1,ts2))
  (bG:[out,a2,a3,a4,a5,a6,a7,a8,a9,a10,a11].Nodup) (hN:∀t∈[out,a2,a3,a4,a5,a6,a7,a8,a9,a10,a11],t<N) (hb:∀q∈base,q.1∉ [out,a2,a3,a4,a5,a6,a7,a8,a9,a10,a11])
  (ax:∀q∈base,(q.2.idsAll λj=>decide (j<θ Hb))=ζ) (ap:∀e∈Hb,(e.idsAll λj=>decide (j<θ Hb))=ζ)
  (he:Hb[id]?=δ (.mp kk (es.map λp=>(p.1,te.enc p.2)))) (ar:te.isAgg=ζ) (hz:Zk P te1=δ z) (Z:θ z=te.sz) (b4:tI P te2=δ (bb,te.sz)) (b5:tI P te3=δ (ζ,te.sz))
  (bN:eI P ts1=δ (ε,e1,te.sz)) (b0:eI P ts2=δ (ε,e2,te.sz)) (bt:Qh P e1=ζ) (bz:Qh P e2=ζ) (b3:te.sz<=4096) (b6:θ es<=16777216):
  ∀(n:Nat)(seen:Ψ Nat),seen.Nodup->(∀j∈seen,j<θ es)->((List.range (θ es)).filter λj=>! τ (j∈seen)).length<=n->(jX (es.map (·.2)) seen).length+((List.range (θ es)).filter λj=>! τ (j∈seen)).length<=θ es->
   IG P N (.seq (.region i2 o2 η) (.seq (.cond (.tmp a4) .skip (.exit b1)) (.block b2 (.seq (.region i3 o3 η) (.region i4 o4 η)))))
    ((out,.sl (θ Hb) (jX (es.map (·.2)) seen).length te.sz 0 (jX (es.map (·.2)) seen).length)::(a2,.itp (θ Hb+1) id)::base)
    (Hb++[.live (jX (es.map (·.2)) seen).length (te.E.cl (jX (es.map (·.2)) seen)),.it (θ es) seen])
    λe E h=>e=.exit b1/\∃s,(es.map (·.2)).Perm s/\(∀q∈(out,Ad.sl (θ Hb) (θ s) te.sz 0 (θ s))::base,q∈E)/\θ h=θ Hb+2/\(∀j,j<θ Hb->h[j]?=Hb[j]?)/\h[θ Hb]?=δ (.live (θ s) (te.E.cl s)):=by
 obtain⟨t1,p1,x1,t2,p2,x2,l2⟩:=sW h2;obtain⟨t3,p3,x3,t4,p4,x4,t5,p5,x5,t6,p6,x6,l3⟩:=sX h3;obtain⟨t7,p7,x7,t8,p8,x8,t9,p9,x9,b9,b7,ca,b',b8,cb,l4⟩:=sY h4;have D:=λ(i j a b:Nat)=>AIP (i:=i) (j:=j) (a:=a) (b:=b) bG;simp only[Av,List.not_mem_nil,or_false,forall_eq_or_imp,forall_eq]at hN;have d2:PZ N o2.toList=ζ:=by rw[l2];simp[PZ,hN]
 have d3:PZ N o3.toList=ζ:=by rw[l3];simp[PZ,hN]
 have d4:PZ N o4.toList=ζ:=by rw[l4];simp[PZ,hN]
 have a0:id<θ Hb:=by rcases A0 id (θ Hb) with h|h;exact h;rw[Ct h]at he;cases he
 have s0:∀(A B C:Fw),(Hb++[A,B]).set (θ Hb+1) C=Hb++[A,C]:=λA B C=>by rw[Tq _ _ o!,show θ Hb+1-θ Hb=1 by omega];rfl
 have s1:∀(A B C D:Fw),(Hb++[A,B,C]).set (θ Hb+2) D=Hb++[A,B,D]:=λA B C D=>by rw[Tq _ _ o!,show θ Hb+2-θ Hb=2 by omega];rfl
 have s2:∀(A B C D:Fw),(Hb++[A,B,C]).set (θ Hb) D=Hb++[D,B,C]:=λA B C D=>by rw[Tq _ _ (Al _),G5];rfl
 have g0:∀(A:Fw)(r:Ψ Fw),(Hb++A::r)[θ Hb]?=δ A:=λA r=>by rw[Cn (Al _),G5];rfl
 have g1:∀(A B:Fw)(r:Ψ Fw),(Hb++A::B::r)[θ Hb+1]?=δ B:=λA B r=>by rw[Cn o!,show θ Hb+1-θ Hb=1 by omega];rfl
 have g2:∀(A B C:Fw)(r:Ψ Fw),(Hb++A::B::C::r)[θ Hb+2]?=δ C:=λA B C r=>by rw[Cn o!,show θ Hb+2-θ Hb=2 by omega];rfl
 have gm:∀(r:Ψ Fw),(Hb++r)[id]?=δ (.mp kk (es.map λp=>(p.1,te.enc p.2))):=λr=>by rw[CY a0];exact he
 have Y:(es.map (·.2)).length=θ es:=BT _;have J:0<te.sz:=te.sz_pos;intro n;induction n using Nat.strongRecOn with
 |ind n ih=>
  intro seen hn hl hr hm;obtain⟨L,hL⟩:∃L,L=jX (es.map (·.2)) seen:=⟨_,rfl⟩
  rw[<-hL]at hm⊢;refine IG.unroll (J9.seq (Fz d2 ?_));rw[l2];apply Xh.cons rfl;have d:(es.map λp=>(p.1,te.enc p.2)).length=θ es:=BT _;have ad:out≠a2:=D 0 1 _ _ rfl rfl g!;refine JS.next (x:=.tmp a2) (id:=θ Hb+1) (m:=id) (k:=kk) (es:=es.map λp=>(p.1,te.enc p.2)) (seen:=seen) rfl ?_ ?_ (gm _) ?_ ?_
  show Env.get _ a2=_;rw[zg ad,pW];rw[d];exact g1 _ _ _;intro G;refine Xh.cons rfl (Du (v:=.bool η) ?_ (Xh.nil ?_));show Ch _ _ _ (.extract (.tmp a3) 0)=_;simp only[Ch,BR,Env.putO,GR,if_true];rfl;refine J9.seq (J9.cond (b:=η) ?_ (λh=>by cases h) (λ_=>J9.exit ?_));simp only[BR,Env.putO,GR,if_true];refine⟨rfl,L,?_,λq o=>?_,q!,λj hj=>CY hj,g0 _ _⟩;rw[hL];exact ABn hn (by rw[Y];exact hl) (by rw[Y];rw[d]at G;exact G);have al:out≠a3:=D 0 2 _ _ rfl rfl g!;have ao:out≠a4:=D 0 3 _ _ rfl rfl g!;rcases Av.1 o with rfl|o;exact FM (FM JV al) ao;have:=hb q o;simp only[Av,not_or]at this;exact FM (FM (CZ _ (CZ _ o)) this.2.2.1) this.2.2.2.1;intro j p hj S;rw[CU]at hj;obtain⟨q,o,e⟩:=Tu.1 hj;subst e;rw[d,s0];refine Xh.cons rfl (Du (v:=.bool ζ) ?_ (Xh.nil ?_));show Ch _ _ _ (.extract (.tmp a3) 0)=_;simp only[Ch,BR,Env.putO,GR,if_true];rfl;have k2:∀m v w,Env.get (Env.put (Env.put ((out,Ad.sl (θ Hb) m te.sz 0 m)::(a2,Ad.itp (θ Hb+1) id)::base) a3 v) a4 w) a2=.itp (θ Hb+1) id:=λm v w=>by rw[GR,D! (D 1 3 _ _ rfl rfl g!),GR,D! (D 1 2 _ _ rfl rfl g!),zg ad,pW]
  have ko:∀m v w,Env.get (Env.put (Env.put ((out,Ad.sl (θ Hb) m te.sz 0 m)::(a2,Ad.itp (θ Hb+1) id)::base) a3 v) a4 w) out=.sl (θ Hb) m te.sz 0 m:=λm v w=>by rw[GR,D! (D 0 3 _ _ rfl rfl g!),GR,D! (D 0 2 _ _ rfl rfl g!),pW]
  have kb:∀m v w,∀q∈base,q∈Env.put (Env.put ((out,Ad.sl (θ Hb) m te.sz 0 m)::(a2,Ad.itp (θ Hb+1) id)::base) a3 v) a4 w:=λm v w q o=>by have:=hb q o;simp only[Av,not_or]at this;exact FM (FM (CZ _ (CZ _ o)) this.2.2.1) this.2.2.2.1
  have ki:∀m v w,(a2,Ad.itp (θ Hb+1) id)∈Env.put (Env.put ((out,Ad.sl (θ Hb) m te.sz 0 m)::(a2,Ad.itp (θ Hb+1) id)::base) a3 v) a4 w:=λm v w=>FM (FM (CZ _ JV) (D 1 2 _ _ rfl rfl g!)) (D 1 3 _ _ rfl rfl g!);refine J9.seq (J9.cond (b:=ζ) ?_ (λ_=>J9.skip ?_) (λh=>by cases h));simp only[BR,Env.putO,GR,if_true];dsimp only[fZ];refine J9.block (J9.seq (Fz d3 ?_));rw[l3];generalize K:Env.putO (Env.putO ((out,Ad.sl (θ Hb) (θ L) te.sz 0 (θ L))::(a2,Ad.itp (θ Hb+1) id)::base) (δ a3) (.tup [.bool ζ,.int kk q.1,te.enc q.2])) (δ a4) (.bool ζ)=E;have k2:Env.get E a2=.itp (θ Hb+1) id:=by rw[<-K];exact k2 _ _ _
  have ko:Env.get E out=.sl (θ Hb) (θ L) te.sz 0 (θ L):=by rw[<-K];exact ko _ _ _
  have kb:∀q∈base,q∈E:=by rw[<-K];exact kb _ _ _
  have ki:(a2,Ad.itp (θ Hb+1) id)∈E:=by rw[<-K];exact ki _ _ _
  clear K;refine Xh.cons rfl (JS.entry (x:=.tmp a2) (id:=θ Hb+1) (m:=id) (j:=j) (k:=kk) (es:=es.map λp=>(p.1,te.enc p.2)) (seen:=seen) (p:=(q.1,te.enc q.2)) rfl k2 ?_ (gm _) (by rw[CU,o];rfl) ?_);rw[d];exact g1 _ _ _;have f:te.enc q.2=.agg (te.enc q.2).cells:=Ty.agg_enc ar q.2;have l:(te.enc q.2).cells.length=te.sz:=te.enc_len q.2;have U:(te.enc q.2).solid=ζ:=by rw[f];rfl
  refine Xh.cons rfl (Du (v:=te.enc q.2) ?_ (Xh.cons rfl (JS.alloc rfl hz ?_)));show Ch _ _ _ (.extract (.tmp a5) 1)=_;simp only[Ch,BR,Env.putO,GR,if_true];rfl;have a1:(Hb++[Fw.live (θ L) (te.E.cl L),Fw.it (θ es) (seen++[j])]).length=θ Hb+2:=q!
  rw[a1,A3];show Xh P N o3 _ _ (Hb++[Fw.live (θ L) (te.E.cl L),Fw.it (θ es) (seen++[j]),Fw.live 0 z]) _;refine Xh.cons rfl (JS.store (id:=θ Hb+2) (g:=0) (off:=0) (v:=te.enc q.2) (cs:=z) (b:=bb) rfl ?_ ?_ U (g2 _ _ _ _) (by rw[l];exact b4) (by rw[l,Z];omega) (Xh.nil ?_));simp only[BR,Env.putO,GR,if_true];simp only[BR,Env.putO,GR];rw[D! (D 5 6 _ _ rfl rfl g!),C! trivial];have T:XZ z 0 (te.enc q.2).cells=(te.enc q.2).cells:=by unfold XZ;rw[List.take_zero,B5,l,<-Z,DZ,List.drop_length,Dc]
  rw[T,s1];simp only[Env.putO];generalize F:Env.put (Env.put (Env.put E a5 (.tup [.int kk q.1,te.enc q.2])) a6 (te.enc q.2)) a7 (.ptr (θ Hb+2) 0 0)=E1;have j7:Env.get E1 a7=.ptr (θ Hb+2) 0 0:=by rw[<-F,GR,C! rfl]
  have jo:Env.get E1 out=.sl (θ Hb) (θ L) te.sz 0 (θ L):=by rw[<-F,GR,D! (D 0 6 _ _ rfl rfl g!),GR,D! (D 0 5 _ _ rfl rfl g!),GR,D! (D 0 4 _ _ rfl rfl g!),ko]
  have jb:∀q∈base,q∈E1:=λu I=>by have:=hb u I;simp only[Av,not_or]at this;rw[<-F];exact FM (FM (FM (kb u I) this.2.2.2.2.1) this.2.2.2.2.2.1) this.2.2.2.2.2.2.1
  have ji:(a2,Ad.itp (θ Hb+1) id)∈E1:=by rw[<-F];exact FM (FM (FM ki (D 1 4 _ _ rfl rfl g!)) (D 1 5 _ _ rfl rfl g!)) (D 1 6 _ _ rfl rfl g!)
  clear F;apply Fz d4;rw[l4];refine Xh.cons rfl (Du (v:=.sl (θ Hb) (θ L) te.sz 0 (θ L)) (E! δ jo) (Xh.cons rfl (Du (v:=te.enc q.2) ?_ (Xh.cons rfl (V8 (sz:=te.sz) (vs:=[te.enc q.2]) rfl ?_ (Xh.cons rfl ?_))))));show jV P te3 _ (BR _ (.tmp a7))=_;simp only[BR,Env.putO,GR];rw[D! (D 6 7 _ _ rfl rfl g!),j7];simp only[jV,b5,Qg,g2];rw[C! ⟨P!,by rw[l];omega⟩,Wc,<-l,Hk];exact E! δ f.symm;simp only[Tb,bN];rw[C!];simp only[BR,Env.putO,GR,if_true,B4,Hj];refine⟨J,bt,rfl,?_,g!,b3⟩;simp only[BR,Env.putO,GR,if_true,B4,Hj,qL,qM,U,l,decide_true,YY];have R:j<θ es:=by rcases A0 j (θ es) with h|h;exact h;rw[Ct h]at o;cases o
  have bm:((List.range (θ es)).filter λi=>! τ (i∈seen++[j])).length<((List.range (θ es)).filter λi=>! τ (i∈seen)).length:=flt (λi=>! τ (i∈seen)) (λi=>! τ (i∈seen++[j])) (λx f=>by simp at f⊢;exact f.1) j (by simpa using S) q! _ (IH.2 R);have O:jX (es.map (·.2)) (seen++[j])=L++[q.2]:=by rw[hL];exact ABo (by rw[CU,o];rfl)
  refine Sl (sx:=.tmp a8) (xx:=.tmp a10) (t:=ts2) (e:=e2) (id:=θ Hb) (g:=θ L) (g':=θ L+1) (n:=θ L) (sz:=te.sz) (m:=1) (cs:=te.E.cl L) (news:=(te.enc q.2).cells) rfl b0 J bz ?_ (g0 _ _) (te.E.clen L) ?_ o! (.inl o!) ?_;show Env.get _ a8=_;simp only[Env.putO,GR];rw[D! (D 7 9 _ _ rfl rfl g!),D! (D 7 8 _ _ rfl rfl g!),C! trivial];simp only[BR,Env.putO,GR,if_true,ID,Bh,Bi,Ii,qQ,Dc];rw[s2];refine Xh.cons rfl (Du (v:=.sl (θ Hb) (θ L+1) te.sz 0 (θ L+1)) ?_ (Xh.nil ?_));show δ (Env.get _ a11)=_;simp only[Env.putO,GR,if_true];have Q:te.E.cl L++(te.enc q.2).cells=te.E.cl (L++[q.2]):=by simp[Sg.cl];rfl
  rw[Q];have bl:(L++[q.2]).length=θ L+1:=q!
  show∃env2 H2,Fa N _ _ _ env2 H2/\_;refine⟨_,_,?_,ih _ (DH bm hr) (seen++[j]) ?_ ?_ (Al _) (by rw[O];omega)⟩;rw[O,bl];generalize M:Env.putO _ (δ out) _=E3;have V:∀u∈(out,Ad.sl (θ Hb) (θ L+1) te.sz 0 (θ L+1))::(a2,Ad.itp (θ Hb+1) id)::base,u∈E3:=by intro u I;rw[<-M];simp only[Env.putO];rcases Av.1 I with rfl|I;exact yZ;rcases Av.1 I with rfl|I;exact FM (FM (FM (FM (FM ji (D 1 7 _ _ rfl rfl g!)) (D 1 8 _ _ rfl rfl g!)) (D 1 9 _ _ rfl rfl g!)) (D 1 10 _ _ rfl rfl g!)) (D 1 0 _ _ rfl rfl g!);have:=hb u I;simp only[Av,not_or]at this;exact FM (FM (FM (FM (FM (jb u I) this.2.2.2.2.2.2.2.1) this.2.2.2.2.2.2.2.2.1) this.2.2.2.2.2.2.2.2.2.1) this.2.2.2.2.2.2.2.2.2.2.1) this.1
  clear M;have w1:=Fa.subset (N:=N) (H:=Hb++[Fw.live (θ L+1) (te.E.cl (L++[q.2])),Fw.it (θ es) (seen++[j]),Fw.live 0 (te.enc q.2).cells]) V;have W:(Hb++[Fw.live (θ L+1) (te.E.cl (L++[q.2])),Fw.it (θ es) (seen++[j]),Fw.live 0 (te.enc q.2).cells]).take (θ Hb+2)=Hb++[Fw.live (θ L+1) (te.E.cl (L++[q.2])),Fw.it (θ es) (seen++[j])]:=by rw[fj,BM o!,show θ Hb+2-θ Hb=2 by omega];rfl
  have w2:=Fa.cut (N:=N) (n0:=θ Hb+2) (env:=(out,Ad.sl (θ Hb) (θ L+1) te.sz 0 (θ L+1))::(a2,Ad.itp (θ Hb+1) id)::base) (H:=Hb++[Fw.live (θ L+1) (te.E.cl (L++[q.2])),Fw.it (θ es) (seen++[j]),Fw.live 0 (te.enc q.2).cells]) q! (λt v X=>by
   rcases Av.1 X with e|X;injection e with _ e;subst e;exact G! o!;rcases Av.1 X with e|X;injection e with _ e;subst e;simp only[Ad.idsAll,Ba,K!];omega;exact Rk (λi hi=>G! (by have:=N! hi;omega)) v (ax _ X)) (by
   rw[W];intro e c;rcases Ak.1 c with c|c;exact AEv (λi hi=>G! (by have:=N! hi;omega)) e (ap e c);rcases Av.1 c with rfl|c;exact AI1 te _ _ _;simp only[A5]at c;subst c;rfl)
  rw[W]at w2;have a':(Hb++[Fw.live (θ L) (te.E.cl L),Fw.it (θ es) seen]).length=θ Hb+2:=q!
  rw[a'];exact(w1.of_le q!).trans w2;refine RD.2 ⟨hn,q!,λx f y hy=>?_⟩;simp only[A5]at hy;subst hy;rintro rfl;exact S f;intro x f;rcases Ak.1 f with f|f;exact hl x f;simp only[A5]at f;subst f;exact R
def pB{a}{p:Yj}(h:pA a m=δ p):∃x k i y l r z n A o B q,
  a=.seq (.region x k η) (.block i (.loop (.seq (.region y l η) (.seq (.cond (.tmp p.a4) .skip (.exit i)) (.block r (.seq (.region z n η) (.region A o η)))))))/\m=.region B q η/\
  yQ k.toList=δ (p.c0,p.a1,p.a2,p.ty1,p.ty2)/\vK l.toList=δ (p.a2,p.a3,p.a4)/\vL n.toList=δ (p.a2,p.a5,p.a6,p.a7,p.te1,p.te2)/\
  vM o.toList=δ (p.out,p.a7,p.a8,p.a9,p.a10,p.a11,p.te3,p.ts1,p.ts2)/\yR q.toList=δ (p.out,p.a12,p.a13,p.F,p.G)/\p.tmps.Nodup:=by
 unfold pA at h;split at h;split at h;rename_i s t u v w;split at h;rename_i j;simp only[Ba]at j;have⟨⟨b,c,d,e,f,g⟩,hn⟩:=j;have b:=DB b;have c:=DB c;have d:=DB d;have e:=DB e;have f:=DB f;have g:=DB g;subst b c d e f g;cases h;exact⟨_,_,_,_,_,_,_,_,_,_,_,_,rfl,rfl,s,t,u,v,w,sT hn⟩;cases h;cases h;cases h
def AEi{cs:Ψ Qi}(co:∀c∈cs,c.Ok P){a m}{p:Yj}(hp:pA a m=δ p){env}{H}{R:Type}{k:Bj→As→Ω R}{r:R}(ok:OO env H)(o:AEh P N cs p env H k=δ r):
  ∃A H',J9 P N a (B3 env) (BL H) (fZ (λE h=>J9 P N m E h (VO .normal (B3 A) (BL H'))) (λ_ _ _=>False))/\k A H'=δ r/\OO A H'/\EH p.tmps env H A H':=by
 obtain⟨i1,o1,T,i2,o2,J,i3,o3,i4,o4,i5,o5,rfl,rfl,p1,p2,p3,p4,p5,b3⟩:=pB hp;unfold AEh at o;split at o;rename_i c ci b4;split at o;rename_i ro id hc;split at o;rename_i c2 kk n I F te G g a1 hF hE;split at o;rename_i cB;split at o;rename_i y1 kt et b9 n2 c3 n3 z e1 s1 e2 s2 t1 t2 t3 t4 t5 t6 t7;split at o;rename_i hb;have cG:n=te:=by have:=Ty.beq_eq _ _ cB;injection this
 subst cG;simp only[Ba]at hb;obtain⟨⟨bG,b8,V,cd,W,bz,Y,Z,cb,cc,ad⟩,U,b',ca,bN⟩:=hb;have bG:=DB bG;have V:=DB V;have W:=DB W;have bz:=DB bz;have Y:=DB Y;have Z:=DB Z;have ad:=PO ad;subst V W Y Z cd;have c1:P.underlying kt=δ (.int kk):=by split at U;rename_i k2 e;rw[e,N! U];cases U
 cases ao:τ (((θ I:Nat):Int)<=16777216)with
 |false=>rw[ao]at o;cases o
 |true=>
  have bm:θ I<=16777216:=by have:=N! ao;omega
  rw[ao]at o;obtain⟨s,hs,o⟩:=DM.1 (show σ _ _=δ r from o);have hs:=ABY hs;cases L:ξ (θ s) (θ I) with
  |false=>rw[L]at o;cases o
  |true=>
   rw[L]at o;have o:k ((p.out,.c (.own (θ H) 0 n (θ s)))::aT p.tmps env) (H++[.buf η n s (θ s) 0,.dead])=δ r:=o;have L:=DB L;obtain⟨c4,q1,x1,c5,q2,x2,l1⟩:=sV p1;obtain⟨c6,q3,x3,cS,c7,q4,x4,l5⟩:=sZ p5;have D:=λ(i j a b:Nat)=>AIP (i:=i) (j:=j) (a:=a) (b:=b) b3;have hN:∀t∈p.tmps,t<N:=λt ht=>PO (GL.1 bN t ht);have d1:PZ N o1.toList=ζ:=by rw[l1];simp[PZ,qL,qM,Rm,Ba,K!];exact⟨hN _ (by simp[Yj.tmps]),hN _ (by simp[Yj.tmps])⟩
   have d5:PZ N o5.toList=ζ:=by rw[l5];simp[PZ,qL,qM,Rm,Ba,K!];exact⟨hN _ (by simp[Yj.tmps]),hN _ (by simp[Yj.tmps])⟩
   have M:(B3 env).get p.out=.nils:=by rw[VM,b4];rfl
   have al:(B3 env).get p.c0=.ptr c 0 0:=by rw[VM,ci];rfl
   have cn:p.c0≠p.out:=λe=>by rw[e,M]at al;cases al
   have cm:c<θ H:=HO hc;have a':id<θ H:=HO a1;have d:(BL H).length=θ H:=Cb H;have ce:(BL H)[c]?=δ (.live 0 [.mp id]):=by rw[EM,hc];rfl
   have O:(BL H)[id]?=δ (.mp kk (I.map λp=>(p.1,n.enc p.2))):=by rw[EM,a1];rfl
   have x:∀q∈B3 (aT p.tmps env),q∈B3 env/\q.1∉p.tmps:=λq y=>by obtain⟨u,hu,rfl⟩:=Bs.1 y;exact⟨Bs.2 ⟨u,(Wm hu).1,rfl⟩,(Wm hu).2⟩
   have ch:∀q∈B3 (aT p.tmps env),(q.2.idsAll λj=>decide (j<(BL H).length))=ζ:=λq y=>by obtain⟨u,hu,rfl⟩:=Bs.1 y;rw[d];exact hZ (mS b' u hu)
   have cf:∀e∈BL H,(e.idsAll λj=>decide (j<(BL H).length))=ζ:=by rw[d];exact mT ca
   have step:CE H (H++[.buf η n s (θ s) 0,.dead]):=by have:=(CE.push H (.buf η n s (θ s) 0)).trans (CE.push _ .dead);rwa [A3]at this
   have b5:(Bx.own (θ H) 0 n (θ s)).ok (H++[.buf η n s (θ s) 0,.dead]):=by apply Wx (b:=η) (l:=s);rw[Cn (Al _),G5];rfl
   refine⟨(p.out,.c (.own (θ H) 0 n (θ s)))::aT p.tmps env,H++[.buf η n s (θ s) 0,.dead],?_,o,⟨λq y=>?_,?_⟩,step,λu hu _=>?_⟩;refine J9.weak (Fa.virt (t:=p.out) (sz:=n.sz) M) (J9.seq (Fz d1 ?_));rw[l1];have cA:Ch P ((B3 env).put p.out (.sl (BL H).length 0 n.sz 0 0)) (BL H++[.live 0 []]) (.load p.ty1 (.tmp p.c0))=δ (.mp id):=by simp[Ch,BR,GR];rw[D! cn,al];simp[jV,t1,Qg];rw[CY (by rw[d];exact cm),ce];rfl
   have bl:(BL H++[Fw.live 0 []])[id]?=δ (.mp kk (I.map λp=>(p.1,n.enc p.2))):=by rw[CY (by rw[d];exact a'),O]
   refine Xh.cons rfl (Du cA (Xh.cons rfl (JS.range (id:=id) (k:=kk) (es:=I.map λp=>(p.1,n.enc p.2)) rfl ?_ t2 bl (Xh.nil ?_))));simp[BR,Env.putO,GR,if_true];rw[BT,Aa,A3];dsimp[fZ,Env.putO];refine J9.block (J9.of_loopW ?_);have ax:[p.out,p.a2,p.a3,p.a4,p.a5,p.a6,p.a7,p.a8,p.a9,p.a10,p.a11].Sublist p.tmps:=.cons₂ _ (.cons _ (.cons₂ _ (.cons₂ _ (.cons₂ _ (.cons₂ _ (.cons₂ _ (.cons₂ _ (.cons₂ _ (.cons₂ _ (.cons₂ _ (.cons₂ _ (.cons _ (.cons _ .slnil)))))))))))));have b7:=ADC (P:=P) (N:=N) (te:=n) (kk:=kk) (es:=I) (Hb:=BL H) (base:=B3 (aT p.tmps env)) (id:=id) (out:=p.out) (a2:=p.a2) (a3:=p.a3) (a4:=p.a4) (a5:=p.a5) (a6:=p.a6) (a7:=p.a7) (a8:=p.a8) (a9:=p.a9) (a10:=p.a10) (a11:=p.a11)
    (b1:=T) (b2:=J) (i2:=i2) (i3:=i3) (i4:=i4) (bb:=b9) p2 p3 p4 ?_ ?_ ?_ ch cf O b8 t5 bz t3 t4 t6 t7 cb cc ad bm (θ I) [] RE (λj B=>by cases B) (by simpa using List.length_filter_le _ (List.range (θ I))) (by have:=EK (λj=>! τ (j∈([]:Ψ Nat))) (List.range (θ I));simpa[jX]using this)
   refine IG.mono (IG.weak ?_ b7) ?_;refine Fa.subset (N:=N) (H:=BL H++[Fw.live 0 [],Fw.it (θ I) []]) λq y=>?_;rcases Av.1 y with rfl|y;exact FM (FM yZ (D 0 1 _ _ rfl rfl g!)) (D 0 2 _ _ rfl rfl g!);rcases Av.1 y with rfl|y;exact yZ;obtain⟨T,J⟩:=x q y;simp[Yj.tmps,Av,not_or]at J;exact FM (FM (FM T J.1) J.2.1) J.2.2.1;rintro e E h ⟨rfl,C,K,b6,Q,ar,ap⟩;show qV T _ (.exit T) E h;simp[qV,if_true,fZ];refine J9.weak (Fa.subset b6) (J9.after (Fz d5 ?_));rw[l5];obtain⟨b0,hf⟩:=uc hF;have a0:θ s=θ C:=by rw[L,<-K.length_eq,BT]
   have hA:=co _ b0 C () s (hs C K) a0 h (BL H).length ap;simp[Qi.f]at hf;rw[hf]at hA;refine Xh.cons rfl (Du (v:=.sl (BL H).length (θ C) n.sz 0 (θ C)) (E! δ pW) (Xh.cons rfl (JS.mono (lj (F:=p.F) (vs:=[.sl (BL H).length (θ C) n.sz 0 (θ C),.fn (.func G) [] []]) ?_ hE hA) ?_)));show δ (Sum.inl (p.F,[]++[Env.get _ p.a12,Ad.fn (.func p.G) [] []]++[]))=_;simp only[Env.putO,GR,if_true,bG];rfl;rintro _ _ ⟨rfl,rfl⟩;refine Xh.nil ⟨_,_,?_,rfl,rfl,rfl⟩;have cv:(h.set (BL H).length (.live (θ C) (n.E.cl s))).length=θ h:=q!
   rw[<-cv];refine W5 (by simp[BL];rw[Q,d]) λX g' w _=>?_;have hr:Tm (cx X g' (h.set (BL H).length (.live (θ C) (n.E.cl s))) w) (cx X g' (h.set (BL H).length (.live (θ C) (n.E.cl s))) w) (h.set (BL H).length (.live (θ C) (n.E.cl s))) (BL (H++[.buf η n s (θ s) 0,.dead])):=by
    refine⟨by simp[BL];rw[Q,d],λj e' B=>?_⟩;have same:(h.set (BL H).length (.live (θ C) (n.E.cl s)))[j]?=δ e'->e'=.dead\/_:=λhh=>(Tm.refl (cx X g' (h.set (BL H).length (.live (θ C) (n.E.cl s))) w) (h.set (BL H).length (.live (θ C) (n.E.cl s)))).2 j e' hh;have ct:BL (H++[.buf η n s (θ s) 0,.dead])=BL H++[Fw.live (θ s) (n.E.cl s),Fw.dead]:=by simp[BL,Dx.enc]
    rw[ct]at B;rcases RG j (BL H).length with bt|rfl|cW;rw[CY bt]at B;exact same (by rw[Dd o!,ar j bt];exact B);rw[Cn (Al _),G5]at B;exact same (by rw[HE o!,<-a0];exact B);rw[Cn o!]at B;rcases RG (j-(BL H).length) 1 with q|q|q;omega;rw[q]at B;injection B with B;exact .inl B.symm;rw[Ct w!]at B;cases B
   refine⟨hr.onto,λt v' S=>⟨v',?_,λc r=>r.later hr.later⟩⟩;simp[Env.putO];have S:(t,v')∈(p.out,Ad.sl (BL H).length (θ s) n.sz 0 (θ s))::B3 (aT p.tmps env):=by rw[d];exact S
   rcases Av.1 S with e|S;cases e;rw[a0];exact FM (FM JV (D 0 12 _ _ rfl rfl g!)) (D 0 13 _ _ rfl rfl g!);obtain⟨T,J⟩:=x _ S;simp only[Yj.tmps,Av,not_or]at J;exact FM (FM (CZ _ S) J.2.2.2.2.2.2.2.2.2.2.2.2.1) J.2.2.2.2.2.2.2.2.2.2.2.2.2.1;exact b3.sublist ax;exact λt ht=>hN t (ax.subset ht);exact λq y S=>(x q y).2 (ax.subset S);rcases Av.1 y with rfl|y;exact Jw b5;exact step.tv (ok.env q (Wm y).1);intro e he;rcases Ak.1 he with he|he;exact step.ent (ok.heap e he);simp[Av,List.not_mem_nil,or_false]at he;rcases he with rfl|rfl;rfl;trivial;show Bj.get _ u=_;have:p.out≠u:=λe=>hu (by rw[<-e];simp[Yj.tmps]);simp[Bj.get,beq_false this];exact qh hu env
 cases o;cases o;cases o;cases o;cases o;cases o
end
abbrev Sem:=∀{R:Type},Bj->As->(Exit->Bj->As->Ω R)->Ω R
def px:Ψ (Nat×Ty)->Bj->As->Ω (Bj×As)
 |[],env,H=>δ (env,H)
 |(t,ty)::r,env,H=>
  match env.get t with
  |.c .nil=>px r (env.put t (.c (.own (θ H) 0 ty 0))) (H++[.buf η ty [] 0 0])
  |_=>ε
def uT:Nat->Ψ Bx->Ω (Ψ Bx×Ψ Bx)
 |0,.nil::r=>δ ([],r)
 |n+1,x::r=>match uT n r with|some (a,b)=>δ (x::a,b)|none=>ε
 |_,_=>ε
def mA:Ψ (Nat×Nat×Ty)->As->Ω As
 |[],H=>δ H
 |(b,i,ty)::r,H=>
  match H[b]? with
  |some (.live η cs)=>
   match uT i cs with
   |some (x,y)=>mA r (H.set b (.live η (x++ .own (θ H) 0 ty 0::y))++[.buf η ty [] 0 0])
   |none=>ε
  |_=>ε
def AHd(h:Hint)(env:Bj)(H:As):Ω (Bj×As):=
 match px h.virt env H with
 |some (e,H1)=>match mA h.virtC H1 with|some H2=>δ (IM h.kill e H2)|none=>ε
 |none=>ε
def AHQ(h:Hint)(n:Nat)(eb:Bj)(H0:As)(S:Ψ Nat)(k:Exit->Bj->As->Ω R)(o:yN h.exits):Ω R:=
 AJQ h.exits o λx sl ds=>
  match Wt sl ds eb H0 with
  |some (e,hh)=>match vq n e&&(nA n hh&&S.all λj=>Jf j (Lo sl))with|true=>k x e hh|false=>ε
  |none=>ε
def AE9(h:Hint)(A:Ψ Nat)(run:Sem):Sem:=λenv H k=>
 match AHd h env H with
 |none=>ε
 |some (env0,H0)=>
  match rL env0 with
  |false=>ε
  |true=>(run env0 (Ks (Lo h.slots) 0 H0) λx e1 h1=>ABU h.exits x e1 h1).bind λo=>AHQ h (θ H0) (RJ A (Lo h.slots) H0 env0) H0 (Lo h.slots) k o
def ACU(h:Hint)(x:Exit)(env:Bj)(H:As):Ω (Step (DL (fW h.slots)) (yN h.exits)):=
 match wc .normal x with
 |true=>match zN h.slots env H with|some s=>δ (.next s)|none=>ε
 |false=>match ABU h.exits x env H with|some o=>δ (.done o)|none=>ε
noncomputable def wz(h:Hint)(A:Ψ Nat)(run:Sem):Sem:=λenv H k=>
 match AHd h env H with
 |none=>ε
 |some (env1,H1)=>
  match IM (h.kill++nX env1 H1 h.slots) env1 H1 with
  |(env0,H0)=>
   match rL env0,Y2 env0 H0 h.slots with
   |true,δ ds=>
    match ABO (fW h.slots) ds with
    |some s0=>(Ai (λs=>
      match Wt h.slots (dvs (fW h.slots) s) (RJ A (Lo h.slots) H0 env0) (Ks (Lo h.slots) 0 H0)with
      |some (e,hh)=>match vq (θ H0) e&&nA (θ H0) hh with|true=>run e hh λx e1 h1=>ACU h x e1 h1|false=>ε
      |none=>ε) s0).bind λo=>AHQ h (θ H0) (RJ A (Lo h.slots) H0 env0) H0 (Lo h.slots) k o
    |none=>ε
   |_,_=>ε
def ACJ(c:Operand)(ra rb:Sem):Sem:=λenv H k=>
 match Jx env c with
 |.c (.bl v)=>cond v (ra env H k) (rb env H k)
 |_=>ε
def AAx(id:Nat)(r:Sem):Sem:=λenv H k=>r env H λe env' H'=>
 match e with
 |.exit id'=>match ξ id' id with|true=>k .normal env' H'|false=>k (.exit id') env' H'
 |e=>k e env' H'
def wq(o:Ω Hint)(A:Ψ Nat)(run:Sem):Sem:=
 match o with
 |some h=>λenv H k=>AE9 (h.rel (θ H)) A run env H k
 |none=>run
section
variable {R:Type}
def mv1(t n:Nat)(env:Bj)(H:As)(k:Bj->As->Ω R):Ω R:=
 match env.get t with
 |.c (.own m ver te _)=>
  match ξ m n with
  |true=>k env H
  |false=>
   match H[n]?,H[m]? with
   |some (.buf η t1 _ n1 v1),δ (.buf η t2 l2 n2 v2)=>
    match ξ ver v2,(Ty.list t1).beq (Ty.list t2)&&(Ty.list te).beq (Ty.list t2)with
    |true,ζ=>bif τ (n1<n2)then k (env.put t (.c (.own n (v1+1) t2 n2))) ((H.set n (.buf η t2 l2 n2 (v1+1))).set m .dead)else ε
    |_,_=>ε
   |_,_=>k env H
 |_=>k env H
def mvs:Ψ PF->Bj->As->(Bj->As->Ω R)->Ω R
 |[],e,h,k=>k e h
 |.g t n::r,e,h,k=>mv1 t n e h λe h=>mvs r e h k
 |_::r,e,h,k=>mvs r e h k
end
def AFN(ss:Ψ PF)(run:Sem):Sem:=λenv H k=>run env H λx e1 h1=>
 match wc .normal x with
 |true=>mvs ss e1 h1 λe2 h2=>k x e2 h2
 |false=>k x e1 h1
structure AEI where
 main:Sem
 pre:Sem
 suf:Sem
def QI:Sem:=λ_ _ _=>ε
def AFv(a b:Sem):Sem:=λenv H k=>a env H λe env' H'=>match e with|.normal=>b env' H' k|e=>k e env' H'
noncomputable def ACb(h:Hint)(A:Ψ Nat)(s:AEI):Sem:=λenv H k=>s.pre env H λx e1 h1=>match x with|.normal=>wz h A (AFv s.suf s.pre) e1 h1 k|x=>k x e1 h1
noncomputable def vC(o:Ω Hint)(A:Ψ Nat)(s:AEI):Sem:=
 match o with
 |some h=>λenv H k=>match ξ h.kind 8 with|true=>ACb (h.rel (θ H)) A s env H k|false=>wz (h.rel (θ H)) A (AFN (h.rel (θ H)).slots s.main) env H k
 |none=>QI
def jE:Bj->Bj
 |[]=>[]
 |(t,v)::r=>match Ll v.refs with|[]=>(t,v)::jE r|_=>jE r
def ABc(P:Program)(call:Su)(N:Nat)(me:FuncId)(f:Operand)(ps:Array Tmp)(a b:Code):Sem:=λenv H k=>
 match Jx env f with
 |.c (.raw (.fn (.func G) first caps))=>
  match Enters P G with
  |true=>call (.fn G) (first.map tvA++[.c (.raw (.yf (θ H)))]++caps.map tvA) (H++[.lp η me N (jE env) ps a b .ready]) λ_ H'=>
   match H'[θ H]? with
   |some (.lp η _ _ _ _ _ _ .ready)=>k .normal env (H'.set (θ H) .dead)
   |some (.lp η _ _ _ _ _ _ .ret)=>k .ret env (H'.set (θ H) .dead)
   |some (.lp η _ _ _ _ _ _ (.exit x))=>k (.exit x) env (H'.set (θ H) .dead)
   |_=>ε
  |false=>ε
 |_=>ε
noncomputable def fV(P:Program)(cs:Ψ Qi)(call:Su)(N:Nat)(me:FuncId)(hs:Ψ Hint):Code->AEI
 |.skip=>⟨λenv H k=>k .normal env H,QI,QI⟩
 |.ret=>⟨λenv H k=>k .ret env H,QI,QI⟩
 |.exit id=>⟨λenv H k=>k (.exit id) env H,QI,QI⟩
 |.seq a (.seq m r)=>⟨λenv H k=>
  match pA a m with
  |some p=>AEh P N cs p env H λenv' H'=>(fV P cs call N me hs r).main env' H' k
  |none=>AFv (fV P cs call N me hs a).main (fV P cs call N me hs (.seq m r)).main env H k,
  AFv (fV P cs call N me hs a).main (fV P cs call N me hs (.seq m r)).pre,(fV P cs call N me hs (.seq m r)).suf⟩
 |.seq a b=>⟨wq (tT hs a b) (PQ hs (.seq a b)) (AFv (fV P cs call N me hs a).main (fV P cs call N me hs b).main),(fV P cs call N me hs a).main,(fV P cs call N me hs b).main⟩
 |.cond c a b=>⟨wq (hintOf hs (.cond c a b)) (PQ hs (.cond c a b)) (ACJ c (fV P cs call N me hs a).main (fV P cs call N me hs b).main),QI,QI⟩
 |.block id b=>⟨wq (hintOf hs (.block id b)) (PQ hs (.block id b)) (AAx id (fV P cs call N me hs b).main),QI,QI⟩
 |.loop b=>⟨vC (hintOf hs (.loop b)) (PQ hs (.loop b)) (fV P cs call N me hs b),QI,QI⟩
 |.region id ops η=>⟨wq (hintOf hs (.region id ops η)) (PQ hs (.region id ops η)) λenv H k=>
  match PZ N ops.toList with
  |true=>AAP P cs call ops (guards ops) η ops.toList 0 env H λenv' H'=>k .normal env' H'
  |false=>ε,QI,QI⟩
 |.region id ops ζ=>⟨λenv H k=>
  match P.follows .mixedOrders&&ACj ops N (ABZ ops)&&Wz P ops&&rL env with
  |true=>ABm P cs call ops (Iq ops.toList []) (guards ops) (match nQ 3 id hs with|some _=>ζ|none=>η) (ABZ ops) [] env H λenv' H'=>k .normal env' H'
  |false=>ε,QI,QI⟩
 |.rangeFunc f ps a b=>⟨ABc P call N me f ps a b,QI,QI⟩
 |_=>⟨QI,QI,QI⟩
noncomputable def tG(P:Program)(cs:Ψ Qi)(call:Su)(N:Nat)(me:FuncId)(hs:Ψ Hint)(c:Code):Sem:=(fV P cs call N me hs c).main
def AHs{f}{b:Code}(j:∀g r,b≠.seq g r)(env:Bj)(H:As)(k:Exit→Bj→As→Ω R):
  tG P q L N F f (.seq m b) env H k=wq (tT f m b) (PQ f (.seq m b)) (λenv H k=>tG P q L N F f m env H λe d i=>match e with|.normal=>tG P q L N F f b d i k|e=>k e d i) env H k:=by
 cases b<;>first|rfl|exact O! rfl (j _ _)
def KB(P:Program)(N:Nat)(A:Ψ Nat)(c:Code)(run:Sem):Prop:=∀{R:Type}env H k(r:R),OO env H->run env H k=δ r->
 ∃e env' H',tX P N c (B3 env) (BL H) (VO e (B3 env') (BL H'))/\k e env' H'=δ r/\OO env' H'/\EH A env H env' H'
theorem ACq:∀{l}{env}{H}{a:Bj}{b:As},OO env H→px l env H=δ (a,b)→
  OO a b/\EH (l.map (·.1)) env H a b/\∀N,Fa N (θ H) (B3 env) (BL H) (B3 a) (BL b)
 |[],env,H,a,b,ok,h=>by grind[px,EH.refl,Fa.refl,Cb]
 |(t,ty)::r,env,H,a,b,ok,h=>by
  simp only[px]at h;split at h;rename_i m;have st:CE H (H++[.buf η ty [] 0 0]):=CE.push H _;have g:(H++[Dx.buf η ty [] 0 0])[θ H]?=δ (.buf η ty [] 0 0):=q!
  have i:OO (env.put t (.c (.own (θ H) 0 ty 0))) (H++[.buf η ty [] 0 0]):=by refine⟨cV (d:=δ t) (st.env ok.env) (Jw (Wx g)),λe f=>?_⟩;rcases Ak.1 f with f|f;exact st.ent (ok.heap e f);rw[A5.1 f];rfl
  obtain⟨q1,q2,q3⟩:=ACq i h;refine⟨q1,?_,λN=>?_⟩;have o:EH [t] env H (env.put t (.c (.own (θ H) 0 ty 0))) (H++[.buf η ty [] 0 0]):=⟨st,λu n _=>pu λe=>n (by simp[e])⟩
  exact EH.trans ok.env o q2;have w:=Fa.virt (N:=N) (env:=B3 env) (H:=BL H) (t:=t) (sz:=ty.sz) (by rw[VM,m];rfl);have j:=(q3 N).of_le (n0:=θ H) q!;rw[lC]at j;have k:BL (H++[.buf η ty [] 0 0])=BL H++[.live 0 []]:=by simp[BL,Dx.enc,Sg.cl]
  rw[k]at j;rw[Cb]at w;exact w.trans j;cases h
def sG:∀{n}{e x y:Ψ Bx},uT n e=δ (x,y)->e=x++ .nil::y
 |0,[],_,_,h=>by cases h
 |0,z::r,x,y,h=>by
  cases z<;>simp only[uT]at h<;>try (cases h;done)
  injection h with h;injection h with c d;subst c d;rfl
 |n+1,[],_,_,h=>by cases h
 |n+1,z::r,x,y,h=>by simp only[uT]at h;split at h;rename_i a b hr;injection h with h;injection h with c d;subst c d;rw[sG hr];rfl;cases h
theorem AAa{env}:∀{l}{H c:As},OO env H→mA l H=δ c→
  OO env c/\CE H c/\∀N,Fa N (θ H) (B3 env) (BL H) (B3 env) (BL c)
 |[],H,c,ok,h=>by grind[mA,Option.some.injEq,CE.refl,Fa.refl,B3,BL,Cb]
 |(b,i,ty)::r,H,c,ok,h=>by
  simp only[mA]at h;split at h;rename_i E v;split at h;rename_i x y B;have m:=sG B;subst m;have D:b<θ H:=k!
  have f:CE H (H++[Dx.buf η ty [] 0 0]):=CE.push H _;have a:H.set b (Dx.live η (x++Bx.own (θ H) 0 ty 0::y))++[Dx.buf η ty [] 0 0]=(H++[Dx.buf η ty [] 0 0]).set b (Dx.live η (x++Bx.own (θ H) 0 ty 0::y)):=k!
  have j:(H++[Dx.buf η ty [] 0 0])[b]?=δ (Dx.live η (x++Bx.nil::y)):=k!
  have g:CE (H++[Dx.buf η ty [] 0 0]) ((H++[Dx.buf η ty [] 0 0]).set b (Dx.live η (x++Bx.own (θ H) 0 ty 0::y))):=CE.set j rfl λ_ _ _ _ _ e=>by cases e
  have n:(H++[Dx.buf η ty [] 0 0])[θ H]?=δ (.buf η ty [] 0 0):=q!
  have t:lok H (x++Bx.nil::y):=ok.heap _ (BO v);have s:∀e∈H++[Dx.buf η ty [] 0 0],e.ok (H++[Dx.buf η ty [] 0 0]):=λe d=>by rcases Ak.1 d with d|d;exact f.ent (ok.heap e d);rw[A5.1 d];rfl
  have u:lok (H++[Dx.buf η ty [] 0 0]) (x++Bx.own (θ H) 0 ty 0::y):=by have q:=Je.1 (f.lok t);refine Je.2 ⟨q.1,λz o=>?_⟩;rcases Av.1 o with rfl|o;exact Wx n;exact q.2 z (CZ _ o)
  rw[a]at h;have p:OO env ((H++[Dx.buf η ty [] 0 0]).set b (Dx.live η (x++Bx.own (θ H) 0 ty 0::y))):=⟨g.env (f.env ok.env),heap_set g s (g.lok u)⟩
  obtain⟨q1,q2,q3⟩:=AAa p h;refine⟨q1,(f.trans g).trans q2,λN=>?_⟩;have k:(BL H)[b]?=δ (.live 0 (lvs (x++Bx.nil::y))):=by rw[EM,v];rfl
  have C:(lvs (x++Bx.nil::y))[(lvs x).length]?=δ .nils:=by grind[G9,IA,Bx.enc]
  have w:=Fa.virtC (N:=N) (env:=B3 env) (sz:=ty.sz) k C;have A:BL ((H++[Dx.buf η ty [] 0 0]).set b (Dx.live η (x++Bx.own (θ H) 0 ty 0::y)))=(BL H).set b (.live 0 ((lvs (x++Bx.nil::y)).set (lvs x).length (.sl (BL H).length 0 ty.sz 0 0)))++[.live 0 []]:=by
   rw[<-a];have:(lvs (x++Bx.nil::y)).set (lvs x).length (.sl (BL H).length 0 ty.sz 0 0)=lvs (x++Bx.own (θ H) 0 ty 0::y):=by grind[G9,IA,Cb,Bx.enc]
   grind[BL,Dx.enc,Sg.cl,List.map_set]
  rw[<-A,Cb]at w;exact w.trans ((q3 N).of_le q!);cases h;cases h
variable {G:Sem}{T:Hint}
theorem ACf(ok:OO j c)(b:AHd T j c=δ (H,M)):
  OO H M/\EH (T.virt.map (·.1)) j c H M/\∀N,Fa N (θ c) (B3 j) (BL c) (B3 H) (BL M):=by
 unfold AHd at b;split at b;rename_i e h o;obtain⟨a1,a2,a3⟩:=ACq ok o;split at b;rename_i k n;injection b with b;obtain⟨l,d,m⟩:=AAa a1 n;obtain⟨f,g,i⟩:=QO T.kill l;rw[b]at f g i;have p:EH [] e h e k:=⟨d,λ_ _ _=>rfl⟩
 exact⟨f,(EH.trans ok.env a2 (EH.trans a1.env p g)).mono λt q=>k!,λN=>((a3 N).trans ((m N).of_le a2.step.len)).trans ((i N).of_le (by rw[Cb];exact Cl a2.step.len d.len))⟩;cases b;cases b
theorem wS{A S}{H}:∀{env:Bj},(env.map (·.1)).Nodup->∀t,env.get t=Vx->(RJ A S H env).get t=Vx
 |[],_,_,_=>rfl
 |(u,v)::r,nd,t,h=>by have a:=G4.1 nd;simp only[Bj.get]at h;by_cases b:u=t;subst b;have hn:∀p∈RJ A S H r,p.1≠u:=λp c e=>a.1 (Bs.2 ⟨p,(Rr a.2 p c).2.2,e⟩);grind[RJ,Bj.get,nT];rw[beq_false b]at h;have d:=wS (A:=A) (S:=S) (H:=H) a.2 t h;grind[RJ,Bj.get,beq_false]
theorem ACP{h:Hint}{A B:Ψ Nat}{env0:Bj}{e:As}{D:Bj}{E:As}(m:OO env0 e)(nd:(env0.map (·.1)).Nodup)(M:AAk A (Lo h.slots) env0 e D E)
  {env1:Bj}{u:As} (C:OO env1 u) (st:EH B D E env1 u) (K:∀t,t∈B->t∈A) (J:∀t,t∈h.tmps->t∈A) {x:Exit}{o:yN h.exits} (Q:ABU h.exits x env1 u=δ o)
  {R:Type}{k:Exit->Bj->As->Ω R}{r:R} (f:AHQ h (θ e) (RJ A (Lo h.slots) e env0) e (Lo h.slots) k o=δ r) (N:Nat):
  ∃g i,Fa N (θ e) (B3 env1) (BL u) (B3 g) (BL i)/\k x g i=δ r/\OO g i/\EH A env0 e g i:=by
 obtain⟨rfl,L,p,S,y⟩:=xG Q;have f:=xF f;split at f;rename_i g i O;split at f;rename_i v;simp at v;have sub:∀j,Jf j (Lo (yO h.exits o).2.1)=η->Jf j (Lo h.slots)=η:=λj d=>Wu λG=>k!
 obtain⟨w,W,Y,z⟩:=AB9 m nd M C st K L m.heap rfl (AFD e) (λ_ _ _ _ q=>q) (λj H d c=>by
  cases H with
  |dead=>grind
  |live b V=>exact .inr ⟨_,sub j d,by rw[Jd,c,DZ,sub j d];rfl,rfl,.inr (.inl ⟨_,_,_,_,rfl,rfl,Dp.refl _⟩)⟩
  |buf b t l n U=>exact .inr ⟨_,sub j d,by rw[Jd,c,DZ,sub j d];rfl,rfl,.inr (.inr (.inl ⟨_,_,_,_,_,_,_,rfl,rfl⟩))⟩
  |mp b k t X=>exact .inr ⟨_,sub j d,by rw[Jd,c,DZ,sub j d];rfl,rfl,.inr (.inr (.inr (.inr ⟨_,_,_,_,_,rfl,rfl⟩)))⟩
  |lp ro F n env Z a b s=>exact .inr ⟨_,sub j d,by rw[Jd,c,DZ,sub j d];rfl,rfl,.inr (.inr (.inr (.inl ⟨_,_,_,_,_,_,_,_,_,rfl,rfl⟩)))⟩) O v.1 v.2.1 N
 refine⟨g,i,w,f,z.ok,z.step,λt T P=>?_⟩;have I:=Wu λG=>T (J t (by refine Ak.2 (.inr (G3.2 ⟨p,S,?_⟩));rw[<-y];exact G));rw[z.get t I];grind[zD,Vx,wS,mO,AFB,Wu];cases f;cases f
def nS:Code->Code
 |.seq _ (.seq m r)=>nS (.seq m r)
 |.seq _ b=>b
 |c=>c
section
variable {P:Program}{N:Nat}{env:Env}{H:Aw}{Q:Exit->Env->Aw->Prop}{X:Nat->Prop}{h:Gh}{a:Act}{w:World}
def ai(P:Program)(N:Nat):Code->Env->Aw->(Exit->Env->Aw->Prop)->Prop
 |.seq a (.seq m r),env,H,Q=>J9 P N a env H (fZ (λe h=>ai P N (.seq m r) e h Q) Q)
 |.seq a _,env,H,Q=>J9 P N a env H Q
 |_,_,_,_=>False
def ai.mono{i:Exit->Env->Aw->Prop}(l:∀e d g,Q e d g->i e d g):∀{c}{env}{H},ai P N c env H Q->ai P N c env H i:=by
 intro c;induction c with
 |seq a b _ f=>
  intro env H h;by_cases j:∃m r,b=.seq m r;obtain⟨m,r,rfl⟩:=j;refine J9.mono (show J9 P N a env H _ from h) λe E h k=>?_;cases e with
  |normal=>exact f k
  |_=>exact l _ _ _ k
  have e:∀Q,ai P N (.seq a b) env H Q=J9 P N a env H Q:=λQ=>by cases b<;>first|rfl|exact O! ⟨_,_,rfl⟩ j
  rw[e]at h⊢;exact J9.mono h l
 |_=>intro env H h;exact h.elim
def ai.run:∀{c}{env}{H}{h}{a}{w},ai P N c env H Q→St X h N env H a w→aK U w→
  (∀e g d i b f,Q e b f->St X i N b f g d->G1 h H w i f d->WV a w g d->Exit.then (λa w=>(nS c).wpIn (FR U) 0 P C a w) C e g d)->c.wpIn (FR U) 0 P C a w:=by
 intro c;induction c with
 |seq x y _ u=>
  intro env H h a w p s k o;by_cases t:∃m U,y=.seq m U;obtain⟨m,y,rfl⟩:=t;refine wpIn_seq (wpIn_mono ((show J9 P N x env H _ from p) U X h a w s k) ?_);rintro e g d ⟨i,b,f,q,l,j,n⟩;cases e with
  |normal=>exact u q l (k.later j) λe a2 F D env2 z q2 E v A=>o e a2 F D env2 z q2 E (j.trans v) (n.trans l.sim j v A)
  |_=>exact o _ g d i b f q l j n
  have B:ai P N (.seq x y) env H Q=J9 P N x env H Q:=by cases y<;>first|rfl|exact O! ⟨_,_,rfl⟩ t
  have r:nS (.seq x y)=y:=by cases y<;>first|rfl|exact O! ⟨_,_,rfl⟩ t
  rw[B]at p;rw[r]at o;refine wpIn_seq (wpIn_mono (p U X h a w s k) ?_);rintro e g d ⟨i,b,f,q,l,j,n⟩;exact o e g d i b f q l j n
 |_=>intro env H h a w p;exact p.elim
def kF(P:Program)(N:Nat)(c:Code)(env:Env)(H:Aw)(Q:Exit->Env->Aw->Prop):Prop:=
 ∀r X h a w(K:Exit->Act->World->Prop),St X h N env H a w->aK r w->
  (∀e a' w' h' env' H',Q e env' H'->St X h' N env' H' a' w'->G1 h H w h' H' w'->WV a w a' w'->K e a' w')->
  (nS c).wpIn (FR r) 0 P (Exit.then (λa w=>lg (FR r) 0 P c K a w) K) a w
def ai.loop(hn:θ H=n)(p:ai P N m env H (fZ (λenv2 l=>∃d r,Fa N n env2 l d r∧kF P N m d r Q) Q))(s:St X h N env H a w)(k:aK U w)
  (v:∀e i f j b g,Q e b g->St X j N b g i f->G1 h H w j g f->WV a w i f->C e i f):lg (FR U) 0 P m C a w:=by
 refine cT (ai.run p s k λe a2 y u env2 l q z c t=>?_);cases e with
 |normal=>obtain⟨d,r,x,G⟩:=q;obtain⟨E,A,F,I⟩:=x.2 X u a2 y z;have o:=Fa.ext hn x.1 F I c;exact G U X E a2 y C A (k.later o) λe i f j b g J L B D=>v e i f j b g J L (o.trans B) (t.trans A.sim o B D)
 |_=>exact v _ a2 y u env2 l q z c t
def eJ(p:ai P N m env H (fZ (λenv2 i=>∃b f,Fa N (θ H) env2 i b f/\kF P N m b f Q) Q)):IG P N m env H Q:=λr X g a w s k=>ai.loop rfl p s k λe o t l d h q c n j=>⟨l,d,h,q,c,n,j⟩
def kF.unroll(p:J9 P N (nS m) env H (fZ (λenv1 j=>ai P N m env1 j (fZ (λenv2 l=>∃b c,Fa N (θ H) env2 l b c/\kF P N m b c Q) Q)) Q)):kF P N m env H Q:=by
 intro r X g a w K s k n;apply wpIn_mono (p r X g a w s k);rintro e a1 V ⟨J,env1,j,q,o,i,v⟩;cases e with
 |normal=>
  refine cT (ai.run q o (k.later i) λe a2 t x env2 l q z C G=>?_);have h:=i.trans C;have d:=v.trans o.sim i C G;cases e with
  |normal=>obtain⟨b,c,y,O⟩:=q;obtain⟨L,A,M,R⟩:=y.2 X x a2 t z;have u:=Fa.ext rfl y.1 M R h;exact O r X L a2 t K A (k.later u) λe E U I f D S T B F=>n e E U I f D S T (u.trans B) (d.trans A.sim u B F)
  |_=>exact n _ a2 t x env2 l q z h d
 |_=>exact n _ a1 V J env1 j q o i v
def kF.after(p:kF P N m env H (λe b f=>∃env2 d,Fa N (θ H) b f env2 d/\Q e env2 d)):kF P N m env H Q:=by intro r X g a w K s k o;refine p r X g a w K s k λe h j c b f ⟨env2,d,i,q⟩ v y l=>?_;obtain⟨n,x,t,u⟩:=i.2 X c h j v;exact o e h j n env2 d q x (Fa.ext rfl i.1 t u y) l
end
variable {P:Program}{N:Nat}
theorem zo{h:Hint}(hr:KB P N k m G)(n:∀t,t∈k->t∈d)(A:∀t,t∈h.tmps->t∈d):KB P N d m (AE9 h d G):=by
 intro R env H c r ok a;unfold AE9 at a;dsimp only at a;split at a;cases a;rename_i env0 f v;split at a;cases a;rename_i hn;obtain⟨o,s,a⟩:=bnd a;obtain⟨b,x,y⟩:=ACf ok v;have nd:=ab hn;obtain⟨e,env1,z,a1,k1,g,i⟩:=hr env0 (Ks (Lo h.slots) 0 f) _ o (lf b) s;have q:AAk d (Lo h.slots) env0 f env0 (Ks (Lo h.slots) 0 f):=⟨lf b,CE.refl _,Io _ _,λ_ _=>rfl,λp u=>(Rr nd p u).1⟩
 obtain⟨j,l,w,q1,q2,q3⟩:=ACP b nd q g i n A k1 a N;refine⟨e,j,l,?_,q1,q2,?_⟩;rw[rF]at a1;refine tX.weak (by rw[Cb];exact y N) (tX.after (a1.mono ?_));rintro _ _ _ ⟨rfl,rfl,rfl⟩;exact⟨_,_,by rw[Cb];exact w,rfl,rfl,rfl⟩;exact(EH.trans ok.env x q3).mono λt C=>by grind[Hint.tmps]
def AIB(L0:Env->Aw->(Exit->Env->Aw->Prop)->Prop)(A:Ψ Nat)(run:Sem):Prop:=∀{R:Type}env H k(r:R),OO env H->run env H k=δ r->
 ∃e env' H',L0 (B3 env) (BL H) (VO e (B3 env') (BL H'))/\k e env' H'=δ r/\OO env' H'/\EH A env H env' H'
theorem zw{L0 L:Env→Aw→(Exit→Env→Aw→Prop)→Prop}(V:∀{env}{H}{Q Q':Exit→Env→Aw→Prop},(∀e f U,Q e f U→Q' e f U)→L0 env H Q→L0 env H Q')
  (hu:∀{env}{H}{Q},L0 env H (fZ (λf U=>∃env2 J,Fa N (θ H) f U env2 J/\L env2 J Q) Q)->L env H Q)
  (ha:∀{env:Env}{H}{Q:Exit->Env->Aw->Prop},L env H (λe f U=>∃env2 J,Fa N (θ H) f U env2 J/\Q e env2 J)->L env H Q)
  {A B:Ψ Nat}{h:Hint}{run:Sem} (hr:AIB L0 B run) (hB:∀t,t∈B->t∈A) (hA:∀t,t∈h.tmps->t∈A) {R:Type} (env:Bj) (H:As) (k:Exit->Bj->As->Ω R) (r:R) (ok:OO env H) (m:wz h A run env H k=δ r):
  ∃i g x u v,Fa N (θ H) (B3 env) (BL H) (B3 i) (BL g)/\L (B3 i) (BL g) (VO x (B3 u) (BL v))/\k x u v=δ r/\OO u v/\EH A env H u v:=by
 unfold wz at m;dsimp only at m;split at m;cases m
 ·rename_i G Hv hv;obtain⟨bb,sv,wv⟩:=ACf ok hv;obtain⟨y,sf,wf⟩:=QO (h.kill++nX G Hv h.slots) bb;generalize IM (h.kill++nX G Hv h.slots) G Hv=fz at m y sf wf;obtain⟨env0,d⟩:=fz;simp only at m y sf wf;split at m
  ·rename_i ds hn hc;split at m
   ·rename_i s0 a7;obtain⟨o,ho,m⟩:=bnd m;have nd:=ab hn;have z:∀e∈Ks (Lo h.slots) 0 d,e.ok (Ks (Lo h.slots) 0 d):=(lf y).heap;have hC:=ABK (C:=λs o=>∀r,AHQ h (θ d) (RJ A (Lo h.slots) d env0) d (Lo h.slots) k o=δ r->
     ∃i g,Wt h.slots (dvs (fW h.slots) s) (RJ A (Lo h.slots) d env0) (Ks (Lo h.slots) 0 d)=δ (i,g)/\vq (θ d) i=ζ/\nA (θ d) g=ζ/\(AAk A (Lo h.slots) env0 d i g->∃x u v,L (B3 i) (BL g) (VO x (B3 u) (BL v))/\k x u v=δ r/\OO u v/\EH A env0 d u v)) (λs q Y=>by
     split at Y
     ·rename_i i g hi;split at Y
      ·rename_i I;simp only[Ba]at I;have body:∀D:AAk A (Lo h.slots) env0 d i g,∃e env1 K,L0 (B3 i) (BL g) (VO e (B3 env1) (BL K))/\ACU h e env1 K=δ q/\OO env1 K/\EH B i g env1 K:=λD=>hr i g _ q D.ok Y;cases q with
       |next s'=>
        intro o ih r m;obtain⟨ad,ap,i1,i2,i3,i4⟩:=ih r m;refine⟨i,g,hi,I.1,I.2,λD=>?_⟩;obtain⟨e,env1,K,a1,k1,S,T⟩:=body D;unfold ACU at k1;split at k1;rename_i hx;have:=uY hx;subst this;split at k1;rename_i s1 a8;injection k1 with k1;injection k1 with k1;subst k1;have a2:=oC a8;obtain⟨w,ea,ha,E⟩:=AB9 (Hx:=Ks (Lo h.slots) 0 d) y nd D S T hB a2 z (Io _ _) (.refl _) (λ_ _ _ _ q=>oM q) (λj e' O c=>by
         cases hH:d[j]? with
         |none=>grind[Jd]
         |some Z=>
          have hl:=c;rw[Jd,hH,DZ,O]at c;simp only[Bt,Ar]at c;subst c;cases Z with
          |dead=>exact .inl rfl
          |live b cs=>exact .inr ⟨_,O,hl,rfl,.inr (.inl ⟨_,_,_,_,rfl,rfl,Dp.refl _⟩)⟩
          |buf b t l n bl=>exact .inr ⟨_,O,hl,rfl,.inr (.inr (.inl ⟨_,_,_,_,_,_,_,rfl,rfl⟩))⟩
          |mp b k t es=>exact .inr ⟨_,O,hl,rfl,.inr (.inr (.inr (.inr ⟨_,_,_,_,_,rfl,rfl⟩)))⟩
          |lp ro F n env ps a b s=>exact .inr ⟨_,O,hl,rfl,.inr (.inr (.inr (.inl ⟨_,_,_,_,_,_,_,_,_,rfl,rfl⟩)))⟩) i1 i2 i3 N
        have a3:AAk A (Lo h.slots) env0 d ad ap:=⟨E.ok,E.step,by rw[E.len,Io],E.same,λp P=>by
         obtain⟨X,b2,b3⟩:=Rr nd p P;have M:Jf p.1 A=η:=by grind[jU,Jf]
         rw[E.get p.1 (Wu λV=>Ux M (hA _ (by unfold Hint.tmps;simp only[List.mem_append];exact .inl (.inr V))))];rw[mO nd p.1 (by rw[X];exact b2)];exact X⟩
        obtain⟨x,u,v,l1,l2,l3,l4⟩:=i4 a3;refine⟨x,u,v,hu (V ?_ a1),l2,l3,l4⟩;rintro _ _ _ ⟨rfl,rfl,rfl⟩;exact⟨_,_,by rw[Cb,D.len];exact w,l1⟩;cases k1;split at k1<;>grind
       |done o=>
        intro r m;refine⟨i,g,hi,I.1,I.2,λD=>?_⟩;obtain⟨e,env1,K,a1,k1,S,T⟩:=body D;unfold ACU at k1;split at k1;split at k1<;>grind;rename_i hx;split at k1;rename_i o1 a6;injection k1 with k1;injection k1 with k1;subst k1;obtain⟨u,v,w,q1,q2,q3⟩:=ACP y nd D S T hB hA a6 m N;have a5:e≠.normal:=by rintro rfl;cases hx
        refine⟨e,u,v,ha (hu (V ?_ a1)),q1,q2,q3⟩;intro e1 al bm a9;obtain⟨ar,ax,a0⟩:=a9;subst ar ax a0;have ao:∃env2 J,Fa N (BL g).length (B3 env1) (BL K) env2 J/\VO e1 (B3 u) (BL v) e1 env2 J:=⟨_,_,by rw[Cb,D.len];exact w,rfl,rfl,rfl⟩
        cases e1 with
        |normal=>exact(a5 rfl).elim
        |_=>exact ao
        cases k1
      cases Y
     cases Y) ho
    obtain⟨i,g,i1,i2,i3,i4⟩:=hC r m;have a4:=rK a7;rw[a4]at i1;have a':OO (RJ A (Lo h.slots) d env0) (Ks (Lo h.slots) 0 d):=⟨λp P=>(lf y).env p (Rr nd p P).2.2,z⟩
    have E:=Mu y hc i1 a' (by rw[Io];exact Al _) (λp P=>⟨p.2,(Rr nd p P).2.2,Xg.refl _⟩) (λj e' O c=>by
     rw[Jd]at c;cases hH:d[j]? with
     |none=>rw[hH]at c;cases c
     |some Z=>
      rw[hH,DZ,O]at c;simp only[Bt,Ar]at c;subst c;refine⟨Z,rfl,?_⟩;cases Z with
      |dead=>exact .inl rfl
      |live b cs=>exact .inr (.inl ⟨_,_,_,_,rfl,rfl,Dp.refl _⟩)
      |buf b t l n bl=>exact .inr (.inr (.inl ⟨_,_,_,_,_,_,_,rfl,rfl⟩))
      |mp b k t es=>exact .inr (.inr (.inr (.inr ⟨_,_,_,_,_,rfl,rfl⟩)))
      |lp ro F n env ps a b s=>exact .inr (.inr (.inr (.inl ⟨_,_,_,_,_,_,_,_,_,rfl,rfl⟩)))) (AHM d)
    have w:=E.weak (N:=N) (by rw[Io];exact Al _) (by rw[Io];exact i2) (by rw[Io];exact i3);rw[Io]at w;have D:AAk A (Lo h.slots) env0 d i g:=⟨E.ok,E.step,by rw[E.len,Io],E.same,λp P=>by
     obtain⟨X,b2,b3⟩:=Rr nd p P;have M:Jf p.1 A=η:=by grind[jU,Jf]
     rw[E.get p.1 (Wu λV=>Ux M (hA _ (by unfold Hint.tmps;simp only[List.mem_append];exact .inl (.inr V))))];rw[mO nd p.1 (by rw[X];exact b2)];exact X⟩
    obtain⟨x,u,v,l1,l2,l3,l4⟩:=i4 D;have w3:Fa N (θ H) (B3 env) (BL H) (B3 i) (BL g):=((wv N).trans ((wf N).of_le (by rw[Cb];exact sv.step.len))).trans (w.of_le (Cl sv.step.len sf.step.len));refine⟨_,_,x,u,v,w3,l1,l2,l3,?_⟩;exact(EH.trans ok.env (EH.trans ok.env sv sf) l4).mono λt W=>by rcases Ak.1 W with W|W;rw[Dc]at W;exact hA t (by unfold Hint.tmps;simp only[List.mem_append];exact .inl (.inl (.inr W)));exact W
   cases m
  cases m
def AFE(hr:KB P N k m G)(A:∀t,t∈k->t∈d)(l:∀t,t∈T.tmps->t∈d):KB P N d (.loop m) (wz T d G):=by
 intro R env H c r ok f;obtain⟨s,u,x,i,j,w,l1,l2,o,p⟩:=zw (N:=N) (L0:=λenv H Q=>J9 P N m env H Q) (L:=λenv H Q=>IG P N m env H Q) (λn a=>a.mono n) (IG.unroll ·) (IG.after ·)
  (λenv H c r ok f=>by obtain⟨e,b,g,a,q⟩:=hr env H c r ok f;exact⟨e,b,g,a.awp,q⟩) A l env H c r ok f
 exact⟨x,i,j,tX.weak (by rw[Cb];exact w) l1,l2,o,p⟩
def AB4(P:Program)(N:Nat)(A:Ψ Nat)(c:Code)(run:Sem):Prop:=AIB (ai P N c) A run
def AFG{s:AEI}(n:AB4 P N k m s.pre)(y:KB P N k (nS m) s.suf)(i:∀t,t∈k->t∈d)(v:∀t,t∈T.tmps->t∈d):KB P N d (.loop m) (ACb T d s):=by
 intro R env H c r ok g;unfold ACb at g;obtain⟨e,env1,f,a1,k1,b,A⟩:=n env H _ r ok g;cases e with
 |normal=>
  obtain⟨B,I,x,q,u,w,l1,l2,D,F⟩:=zw (N:=N) (L0:=λenv H Q=>J9 P N (nS m) env H (fZ (λe T=>ai P N m e T Q) Q)) (L:=λenv H Q=>kF P N m env H Q)
   (λo a=>a.mono λe E T z=>by
    cases e with
    |normal=>exact ai.mono o z
    |_=>exact o _ _ _ z) (λ{env H Q} a=>kF.unroll (a.mono λe E T z=>by
    cases e<;>exact z)) (kF.after ·)
   (B:=k) (run:=AFv s.suf s.pre) (λenv H c r ok g=>by
    obtain⟨e,env1,f,a1,k1,b,A⟩:=y env H _ r ok g;cases e with
    |normal=>obtain⟨B,env2,p,a2,C,l,G⟩:=n env1 f c r b k1;refine⟨B,env2,p,a1.awp.mono ?_,C,l,(EH.trans ok.env A G).mono λt j=>(Ak.1 j).elim id id⟩;rintro _ _ _ ⟨rfl,rfl,rfl⟩;exact a2
    |_=>refine⟨_,env1,f,a1.awp.mono ?_,k1,b,A⟩;rintro _ _ _ ⟨rfl,rfl,rfl⟩;exact⟨rfl,rfl,rfl⟩) i v env1 f c r b k1
  refine⟨x,q,u,eJ (ai.mono ?_ a1),l2,D,(EH.trans ok.env A F).mono λt j=>(Ak.1 j).elim (i t) id⟩;rintro _ _ _ ⟨rfl,rfl,rfl⟩;exact⟨_,_,w.of_le (by rw[Cb];exact A.step.len),l1⟩
 |_=>refine⟨_,env1,f,eJ (ai.mono ?_ a1),k1,b,A.mono i⟩;rintro _ _ _ ⟨rfl,rfl,rfl⟩;exact⟨rfl,rfl,rfl⟩
def AEk{b}{A B}{j}(l:KB P N A m G)(c:KB P N B b j):KB P N (A++B) (.cond e m b) (ACJ e G j):=by
 intro R env H k r ok f;unfold ACJ at f;dsimp only at f;split at f;rename_i v n;have i:BR (B3 env) e=.bool v:=by have:=Lu env e;rw[n]at this;exact this
 cases v with
 |true=>obtain⟨a,d,g,a1,q1,q2,q3⟩:=l env H k r ok f;exact⟨a,d,g,EI (λ_ a=>by cases a) (J9.cond i (λ_=>a1.awp) (λa=>by cases a)),q1,q2,q3.mono λt h=>Ak.2 (.inl h)⟩
 |false=>obtain⟨a,d,g,a1,q1,q2,q3⟩:=c env H k r ok f;exact⟨a,d,g,EI (λ_ a=>by cases a) (J9.cond i (λa=>by cases a) (λ_=>a1.awp)),q1,q2,q3.mono λt h=>Ak.2 (.inr h)⟩
 cases f
def AC6{A}(hr:KB P N A m G):KB P N A (.block n m) (AAx n G):=by
 intro R env H k r ok i;obtain⟨e,a,f,a1,q1,q2,q3⟩:=hr env H _ r ok i;cases e with
 |exit c=>
  simp only at q1;split at q1;rename_i h;have:=DB h;refine⟨.normal,a,f,EI (λ_ e=>by cases e) (J9.block (a1.awp.mono ?_)),q1,q2,q3⟩;rintro _ _ _ ⟨rfl,rfl,rfl⟩;simp only[qV,C! this];exact⟨rfl,rfl,rfl⟩;rename_i h;have g:c≠n:=λe=>t!
  refine⟨.exit c,a,f,EI (λ_ e=>by cases e) (J9.block (a1.awp.mono ?_)),q1,q2,q3⟩;rintro _ _ _ ⟨rfl,rfl,rfl⟩;simp only[qV,D! g];exact⟨rfl,rfl,rfl⟩
 |_=>refine⟨_,a,f,EI (λ_ e=>by cases e) (J9.block (a1.awp.mono ?_)),q1,q2,q3⟩;rintro _ _ _ ⟨rfl,rfl,rfl⟩;exact⟨rfl,rfl,rfl⟩
end Go.Ab
namespace Go.Ab
variable {N n Y:Nat}{c M:As}{d k:Ψ Nat}{e y:Operand}{P:Program}{j H:Bj}{m:Code}{t:Ty}{R:Type}{p:Ψ Ad}{q:Ψ Qi}{s:Ψ TV}{u:Env}{v:Ad}{B:Aw}{D:Bool}{G:Sem}{J:Ψ PF}{L:Su}{F:FuncId}{K:Exit}
section
variable {P:Program}{N:Nat}{env:Env}{H:Aw}{Q:Exit->Env->Aw->Prop}{X:Nat->Prop}{h:Gh}{w:World}
def Gst(N:Nat)(env:Env)(H:Aw)(env2:Env)(H2:Aw):Prop:=
 ∀X h a w,St X h N env H a w->∃h2,St X h2 N env2 H2 a w/\G1 h H w h2 H2 w
def J9.afterG(h:J9 P N m env H (λe b f=>∃env2 d,Gst N b f env2 d/\Q e env2 d)):J9 P N m env H Q:=by intro r X g a w s k;apply wpIn_mono (h r X g a w s k);rintro e i t ⟨l,b,f,⟨env2,d,n,q⟩,o,u,j⟩;obtain⟨c,p,v⟩:=n X l i t o;exact⟨c,env2,d,q,p,u.trans v,j⟩
def IG.afterG(h:IG P N m env H (λe b f=>∃env2 d,Gst N b f env2 d/\Q e env2 d)):IG P N m env H Q:=by intro r X g a w s k;apply XV (h r X g a w s k);rintro e i t ⟨l,b,f,⟨env2,d,n,q⟩,o,u,j⟩;obtain⟨c,p,v⟩:=n X l i t o;exact⟨c,env2,d,q,p,u.trans v,j⟩
def tX.afterG(h:tX P N m env H (λe a d=>∃env2 b,Gst N a d env2 b/\Q e env2 b)):tX P N m env H Q:=by
 cases m with
 |loop x=>exact IG.afterG h
 |_=>exact J9.afterG h
def mvH(H:Aw)(n m:Nat)(e:Fw):Aw:=(H.set n e).set m .dead
def jD{e f:Fw}(g:n≠N)(hn:n<θ H)(a:(mvH H n N f)[Y]?=δ e)(d:e≠.dead):(Y=n/\e=f)\/(Y≠n/\Y≠N/\H[Y]?=δ e):=by unfold mvH at a;by_cases b:Y=N;subst b;rw[Wf]at a;rw[C! rfl]at a;split at a;injection a with a;exact O! a.symm d;cases a;rw[Dd (b ·.symm)]at a;by_cases c:Y=n;subst c;rw[HE hn]at a;injection a with a;exact .inl ⟨rfl,a.symm⟩;rw[Dd (c ·.symm)]at a;exact .inr ⟨c,b,a⟩
def G1.mv{n m gn b:Nat}{cn d:Ψ Ad}(s:JT X h H w)(hn:H[n]?=δ (.live gn cn))(j:H[m]?=δ (.live b d))(f:n≠m)(v:gn<b):G1 h H w (h.at_ n (h.io m) (h.gen m) (h.cap m)) (mvH H n m (.live b d)) w:=by have i:h.gen n=gn:=(s.live n gn cn hn).1;have g:h.gen m=b:=(s.live m b d j).1;have p:n<θ H:=(EX.1 hn).1;refine⟨rfl,rfl,rfl,Al _,λ_ _ _=>rfl,by simp[mvH],λid _=>?_,λid _ e=>?_,λB t=>?_,λ_ r hr=>⟨r,hr⟩⟩;simp only[Gh.at_];split;rename_i q;rw[q,i,g];omega;exact Al _;simp only[Gh.at_]at e⊢;split at e;rename_i q;rw[q,i,g]at e;omega;rename_i q;simp[q];obtain⟨id,e,o,c,a⟩:=t;rcases jD f p o c with⟨rfl,rfl⟩|⟨k,u,l⟩;simp only[Gh.at_,if_true]at a;exact .inl ⟨m,_,j,q!,a⟩;simp only[Gh.at_,D! k]at a;exact .inl ⟨id,e,l,c,a⟩
def JT.mv{n m gn Q:Nat}{cn Y:List Ad}(s:JT X h H w)(hn:H[n]? =some (.live gn cn))(O:H[m]? =some (.live Q Y))(d:n≠m)(hg:gn<Q):JT X (h.at_ n (h.io m) (h.gen m) (h.cap m)) (mvH H n m (.live Q Y)) w:=by
 have hx:=G1.mv s hn O d hg;have E:=hx.later X;have F:n<H.length:=(EX.1 hn).1;refine⟨λB U=>⟨(s.out B U).1,λho=>?_⟩,λid g Z A=>?_,λid L A=>?_,λid M e e' B A K D i o c=>?_,λid e A V=>?_⟩;rcases hx.fresh B ho with q|q;exact(s.out B U).2 q;have:=(s.out B U).1;omega;rcases jD d F A q! with⟨rfl,q⟩|⟨l,N,y⟩;injection q with q1 q2;subst q1 q2;obtain⟨a,b⟩:=s.live m g Z O;refine⟨by simp[cx,Gh.at_];exact a,?_⟩;rcases b with⟨p,u⟩|⟨B,z,T,P,f,p,u,G,I,J,x⟩;exact .inl ⟨by simp only[cx,Gh.at_,if_true];exact p,u⟩;exact .inr ⟨B,z,T,P,f,by simp only[cx,Gh.at_,if_true];exact p,u,by simp only[cx,Gh.at_,if_true];exact G,I,J,λj v C=>⟨(x j v C).1,(x j v C).2.1,(x j v C).2.2.later E⟩⟩;obtain⟨a,b⟩:=s.live id g Z y;refine⟨by simp only[cx,Gh.at_,if_neg l];exact a,?_⟩;rcases b with⟨p,u⟩|⟨B,z,T,P,f,p,u,G,I,J,x⟩;exact .inl ⟨by simp only[cx,Gh.at_,if_neg l];exact p,u⟩;exact .inr ⟨B,z,T,P,f,by simp only[cx,Gh.at_,if_neg l];exact p,u,by simp only[cx,Gh.at_,if_neg l];exact G,I,J,λj v C=>⟨(x j v C).1,(x j v C).2.1,(x j v C).2.2.later E⟩⟩;rcases jD d F A q! with⟨rfl,q⟩|⟨l,N,y⟩;cases q;obtain⟨a,B,r,p,u,G,I,J,x,b7,b8,W⟩:=s.lp id L y;exact⟨by simp only[cx,Gh.at_,if_neg l];exact a,B,r,by simp only[cx,Gh.at_,if_neg l];exact p,u,G,I,J,x,b7,b8,λt v hv=>⟨(W t v hv).1,(W t v hv).2.later E⟩⟩;rcases jD d F A D with⟨q1,q2⟩|⟨l,N,y⟩;rcases jD d F K i with⟨q3,q4⟩|⟨R,h5,S⟩;rw[q1,q3];subst q1;simp only[Gh.at_,if_true]at o;simp only[Gh.at_,if_neg R]at c;exact absurd (s.inj m M _ _ B O S q! i o c).symm h5;rcases jD d F K i with⟨q3,q4⟩|⟨R,h5,S⟩;subst q3;simp only[Gh.at_,if_true]at c;simp only[Gh.at_,if_neg l]at o;exact absurd (s.inj id m _ _ B y O D q! o c) N;simp only[Gh.at_,if_neg l]at o;simp only[Gh.at_,if_neg R]at c;exact s.inj id M e e' B y S D i o c;rcases jD d F A (by rintro rfl;cases V)with⟨rfl,q⟩|⟨l,N,y⟩;subst q;cases V;have b:=s.bld id e y V;cases e with
 |mp k es=>simpa only[BAt,Gh.at_,if_neg l]using b
 |it k sn=>simpa only[BAt,Gh.at_,if_neg l]using b
 |_=>trivial
def Gst.mv{n m gn b:Nat}{cn f:Ψ Ad}(hn:H[n]?=δ (.live gn cn))(i:H[m]?=δ (.live b f))(e:n≠m)(l:gn<b)
  (A:∀t v,(t,v)∈u->(t,v)∈env\/∃sz d len,v=.sl n b sz d len/\(t,Ad.sl m b sz d len)∈env):Gst N env H u (mvH H n m (.live b f)):=by
 intro X h a w s;have o:=G1.mv s.sim hn i e l;have j:h.gen m=b:=(s.sim.live m b f i).1;have y:n<θ H:=(EX.1 hn).1;refine⟨_,⟨s.sim.mv hn i e l,λt v z=>?_,s.size⟩,o⟩;rcases A t v z with q|⟨sz,d,len,rfl,q⟩;exact⟨(s.env t v q).1,(s.env t v q).2.later (o.later X)⟩;obtain⟨p,k⟩:=s.env t _ q;refine⟨p,?_⟩;generalize a.tmps.getD t undef=c at k;cases k with
 |sl x C g r=>refine .sl (by simp[cx,mvH];exact y) (by simp only[cx,Gh.at_,if_true];rw[j];exact Al _) g λ_=>?_;rcases r j with q|⟨B,cap,q1,q2,q3,q4⟩;exact .inl ⟨by simp only[cx,Gh.at_,if_true];exact q.1,q.2⟩;exact .inr ⟨B,cap,by simp only[cx,Gh.at_,if_true];exact q1,q2,by simp only[cx,Gh.at_,if_true];exact q3,q4⟩
end
section
variable {R:Type}{P:Program}{N:Nat}
def Gst.refl(N:Nat)(env:Env)(H:Aw):Gst N env H env H:=λ_ h _ w s=>⟨h,s,G1.refl h H w⟩
def Gst.trans{N}{f g i}{c d e}(a:Gst N f c g d)(b:Gst N g d i e):Gst N f c i e:=λX h x w s=>by obtain⟨j,l,n⟩:=a X h x w s;obtain⟨k,m,o⟩:=b X j x w l;exact⟨k,m,n.trans o⟩
def AJH{k:Bj->As->Ω R}{r:R}(ok:OO j c)(h:mv1 Y n j c k=δ r):∃a g,Gst N (B3 j) (BL c) (B3 a) (BL g)/\k a g=δ r/\OO a g/\EH [Y] j c a g:=by
 have same:k j c=δ r->∃a g,Gst N (B3 j) (BL c) (B3 a) (BL g)/\k a g=δ r/\OO a g/\EH [Y] j c a g:=λq=>⟨j,c,.refl _ _ _,q,ok,⟨.refl c,λ_ _ _=>rfl⟩⟩
 unfold mv1 at h;split at h;rename_i m H e J I;split at h;exact same h;rename_i b;have b:m≠n:=λq=>by rw[q,Hl]at b;cases b
 split at h;rename_i U l1 F l V l2 t W hn w;split at h;rename_i D z;have D:=DB D;subst D;simp only[Ba]at z;have x:=Ty.beq_eq _ _ z.1;have y:=Ty.beq_eq _ _ z.2;injection x with x;injection y with y;subst x y;cases f:τ (F<t)with
 |false=>rw[f]at h;cases h
 |true=>
  rw[f,B!]at h;have f:F<t:=N! f;have hr:TZ c m H e J:=by have:=lV ok.env Y;rw[I]at this;exact this (.own m H e J) (by simp[TV.refs])
  obtain⟨_,A⟩:=hr.2 _ _ _ _ _ w;obtain⟨_,A⟩:=A rfl;subst A;have K:CE c (c.set n (.buf η e l2 t (l+1))):=CE.set hn rfl λ_ _ _ _ _ q=>by cases q;exact⟨_,_,_,_,rfl,.inl (nl _)⟩
  have B:(c.set n (.buf η e l2 t (l+1)))[m]?=δ (.buf η e l2 t H):=by rw[Dd (b ·.symm)];exact w
  have L:CE (c.set n (.buf η e l2 t (l+1))) ((c.set n (.buf η e l2 t (l+1))).set m .dead):=CE.set B rfl λ_ _ _ _ _ q=>by cases q
  have st:=K.trans L;have C:t=θ l2:=ok.heap _ (BO w);have i:n<θ c:=(EX.1 hn).1;have o:=R0 K ok.heap (show Dx.ok _ (.buf η e l2 t (l+1))from C);refine⟨_,_,?_,h,⟨cV (d:=δ Y) (st.env ok.env) ?_,R0 L o trivial⟩,⟨st,λu p _=>?_⟩⟩;have O:BL ((c.set n (.buf η e l2 t (l+1))).set m .dead)=mvH (BL c) n m (.live t (e.E.cl l2)):=by rw[LU,LU];rfl
  rw[O];refine Gst.mv (gn:=F) (cn:=e.E.cl l1) (by rw[EM,hn];rfl) (by rw[EM,w];rfl) (b ·.symm) f (λu v p=>?_);rw[lC]at p;unfold Env.put at p;rcases Av.1 p with q|q;injection q with q1 q2;subst q1 q2;refine .inr ⟨e.sz,0,t,rfl,?_⟩;exact Bs.2 ⟨_,Zi I (λq=>by cases q),rfl⟩;exact .inl (BQ.1 q).1;refine Jw ⟨by simpa using i,λP T Q S M G=>?_⟩;rw[Dd b,HE i]at G;cases G;exact⟨Al _,λ_=>⟨rfl,rfl⟩⟩;have s:u≠Y:=λq=>p (by simp[q]);unfold Bj.put;simp only[Bj.get];rw[beq_false (s ·.symm)];exact tM s j
 cases h;exact same h;exact same h
def ABQ:∀{j}{env}{H}{k}{r:R},OO env H->mvs j env H k=δ r->∃f i,Gst N (B3 env) (BL H) (B3 f) (BL i)/\k f i=δ r/\OO f i/\EH (WU j) env H f i
 |[],env,H,k,r,ok,h=>⟨env,H,.refl _ _ _,h,ok,⟨.refl H,λ_ _ _=>rfl⟩⟩
 |s::j,env,H,k,r,ok,h=>by
  have l:mvs j env H k=δ r->(∀t,t∈WU j->t∈WU (s::j))->∃f i,Gst N (B3 env) (BL H) (B3 f) (BL i)/\k f i=δ r/\OO f i/\EH (WU (s::j)) env H f i:=λq A=>by obtain⟨e,i,a,b,c,d⟩:=ABQ ok q;exact⟨e,i,a,b,c,d.mono A⟩
  cases s with
  |g t n=>simp only[mvs]at h;obtain⟨E,D,a1,o,v,x⟩:=AJH (N:=N) ok h;obtain⟨z,m,a2,p,w,y⟩:=ABQ v o;exact⟨z,m,a1.trans a2,p,w,(x.trans ok.env y).mono λu C=>by simpa[WU]using C⟩
  |_=>exact l h λt B=>by simp[WU,B]
def AFO(hr:KB P N k m G)(i:∀t,t∈k->t∈d)(o:∀t,t∈WU J->t∈d):KB P N d m (AFN J G):=by intro R env H j r ok p;obtain⟨e,env1,l,a1,k1,a,A⟩:=hr env H _ r ok p;split at k1;obtain⟨n,B,g,s,f,h⟩:=ABQ (N:=N) a k1;refine⟨e,n,B,tX.afterG (a1.mono ?_),s,f,(A.trans ok.env h).mono λt q=>(Ak.1 q).elim (i t) (o t)⟩;rintro x u v ⟨rfl,rfl,rfl⟩;exact⟨_,_,g,rfl,rfl,rfl⟩;exact⟨e,env1,l,a1,k1,a,A.mono i⟩
end
variable {P:Program}{N:Nat}
def KB.mono(h:KB P N d m G)(f:∀t,t∈d->t∈k):KB P N k m G:=λenv H A r ok g=>by obtain⟨e,a,B,q1,q2,q3,q4⟩:=h env H A r ok g;exact⟨e,a,B,q1,q2,q3,q4.mono f⟩
def uy{hs:Ψ Hint}{A B:Ψ Nat}(hr:KB P N B m G)(d:∀t,t∈B->t∈A)(b:∀t,t∈sO hs m->t∈A):KB P N A m (wq (hintOf hs m) A G):=by
 unfold sO at b;generalize hintOf hs m=o at b⊢;cases o with
 |none=>exact hr.mono d
 |some h=>exact λenv H k r ok f=>zo hr d (h:=h.rel (θ H)) (λt e=>b t (by rw[T2]at e;exact e)) env H k r ok f
def AFF{hs:Ψ Hint}{A B:Ψ Nat}{s:AEI}(hr:KB P N B m s.main)(i:AB4 P N B m s.pre)(g:KB P N B (nS m) s.suf)(e:∀t,t∈B->t∈A)(b:∀t,t∈sO hs (.loop m)->t∈A):KB P N A (.loop m) (vC (hintOf hs (.loop m)) A s):=by
 unfold sO at b;generalize hintOf hs (.loop m)=o at b⊢;cases o with
 |none=>exact λenv H k r ok a=>by cases a
 |some h=>
  intro R env H k r ok a;have a:vC (δ h) A s env H k=δ r:=a;have b:∀t,t∈(h.rel (θ H)).tmps->t∈A:=λt d=>b t (by rw[T2]at d;exact d);cases f:ξ h.kind 8 with
  |true=>rw[show vC (δ h) A s env H k=ACb (h.rel (θ H)) A s env H k by simp only[vC,f]]at a;exact AFG i g e b env H k r ok a
  |false=>rw[show vC (δ h) A s env H k=wz (h.rel (θ H)) A (AFN (h.rel (θ H)).slots s.main) env H k by simp only[vC,f]]at a;exact AFE (AFO hr e λt d=>b t (by unfold Hint.tmps;simp only[List.mem_append];exact .inl (.inr d))) (λ_ q=>q) b env H k r ok a
def Wv:∀{env}{p:Nat×TV},p∈jE env->p∈env/\Ll p.2.refs=[]
 |(t,v)::r,p,h=>by simp only[jE]at h;split at h;rename_i a;rcases Av.1 h with rfl|h;exact⟨JV,a⟩;exact⟨CZ _ (Wv h).1,(Wv h).2⟩;exact⟨CZ _ (Wv h).1,(Wv h).2⟩
theorem ADj(Q:Wy P L){B:Array Tmp}{b:Code}:KB P N d (.rangeFunc e B m b) (ABc P L N F e B m b):=by
 intro R env H k r ok q;unfold ABc at q;dsimp only at q;split at q;rename_i G first A hf
 split at q;rename_i Z;have Y:BR (B3 env) e=.fn (.func G) first A:=by rw[Lu,hf];rfl
 have E:(Dx.lp η F N (jE env) B m b .ready).ok (H++[.lp η F N (jE env) B m b .ready]):=λp S id al t n hm=>by have:=oP hm;rw[(Wv S).2]at this;cases this
 have U:CE H (H++[.lp η F N (jE env) B m b .ready]):=CE.push H _;obtain⟨v,i,q1,q2,q3,q4,q5⟩:=Q (.fn G) _ _ _ r (λv X=>by simp only[Ak,Bs,A5]at X;rcases X with(⟨u,_,rfl⟩|rfl)|⟨u,_,rfl⟩;exact lz u;exact Jw trivial;exact lz u) (O5 ok.heap E) q
 have y:∀{ro}{w n O p c a}{s}{x},i[θ H]?=δ (.lp ro w n O p c a s)→ro=η→(∀f:nJ,f.state=s.st→f.pending=s.pend→AFn P N (B3 env) (θ H) (VO x (B3 env) (BL (i.set (θ H) .dead))) ((BL i).set (θ H) (.lp f)))→k x env (i.set (θ H) .dead)=δ r→
   ∃V g M,tX P N (.rangeFunc e B m b) (B3 env) (BL H) (VO V (B3 g) (BL M))/\k V g M=δ r/\OO g M/\EH d env H g M:=by
  intro ro w n O p c a s x o T hq q;subst T;have K:CE i (i.set (θ H) .dead):=CE.set o rfl λ_ _ _ _ _ h=>by cases h
  have st:=(U.trans q5).trans K;refine⟨x,env,_,EI (λ_ O=>by cases O) (nB (B3 (jE env)) (λp S=>?_) Y Z ?_),q,⟨st.env ok.env,R0 K q4 trivial⟩,st,λ_ _ _=>rfl⟩;obtain⟨u,hu,rfl⟩:=Bs.1 S;exact Bs.2 ⟨u,(Wv hu).1,rfl⟩;have J:Ek P G _ _ _:=q1;have z:(first.map tvA++[TV.c (.raw (.yf (θ H)))]++A.map tvA).map TV.enc=first++[.yf (BL H).length]++A:=by
   have W:∀l:Ψ Ad,(l.map tvA).map TV.enc=l:=by
    intro l;rw[PM];conv=>rhs;rw[<-fi l]
    grind[List.map_congr_left,jO]
   rw[Ke,Ke,W,W,Cb];rfl
  rw[z,QN]at J;apply J.mono;rintro _ _ ⟨rfl,rfl⟩;rw[Cb];have I:BL i=(BL i).set (θ H) (.lp ⟨n,B3 O,p,c,a,s.st,s.pend⟩):=by
   have hg:(BL i)[θ H]?=δ (.lp ⟨n,B3 O,p,c,a,s.st,s.pend⟩):=by rw[EM,o];rfl
   apply JX;intro j;by_cases ad:j=θ H<;>grind
  rw[I];exact hq _ rfl rfl
 have look:∀f:nJ,θ H<θ i->((BL i).set (θ H) (.lp f))[θ H]?=δ (.lp f):=λf h=>by grind[List.getElem?_set_self,Cb]
 have dead:∀f:nJ,((BL i).set (θ H) (.lp f)).set (θ H) .dead=BL (i.set (θ H) .dead):=λf=>by rw[Yo,LU];rfl
 split at q2;rename_i o;refine y o rfl (λf C D=>⟨f,look f (HO o),by rw[C];simp[LS.st],?_⟩) q2;rw[D,dead];exact⟨rfl,rfl,rfl⟩;rename_i o;refine y o rfl (λf C D=>⟨f,look f (HO o),by rw[C];simp[LS.st],?_⟩) q2;rw[D,dead];exact J9.ret ⟨rfl,rfl,rfl⟩;rename_i x o;refine y o rfl (λf C D=>⟨f,look f (HO o),by rw[C];simp[LS.st],?_⟩) q2;rw[D,dead];exact J9.exit ⟨rfl,rfl,rfl⟩;cases q2;cases q;cases q
theorem AEj{a}{p:Yj}{hs:Ψ Hint}(h:pA a m=δ p):∀t∈p.tmps,t∈PQ hs a++PQ hs m:=by obtain⟨o,v,l,q,w,n,r,x,s,y,u,z,rfl,rfl,f,g,i,j,k,_⟩:=pB h;obtain⟨_,_,_,_,_,_,l1⟩:=sV f;obtain⟨_,_,_,_,_,_,l2⟩:=sW g;obtain⟨_,_,_,_,_,_,_,_,_,_,_,_,c⟩:=sX i;obtain⟨_,_,_,_,_,_,_,_,_,_,_,_,_,_,_,d⟩:=sY j;obtain⟨_,_,_,_,_,_,_,e⟩:=sZ k;intro t b;simp only[PQ,l1,l2,c,d,e,pE,Ak];simp only[Yj.tmps]at b;grind
theorem AHr(S:∀c∈q,c.Ok P)(O:Wy P L)(y:FuncId)(d:Ψ Hint):∀c:Code,KB P N (PQ d c) c (tG P q L N y d c)/\(∀m r,c=.seq m r->KB P N (PQ d r) r (tG P q L N y d r))/\AB4 P N (PQ d c) c (fV P q L N y d c).pre/\KB P N (PQ d c) (nS c) (fV P q L N y d c).suf:=by
 have x:∀A c,KB P N A c QI:=λA c R env H k r ok j=>by cases j
 have u:∀A c,AB4 P N A c QI:=λA c R env H k r ok j=>by cases j
 intro c;induction c with
 |skip=>exact⟨λenv H k r ok j=>⟨.normal,env,H,EI (λ_ e=>by cases e) (J9.skip ⟨rfl,rfl,rfl⟩),j,ok,EH.refl _ _ _⟩,λ_ _ e=>(by cases e),u _ _,x _ _⟩
 |ret=>exact⟨λenv H k r ok j=>⟨.ret,env,H,EI (λ_ e=>by cases e) (J9.ret ⟨rfl,rfl,rfl⟩),j,ok,EH.refl _ _ _⟩,λ_ _ e=>(by cases e),u _ _,x _ _⟩
 |exit id=>exact⟨λenv H k r ok j=>⟨.exit id,env,H,EI (λ_ e=>by cases e) (J9.exit ⟨rfl,rfl,rfl⟩),j,ok,EH.refl _ _ _⟩,λ_ _ e=>(by cases e),u _ _,x _ _⟩
 |seq a b D w=>
  refine⟨?_,λm r e=>(by injection e with V C;subst V C;exact w.1),?_,?_⟩;rotate_left;by_cases I:∃m z,b=.seq m z;obtain⟨m,z,rfl⟩:=I;intro env H k r ok j;obtain⟨e,env1,J,a1,k1,v,M⟩:=D.1 env H _ r ok (show tG P q L N y d a env H _=δ r from j);cases e with
  |normal=>obtain⟨C,env2,K,a2,Y,F,Z⟩:=w.2.2.1 env1 J k r v k1;refine⟨C,env2,K,J9.mono a1.awp ?_,Y,F,(EH.trans ok.env M Z).mono λt l=>Ak.2 (.inl l)⟩;rintro _ _ _ ⟨rfl,rfl,rfl⟩;exact a2
  |_=>refine⟨_,env1,J,J9.mono a1.awp ?_,k1,v,M.mono λt l=>Ak.2 (.inl (Ak.2 (.inl l)))⟩;rintro _ _ _ ⟨rfl,rfl,rfl⟩;exact⟨rfl,rfl,rfl⟩
  intro env H k r ok j;have j:tG P q L N y d a env H k=δ r:=by cases b<;>first|exact j|exact O! ⟨_,_,rfl⟩ I
  obtain⟨e,env1,J,a1,k1,v,M⟩:=D.1 env H k r ok j;have C:∀Q,ai P N (.seq a b) (B3 env) (BL H) Q=J9 P N a (B3 env) (BL H) Q:=λQ=>by cases b<;>first|rfl|exact O! ⟨_,_,rfl⟩ I
  exact⟨e,env1,J,by rw[C];exact a1.awp,k1,v,M.mono λt l=>Ak.2 (.inl (Ak.2 (.inl l)))⟩;have mo:∀t,t∈PQ d b->t∈PQ d (.seq a b):=λt l=>Ak.2 (.inl (Ak.2 (.inr l)));intro R env H k r ok j;by_cases I:∃m z,b=.seq m z;obtain⟨m,z,rfl⟩:=I;exact KB.mono w.2.2.2 mo env H k r ok j;have g:KB P N (PQ d (.seq a b)) b (tG P q L N y d b):=KB.mono w.1 mo;have j:tG P q L N y d b env H k=δ r:=by cases b<;>first|exact j|exact O! ⟨_,_,rfl⟩ I
  have C:nS (.seq a b)=b:=by cases b<;>first|rfl|exact O! ⟨_,_,rfl⟩ I
  rw[C];exact g env H k r ok j;have U:KB P N (PQ d a++PQ d b) (.seq a b) (λenv H k=>tG P q L N y d a env H λe n G=>match e with|.normal=>tG P q L N y d b n G k|e=>k e n G):=by
   intro R env H k r ok j;obtain⟨e,env1,J,a1,k1,v,M⟩:=D.1 env H _ r ok j;cases e with
   |normal=>obtain⟨C,env2,K,a2,Y,F,Z⟩:=w.1 env1 J k r v k1;refine⟨C,env2,K,EI (λ_ e=>by cases e) (J9.seq (a1.awp.mono ?_)),Y,F,EH.trans ok.env M Z⟩;rintro _ _ _ ⟨rfl,rfl,rfl⟩;exact a2.awp
   |_=>refine⟨_,env1,J,EI (λ_ e=>by cases e) (J9.seq (a1.awp.mono ?_)),k1,v,M.mono λt l=>Ak.2 (.inl l)⟩;rintro _ _ _ ⟨rfl,rfl,rfl⟩;exact⟨rfl,rfl,rfl⟩
  intro R env H k r ok j;by_cases I:∃m z,b=.seq m z;obtain⟨m,z,rfl⟩:=I;simp only[tG,fV]at j;split at j;rename_i p hp;obtain⟨env1,J,a1,k1,v,M⟩:=AEi S hp ok j;obtain⟨C,env2,K,a2,Y,F,Z⟩:=w.2.1 m z rfl env1 J k r v k1;refine⟨C,env2,K,EI (λ_ e=>by cases e) (J9.seq (a1.mono ?_)),Y,F,(EH.trans ok.env M Z).mono λt l=>?_⟩;intro e E h hx;cases e with
  |normal=>exact J9.seq (hx.mono (by rintro _ _ _ ⟨rfl,rfl,rfl⟩;exact a2.awp))
  |_=>exact hx.elim
  show t∈(PQ d a++((PQ d m++PQ d z)++vY d m z))++vY d a (.seq m z);rcases Ak.1 l with l|l;rcases Ak.1 (AEj (hs:=d) hp t l)with h|h<;>simp[h];simp[l];exact U.mono (λt l=>Ak.2 (.inl l)) env H k r ok j;have j:tG P q L N y d (.seq a b) env H k=δ r:=j;rw[AHs λm r e=>I ⟨m,r,e⟩]at j;have hA:∀t,t∈vY d a b->t∈PQ d (.seq a b):=λt l=>Ak.2 (.inr l);have hB:∀t,t∈PQ d a++PQ d b->t∈PQ d (.seq a b):=λt l=>Ak.2 (.inl l);unfold vY at hA;generalize tT d a b=o at j hA;cases o with
  |none=>exact U.mono hB env H k r ok j
  |some h=>exact zo U hB (h:=h.rel (θ H)) (λt l=>hA t (by rw[T2]at l;exact l)) env H k r ok j
 |cond c a b D w=>have W:KB P N (PQ d a++PQ d b) (.cond c a b) (ACJ c (tG P q L N y d a) (tG P q L N y d b)):=AEk D.1 w.1;refine⟨?_,λ_ _ e=>(by cases e),u _ _,x _ _⟩;intro R;exact uy (hs:=d) (A:=PQ d (.cond c a b)) W (λt l=>Ak.2 (.inl l)) (λt l=>Ak.2 (.inr l))
 |block id b X=>have W:KB P N (PQ d b) (.block id b) (AAx id (tG P q L N y d b)):=AC6 X.1;refine⟨?_,λ_ _ e=>(by cases e),u _ _,x _ _⟩;intro R;exact uy (hs:=d) (A:=PQ d (.block id b)) W (λt l=>Ak.2 (.inl l)) (λt l=>Ak.2 (.inr l))
 |loop b X=>exact⟨AFF (hs:=d) (A:=PQ d (.loop b)) X.1 X.2.2.1 X.2.2.2 (λt l=>Ak.2 (.inl l)) (λt l=>Ak.2 (.inr l)),λ_ _ e=>(by cases e),u _ _,x _ _⟩
 |region id s B=>
  refine⟨?_,λ_ _ e=>(by cases e),(by cases B<;>exact u _ _),(by cases B<;>exact x _ _)⟩;cases B with
  |false=>
   have W:KB P N (pE s.toList) (.region id s η) (λenv H k=>match PZ N s.toList with
    |true=>AAP P q L s (guards s) η s.toList 0 env H λn G=>k .normal n G
    |false=>ε):=by
    intro R env H k r ok j;dsimp only at j;split at j;rename_i T;obtain⟨n,G,r1,r2,r3,r4⟩:=jH (N:=N) S O _ _ _ _ _ _ ok j;refine⟨.normal,n,G,EI (λ_ e=>by cases e) (Fz T ?_),r2,r3,r4⟩;show Xh P N s s.toList (B3 env) (BL H) (λV K=>Exit.normal=Exit.normal/\V=B3 n/\K=BL G);simpa using r1;cases j
   intro R;exact uy (hs:=d) (A:=PQ d (.region id s η)) W (λt l=>Ak.2 (.inl l)) (λt l=>Ak.2 (.inr l))
  |true=>
   intro R env H k r ok j;simp only[tG,fV]at j;split at j;rename_i T;simp only[Ba]at T;obtain⟨n,G,r1,r2,r3,r4⟩:=Zf (N:=N) S O _ _ _ _ _ _ ok j;refine⟨.normal,n,G,EI (λ_ e=>by cases e) (lG T.1.1.1 _ T.1.1.2 T.1.2 ?_ ?_),r2,r3,r4.mono λt l=>Ak.2 (.inl ?_)⟩;have:=ab T.2;rw[B3,PM];exact this;show RA P N s (ABZ s) [] (B3 env) (BL H) (λV K=>Exit.normal=Exit.normal/\V=B3 n/\K=BL G);simpa using r1;unfold vr at l;obtain⟨i,_,hi⟩:=PN.1 l;cases ho:s[i]? with
   |none=>rw[ho]at hi;cases hi
   |some o=>
    rw[ho]at hi;refine PN.2 ⟨o,?_,hi⟩;have:s.toList[i]?=δ o:=by simpa using ho
    exact BO this
   cases j
 |rangeFunc f ps a b _ _=>exact⟨ADj O,λ_ _ e=>(by cases e),u _ _,x _ _⟩
 |_=>exact⟨λenv H k r ok j=>(by simp only[tG,fV,QI]at j;cases j),λ_ _ e=>(by cases e),u _ _,x _ _⟩
theorem re(f:∀c∈q,c.Ok P)(e:Wy P L)(g:FuncId)(d:Ψ Hint)(c:Code):KB P N (PQ d c) c (tG P q L N g d c):=by grind[AHr]
end Go.Ab
namespace Go.Ab
def eE:Nat->Ψ TV->Bj
 |_,[]=>[]
 |i,v::r=>(i,v)::eE (i+1) r
def oR(P:Program)(env:Bj)(H:As):Ψ ResultVar->Ω (Ψ TV)
 |[]=>δ []
 |.tmp t::r=>match oR P env H r with|some vs=>δ (env.get t::vs)|none=>ε
 |.cell a t::r=>match oR P env H r with|some vs=>loadT P H t (env.get a) λv=>δ (v::vs)|none=>ε
def zm:Exit->Bool
 |.normal=>ζ
 |.ret=>ζ
 |_=>η
variable {N n Y:Nat}{c M:As}{P:Program}{j H:Bj}{t:Ty}{R:Type}{p:Ψ Ad}{q:Ψ Qi}{s:Ψ TV}{v:Ad}{B:Aw}{D:Bool}{K:Exit}
def AKD(P:Program)(fn:Func)(k:TV->As->Ω R):Exit->Bj->As->Ω R:=λe env H=>
 match zm e with
 |true=>match oR P env H fn.results.toList with|some vs=>k (one vs) H|none=>ε
 |false=>ε
def AAS:Bj->Ψ Tmp->Ψ TV->Bj
 |env,t::ts,v::vs=>AAS (env.put t v) ts vs
 |env,_,_=>env
def AFs(id:Nat)(k:TV->As->Ω R):Exit->Bj->As->Ω R:=λe _ H=>
 match H[id]? with
 |some (.lp η F n env ps a b _)=>
  match e with
  |.normal=>k (.c (.bl ζ)) (H.set id (.lp η F n env ps a b .ready))
  |.ret=>k (.c (.bl η)) (H.set id (.lp η F n env ps a b .ret))
  |.exit x=>k (.c (.bl η)) (H.set id (.lp η F n env ps a b (.exit x)))
  |_=>ε
 |_=>ε
noncomputable def ABk(P:Program)(cs:Ψ Qi)(call:Su)(hs:FuncId->Ψ Hint)(id:Nat)(vs:Ψ TV)(H:As){R:Type}(k:TV->As->Ω R):Ω R:=
 match H[id]? with
 |some (.lp η F n env ps a b .ready)=>
  match ξ (θ vs) ps.size&&ps.toList.all λt=>Nat.blt t n with
  |true=>tG P cs call n F (hs F) a (AAS env ps.toList vs) H λe env1 H1=>
   match e with
   |.normal=>
    match H1[id]? with
    |some (.lp η F1 n1 e1 ps1 a1 b1 .ready)=>tG P cs call n F (hs F) b env1 (H1.set id (.lp η F1 n1 e1 ps1 a1 b1 .busy)) (AFs id k)
    |_=>ε
   |_=>ε
  |false=>ε
 |_=>ε
noncomputable def sA(P:Program)(cs:Ψ Qi)(hs:FuncId->Ψ Hint):Nat->Su
 |0=>λ_ _ _ _=>ε
 |n+1=>λtg vs H k=>
  match tg with
  |.fn F=>
   match P.funcs[F]? with
   |some fn=>
    match fn.body with
    |some c=>match Nat.ble (θ vs) fn.ntmps with|true=>tG P cs (sA P cs hs n) fn.ntmps F (hs F) c (eE 0 vs) H (AKD P fn k)|false=>ε
    |none=>ε
   |none=>ε
  |.yd id=>ABk P cs (sA P cs hs n) hs id vs H k
def ux(bt:Ty):(rs:Ψ Ty)->DL rs->bt.D->DL (rs++[bt])
 |[],_,b=>b
 |[_],y,b=>(y,b)
 |_::u::r,y,b=>(y.1,ux bt (u::r) y.2 b)
def rW(vs:Ψ TV):Ψ Nat:=vs.flatMap λv=>Ll v.refs
def AKA(P:Program)(fn:Func)(rs:Ψ Ty):Exit->Bj->As->Ω (DL rs):=λe env H=>
 match zm e with
 |true=>
  match oR P env H fn.results.toList with
  |some vs0=>match IM (rW vs0) env H with|(ef,hf)=>match oR P ef hf fn.results.toList with|some vs=>inp rs vs|none=>ε
  |none=>ε
 |false=>ε
def AKB(P:Program)(fn:Func)(bt:Ty)(rs:Ψ Ty):Exit->Bj->As->Ω (DL (rs++[bt])):=λe env H=>
 match zm e with
 |true=>
  match oR P env H fn.results.toList with
  |some vs0=>
   match IM (rW vs0++(match (H[0]? :Ω Dx)with|some (.live _ cs)=>Ll cs|_=>[])) env H with
   |(ef,hf)=>
    match oR P ef hf fn.results.toList,(hf[0]? :Ω Dx)with
    |some vs,δ (.live _ cs)=>match inp rs vs,bt.all cs with|some y,δ b=>δ (ux bt rs y b)|_,_=>ε
    |_,_=>ε
  |none=>ε
 |false=>ε
def uv:Nat->TV->Ψ TV->Ψ TV
 |0,v,l=>v::l
 |n+1,v,x::l=>x::uv n v l
 |_+1,v,[]=>[v]
noncomputable def ACA(P:Program)(cs:Ψ Qi)(hs:FuncId->Ψ Hint)(n:Nat)(F:FuncId)(ds rs:Ψ Ty)(x:DL ds):Ω (DL rs):=
 match P.funcs[F]? with
 |some fn=>
  match fn.body with
  |some c=>match Nat.ble (yn ds x).length fn.ntmps with|true=>tG P cs (sA P cs hs n) fn.ntmps F (hs F) c (eE 0 (yn ds x)) [] (AKA P fn rs)|false=>ε
  |none=>ε
 |none=>ε
noncomputable def AEZ(P:Program)(cs:Ψ Qi)(hs:FuncId->Ψ Hint)(n:Nat)(F:FuncId)(pos:Nat)(bt:Ty)(ds rs:Ψ Ty)(b:bt.D)(x:DL ds):Ω (DL (rs++[bt])):=
 match P.funcs[F]? with
 |some fn=>
  match fn.body with
  |some c=>
   match Nat.ble (uv pos (.c (.raw (.ptr 0 0 0))) (yn ds x)).length fn.ntmps with
   |true=>tG P cs (sA P cs hs n) fn.ntmps F (hs F) c (eE 0 (uv pos (.c (.raw (.ptr 0 0 0))) (yn ds x))) [.live η (bt.lvs b)] (AKB P fn bt rs)
   |false=>ε
  |none=>ε
 |none=>ε
theorem eF:∀l i,B3 (eE i l)=env0 i (l.map TV.enc)
 |[],_=>rfl
 |v::r,i=>by have:=eF r (i+1);grind[B3,eE,env0]
def lE{H:As}:∀{l:Ψ TV}{i},(∀v∈l,v.ok H)->∀p∈eE i l,p.2.ok H
 |[],_,_,p,a=>by cases a
 |v::r,i,h,p,a=>by simp only[eE]at a;rcases Av.1 a with rfl|a;exact h v q!;exact lE (λw b=>h w (by simp[b])) p a
theorem mh{P}{env:Bj}{H:As}(d:∀p∈env,p.2.ok H)(c:∀e∈H,e.ok H):∀{l}{b:Ψ TV},oR P env H l=δ b->Tk P (B3 env) (BL H) l=δ (b.map TV.enc)/\∀v∈b,v.ok H
 |[],b,h=>by simp only[oR,Ar]at h;subst h;exact⟨rfl,λv g=>by cases g⟩
 |.tmp t::r,b,h=>by simp only[oR]at h;split at h;rename_i i f;obtain⟨q1,q2⟩:=mh d c f;grind[Tk,oS,VM,lV];cases h
 |.cell a t::r,b,h=>by simp only[oR]at h;split at h;rename_i i f;obtain⟨q1,q2⟩:=mh d c f;obtain⟨u,j,k,m⟩:=sS c (lV d a) h;grind[Tk,oS,VM];cases h
def vS{b:Func}(d:∀p∈j,p.2.ok c)(H:∀e∈c,e.ok c)(h:oR P j c b.results.toList=δ s):jW P b (B3 j) (BL c)=δ (rP (s.map TV.enc)):=by
 unfold jW;rw[(mh d H h).1];cases s with
 |nil=>rfl
 |cons v r=>
  cases r with
  |nil=>rfl
  |cons u r=>rfl
def xQ:∀a(b:Ψ TV)env,R3 (B3 env) a (b.map TV.enc)=B3 (AAS env a b)
 |[],_,_=>rfl
 |_::_,[],_=>rfl
 |t::a,v::b,env=>by simp only[B4,R3,AAS];rw[<-lC];exact xQ a b (env.put t v)
def AAT{H:As}:∀b(a:Ψ TV)(env:Bj),(∀p∈env,p.2.ok H)->(∀v∈a,v.ok H)->∀p∈AAS env b a,p.2.ok H
 |[],_,_,h,_=>h
 |_::_,[],_,h,_=>h
 |t::b,v::a,env,h,hv=>AAT b a (env.put t v) (cV (d:=δ t) h (hv v q!)) λu c=>hv u (by simp[c])
def AIM{H}{F n env ps a b}{s e}(h:(Dx.lp D F n env ps a b s).ok c):(Dx.lp H F n env ps a b e).ok M:=h
theorem ACc{F n env ps a b}{s s':LS}(h:c[N]?=δ (.lp η F n env ps a b s)):CE c (c.set N (.lp η F n env ps a b s')):=CE.set h rfl (λ_ _ _ _ _ h=>by cases h) λ_ _ _ _ _ _ _ _ e=>k!
def ABL{F n env ps a b}{s:LS}(h:c[N]?=δ (.lp D F n env ps a b s)):(BL c)[N]?=δ (.lp ⟨n,B3 env,ps,a,b,s.st,s.pend⟩):=by rw[EM,h];rfl
theorem ADn{P:Program}{cs:List Qi}(K: ∀c∈cs,c.Ok P){hs:FuncId→List Hint}{g:Su}(J:Wy P g){R:Type}{id:Nat}{S:List TV}{H:As}{k:TV→As→Option R}{r:R}(hv: ∀v∈S,v.ok H)(hH: ∀e∈H,e.ok H)
  (h:ABk P cs g hs id S H k=some r): ∃v d,zA P (S.map TV.enc) (BL H) v.enc (BL d) (.yd id)/\k v d=some r/\v.ok d/\(∀e∈d,e.ok d)/\CE H d:=by
 unfold ABk at h;split at h;rename_i F n env ps a b he;split at h;rename_i hb;simp only[Ba]at hb;have M: ∀p∈env,p.2.ok H:=λp hp x hx=>by
  have:=(hH _ (BO he)) p hp;cases x with
  |own i v t m=>grind
  |_=>trivial
 obtain⟨e,env1,T,a1,k1,w,s1⟩:=re (N:=n) K J F (hs F) a _ H _ r ⟨AAT ps.toList S env M hv,hH⟩ h;split at k1;split at k1;rename_i F1 n1 Y z U V s;have B:CE T _:=ACc (s':=.busy) s;obtain⟨x,env2,D,a2,j,O,s2⟩:=re (N:=n) K J F (hs F) b _ _ _ r ⟨B.env w.env,R0 B w.heap (AIM (w.heap _ (BO s)))⟩ k1;unfold AFs at j;split at j;rename_i F2 n2 Z A W X s0 u
 have l: ∀(v:Bool) (C:LS),k (.c (.bl v)) (D.set id (.lp false F2 n2 Z A W X C))=some r→(∀L:nJ,(BL D)[id]? =some (.lp L)→L=⟨n2,B3 Z,A,W,X,s0.st,s0.pend⟩→AFt id (DO (.bool v) (BL (D.set id (.lp false F2 n2 Z A W X C)))) x (B3 env2) (BL D))→
   ∃v d,zA P (S.map TV.enc) (BL H) v.enc (BL d) (.yd id)/\k v d=some r/\v.ok d/\(∀e∈d,e.ok d)/\CE H d:=by
  intro v C hk hq;have Q:CE D _:=ACc (s':=C) u;refine⟨.c (.bl v),_,?_,hk,Jw trivial,R0 Q O.heap (AIM (O.heap _ (BO u))),((s1.step.trans B).trans s2.step).trans Q⟩;intro N o c f env0 ho I hf q;apply JS.yield ho I hf (ABL he);grind[List.length,List.length_map,Array.length_toList,Nat.eq_of_beq_eq_true];simp_all;show J9 P n a (R3 (B3 env) ps.toList (c.args.toList.map (BR env0))) (BL H) _;rw[q,xQ];apply a1.awp.mono;rintro _ _ _ ⟨rfl,rfl,rfl⟩;refine⟨rfl,_,ABL s,rfl,?_⟩;have e3:(BL T).set id (.lp ⟨n1,B3 Y,z,U,V,.busy,LS.pend .ready⟩)=BL (T.set id (.lp false F1 n1 Y z U V .busy)):=by rw[LU];rfl
  show J9 P n b (B3 env1) ((BL T).set id (.lp ⟨n1,B3 Y,z,U,V,.busy,LS.pend .ready⟩)) _;rw[e3];apply a2.awp.mono;rintro _ _ _ ⟨rfl,rfl,rfl⟩;exact hq _ (ABL u) rfl
 split at j;refine l true .ready j λL G E=>⟨L,G,rfl,?_⟩
 subst E;rw[LU];rfl;refine l false .ret j λL G E=>⟨L,G,rfl,?_⟩
 subst E;rw[LU];rfl;rename_i y;refine l false (.exit y) j λL G E=>⟨L,G,rfl,?_⟩
 subst E;rw[LU];rfl;cases j;cases j;cases k1;cases k1;cases h;cases h
theorem kq{P}{j:Ψ Qi}(b:∀c∈j,c.Ok P){m:FuncId->Ψ Hint}:∀n,Wy P (sA P j m n)
 |0=>by grind[sA]
 |n+1=>by
  intro z A H k r p l h;cases z with
  |yd id=>exact ADn b (kq b n) p l h
  |fn F=>
  simp only[sA]at h;split at h;rename_i fn y;split at h;rename_i c w;split at h;rename_i hn;obtain⟨e,d,f,a1,k1,a,q⟩:=re (N:=fn.ntmps) b (kq b n) F (m F) c (eE 0 A) H _ r ⟨lE p,l⟩ h;unfold AKD at k1;split at k1;rename_i x;split at k1;rename_i s o;refine⟨one s,f,Kl y w t! ?_,k1,yL (mh a.env a.heap o).2,a.heap,q.step⟩;rw[<-eF];apply a1.awp.mono;rintro _ _ _ ⟨rfl,rfl,rfl⟩;have g:∃v t i,jW P fn (B3 d) (BL f)=δ v/\PE (BL H).length v (BL f) t i/\DO (one s).enc (BL f) t i:=⟨_,_,_,vS a.env a.heap o,PE.refl _ _ (by rw[Cb,Cb];exact q.step.len),by rw[tR],rfl⟩
  rename_i u;cases u<;>first|exact g|cases x
  cases k1;cases k1;cases h;cases h;cases h
def Dp.tup{b a}(h:Dp b a):Xg (.tup b) (.tup a):=by
 intro x c r;cases r with
 |tup g hr=>refine .tup (by rw[g,h.1]) λj i d f e=>?_;obtain⟨v,q1,q2⟩:=h.2 j i f;exact q2 _ _ (hr j v d q1 e)
def Xl{b}(h:Dp p b):Xg (rP p) (rP b):=by
 match p,b,h with
 |[],[],h=>exact Xg.refl _
 |[v],[w],h=>obtain⟨u,q1,q2⟩:=h.2 0 w rfl;simp at q1;subst q1;exact q2
 |v::u::r,w::x::s,h=>exact Dp.tup h
def P3:∀a x,∀v∈nu a x,Pure v
 |[],_,v,h=>by cases h
 |[t],x,v,h=>by simp only[nu,A5]at h;subst h;exact t.enc_pure x
 |t::u::r,x,v,h=>by simp only[nu]at h;rcases Av.1 h with rfl|h;exact t.enc_pure x.1;exact P3 (u::r) x.2 v h
def Yg(h:∀v∈p,Pure v):Pure (rP p):=by
 match p,h with
 |[],_=>rfl
 |[v],h=>exact h v q!
 |v::u::r,h=>exact(Dv _ _).2 h
theorem vU{a H2:As}(j:θ H2<=θ a)(hr:HR a H2 [])(i:nA (θ H2) H2=ζ){d}(l:Xg v d)(k:Pure d):PE (θ H2) v (BL a) d (BL H2):=by
 refine⟨by rw[Cb];exact Al _,λX h w c s r=>?_⟩;have q:=(HR.rel j hr (cx X h (BL a) w)).onto;have n:=s.rel q;have m:=(l _ c r).later q.later;have e:(BL H2++(BL a).drop (θ H2)).take (θ H2)=BL H2:=by grind[Cb]
 have b:θ H2<=(BL H2++(BL a).drop (θ H2)).length:=by simp[BL]
 have g:=n.trunc b (by rw[e];exact mT i);have f:=m.trunc b (ln k _);rw[e]at g f;exact⟨h,g,f,λ_ _=>⟨rfl,rfl,rfl⟩,λB o=>q.own B (jF (n0:=θ H2) k!)⟩
def sC{n}:∀{a b},ba n a=ζ->ba n b=ζ->ba n (a++b)=ζ
 |[],_,_,hb=>hb
 |x::r,b,ha,hb=>by obtain⟨c,e⟩:=wW ha;have d:=sC e hb;cases x<;>simp only[EW,ba,Ba,Rm]at c⊢ <;>first|exact d|exact⟨c,d⟩
mutual
theorem Ty.lvs_clo{n:Nat}:∀(t:Ty)x,ba n (t.lvs x)=ζ
 |.bool,_=>rfl
 |.int _,_=>rfl
 |.str,_=>rfl
 |.list _,_=>rfl
 |.arr _ _,_=>rfl
 |.prod ts,x=>ts.lvs_clo x
theorem Ss.lvs_clo{n:Nat}:∀(a:Ss)x,ba n (a.lvs x)=ζ
 |.one t,x=>t.lvs_clo x
 |.cons t a,x=>sC (t.lvs_clo x.1) (a.lvs_clo x.2)
end
def rS(h:∀v∈p,Pure v)(a:Nat->Nat):Ad.renL a p=p:=by
 rw[NS];conv=>rhs;rw[<-fi p]
 exact NT λv b=>(h v b).ren a
def uu{ρ:Nat->Nat}:∀{n}{v:Ad}{l:Ψ Ad},(∀v∈l,Pure v)->Ad.renL ρ (WT n v l)=WT n (v.ren ρ) l
 |0,v,l,h=>by simp only[WT,Ad.renL,rS h]
 |n+1,v,[],h=>rfl
 |n+1,v,x::l,h=>by have b:=uu (ρ:=ρ) (n:=n) (v:=v) (l:=l) λu a=>h u (CZ _ a);simp only[WT,Ad.renL,(h x JV).ren,b]
def wo:∀{n}{v u:Ad}{l},u∈WT n v l->u=v\/u∈l
 |0,v,u,l,h=>by simpa[WT]using h
 |n+1,v,u,[],h=>by simpa[WT]using h
 |n+1,v,u,x::l,h=>by simp only[WT]at h;rcases Av.1 h with rfl|h;exact .inr q!;rcases wo h with h|h;exact .inl h;exact .inr (by simp[h])
def zk:∀{n}{v}{l},(uv n v l).map TV.enc=WT n v.enc (l.map TV.enc)
 |0,_,_=>rfl
 |n+1,_,[]=>rfl
 |n+1,v,x::l=>by simp only[uv,B4,WT,zk]
def zl:∀{n}{v u:TV}{l},u∈uv n v l->u=v\/u∈l
 |0,v,u,l,h=>by simpa[uv]using h
 |n+1,v,u,[],h=>by simpa[uv]using h
 |n+1,v,u,x::l,h=>by simp only[uv]at h;rcases Av.1 h with rfl|h;exact .inr q!;rcases zl h with h|h;exact .inl h;exact .inr (by simp[h])
theorem sB{x}:∀v∈(t.enc x).cells,Pure v:=by
 intro v a;have h:=t.enc_pure x;cases b:t.enc x with
 |agg c=>rw[b]at a h;exact((Dv _ _).1 h) v a
 |_=>grind[Ad.cells]
def jK(a:Ty):∀c y b,Lq a c (ux a c y b)=(y,b)
 |[],_,_=>rfl
 |[_],_,_=>rfl
 |_::u::r,y,b=>by simp only[ux,Lq,jK a (u::r) y.2 b]
variable {P:Program}{cs:Ψ Qi}{hs:FuncId->Ψ Hint}{n:Nat}{F:FuncId}{ds rs:Ψ Ty}
def AI8{f:Func}(k:zm K=ζ)(ok:OO j c)(hr:oR P j c f.results.toList=δ s)(h:PE N (rP (s.map TV.enc)) (BL c) v B):
  AKg P f N (DO v B) K (B3 j) (BL c):=by
 have d:∃e b a,jW P f (B3 j) (BL c)=δ e/\PE N e (BL c) b a/\DO v B b a:=⟨_,_,_,vS ok.env ok.heap hr,h,rfl,rfl⟩
 cases K<;>first|exact d|cases k
def ACL{g:DL ds->Ω (DL rs)}(d:∀c∈cs,c.Ok P)(t:∀x,g x=ACA P cs hs n F ds rs x):(Qi.c0 F ds rs g).Ok P:=by
 intro x y a H;rw[t]at a;have key:Ek P F (nu ds x) [] (DO (rP (nu rs y)) []):=by unfold ACA at a;split at a;rename_i q s;split at a;rename_i c r;split at a;rename_i hn;obtain⟨e,o,z,a1,k1,l,B⟩:=re (N:=q.ntmps) d (kq d n) F (hs F) c (eE 0 (yn ds x)) [] _ y ⟨lE (oU ds x),λe i=>by cases i⟩ a;unfold AKA at k1;split at k1;rename_i i;split at k1;rename_i m u;obtain⟨f,w,p⟩:=QO (rW m) l;simp only at k1 f w p;split at k1;rename_i C k;apply Kl s r (by rw[<-ag,BT];exact PO hn);rw[<-ag,<-eF];refine J9.after (a1.awp.mono ?_);rintro _ _ _ ⟨rfl,rfl,rfl⟩;exact⟨_,_,(p _).of_le (BV _),AI8 i f k (vU (H2:=[]) (BV _) (λj A _ h=>by cases h) rfl (Xl (Zb k1)) (Yg (P3 rs y)))⟩;cases k1;cases k1;cases k1;cases a;cases a;cases a
 exact Ek.frame (H:=H) [] key RE rfl rfl (λj b e h=>by cases h) (λe h=>by cases h) (λe h=>by cases h) (Yg (P3 rs y)) (rS (P3 ds x) _) ((Dv _ _).2 λv k=>(P3 ds x v k).all _)
theorem AGy{g:t.D->DL ds->Ω (DL (rs++[t]))}(m:∀c∈cs,c.Ok P)(T:∀b x,g b x=AEZ P cs hs n F N t ds rs b x):(Qi.c1 F N t ds rs g).Ok P:=by
 intro b x y f H id V;rw[T]at f;have key:∃r i,y=ux t rs r i/\Ek P F (WT N (.ptr 0 0 0) (nu ds x)) [.live 0 (t.enc b).cells] (DO (rP (nu rs r)) [.live 0 (t.enc i).cells]):=by
  unfold AEZ at f;split at f;rename_i M S;split at f;rename_i c R;split at f;rename_i hn;have a:OO (eE 0 (uv N (.c (.raw (.ptr 0 0 0))) (yn ds x))) [.live η (t.lvs b)]:=by refine⟨lE λv d=>?_,λe s=>?_⟩;rcases zl d with rfl|d;exact Jw trivial;grind[oU];rw[A5.1 s];exact t.lvs_ok b
  obtain⟨e,l,G,a1,k1,u,E⟩:=re (N:=M.ntmps) m (kq m n) F (hs F) c _ _ _ y a f;unfold AKB at k1;split at k1;rename_i s;split at k1;rename_i z W;generalize C:(rW z++_)=ids at k1;obtain⟨k,w,A⟩:=QO ids u;generalize IM ids l G=fz at k1 k w A;obtain⟨ef,U⟩:=fz;simp only at k1 k w A;split at k1;rename_i vs Y I d O;split at k1;rename_i r i hr q;injection k1 with k1;refine⟨r,i,k1.symm,?_⟩;have J:BL [.live η (t.lvs b)]=[.live 0 (t.enc b).cells]:=by simp only[BL,B4,Hj,Dx.enc,t.lvs_enc]
  have K:BL [.live η (t.lvs i)]=[.live 0 (t.enc i).cells]:=by simp only[BL,B4,Hj,Dx.enc,t.lvs_enc]
  have L:WT N (.ptr 0 0 0) (nu ds x)=(uv N (.c (.raw (.ptr 0 0 0))) (yn ds x)).map TV.enc:=by rw[zk,ag];rfl
  rw[<-J,<-K,L];apply Kl S R (by rw[BT];exact PO hn);rw[<-eF];refine J9.after (a1.awp.mono ?_);rintro _ _ _ ⟨rfl,rfl,rfl⟩;have o:1<=θ U:=Cl E.step.len w.step.len;refine⟨_,_,(A _).of_le (by rw[Cb,Cb];exact E.step.len),AI8 s k d ?_⟩;rw[Cb];refine vU (H2:=[.live η (t.lvs i)]) o (λj Z _ h=>?_) (by simp only[nA,t.lvs_clo,YY]) (Xl (Zb hr)) (Yg (P3 rs r));match j,h with
  |0,h=>simp only[cy,Ar]at h;subst h;refine⟨_,O,.inr (.inl ⟨_,_,_,_,rfl,rfl,?_⟩)⟩;rw[t.lvs_enc];exact F3 q
  |j+1,h=>grind
  cases k1;cases k1;cases k1;cases k1;cases f;cases f;cases f
 obtain⟨r,i,rfl,key⟩:=key;rw[jK];have Q:Ad.renL ([id].getD · 0) (WT N (.ptr 0 0 0) (nu ds x))=WT N (.ptr id 0 0) (nu ds x):=by rw[uu (P3 ds x)];rfl
 exact Ek.frame (H:=H) [id] key (G4.2 ⟨q!,RE⟩) rfl rfl (λj X e p B=>by
   match j,p,B with
   |0,p,B=>grind[List.getElem?_cons_zero,Option.some.injEq]
   |j+1,p,_=>simp at p) (λe h=>by
   rw[A5.1 h];exact(Dv _ _).2 λv d=>sB v d) (λe h=>by
   rw[A5.1 h];exact(Dv _ _).2 λv d=>sB v d) (Yg (P3 rs r)) Q ((Dv _ _).2 λv d=>by
   rcases wo d with rfl|d;rfl;exact(P3 ds x v d).all _)
end Go.Ab
namespace Go.Ab
def iz:Ψ (Nat×Ψ Hint)->FuncId->Ψ Hint
 |[],_=>[]
 |(k,h)::r,F=>match ξ k F with|true=>h|false=>iz r F
theorem CC{P}:∀c∈([]:Ψ Qi),c.Ok P:=k!
variable {R:Type}{q:Ψ Qi}
theorem A9{P}{c:Qi}(h:c.Ok P)(b:∀c∈q,c.Ok P):∀d∈c::q,d.Ok P:=k!
def wi(a:Int):Int:=ι .i64 a
abbrev len{α:Type}(l:Ψ α):Int:=(θ l:Int)
def pI{A B:Type}(f:(A->Ω B)->A->Ω B):Nat->A->Ω B
 |0,_=>ε
 |n+1,x=>f (pI f n) x
noncomputable def tB{A B:Type}(f:(A->Ω B)->A->Ω B)(x:A):Ω B:=open Classical in if h:∃r n,pI f n x=δ r then δ h.choose else ε
theorem eG{B:Type}{f:(R->Ω B)->R->Ω B}{x:R}{r:B}(h:tB f x=δ r):∃n,pI f n x=δ r:=by unfold tB at h;split at h<;>grind
theorem iG{B:Type}{f:(R->Ω B)->R->Ω B}{x:R}{r:B}{n}(h:pI f n x=δ r):∃s,tB f x=δ s:=by unfold tB;rw[dif_pos ⟨r,n,h⟩];grind
def AG0{P:Program}{hs:FuncId→Ψ Hint}{n:Nat}{F:FuncId}{ds rs:Ψ Ty}{f:(DL ds→Ω (DL rs))→DL ds→Ω (DL rs)}(b:∀c∈q,c.Ok P)
  (e:∀g x,f g x=ACA P (.c0 F ds rs g::q) hs n F ds rs x):(Qi.c0 F ds rs (tB f)).Ok P:=by
 have key:∀m,(Qi.c0 F ds rs (pI f m)).Ok P:=by
  intro m;induction m with
  |zero=>intro x y d;cases d
  |succ m i=>exact ACL (cs:=.c0 F ds rs (pI f m)::q) (A9 i b) λx=>e (pI f m) x
 intro x y d;obtain⟨m,h⟩:=eG d;exact key m x y h
end Go.Ab
