/- Texts of wip, joined and shortened by wip/tools/pack.py; nothing is assumed. -/
import Derived.Test.YtdbincbpjobdpaaGreatK4
import Derived.KernelRfl
import Derived.ProofKit
import Derived.Shelf.SlSortCmp.InsertionK
noncomputable section
set_option linter.all false
open Option renaming some->Z
open List renaming length->U
open Go renaming Ψ->S
open Bool renaming false->Y
open Bool renaming true->V
open Option renaming none->W
open Go renaming Ω->T
open Option renaming some->δ,none->ε,bind->σ
open Bool renaming true->ζ,false->η
open List renaming length->θ,replicate->ς
open Go.IntKind renaming wrap->ι
open Sum renaming elim->ν
open Nat renaming beq->ξ
open Decidable renaming decide->τ
namespace Go.Ab
def rL{n}:∀{a b:S Bu},bE n a=V->bE n b=V->bE n (a++b)=V
 |[],_,_,hb=>hb
 |x::r,b,ha,hb=>by obtain⟨c,e⟩:=wL ha;have d:=rL e hb;cases x<;>simp only[ET,bE,BV,RQ]at c⊢ <;>first|exact d|exact⟨c,d⟩
mutual
theorem Ty.lvs_clo{n:Nat}:∀(t:Ty)(x:t.D),bE n (t.lvs x)=V
 |.bool,_=>rfl
 |.int _,_=>rfl
 |.str,_=>rfl
 |.list _,_=>rfl
 |.arr _ _,_=>rfl
 |.prod ts,x=>ts.lvs_clo x
theorem SM.lvs_clo{n:Nat}:∀(a:SM)(x:a.D),bE n (a.lvs x)=V
 |.one t,x=>t.lvs_clo x
 |.cons t a,x=>rL (t.lvs_clo x.1) (a.lvs_clo x.2)
end
variable {a g:Type}{n:Nat}{F:FuncId}{P:Program}{b:Int}{c:S Qd}{d:World}{e:Ty}{f:Bool}{h:Ad}{i:S Ad}{j:IntKind}{k:Value}
def qt(h:∀v∈i,Pure v)(a:Nat->Nat):Ad.renL a i=i:=by
 rw[Of];conv=>rhs;rw[<-fJ i]
 exact M9 λv b=>(h v b).ren a
def ud{ρ:Nat->Nat}:∀{n:Nat}{v:Ad}{l:S Ad},(∀v∈l,Pure v)->Ad.renL ρ (V6 n v l)=V6 n (v.ren ρ) l
 |0,v,l,h=>by simp only[V6,Ad.renL,qt h]
 |n+1,v,[],h=>rfl
 |n+1,v,x::l,h=>by have b:=ud (ρ:=ρ) (n:=n) (v:=v) (l:=l) λu a=>h u (Ch _ a);simp only[V6,Ad.renL,(h x KW).ren,b]
def wc:∀{n:Nat}{v u:Ad}{l:S Ad},u∈V6 n v l->u=v\/u∈l
 |0,v,u,l,h=>by simpa[V6]using h
 |n+1,v,u,[],h=>by simpa[V6]using h
 |n+1,v,u,x::l,h=>by simp only[V6]at h;rcases Aw.1 h with rfl|h;exact .inr q!;rcases wc h with h|h;exact .inl h;exact .inr (by simp[h])
def zW:∀{n:Nat}{v:TV}{l:S TV},(ue n v l).map TV.enc=V6 n v.enc (l.map TV.enc)
 |0,_,_=>rfl
 |n+1,_,[]=>rfl
 |n+1,v,x::l=>by simp only[ue,CQ,V6,zW]
def zX:∀{n:Nat}{v u:TV}{l:S TV},u∈ue n v l->u=v\/u∈l
 |0,v,u,l,h=>by simpa[ue]using h
 |n+1,v,u,[],h=>by simpa[ue]using h
 |n+1,v,u,x::l,h=>by simp only[ue]at h;rcases Aw.1 h with rfl|h;exact .inr q!;rcases zX h with h|h;exact .inl h;exact .inr (by simp[h])
theorem rK{x}:∀v∈(e.enc x).cells,Pure v:=by
 intro v a;have h:=e.enc_pure x;cases b:e.enc x with
 |agg c=>rw[b]at a h;exact((Dy _ _).1 h) v a
 |_=>grind[Ad.cells]
def iV(a:Ty):∀(c:S Ty)(y:DL c)(b:a.D),Lc a c (uh a c y b)=(y,b)
 |[],_,_=>rfl
 |[_],_,_=>rfl
 |_::u::r,y,b=>by simp only[uh,Lc,iV a (u::r) y.2 b]
variable {P:Program}{cs:S Qd}{hs:FuncId->S Hint}{n:Nat}{F:FuncId}{ds rs:S Ty}
def AI0{f:Func}{e}{env}{H}{j:S TV}{c}(k:zY e=V)(ok:N3 env H)(hr:nq P env H f.results.toList=Z j)(g:Oq n (qp (j.map TV.enc)) (BK H) h c):
  AKZ P f n (DT h c) e (By env) (BK H):=by
 have d:∃v b a,iv P f (By env) (BK H)=Z v/\Oq n v (BK H) b a/\DT h c b a:=⟨_,_,_,vG ok.env ok.heap hr,g,rfl,rfl⟩
 cases e<;>first|exact d|cases k
def AB1{g:DL ds->T (DL rs)}(d:∀c∈cs,c.Ok P)(t:∀x,g x=ABq P cs hs n F ds rs x):(Qd.c0 F ds rs g).Ok P:=by
 intro x y a H;rw[t]at a;have key:Ei P F (nK ds x) [] (DT (qp (nK rs y)) []):=by unfold ABq at a;split at a;rename_i q s;split at a;rename_i c r;split at a;rename_i hn;obtain⟨e,o,z,a1,k1,l,B⟩:=qz (N:=q.ntmps) d (kC d n) F (hs F) c (da 0 (yh ds x)) [] _ y ⟨kK (nv ds x),λe i=>by cases i⟩ a;unfold AJ5 at k1;split at k1;rename_i i;split at k1;rename_i m u;obtain⟨f,w,p⟩:=RZ (qw m) l;simp only at k1 f w p;split at k1;rename_i C k;apply Ke s r (by rw[<-aO,BW];exact O2 hn);rw[<-aO,<-db];refine J1.after (a1.awp.mono ?_);rintro _ _ _ ⟨rfl,rfl,rfl⟩;exact⟨_,_,(p _).of_le (BR _),AI0 i f k (vI (H2:=[]) (BR _) (λj A _ h=>by cases h) rfl (XO (ZJ k1)) (YR (Ph rs y)))⟩;cases k1;cases k1;cases k1;cases a;cases a;cases a
 exact Ei.frame (H:=H) [] key Qq rfl rfl (λj b e h=>by cases h) (λe h=>by cases h) (λe h=>by cases h) (YR (Ph rs y)) (qt (Ph ds x) _) ((Dy _ _).2 λv k=>(Ph ds x v k).all _)
theorem AGi{pos}{g:e.D->DL ds->Ω (DL (rs++[e]))}(m:∀c∈cs,c.Ok P)(T:∀b x,g b x=AEI P cs hs n F pos e ds rs b x):(Qd.c1 F pos e ds rs g).Ok P:=by
 intro b x y f H id V_;rw[T]at f;have key:∃r i,y=uh e rs r i/\Ei P F (V6 pos (.ptr 0 0 0) (nK ds x)) [.live 0 (e.enc b).cells] (DT (qp (nK rs r)) [.live 0 (e.enc i).cells]):=by
  unfold AEI at f;split at f;rename_i M S;split at f;rename_i c R;split at f;rename_i hn;have t:N3 (da 0 (ue pos (.c (.raw (.ptr 0 0 0))) (yh ds x))) [.live η (e.lvs b)]:=by refine⟨kK λv d=>?_,λa s=>?_⟩;rcases zX d with rfl|d;exact J3 trivial;grind[nv];rw[A9.1 s];exact e.lvs_ok b
  obtain⟨a,l,G,a1,k1,u,E⟩:=qz (N:=M.ntmps) m (kC m n) F (hs F) c _ _ _ y t f;unfold AJ6 at k1;split at k1;rename_i s;split at k1;rename_i z W_;generalize C:(qw z++_)=ids at k1;obtain⟨k,w,A⟩:=RZ ids u;generalize Iq ids l G=fz at k1 k w A;obtain⟨ef,U⟩:=fz;simp only at k1 k w A;split at k1;rename_i vs Y_ I d O;split at k1;rename_i r i hr q;injection k1 with k1;refine⟨r,i,k1.symm,?_⟩;have J:BK [.live η (e.lvs b)]=[.live 0 (e.enc b).cells]:=by simp only[BK,CQ,Hi,D0.enc,e.lvs_enc]
  have K:BK [.live η (e.lvs i)]=[.live 0 (e.enc i).cells]:=by simp only[BK,CQ,Hi,D0.enc,e.lvs_enc]
  have L:V6 pos (.ptr 0 0 0) (nK ds x)=(ue pos (.c (.raw (.ptr 0 0 0))) (yh ds x)).map TV.enc:=by rw[zW,aO];rfl
  rw[<-J,<-K,L];apply Ke S R (by rw[BW];exact O2 hn);rw[<-db];refine J1.after (a1.awp.mono ?_);rintro _ _ _ ⟨rfl,rfl,rfl⟩;have o:1<=θ U:=CK E.step.len w.step.len;refine⟨_,_,(A _).of_le (by rw[CZ,CZ];exact E.step.len),AI0 s k d ?_⟩;rw[CZ];refine vI (H2:=[.live η (e.lvs i)]) o (λj Z_ _ h=>?_) (by simp only[mL,e.lvs_clo,YH]) (XO (ZJ hr)) (YR (Ph rs r));match j,h with
  |0,h=>simp only[cN,Ao]at h;subst h;refine⟨_,O,.inr (.inl ⟨_,_,_,_,rfl,rfl,?_⟩)⟩;rw[e.lvs_enc];exact F5 q
  |j+1,h=>grind
  cases k1;cases k1;cases k1;cases k1;cases f;cases f;cases f
 obtain⟨r,i,rfl,key⟩:=key;rw[iV];have Q:Ad.renL ([id].getD · 0) (V6 pos (.ptr 0 0 0) (nK ds x))=V6 pos (.ptr id 0 0) (nK ds x):=by rw[ud (Ph ds x)];rfl
 exact Ei.frame (H:=H) [id] key (G3.2 ⟨q!,Qq⟩) rfl rfl (λj X a p B=>by
   match j,p,B with
   |0,p,B=>grind[List.getElem?_cons_zero,Option.some.injEq]
   |j+1,p,_=>simp at p) (λa h=>by
   rw[A9.1 h];exact(Dy _ _).2 λv d=>rK v d) (λa h=>by
   rw[A9.1 h];exact(Dy _ _).2 λv d=>rK v d) (YR (Ph rs r)) Q ((Dy _ _).2 λv d=>by
   rcases wc d with rfl|d;rfl;exact(Ph ds x v d).all _)
end Go.Ab
namespace Go.Ab
def iJ:S (Nat×S Hint)->FuncId->S Hint
 |[],_=>[]
 |(k,h)::r,F=>match ξ k F with|true=>h|false=>iJ r F
theorem CD{P}:∀c∈([]:S Qd),c.Ok P:=k!
variable {a g:Type}{n:Nat}{F:FuncId}{P:Program}{b:Int}{c:S Qd}{d:World}{e:Ty}{f:Bool}{h:Ad}{i:S Ad}{j:IntKind}{k:Value}
theorem BA{P}{a:Qd}(h:a.Ok P)(b:∀a∈c,a.Ok P):∀d∈a::c,d.Ok P:=k!
def wi(a:Int):Int:=ι .i64 a
abbrev len{α:Type}(l:S α):Int:=(U l:Int)
def om{A B:Type}(f:(A->T B)->A->T B):Nat->A->T B
 |0,_=>W
 |n+1,x=>f (om f n) x
noncomputable def sQ{A B:Type}(f:(A->T B)->A->T B)(x:A):T B:=open Classical in if h:∃r n,om f n x=Z r then Z h.choose else W
theorem dc{f:(a->T g)->a->T g}{x:a}{r:g}(h:sQ f x=Z r):∃n,om f n x=Z r:=by unfold sQ at h;split at h<;>grind
theorem gY{f:(a->T g)->a->T g}{x:a}{r:g}{n}(h:om f n x=Z r):∃s,sQ f x=Z s:=by unfold sQ;rw[dif_pos ⟨r,n,h⟩];grind
def AGk{P:Program}{hs:FuncId→S Hint}{n:Nat}{F:FuncId}{ds rs:S Ty}{f:(DL ds→T (DL rs))→DL ds→T (DL rs)}(b:∀a∈c,a.Ok P)
  (e:∀g x,f g x=ABq P (.c0 F ds rs g::c) hs n F ds rs x):(Qd.c0 F ds rs (sQ f)).Ok P:=by
 have key:∀m,(Qd.c0 F ds rs (om f m)).Ok P:=by
  intro m;induction m with
  |zero=>intro x y d;cases d
  |succ m i=>exact AB1 (cs:=.c0 F ds rs (om f m)::c) (BA i b) λx=>e (om f m) x
 intro x y d;obtain⟨m,h⟩:=dc d;exact key m x y h
def AJ7(P:Program)(fn:Func)(te:Ty)(rs:S Ty):Exit->Bf->Ar->T (DL (rs++[.list te])):=λe env H=>
 match zY e with
 |true=>
  match nq P env H fn.results.toList with
  |some vs0=>
   match Iq ((qw vs0).filter λi=>! ξ i 0) env H with
   |(ef,hf)=>
    match nq P ef hf fn.results.toList,(hf[0]? :T D0)with
    |some vs,Z (.buf _ t l _ _)=>if h:(Ty.list t).beq (Ty.list te)=V then(match inp rs vs with|some y=>Z (uh (.list te) rs y (Ty.cast h l))|none=>W)else W
    |_,_=>W
  |none=>W
 |false=>W
def fnC:Ad->Bool
 |.fn (.func _) [] []=>V
 |_=>Y
def yy(te:Ty)(ds:S Ty)(post:S Ad)(l:S te.D)(x:DL ds):S TV:=.c (.own 0 0 te (U l))::(yh ds x++post.map λv=>.c (.raw v))
noncomputable def AEJ(P:Program)(cs:S Qd)(hs:FuncId->S Hint)(n:Nat)(F:FuncId)(te:Ty)(ds rs:S Ty)(post:S Ad)(l:S te.D)(x:DL ds):T (DL (rs++[.list te])):=
 match P.funcs[F]? with
 |some fn=>
  match fn.body with
  |some c=>
   match Nat.ble (yy te ds post l x).length fn.ntmps&&post.all fnC with
   |true=>sV P cs (rJ P cs hs n) fn.ntmps F (hs F) c (da 0 (yy te ds post l x)) [.buf Y te l (U l) 0] (AJ7 P fn te rs)
   |false=>W
  |none=>W
 |none=>W
theorem AI3(v:fnC h=V):∃F,h=.fn (.func F) [] []:=by unfold fnC at v;grind
def AEi(v:fnC h=V):Pure h:=by obtain⟨F,rfl⟩:=AI3 v;rfl
variable {P:Program}{cs:S Qd}{hs:FuncId->S Hint}{n:Nat}{F:FuncId}{ds rs:S Ty}{te:Ty}{post:S Ad}
def ACq(l:S te.D)(x:DL ds):(yy te ds post l x).map TV.enc=.sl 0 (U l) te.sz 0 (U l)::(nK ds x++post):=by
 have e:(post.map λv=>TV.c (.raw v)).map TV.enc=post:=by
  rw[Oz];conv=>rhs;rw[<-fJ post]
  exact M9 λv _=>rfl
 simp only[yy,CQ,LD,aO,e];rfl
theorem RW{g:Ψ te.D->DL ds->Ω (DL (rs++[.list te]))}(t:∀c∈cs,c.Ok P)(hg:∀l x,g l x=AEJ P cs hs n F te ds rs post l x):(Qd.c2 F te ds rs post g).Ok P:=by
 intro l x y k d H id C;rw[hg]at k;have key:∃r m,y=uh (.list te) rs r m/\(∀v∈post,Pure v)/\Ei P F (.sl 0 (θ l) te.sz 0 (θ l)::(nK ds x++post)) [.live (θ l) (te.E.cl l)] (DT (qp (nK rs r)) [.live (θ m) (te.E.cl m)]):=by
  unfold AEJ at k;split at k;rename_i fn hf;split at k;rename_i c hb;split at k;rename_i hn;simp only[BV]at hn;have b:∀v∈post,Pure v:=λv a=>AEi (GN.1 hn.2 v a);have w:([D0.buf η te l (θ l) 0]:Ar)[0]?=δ (.buf η te l (θ l) 0):=rfl;have K:N3 (da 0 (yy te ds post l x)) [.buf η te l (θ l) 0]:=by refine⟨kK λv a=>?_,λe B=>?_⟩;rcases Aw.1 a with rfl|a;exact J3 (Wd w);rcases Am.1 a with a|a;grind[nv];obtain⟨u,_,rfl⟩:=Bn.1 a;exact J3 trivial;rw[A9.1 B];exact rfl
  obtain⟨e,s,W_,a1,k1,L,U⟩:=qz (N:=fn.ntmps) t (kC t n) F (hs F) c _ _ _ y K k;unfold AJ7 at k1;split at k1;rename_i B;split at k1;rename_i O ad;generalize T:((qw O).filter _)=ids at k1;obtain⟨o,M,Q⟩:=RZ ids L;generalize Iq ids s W_=fz at k1 o M Q;obtain⟨ef,hh⟩:=fz;simp only at k1 o M Q;split at k1;rename_i vs X q l1 J V_ a R;split at k1;rename_i z;split at k1;rename_i r hr;injection k1 with k1;have i:=Ty.beq_eq _ _ z;injection i with i;subst i;have p:(Ty.cast z l1:Ψ q.D)=l1:=rfl;rw[p]at k1;have I:J=θ l1:=o.heap _ (BN R);refine⟨r,l1,k1.symm,b,?_⟩;have Y_:BK [.buf η q l (θ l) 0]=[.live (θ l) (q.E.cl l)]:=rfl;have Z_:BK [.buf η q l1 J V_]=[.live (θ l1) (q.E.cl l1)]:=by rw[<-I];rfl
  rw[<-Y_,<-Z_,<-ACq];apply Ke hf hb (by rw[BW];exact O2 hn.1);rw[<-db];refine J1.after (a1.awp.mono ?_);rintro _ _ _ ⟨rfl,rfl,rfl⟩;have G:1<=θ hh:=CK U.step.len M.step.len;refine⟨_,_,(Q _).of_le (by rw[CZ,CZ];exact U.step.len),AI0 B o a ?_⟩;rw[CZ];refine vI (H2:=[.buf η q l1 J V_]) G (λj e' _ h=>?_) rfl (XO (ZJ hr)) (YR (Ph rs r));match j,h with
  |0,h=>simp only[cN,Ao]at h;subst h;exact⟨_,R,.inr (.inr (.inl ⟨_,_,_,_,_,_,_,rfl,rfl⟩))⟩
  |j+1,h=>simp at h
  cases k1;cases k1;cases k1;cases k1;cases k1;cases k;cases k;cases k
 obtain⟨r,m,rfl,b,key⟩:=key;rw[iV]at d⊢;simp only at d⊢;rw[<-d];rw[<-d]at C key;have f:∀v∈nK ds x++post,Pure v:=λv a=>(Am.1 a).elim (Ph ds x v) (b v);have ha:Ad.renL ([id].getD · 0) (.sl 0 (θ m) te.sz 0 (θ m)::(nK ds x++post))=.sl id (θ m) te.sz 0 (θ m)::(nK ds x++post):=by simp only[Ad.renL,qt f];rfl
 exact Ei.frame (H:=H) [id] key (G3.2 ⟨q!,Qq⟩) rfl rfl (λj X e A S=>by
   match j,A,S with
   |0,A,S=>grind[List.getElem?_cons_zero,Option.some.injEq]
   |j+1,A,_=>simp at A) (λe h=>by
   rw[A9.1 h];exact(Dy _ _).2 (xg te l)) (λe h=>by
   rw[A9.1 h];exact(Dy _ _).2 (xg te m)) (YR (Ph rs r)) ha ((Dy _ _).2 λv a=>by
   rcases Aw.1 a with rfl|a;rfl;exact(f v a).all _)
def uB{f:(S te.D×DL ds→T (DL (rs++[.list te])))→S te.D×DL ds→T (DL (rs++[.list te]))}(a:∀c∈cs,c.Ok P)
  (d:∀g l x,f g (l,x)=AEJ P (.c2 F te ds rs post (λl x=>g (l,x))::cs) hs n F te ds rs post l x):(Qd.c2 F te ds rs post λl x=>sQ f (l,x)).Ok P:=by
 have key:∀m,(Qd.c2 F te ds rs post λl x=>om f m (l,x)).Ok P:=by
  intro m;induction m with
  |zero=>intro l x y b;cases b
  |succ m h=>exact RW (cs:=.c2 F te ds rs post (λl x=>om f m (l,x))::cs) (BA h a) λl x=>d (om f m) l x
 intro l x y b;obtain⟨m,e⟩:=dc b;exact key m l x y e
end Go.Ab
namespace Go.Ab
def clW(fn:Func):Nat->String:=λi=>
 match fn.body with
 |some (.seq (.region _ a _) (.seq (.seq (.region _ b _) (.cond _ (.seq (.region _ c _) _) _)) (.seq (.region _ d _) _)))=>(((a++b++c++d)[i]?).map (·.pos)).getD default
 |_=>default
def ACx(t b:TypeId)(w:Nat->String):Code:=
 .seq (.region 0 #[⟨Z 2,.assign (.const (.slice W 0 0)),t,w 0, #[],W⟩] Y)
  (.seq (.seq (.region 1 #[⟨Z 3,.move (.tmp 0),t,w 1, #[],W⟩,⟨Z 4,.binOp .eql t (.tmp 3) (.const (.slice W 0 0)) t,b,w 2, #[⟨0,.data⟩],W⟩] Y)
    (.cond (.tmp 4) (.seq (.region 2 #[⟨Z 2,.assign (.const (.slice W 0 0)),t,w 3, #[],W⟩] Y) .ret) .skip))
   (.seq (.region 3 #[⟨Z 5,.buildSlice t 0 #[],t,w 4, #[],W⟩,⟨Z 6,.move (.tmp 0),t,w 5, #[],W⟩,
     ⟨Z 7,.call {callee:=.builtin .append,args:= #[.tmp 5,.tmp 6],argTypes:= #[t,t]},t,w 6, #[⟨0,.data⟩,⟨1,.data⟩],W⟩,
     ⟨Z 2,.assign (.tmp 7),t,w 7, #[⟨2,.data⟩,⟨2,.chain⟩,⟨0,.phase⟩,⟨1,.phase⟩,⟨2,.phase⟩],W⟩] Y) .ret))
def Oq.none{n0:Nat}{H:Au}{id g sz off:Nat}(hn:n0<=U H)(b:id<U H)(k:0<sz):Oq n0 (.sl id g sz off 0) H (.vs sz []) (H.set id .dead):=by
 refine⟨by simpa using hn,λX h w c s r=>?_⟩;obtain⟨p,t⟩:=s.kill b;refine⟨h,p,?_,λ_ _=>⟨rfl,rfl,rfl⟩,λB o=>?_⟩;cases r with
 |sl l m n q=>obtain⟨a,cap,rfl⟩:=n;exact Bw.vs (rows:=[]) (λ_ _=>undef) (BR _) k (λj e h=>by simp at h) (λh=>(h rfl).elim) (λj e i v h=>by simp at h)
 obtain⟨i,e,l,d,m⟩:=o;rcases Jp b l with⟨_,f⟩|⟨rfl,rfl⟩;exact⟨i,e,f,d,m⟩;exact(d rfl).elim
variable {a g:Type}{n:Nat}{F:FuncId}{P:Program}{b:Int}{c:S Qd}{d:World}{e:Ty}{f:Bool}{i:S Ad}{j:IntKind}{k:Value}
theorem AEO{P:Program}{F:FuncId}{t b:TypeId}{a:Ty}(o:(P.funcs[F]?).map (λx=>(x.body,x.ntmps,x.results))=some (some (ACx t b (((P.funcs[F]?).map clW).getD (λ_=>default))),8, #[.tmp 2]))(I:elT P t=some a)(j:iQ 0 a #[] []=true):(Qd.cl F a).Ok P:=by
 generalize ((P.funcs[F]?).map clW).getD (λ_=>default)=w at o;obtain⟨x,T,B⟩:=TU.1 o;injection B with O B;injection B with hn hr;intro l H U;obtain⟨e,A,u⟩:=kH I;have J:=(Qw A).1;have z: ∀env,TB P env t 0 #[]=some (a.sz,[]):=by intro env;unfold TB;simp only[A];refine if_pos ⟨a.sz_pos,u,rfl,rfl,BR _,?_⟩;unfold iQ at j;simp only[BV]at j;exact O2 j.2
 have main: ∀Q:Ad→Au→Prop,(l=[]→Q (.vs a.sz []) (BK (H++[.dead])))→(∀r,l≠ []→app [] l=some r→Q (.sl H.length r.length a.sz 0 r.length) (BK (H++[.buf false a r r.length 0])))→
   (l=[]\/ ∃r,app [] l=some r)->Ei P F [.vs a.sz (l.map a.enc)] (BK H) Q:=by
  intro Q L M f;refine Ke T O (by rw[hn];simp) ?_;rw[hn];refine J1.seq (F4 rfl (XJ.cons rfl (Dw (v:=.nils) rfl (XJ.nil (J1.seq (J1.seq (F4 rfl (XJ.cons rfl (Dw (v:=.vs a.sz (l.map a.enc)) rfl (XJ.cons rfl (uP (sz:=a.sz) (rows:=l.map a.enc) rfl J rfl λK S=>XJ.nil ?_)))))))))));have k:K=true->l=[]:=λh=>by by_cases i:l=[]<;>simp_all
  have d:(BK H++[Fx.live 0 []]).set (BK H).length Fx.dead=BK (H++[.dead]):=by simp_all[TR,Al,G5,BK,D0.enc]
  refine J1.cond (b:=K) rfl (λy=>?_) (λR=>?_)
  ·refine J1.seq (F4 rfl (XJ.cons rfl (Dw (v:=.nils) rfl (XJ.nil (J1.weak (Fb.virt (t:=2) (sz:=a.sz) rfl) (J1.ret (⟨.sl (BK H).length 0 a.sz 0 0,.vs a.sz [],(BK H++[Fx.live 0 []]).set (BK H).length Fx.dead,by simp[iv,hr,TK,nr,Env.putO,Env.put,Env.get],Oq.none (by simp) (by simp) a.sz_pos,?_⟩)))))));rw[d];exact L (k y)
  ·refine J1.skip (J1.seq (F4 rfl (XJ.cons rfl (T7 (sz:=a.sz) (vs:=[]) rfl (z _) (XJ.cons rfl (Dw (v:=.vs a.sz (l.map a.enc)) rfl (XJ.cons rfl ?_)))))));have G:KV (BK H++[Fx.live 0 []]) a.sz (.vs a.sz (l.map a.enc))=some (l.length,a.E.cl l):=by simp only[KV,if_true,BW];rfl
   have p:0+l.length<=16777216:=by
    rcases f with rfl|⟨r,hr⟩
    ·simp
    ·obtain⟨M,_⟩:=oJ hr;simpa using M
   refine SE (sx:=.tmp 5) (xx:=.tmp 6) (H:=BK H++[Fx.live 0 []]) (id:=(BK H).length) (g:=0) (g':=l.length) (n:=0) (cs:=[]) (m:=l.length) (news:=a.E.cl l) rfl A a.sz_pos u rfl (by simp) (by simp) G p (by
    rcases WF l.length with q|q
    ·exact .inr ⟨q,q⟩
    ·exact .inl q) ?_
   refine XJ.cons rfl (Dw (v:=.sl (BK H).length l.length a.sz 0 (0+l.length)) rfl (XJ.nil (J1.ret ?_)));have N:(BK H++[Fx.live 0 []]).set (BK H).length (.live l.length ([]++a.E.cl l))=BK (H++[.buf false a l l.length 0]):=by simp_all[TR,Al,G5,BK,D0.enc]
   by_cases i:l=[]
   ·subst i;refine⟨.sl (BK H).length 0 a.sz 0 0,.vs a.sz [],(BK H++[Fx.live 0 []]).set (BK H).length Fx.dead,by simp[iv,hr,TK,nr,Env.putO,Env.put,Env.get],?_,?_⟩
    ·have:=Oq.none (n0:=(BK H).length) (H:=BK H++[Fx.live 0 []]) (id:=(BK H).length) (g:=0) (off:=0) (by simp) (by simp) a.sz_pos;have e:(BK H++[Fx.live 0 []]).set (BK H).length (.live ([]:List a.D).length ([]++a.E.cl []))=BK H++[Fx.live 0 []]:=by rw[TR _ _ (Al _),G5];rfl
     rw[e];exact this
    ·rw[d];exact L rfl
   ·rcases f with h|⟨r,c⟩
    ·exact(i h).elim
    ·obtain⟨_,C⟩:=oJ c;have s:l=r:=by simpa using C.symm
     subst s;refine⟨.sl (BK H).length l.length a.sz 0 l.length,_,_,by simp[iv,hr,TK,nr,Env.putO,Env.put,Env.get],Oq.refl _ _ (by simp),?_⟩;grind[CZ]
 refine⟨λi=>?_,λr i hr=>?_⟩
 ·subst i;exact main _ (λ_=>⟨rfl,rfl⟩) (λr h=>(h rfl).elim) (.inl rfl)
 ·exact main _ (λh=>(i h).elim) (λV _ c=>by rw[hr]at c;injection c with c;subst c;exact⟨rfl,rfl⟩) (.inr ⟨r,hr⟩)
abbrev i64:Ty:=.int .i64
abbrev hn(k i:Nat)(s:S Ot)(e:S (Exit×S Ot)):Hint:=⟨k,i,[],[],[],[],s,e⟩
def k0{P:Program}{e:S Qd}{a d:S Ty}{g:DL a→T (DL d)}(l:S (Nat×S Hint))(b:∀c∈e,c.Ok P)
  (f:g=λx=>ABq P e (iJ l) 13 F a d x:=by kernel_rfl):(Qd.c0 F a d g).Ok P:=AB1 b λx=>congrFun f x
def k1{P:Program}{a:Ty}{d f:S Ty}{g:a.D→DL d→T (DL (f++[a]))}(l:S (Nat×S Hint))(e:∀h∈c,h.Ok P)
  (i:g=λb x=>AEI P c (iJ l) 13 F n a d f b x:=by kernel_rfl):(Qd.c1 F n a d f g).Ok P:=AGi e λb x=>congrFun (congrFun i b) x
noncomputable def ACU{α:Type}(key:α->Int)(l:S α):T (S α):=if(l.map key).Nodup/\U l<=16777216 then Z (l.mergeSort λa b=>decide (key a<=key b))else W
def ABc{key:a->Int}{l m:S a}(hn:(l.map key).Nodup)(p:m.Perm l)(t:m.Pairwise λq b=>key q<=key b):m=l.mergeSort λq b=>decide (key q<=key b):=by
 have d:(l.mergeSort λq b=>decide (key q<=key b)).Perm l:=List.mergeSort_perm _ _;have o:(l.mergeSort λq b=>decide (key q<=key b)).Pairwise λq b=>key q<=key b:=by refine(List.pairwise_mergeSort (le:=λq b=>decide (key q<=key b)) ?_ ?_ l).imp λh=>M! h;intro q b c d o;simp only[K!]at*;omega;intro q b;simp only[P0,K!];omega
 refine pj (le:=λq b=>key q<=key b) ?_ t o (p.trans d.symm);intro q b r s q1 q2;have e:key q=key b:=o!
 have f:=p.subset r;have g:=d.subset s;obtain⟨i,k⟩:=C2 f;obtain⟨j,n⟩:=C2 g;have:=(px (l:=l.map key) (i:=i) (j:=j) (by rw[BW];exact(EU.1 k).1) hn).1 (by simp[k,n,e]);subst this;rw[k]at n;exact Ba n
noncomputable def AAH{α:Type}(key:α->Int)(l:S α):T (S α):=open Classical in if(∀a∈l,∀b∈l,key a=key b->a=b)/\U l<=16777216 then Z (l.mergeSort λa b=>decide (key a<=key b))else W
def AFh{key:a->Int}{l:S a}(hn:(l.map key).Nodup):∀f∈l,∀b∈l,key f=key b->f=b:=by intro f g b h e;obtain⟨i,c⟩:=C2 g;obtain⟨j,d⟩:=C2 h;have:=(px (l:=l.map key) (i:=i) (j:=j) (by rw[BW];exact(EU.1 c).1) hn).1 (by simp[c,d,e]);subst this;rw[c]at d;exact Ba d
def ABd{key:g->Int}{l m:S g}(hn:∀a∈l,∀b∈l,key a=key b->a=b)(f:m.Perm l)(k:m.Pairwise λa b=>key a<=key b):m=l.mergeSort λa b=>decide (key a<=key b):=by
 have d:(l.mergeSort λa b=>decide (key a<=key b)).Perm l:=List.mergeSort_perm _ _;have e:(l.mergeSort λa b=>decide (key a<=key b)).Pairwise λa b=>key a<=key b:=by refine(List.pairwise_mergeSort (le:=λa b=>decide (key a<=key b)) ?_ ?_ l).imp λh=>M! h;intro a b c d e;simp only[K!]at*;omega;intro a b;simp only[P0,K!];omega
 refine pj (le:=λa b=>key a<=key b) ?_ k e (f.trans d.symm);intro a b i j q1 q2;exact hn a (f.subset i) b (d.subset j) o!
theorem w64(h: -9223372036854775808<=b/\b<=9223372036854775807):ι .i64 b=b:=by grind[IntKind.wrap_i64]
def ADH{body:a->T (Step a g)}(I:a->Prop)(Q:g->Prop)(b:a->Nat)(i:∀s,I s->(∃r,body s=Z (.done r)/\Q r)\/∃S,body s=Z (.next S)/\I S/\b S<b s){s:a}(h:I s):∃r,Aj body s=Z r/\Q r:=by
 have key:∀(n:Nat)(s:a),b s<n->I s->∃r,Aj body s=Z r/\Q r:=by
  intro n;induction n with
  |zero=>intro s j;omega
  |succ n k=>intro s j R;rcases i s R with⟨r,c,d⟩|⟨S,c,d,l⟩;exact⟨r,by rw[HX,c],d⟩;obtain⟨r,e,f⟩:=k S o! d;exact⟨r,by rw[HX,c];exact e,f⟩
 exact key (b s+1) s o! h
theorem AG3{l:S a}{x:a}(h:l[n]?=Z x):ix l (n:Int)=Z x:=by unfold ix;grind[s?]
def AKE{l:S a}(i:0<=b)(c:b<U l):∃x,ix l b=Z x/\l[b.toNat]?=Z x:=by
 obtain⟨n,rfl⟩:=Ef i;have hn:n<U l:=o!
 exact⟨l[n],AG3 (As hn),by simp[hn]⟩
def AIl{l b:S a}(h:U l+U b<=16777216):app l b=Z (l++b):=C! h
theorem AGN(b:Gd n a){i:Nat}(h:i<n):G1 b (i:Int)=Z (b ⟨i,h⟩):=by grind[G1]
def Ap(o:T a)(Q:a->Prop):Prop:=∃r,o=Z r/\Q r
section
variable {α β γ:Type}
theorem AB{r:α}{Q:α->Prop}(h:Q r):Ap (.some r) Q:=⟨r,rfl,h⟩
def Ap.mono{o}{P Q:α->Prop}(h:Ap o P)(c:∀r,P r->Q r):Ap o Q:=by obtain⟨r,a,b⟩:=h;exact⟨r,a,c r b⟩
theorem AA{o}{k:α->T β}{P:α->Prop}{Q:β->Prop}(h:Ap o P)(b:∀r,P r->Ap (k r) Q):Ap (σ o k) Q:=by obtain⟨r,rfl,a⟩:=h;exact b r a
theorem EA{o}{k:α->T β}{P:α->Prop}{Q:β->Prop}(h:Ap o P)(b:∀r,o=.some r->P r->Ap (k r) Q):Ap (σ o k) Q:=by obtain⟨r,rfl,a⟩:=h;exact b r rfl a
def AM{o}{k:α->T β}{P:α->Prop}{Q:β->Prop}(a:∀r,P r->Ap (k r) Q)(h:Ap o P):Ap (σ o k) Q:=AA h a
def AK{a b}{Q:α->Prop}(d:f=V->Ap a Q)(e:f=Y->Ap b Q):Ap (bif f then a else b) Q:=by
 cases f with
 |true=>exact d rfl
 |false=>exact e rfl
def AC{p:Prop}{_:Decidable p}{a b}{Q:α->Prop}(c:p->Ap a Q)(d:¬p->Ap b Q):Ap (bif decide p then a else b) Q:=AK (λh=>c (M! h)) (λh=>d (of_decide_eq_false h))
theorem AO{a b}{Q:α->Prop}(d:f=Y->Ap a Q)(e:f=V->Ap b Q):Ap (bif !f then a else b) Q:=by
 cases f with
 |true=>exact e rfl
 |false=>exact d rfl
theorem AP{_:BEq g} [LawfulBEq g] {x y:g}{a b}{Q:α->Prop}(c:x=y->Ap a Q)(d:x≠y->Ap b Q):Ap (bif x==y then a else b) Q:=AK (λh=>c (eq_of_beq h)) (λh=>d (ne_of_beq_false h))
theorem AL{_:BEq g} [LawfulBEq g] {x y:g}{a b}{Q:α->Prop}(c:x≠y->Ap a Q)(d:x=y->Ap b Q):Ap (bif x !=y then a else b) Q:=by refine AK (λh=>c λe=>?_) (λh=>d ?_);subst e;simp at h;simpa using h
def Bp{a b:T α}{k:α->T β}{Q:β->Prop}(h:Ap (bif f then σ a k else σ b k) Q):Ap (σ (bif f then a else b) k) Q:=by cases f<;>exact h
theorem BL{a:α}{k:α->T β}{Q:β->Prop}(h:Ap (k a) Q):Ap (σ (.some a) k) Q:=h
def B8{o:T α}{f:α->T β}{k:β->T γ}{Q:γ->Prop}(h:Ap (σ o λv=>σ (f v) k) Q):Ap (σ (σ o f) k) Q:=by cases o<;>exact h
def NH{f:α->T γ}{g:β->T γ}{o:α⊕β}{k:γ->T a}{Q:a->Prop}(h:Ap (ν (λu=>σ (f u) k) (λu=>σ (g u) k) o) Q):Ap (σ (ν f g o) k) Q:=by cases o<;>exact h
theorem BB{u:α}{f:α->T γ}{g:β->T γ}{Q:γ->Prop}(h:Ap (f u) Q):Ap (ν f g (.inl u)) Q:=h
theorem Ax{u:β}{f:α->T γ}{g:β->T γ}{Q:γ->Prop}(h:Ap (g u) Q):Ap (ν f g (.inr u)) Q:=h
theorem BG{f:α->T γ}{g:β->T γ}{o:α⊕β}{Q:γ->Prop}(a:∀u,o=.inl u->Ap (f u) Q)(b:∀u,o=.inr u->Ap (g u) Q):Ap (ν f g o) Q:=by
 cases o with
 |inl u=>exact a u rfl
 |inr u=>exact b u rfl
def Ap.get{o}{Q:α->Prop}{r:α}(h:Ap o Q)(e:o=.some r):Q r:=by obtain⟨s,a,b⟩:=h;rw[e]at a;injection a with a;rw[a];exact b
def Ap.of{o}{Q:α->Prop}(h:Ap o λ_=>True)(q:∀r,o=.some r->Q r):Ap o Q:=by obtain⟨r,a,_⟩:=h;exact⟨r,a,q r a⟩
def Ap.and{o}{P Q:α->Prop}(h:Ap o P)(g:Ap o Q):Ap o λr=>P r/\Q r:=by obtain⟨r,a,b⟩:=h;exact⟨r,a,b,g.get a⟩
theorem AJ{l:List α}{i:Int}(b:0<=i:=by omega)(c:i<l.length:=by omega):Ap (ix l i) λx=>l[i.toNat]? = .some x/\x∈l:=by obtain⟨x,d,a⟩:=AKE b c;exact⟨x,d,a,BN a⟩
theorem Aa{l a:S α}(h:U l+U a<=16777216):Ap (app l a) λr=>r=l++a/\U r=U l+U a/\U r<=16777216:=⟨_,AIl h,rfl,q!,w!⟩
theorem CL{a b:BZ}(h:U a+U b<=9223372036854775807):Ap (sapp a b) λr=>r=a++b/\U r=U a+U b:=by refine⟨a++b,?_,rfl,q!⟩;unfold Go.Ab.sapp;rw[C! h]
theorem Ca{s:BZ}{lo hi:Int}(a:0<=lo:=by omega)(b:lo<=hi:=by omega)(c:hi<=s.length:=by omega):Ap (SL s lo hi) λr=>r=(s.drop lo.toNat).take (hi.toNat-lo.toNat)/\(r.length:Int)=hi-lo:=by refine⟨_,if_pos ⟨a,b,c⟩,rfl,?_⟩;rw[BQ,DB];omega
theorem Bg{s:List α}{lo hi:Int}(a:0<=lo:=by omega)(b:lo<=hi:=by omega)(c:hi<=s.length:=by omega):Ap (Xf s lo hi) λr=>r=(s.drop lo.toNat).take (hi.toNat-lo.toNat)/\(r.length:Int)=hi-lo:=by refine⟨_,if_pos ⟨a,b,c⟩,rfl,?_⟩;rw[BQ,DB];omega
def RY{s:BZ}{i:Int}(a:0<=i)(c:i<U s):Ap (six s i) λb=>0<=b/\b<256:=by
 obtain⟨n,rfl⟩:=Ef a;have hn:n<U s:=o!
 refine⟨(s[n].toNat:Int),?_,o!,?_⟩;unfold Go.Ab.six;simp[hn];have:=s[n].toNat_lt;omega
def Dc{a:Gd n α}(i:0<=b)(c:b<n):Ap (G1 a b) λx=>x=a ⟨b.toNat,o!⟩:=by obtain⟨k,rfl⟩:=Ef i;exact⟨_,AGN a o!,rfl⟩
theorem zP{z:α}(a:0<=b)(n:b<=16777216):Ap (mk z b b) λr=>r=List.replicate b.toNat z/\(r.length:Int)=b:=by refine⟨List.replicate b.toNat z,?_,rfl,w!⟩;unfold Go.Ab.mk;rw[if_pos ⟨a,Ae _,n⟩]
def AW{body:a→T (Step a g)}(I:a→Prop)(b:a→Nat){Q:g→Prop}{s:a}(c:I s)
  (f:∀s,I s->Ap (body s) λst=>match st with|.next S=>I S/\b S<b s|.done r=>Q r):Ap (Aj body s) Q:=by
 obtain⟨r,d,e⟩:=ADH (body:=body) I Q b (λs R=>by
  obtain⟨st,q1,q2⟩:=f s R;cases st with
  |next S=>exact .inr ⟨S,q1,q2.1,q2.2⟩
  |done r=>exact .inl ⟨r,q1,q2⟩) c
 exact⟨r,d,e⟩
theorem XH(n:Int):ι .u64 n=n%18446744073709551616:=by simp[ι,IntKind.bits,IntKind.signed]
theorem xN(n:Int):ι .u32 n=n%4294967296:=by simp[ι,IntKind.bits,IntKind.signed]
def AHs(n:Int):ι .u8 n=n%256:=by simp[ι,IntKind.bits,IntKind.signed]
def bH{Q:α->Prop}(h:False):Ap .none Q:=h.elim
theorem AY{x:Int}(h: -9223372036854775808<=x/\x<=9223372036854775807:=by omega):wi x=x:=w64 h
theorem l!{P:Prop}(h:P:=by (try dsimp[len]at*);(try first|omega|assumption|grind[AY])):P:=h
theorem i!{P:Prop}(h:P:=by simp only[len];omega):P:=h
theorem x!{P:Prop}(h:P:=by (repeat' with_reducible first|intro a|apply AC|apply AO|(apply BB;try dsimp only)|apply AL|apply AP|(apply BL;try dsimp only)|apply AK|(apply Ax;try dsimp only)|(apply BG<;>(intro u a;try subst a))|(refine AM ?_ (OS ?_);intro r hr)|apply Bp|(apply AA (Bb);intro r hr)|(apply AA (ML);intro r hr)|(refine AM ?_ (bK ?_);intro r hr)|(refine AM ?_ (XZ ?_);intro r hr)|(apply AA (Sw);intro r hr)|(refine AM ?_ (Zn ?_);intro r hr)|(refine AM ?_ (Zk ?_);intro r hr)|(refine AM ?_ (X7 ?_);intro r hr)|(refine AM ?_ (XW ?_);intro r hr)|(apply AA (gv);intro r hr)|apply NH|apply AB|(apply AA (D4);intro r hr)|apply B8|(refine AM ?_ (NR ?_);intro r hr)|apply bH|(refine AM ?_ (GS ?_ ?_);intro r hr)|(refine AM ?_ (eN ?_);intro r hr)|(refine AM ?_ (Yz ?_);intro r hr)|(refine AM ?_ (IW ?_);intro r hr)|(refine AM ?_ (Q3 ?_);intro r hr)|(rw[w _ _ rfl rfl];apply BL;dsimp only)|(refine AM ?_ (Ft ?_);intro r hr)|(apply AA (C4);intro r hr)|(apply AA (OM);intro r hr)|(apply AA (o7);intro r hr)|(refine AM ?_ (Di ?_);intro r hr)|(refine AM ?_ (No ?_ ?_);intro r hr)|(refine AM ?_ (EW ?_);intro r hr)|(apply AA (Ga);intro r hr)|(refine AM ?_ (KJ ?_);intro r hr)|(refine AM ?_ (Y8 ?_);intro r hr)|(apply AA (Fq);intro r hr)|(refine AM ?_ (bL ?_);intro r hr)|(refine AM ?_ (Cm ?_);intro r hr)|(refine AM ?_ (Wz ?_);intro r hr)|(refine AM ?_ (U9 ?_);intro r hr)|(refine AM ?_ (S3 ?_);intro r hr)|(refine AM ?_ (Rt ?_);intro r hr)|(apply AA (MX);intro r hr)|(apply AA (U7);intro r hr)|(refine AM ?_ (PN ?_);intro r hr)|(refine AM ?_ (X9 ?_);intro r hr)|(refine AM ?_ (Y5 ?_);intro r hr)|(refine AM ?_ (Yv ?_);intro r hr)|(apply AA (eJ);intro r hr)|(refine AM ?_ (Zm ?_);intro r hr)|(apply AA (dx);intro r hr)|(refine AM ?_ (jQ ?_);intro r hr)|(apply AA (HH);intro r hr)|(apply AA (o8);intro r hr)|(apply AA (FY);intro r hr)|(apply AA (OG);intro r hr)|(refine AM ?_ (Ib ?_);intro r hr)|(refine AM ?_ (Y6 ?_);intro r hr)|(refine AM ?_ (Y4 ?_);intro r hr)|(refine AM ?_ (Y9 ?_);intro r hr)|(refine AM ?_ (W5 ?_ ?_);intro r hr)|(refine AM ?_ (X5 ?_);intro r hr)|(refine AM ?_ (Zl ?_);intro r hr)|(apply AA (qU);intro r hr)|(apply AA (CC);intro r hr)|(refine AM ?_ (Pw ?_);intro r hr)|(apply AA (jU);intro r hr)|(refine AM ?_ (X3 ?_);intro r hr)|(refine AM ?_ (Zq ?_);intro r hr)|(apply AA (o9);intro r hr)|(refine AM ?_ (Yu ?_);intro r hr)|(refine AM ?_ (Zo ?_);intro r hr)|(refine AM ?_ (Y0 ?_);intro r hr)|(refine AM ?_ (VX ?_);intro r hr)|(refine AM ?_ (Zs ?_);intro r hr)|(refine AM ?_ (bJ ?_);intro r hr)|(apply AA (Su);intro r hr)|(refine AM ?_ (Y2 ?_);intro r hr)|(refine AM ?_ (Yw ?_);intro r hr)|(refine AM ?_ (bO ?_);intro r hr)|(apply AA (Du);intro r hr)|(refine AM ?_ (Q2 ?_);intro r hr)|(apply AA (CO);intro r hr)|(refine AM ?_ (AJ ?_ ?_);rintro r ⟨hr,b⟩)|(refine AM ?_ (OI ?_ ?_);intro r hr)|(refine AM ?_ (Aa ?_);rintro r ⟨hr,b,c⟩)|(apply AA (Kr);intro r hr)|(refine AM ?_ (Y1 ?_);intro r hr)|(refine AM ?_ (ZA ?_);intro r hr)|(refine AM ?_ (Gr ?_);intro r hr)|(refine AM ?_ (RY ?_ ?_);rintro r ⟨hr,b⟩)|(refine AM ?_ (dv ?_);intro r hr)|(refine AM ?_ (Ca ?_ ?_ ?_);rintro r ⟨hr,b⟩)|(refine AM ?_ (X6 ?_);intro r hr)|(refine AM ?_ (X4 ?_);intro r hr)|(refine AM ?_ (XY ?_);intro r hr)|(apply AA (uW);intro r hr)|(refine AM ?_ (CL ?_);rintro r ⟨hr,b⟩)|(apply AA (UE);intro r hr)|(apply AA (bR);intro r hr)|(refine AM ?_ (Dc ?_ ?_);intro r hr)|(refine AM ?_ (Yy ?_);intro r hr)|(refine AM ?_ (Q5 ?_);intro r hr)|(refine AM ?_ (XX ?_);intro r hr)|(refine AM ?_ (Bg ?_ ?_ ?_);rintro r ⟨hr,b⟩)|(refine AM ?_ (Yx ?_);intro r hr)|(refine AM ?_ (ZB ?_);intro r hr)|(apply AA (dn);intro r hr));all_goals(first|((try dsimp[len]at*);first|omega|assumption|grind[AY])|grind|((try dsimp[len]at*);first|grind[CI,DI,De,De.last,GV,Kn,Pg,SB,VK,aR,cI,len,ms,ny,pT,AY]|grind[AY,De]|grind[SB,VK,GV,Pg]|grind[Pg,Kn,pT,ny]|grind[De.last]|grind[AY,De.append]|grind[AY,Mf]|grind[CI]|grind[ms]|grind[AY,aR]|grind[AY,cI]|grind[AY,SB]|grind[DI]|((try simp (disch:=omega) only[AY,len]at*)<;>(try intros)<;>(try and_intros)<;>(try intros)<;>(first|omega|assumption|grind))))):P:=h
def AFx(x:Int):wi x=(x+9223372036854775808)%18446744073709551616-9223372036854775808:=by unfold wi;rw[IntKind.wrap_i64]
end
def N2(I:a->Prop)(μ:a->Nat)(m:Nat)(Q:g->Prop):Step a g->Prop
 |.next s'=>I s'/\μ s'<m
 |.done r=>Q r
def Ce{R:Type}{body:g->T (Step g R)}(I:g->Prop)(a:g->Nat){Q:R->Prop}{s:g}(b:I s)(c:∀s,I s->Ap (body s) (N2 I a (a s) Q)):Ap (Aj body s) Q:=AW I a b λs d=>(c s d).mono λst h=>by cases st<;>exact h
theorem Ap.next{R:Type}{I:g->Prop}{a:g->Nat}{m:Nat}{Q:R->Prop}{s:g}(h:I s)(b:a s<m):Ap (Option.some (Step.next s)) (N2 I a m Q):=⟨_,rfl,h,b⟩
theorem Ap.done{R:Type}{I:g->Prop}{a:g->Nat}{Q:R->Prop}{r:R}(h:Q r):Ap (Option.some (Step.done r)) (N2 I a n Q):=⟨_,rfl,h⟩
theorem k?{S R:Type}{I:S->Prop}{a:S->Nat}{m:Nat}{Q:R->Prop}{r:R}(h:Q r):Ap (some (Step.done r)) (N2 I a m Q):=⟨_,rfl,h⟩
theorem y!{S R:Type}{I:S->Prop}{a:S->Nat}{m:Nat}{Q:R->Prop}{s:S}(h:I s)(b:a s<m):Ap (some (Step.next s)) (N2 I a m Q):=⟨_,rfl,h,b⟩
theorem y?{α:Type}{p:Prop}{r:α}{Q:α->Prop}(h:Q r):p->Ap (some r) Q:=fun _=>⟨r,rfl,h⟩
theorem h!{P:Prop}(h:P:=by kernel_rfl):P:=h
theorem b!{P:Prop}(h:P:=by simp[len];omega):P:=h
open Go.ChangeShapes Go.WideShapes Go.ChangeAt Go.RowKit
def gh0:Gh:=⟨λ_=>W,λ_=>0,λ_=>0⟩
def cx0(w:World):Cx:=cx (λ_=>False) gh0 [] w
def ALD(w:World):JP (λ_=>False) gh0 [] w where
 out B h:=h.elim
 live id g cs h:=by simp at h
 lp id L h:=by simp at h
 inj id id' e e' B h:=by simp at h
 bld id e h:=by simp at h
theorem ABD:¬(cx0 d).O n:=by rintro(h|⟨id,e,h,_⟩);exact h;grind
def aD{Q:Ad→Au→Prop}(h:Ei P F i [] Q){w:World}{cargs:Array Value}(hn:cargs.size=U i)
  (d:∀(j:Nat)(v:Ad)(c:Value),i[j]?=Z v->cargs[j]?=Z c->Bw (cx0 w) v c):
  Calls P F cargs w λe b=>∃c v x a,e=.returned c/\Q v a/\Bw x v c/\Below w.heap.size w b:=by
 refine(h (λ_=>False) gh0 w cargs (ALD w) hn d).mono ?_;rintro e b ⟨c,v,l,a,rfl,q,_,r,x⟩;refine⟨c,v,_,a,rfl,q,r,x.os,x.tape,x.output,x.size,λk g=>x.keep k g ?_⟩;rintro⟨id,e,f,_⟩;simp at f
def ADh{a:Addr}{cap:Nat}{b:S Int}(A:n≤cap)(D:U b=cap)(t:∀i,i<U b→d.cell? (a.add i)=Z (.int j (b.getD i 0)))(q:a.block<d.heap.size∨n=0):
  Bw (cx0 d) (.vs 1 ((b.take n).map λF=>.int j F)) (.slice (Z a) n cap):=by
 have k:((b.take n).map λF=>Ad.int j F).length=n:=w!
 have g:∀(w:Nat)(e:Ad),((b.take n).map λF=>Ad.int j F)[w]?=Z e->w<n/\e=.int j (b.getD w 0):=by
  intro w e h;rw[CR]at h;cases c:(b.take n)[w]? with
  |none=>rw[c]at h;cases h
  |some F=>
   rw[c]at h;simp only[Bs,Ao]at h;subst h;have p:w<(b.take n).length:=by rcases Ay w (b.take n).length with h|h;exact h;rw[Cq h]at c;cases c
   simp only[BQ]at p;rw[IJ o!]at c;exact⟨o!,by rw[N6,c];rfl⟩
 have key:=Bw.vs (x:=cx0 d) (sz:=1) (rows:=(b.take n).map λF=>.int j F) (a:=Z a) (cap:=cap) (λw _=>.int j (b.getD w 0)) (by rw[k];exact A) o!
  (λw e h=>by rw[(g w e h).2];rfl)
  (λr=>by
   have C:0<n:=by rcases WF n with h|h;subst h;simp at r;exact h
   have m:a.spot=W:=by have:=t 0 o!;unfold World.cell? at this;split at this;split at this;cases this;rename_i u;simp only[Addr.add,if_true]at u;simpa using u;cases this
   obtain⟨B,s,E⟩:=a;simp only at m;subst m;refine⟨B,s,rfl,ABD,?_,λw e i v c l=>?_⟩;rcases q with h|h;exact h;omega;obtain⟨y,o⟩:=g w e c;subst o;have f:i=0:=by
    simp only[Ad.cells]at l;cases i with
    |zero=>rfl
    |succ i=>simp at l
   subst f;refine⟨?_,rfl⟩;have:=t w o!;simp only[Nat.mul_one,O1];show d.cell? _=_;rw[<-this];unfold Addr.add;split;rename_i z;subst z;rfl;rfl)
  (λw e i v c l=>by
   obtain⟨y,o⟩:=g w e c;subst o;have f:v=.int j (b.getD w 0):=by
    simp only[Ad.cells]at l;cases i with
    |zero=>simpa using l.symm
    |succ i=>simp at l
   subst f;exact .int _ _)
 rw[k]at key;exact key
def AFu:Bw (cx0 d) (.vs 1 []) (.slice W 0 0):=Bw.vs (x:=cx0 d) (sz:=1) (rows:=[]) (a:=W) (cap:=0) (λ_ _=>.nilFunc) q! o! (λj e h=>by simp at h) (N! rfl ·) (λj e i v h=>by simp at h)
open Go.RowKit
def rE{args:S Ad}{v}(h:∀(w:World)(a:Array Value),a.size=U args→(∀(j:Nat)(u:Ad)(c:Value),args[j]?=Z u→a[j]?=Z c→ ∃x,Bw x u c)→
  Calls P F a w λe i=>∃c,e=.returned c/\(∀x,Bw x v c)/\Below w.heap.size w i) (H:Au):Ei P F args H (DT v H):=by
 intro X g w a s p hr;refine(h w a p λj u c m n=>⟨_,hr j u c m n⟩).mono ?_;rintro e i ⟨c,rfl,q,b⟩;have l:HN g H w g H i:=⟨b.os,b.tape,b.output,b.size,λB d _=>b.block B d,Al _,λ_ _=>Al _,λ_ _ _=>⟨rfl,rfl⟩,λB o=>.inl o,λB r hr=>⟨r,(b.block B (by rcases Ay B w.heap.size with h|h;exact h;simp[tW h]at hr)).trans hr⟩⟩
 exact⟨c,v,g,H,rfl,⟨rfl,rfl⟩,s.of_ext l (λid e k f=>.inl ⟨k,rfl,rfl,rfl,λB d=>b.block B (s.io_at k f d)⟩) s.inj,q _,l⟩
def AAN{x}{s:S UInt8}(h:Bw x (.str s) k):k=.string ⟨s.toArray⟩:=by cases h;rename_i t h;subst h;rfl
def lF{x}(h:Bw x (.int j b) k):k=.int j b:=by cases h;rfl
open Go.Proofs Go.Sort
def mZ{a:Ty}{l:S a.D}(h:n<U l*a.sz):∃e,l[n/a.sz]?=Z e/\(a.E.cl l)[n]?=(a.enc e).cells[n%a.sz]? :=by
 have g:=a.sz_pos;induction l generalizing n with
 |nil=>simp at h
 |cons x r j=>
  have i:(a.enc x).cells.length=a.sz:=a.enc_len x;have e:a.E.cl (x::r)=(a.enc x).cells++a.E.cl r:=rfl;rw[e];by_cases b:n<a.sz;exact⟨x,by rw[Nat.div_eq_of_lt b];rfl,by rw[TT b,CW o!]⟩;have c:n-a.sz<U r*a.sz:=by rw[BY,EB,Nat.one_mul]at h;omega
  obtain⟨y,d,f⟩:=j c;refine⟨y,?_,?_⟩;rw[Nat.div_eq_sub_div g o!,lQ];exact d;rw[Cl o!,i,f,Nat.mod_eq_sub_mod (show n>=a.sz by omega)]
def lU{te:Ty}(l:S te.D):(te.E.cl l).length=U l*te.sz:=by
 induction l with
 |nil=>simp[SO.cl]
 |cons x r a=>have e:te.E.cl (x::r)=(te.enc x).cells++te.E.cl r:=rfl;rw[e,Ac,a,te.enc_len,BY,EB,Nat.one_mul,Yb]
def xP(x0:Cx)(te:Ty):Type:={p:te.D×S Value//U p.2=te.sz/\(∀v∈p.2,v.oneCell'=V)/\∀(j:Nat)(v:Ad)(c:Value),(te.enc p.1).cells[j]?=Z v->p.2[j]?=Z c->Bw x0 v c}
def ALG(key:a->Int):SWO (ltOf (λ(x y:a)=>Lib.compareInt (key x) (key y))):=by
 have e:∀x y,ltOf (λ(x y:a)=>Lib.compareInt (key x) (key y)) x y=τ (key x<key y):=λx y=>by unfold ltOf Lib.compareInt;by_cases c:key x<key y;simp[c];by_cases b:key y<key x<;>simp[c,b]
 exact⟨λx=>by rw[e];simp,λx y z c b=>by rw[e]at*;simp at*;omega,λx y z c b=>by rw[e]at*;simp at*;omega⟩
def _root_.List.set_getElem?_self'{l:S a}{x:a}(h:l[n]?=Z x):l.set n x=l:=by obtain⟨b,rfl⟩:=EU.1 h;exact List.set_getElem_self b
def AAI{g:FuncId}(key:e.D→Int)(a9:∀o,(e.enc o).cells[0]?=δ (.int .i64 (key o))){sD:Ψ e.D→Ω (Ψ e.D)}
  (b':∀{l y},sD l=δ y->(∀a∈l,∀b∈l,key a=key b->a=b)/\θ l<=16777216/\y=l.mergeSort λa b=>decide (key a<=key b))
  (R:∀(a b:Int)(r s:Ψ Value)(W_:World),θ r+1=e.sz->θ s+1=e.sz->Calls P g #[.agg (Value.int .i64 a::r).toArray,.agg (Value.int .i64 b::s).toArray] W_ λo w'=>o=.returned (.int .i64 (Lib.compareInt a b))/\∃q cb,w'=grow (W_.drewN q) cb)
  (hS:∀{α:Type} [Inhabited α] (Q:α->Ψ Value) (_:∀x,(Q x).length=e.sz) (_:∀x,∀v∈Q x,v.oneCell'=ζ) (cf:α->α->Int) (_:SWO (ltOf cf)) (N cap:Nat) (d:Array α) (w:World),CmpLays P g #[] Q e.sz cf N 0 d.size w->HoldsK Q e.sz w N 0 d->N<w.heap.size->d.size<4611686018427387904->Calls P F #[.slice (δ ⟨N,0,ε⟩) d.size cap,.func (.func g) #[] #[]] w λo w'=>o=.returned (.tuple #[])/\∃z n os,PermIn 0 d.size d z/\SortedIn (ltOf cf) 0 d.size z/\w'=sortWorldK Q e.sz w N 0 n z os)
  (hN:∀(p:Ω Addr)(cap:Nat)(fv:Value)(w:World),Calls P F #[.slice p 0 cap,fv] w λo w'=>o=.returned (.tuple #[])/\w'=w):
  (Qd.c2 F e [] [] [.fn (.func g) [] []] λl _=>sD l).Ok P:=by
 intro l x y hy Y_ H id ap X h w O s hs hr;obtain⟨hn,cd,bm⟩:=b' hy;obtain⟨c0,c1,rfl⟩:∃c0 c1,O= #[c0,c1]:=by
  obtain⟨a⟩:=O;match a,hs with
  |[a,b],_=>exact⟨a,b,rfl⟩
 have r0:=hr 0 _ c0 rfl rfl;have r1:=hr 1 _ c1 rfl rfl;obtain⟨hg,a6⟩:=s.live id _ _ ap;have bG:c1=.func (.func g) #[] #[]:=by
  cases r1 with
  |fn A I _ _=>rw[tQ A,tQ I]
 subst bG;by_cases hl:l=[];subst hl;have ca:y=[]:=by rw[bm];simp
 obtain⟨a,cap,rfl⟩:∃a cap,c0=.slice a 0 cap:=by
  cases r0 with
  |sl _ _ A _=>exact A
 apply (hN a cap _ w).mono;rintro o w' ⟨rfl,rfl⟩;refine⟨_,.tup [],h,H,rfl,⟨rfl,?_⟩,s,.tup rfl (λj v c C=>by simp at C),HN.refl h H w'⟩;rw[show(Lc (.list e) [] y).2=[]from ca];exact(List.set_getElem?_self' ap).symm;have hk:=e.sz_pos;have bb:0<θ l:=List.length_pos_iff.2 hl;rcases a6 with⟨_,b0⟩|⟨B,G,T,fz,f,V_,hb,a4,b3,a7,J⟩;have:=lU (te:=e) l;rw[b0,Bj]at this;exact N! this.symm (Nat.ne_of_gt (Nat.mul_pos bb hk));obtain⟨cap,rfl⟩:∃cap,c0=.slice (δ ⟨B,0,ε⟩) (θ l) cap:=by
  cases r0 with
  |sl _ _ _ hc=>rcases hc hg with⟨A,_⟩|⟨B',cap,A,_,_,h4⟩;rw[V_]at A;cases A;rw[V_]at A;injection A with A;subst A;exact⟨cap,h4⟩
 have ad:∀i (t:i<θ l) c,c<e.sz->∃v,(e.enc l[i]).cells[c]?=δ v/\(e.E.cl l)[i*e.sz+c]?=δ v:=λi t c hc=>by
  have K:i*e.sz+c<θ l*e.sz:=by have:=NB e.sz (show i+1<=θ l from t);rw[EB,Nat.one_mul]at this;omega
  obtain⟨o,A,I⟩:=mZ K;have d1:(i*e.sz+c)/e.sz=i:=(blk_iff e.sz i _ hk).1 o!;have d2:(i*e.sz+c)%e.sz=c:=by rw[Nat.mod_eq_sub_div_mul,d1];omega
  rw[d1,As t]at A;rw[d2]at I;have Y_:=e.enc_len o;rw[<-Ba A]at I Y_;exact⟨_,As o!,by rw[I];exact As o!⟩
 let mk:∀i,i<θ l->xP (cx X h H w) e:=λi t=>⟨(l[i],(List.range e.sz).map λc=>f (i*e.sz+c)),q!,λv hv=>by
  obtain⟨c,hc,rfl⟩:=Bn.1 hv;obtain⟨u,_,I⟩:=ad i t c (IK.1 hc);exact(J _ _ I).2.1,λj v c C hc=>by
  rw[CR]at hc;obtain⟨j',S,rfl⟩:=TU.1 hc;have ar:=(EU.1 S).1;rw[List.length_range]at ar;rw[RT ar]at S;injection S with S;subst S;obtain⟨u,A,I⟩:=ad i t j ar;dsimp only at C;rw[A]at C;injection C with C;subst C;exact(J _ _ I).2.2⟩
 let dl:Ψ (xP (cx X h H w) e):=List.ofFn λi:Fin (θ l)=>mk i.val i.isLt;have bz:θ dl=θ l:=List.length_ofFn;have a2:∀i (t:i<θ l),dl[i]?=δ (mk i t):=λi t=>by rw[List.getElem?_ofFn,dif_pos t]
 have:Inhabited (xP (cx X h H w) e):=⟨mk 0 bb⟩
 let d:=dl.toArray;have L:d.size=θ l:=bz;have dg:∀i (t:i<θ l),d[i]! =mk i t:=λi t=>by
  have A:=a2 i t;have I:d[i]?=δ (mk i t):=by rw[fG];exact A
  rw[getElem!_def,I]
 have hd:d.toList.map (·.1.1)=l:=by refine JR λi=>?_;rw[CR];show Option.map _ dl[i]?=_;by_cases t:i<θ l;rw[a2 i t,Bs,As t];rw[Cq o!,Cq o!,nG]
 have ao:HoldsK (λp:xP (cx X h H w) e=>p.1.2) e.sz w B 0 d:=by
  intro j C;rw[size_flatK,L]at C;rw[get_flatK _ _ _ _ (by rw[L];exact C)];have t:j/e.sz<θ l:=Nat.div_lt_of_lt_mul (by rw[Nat.mul_comm];exact C);have hm:=Yc j hk;have a8:j/e.sz*e.sz+j%e.sz=j:=Nat.div_add_mod' j e.sz;obtain⟨u,_,I⟩:=ad _ t _ hm;rw[a8]at I;have ha:=(J _ _ I).1;have K:j<G.size:=(cO.1 ha).1;rw[dg _ t];have hx:(((List.range e.sz).map λc=>f (j/e.sz*e.sz+c))[j%e.sz]!)=f j:=by rw[getElem!_def,CR,RT hm,Bs,a8]
  refine⟨?_,?_⟩;show w.cell? ⟨B,0+j,ε⟩=δ ((((List.range e.sz).map λc=>f (j/e.sz*e.sz+c))[j%e.sz]!));rw[hx];unfold World.cell?;rw[show w.heap[B]?=δ (.cells G T fz)from hb];simpa using ha;unfold World.frozen?;rw[show w.heap[B]?=δ (.cells G T fz)from hb];simpa using a7 j K
 have hB:B<w.heap.size:=(cO.1 hb).1;have a5:CmpLays P g #[] (λp:xP (cx X h H w) e=>p.1.2) e.sz (λx y=>Lib.compareInt (key x.1.1) (key y.1.1)) B 0 d.size w:=by
  intro m os dk hs x y;have hx:∀p:xP (cx X h H w) e,∃r:Ψ Value,p.1.2=Value.int .i64 (key p.1.1)::r/\θ r+1=e.sz:=λp=>by
   obtain⟨⟨o,vs⟩,A,I,h3⟩:=p;dsimp only at A I h3;cases vs with
   |nil=>rw[Bj]at A;omega
   |cons v r=>have:=h3 0 _ v (a9 o) rfl;cases this;exact⟨r,rfl,A⟩
  obtain⟨r,b6,b7⟩:=hx x;obtain⟨s',b8,b9⟩:=hx y;have:=R (key x.1.1) (key y.1.1) r s' (sortWorldK (λp:xP (cx X h H w) e=>p.1.2) e.sz w B 0 m dk os) b7 b9;rw[<-b6,<-b8]at this;exact this
 have Z_:=hS (λp:xP (cx X h H w) e=>p.1.2) (·.2.1) (·.2.2.1) (λx y=>Lib.compareInt (key x.1.1) (key y.1.1)) (ALG λp:xP (cx X h H w) e=>key p.1.1) B cap d w a5 ao hB (by rw[L];omega);rw[L]at Z_;apply Z_.mono;rintro o w' ⟨rfl,z,n,os,U,a1,rfl⟩;have M:=U.1;rw[L]at M;have b5:z.toList.Perm d.toList:=by have:=U.2.2;rwa [<-L,<-(show z.size=d.size by omega),oI,M,<-L,oI]at this
 have bt:z.toList.map (·.1.1)=y:=by rw[bm];apply ABd hn (by rw[<-hd];exact b5.map _);rw[Ed];intro i j t C b1;rw[BW,D2]at t C;have:=a1 i j (BR _) b1 o!;rw[getElem!_pos z j C,getElem!_pos z i t]at this;simp only[List.getElem_map,Array.getElem_toList];unfold ltOf Lib.compareInt at this;simp only[decide_eq_false_iff_not]at this;by_cases c1:key (z[j]).1.1<key (z[i]).1.1;simp[c1]at this;omega
 have R:(e.E.cl y).length=θ l*e.sz:=by rw[lU,<-bt,BW,D2,M]
 have bN:∀(j:Nat)(v:Ad),(e.E.cl y)[j]?=δ v->∃c:Value,(flatK (λp:xP (cx X h H w) e=>p.1.2) e.sz z)[j]! =c/\c.oneCell'=ζ/\Bw (cx X h H w) v c:=by
  intro j v C;have K:=(EU.1 C).1;rw[R]at K;have t:j/e.sz<z.size:=by rw[M];exact Nat.div_lt_of_lt_mul (by rw[Nat.mul_comm];exact K)
  have hm:=Yc j hk;rw[get_flatK _ _ _ _ (by rw[M];exact K),getElem!_pos z _ t];generalize hq:z[j/e.sz]=q;obtain⟨⟨o,vs⟩,A,I,h3⟩:=q;dsimp only at A I h3;have b2:j<θ y*e.sz:=by rw[<-lU];exact(EU.1 C).1
  obtain⟨e',g1,g2⟩:=mZ b2;rw[<-bt,CR,Pz,N5 t,hq]at g1;have g1:o=e':=Ba g1;subst g1;rw[C]at g2;have ax:j%e.sz<θ vs:=o!
  refine⟨vs[j%e.sz],getElem!_pos vs _ ax,I _ (GW ax),h3 _ v _ g2.symm (As ax)⟩
 have a':θ l*e.sz<=G.size:=by rw[<-lU];exact b3
 have cc:(flatK (λp:xP (cx X h H w) e=>p.1.2) e.sz z).size=θ l*e.sz:=by rw[size_flatK,M]
 have al:(sortWorldK (λp:xP (cx X h H w) e=>p.1.2) e.sz w B 0 n z os).heap=w.heap.modify B (onCells (putCells (λv=>v) 0 (flatK (λp:xP (cx X h H w) e=>p.1.2) e.sz z)))++os:=rfl;have a3:(sortWorldK (λp:xP (cx X h H w) e=>p.1.2) e.sz w B 0 n z os).heap[B]?=δ (.cells (putCells (λv=>v) 0 (flatK (λp:xP (cx X h H w) e=>p.1.2) e.sz z) G) T fz):=by rw[al,Ye (by rw[Array.size_modify];exact hB),cJ,C! rfl,show w.heap[B]?=δ (.cells G T fz)from hb];rfl
 have bd:∀k,k<w.heap.size->k≠B->(sortWorldK (λp:xP (cx X h H w) e=>p.1.2) e.sz w B 0 n z os).heap[k]?=w.heap[k]? :=λk hk b4=>by rw[al,Ye (by rw[Array.size_modify];exact hk),cJ,D! (O3 b4)]
 have a0:(putCells (λv=>v) 0 (flatK (λp:xP (cx X h H w) e=>p.1.2) e.sz z) G).size=G.size:=by unfold putCells;rw[Array.size_mapIdx]
 have hh:Holds (cx X h H w) (e.E.cl y) (putCells (λv=>v) 0 (flatK (λp:xP (cx X h H w) e=>p.1.2) e.sz z) G) fz:=by refine⟨λj=>(flatK (λp:xP (cx X h H w) e=>p.1.2) e.sz z)[j]!,by rw[a0,R];exact a',λi t=>a7 i (by rw[a0]at t;exact t),λj v C=>?_⟩;obtain⟨c,e1,e2,e3⟩:=bN j v C;have K:=(EU.1 C).1;rw[R]at K;dsimp only;rw[e1];refine⟨?_,e2,e3⟩;unfold putCells;rw[Array.getElem?_mapIdx,N5 (show j<G.size by omega),Bs,C! ⟨BR _,o!⟩,WG,e1]
 have bl:=s.upd ap (g':=θ l) (B:=B) (cs':=e.E.cl y) (Al _) (λ_=>⟨V_,a4.symm.trans a0.symm⟩) (.inl V_) a3 bd rfl rfl rfl (by rw[al];simp) hh;refine⟨_,.tup [],_,_,rfl,⟨rfl,?_⟩,bl.1,.tup rfl (λj v c C=>by simp at C),bl.2⟩;rfl
def AFj{g:FuncId}{te:Ty}(key:te.D→Int)(i:∀e,(te.enc e).cells[0]?=Z (.int .i64 (key e)))
  (t:∀(a b:Int)(r s:S Value)(W:World),U r+1=te.sz->U s+1=te.sz->Calls P g #[.agg (Value.int .i64 a::r).toArray,.agg (Value.int .i64 b::s).toArray] W λe j=>e=.returned (.int .i64 (Lib.compareInt a b))/\∃q u,j=grow (W.drewN q) u)
  (C:∀{k:Type} [Inhabited k] (f:k->S Value) (_:∀x,(f x).length=te.sz) (_:∀x,∀v∈f x,v.oneCell'=V) (m:k->k->Int) (_:SWO (ltOf m)) (c cap:Nat) (d:Array k) (w:World),CmpLays P g #[] f te.sz m c 0 d.size w->HoldsK f te.sz w c 0 d->c<w.heap.size->d.size<4611686018427387904->Calls P F #[.slice (Z ⟨c,0,ε⟩) d.size cap,.func (.func g) #[] #[]] w λe j=>e=.returned (.tuple #[])/\∃o n os,PermIn 0 d.size d o/\SortedIn (ltOf m) 0 d.size o/\j=sortWorldK f te.sz w c 0 n o os)
  (B:∀(p:T Addr)(cap:Nat)(A:Value)(w:World),Calls P F #[.slice p 0 cap,A] w λe j=>e=.returned (.tuple #[])/\j=w):
  (Qd.c2 F te [] [] [.fn (.func g) [] []] λl _=>ACU key l).Ok P:=
 AAI key i (λ{l y} h=>by unfold ACU at h;split at h;rename_i z;exact⟨AFh z.1,z.2,(Ba h).symm⟩;cases h) t C B
def AFi{g:FuncId}{te:Ty}(key:te.D→Int)(i:∀e,(te.enc e).cells[0]?=Z (.int .i64 (key e)))
  (t:∀(a b:Int)(r s:S Value)(W:World),U r+1=te.sz->U s+1=te.sz->Calls P g #[.agg (Value.int .i64 a::r).toArray,.agg (Value.int .i64 b::s).toArray] W λe j=>e=.returned (.int .i64 (Lib.compareInt a b))/\∃q u,j=grow (W.drewN q) u)
  (C:∀{k:Type} [Inhabited k] (f:k->S Value) (_:∀x,(f x).length=te.sz) (_:∀x,∀v∈f x,v.oneCell'=V) (m:k->k->Int) (_:SWO (ltOf m)) (c cap:Nat) (d:Array k) (w:World),CmpLays P g #[] f te.sz m c 0 d.size w->HoldsK f te.sz w c 0 d->c<w.heap.size->d.size<4611686018427387904->Calls P F #[.slice (Z ⟨c,0,ε⟩) d.size cap,.func (.func g) #[] #[]] w λe j=>e=.returned (.tuple #[])/\∃o n os,PermIn 0 d.size d o/\SortedIn (ltOf m) 0 d.size o/\j=sortWorldK f te.sz w c 0 n o os)
  (B:∀(p:T Addr)(cap:Nat)(A:Value)(w:World),Calls P F #[.slice p 0 cap,A] w λe j=>e=.returned (.tuple #[])/\j=w):
  (Qd.c2 F te [] [] [.fn (.func g) [] []] λl _=>AAH key l).Ok P:=
 AAI key i (λ{l y} h=>by unfold AAH at h;split at h;rename_i z;exact⟨z.1,z.2,(Ba h).symm⟩;cases h) t C B
end Go.Ab
