/- Texts of wip, joined and shortened by wip/tools/pack.py; nothing is assumed. -/
import Derived.Test.YtdbincbpjobdpaaGreatK4
import Derived.KernelRfl
import Derived.ProofKit
import Derived.Shelf.SlSortCmp.InsertionK
noncomputable section
set_option linter.all false
open Option renaming some->δ,none->ε,bind->σ
open Bool renaming true->ζ,false->η
open List renaming length->θ,replicate->ς
open Go.IntKind renaming wrap->ι
open BitVec renaming ofInt->κ,toNat->π
open Sum renaming elim->ν
open Nat renaming beq->ξ
open Int renaming toNat->ο
open Decidable renaming decide->τ
namespace Go.Ab
def qb{n:Nat}:∀{a b:List Bv},aR n a=ζ->aR n b=ζ->aR n (a++b)=ζ
 |[],_,_,hb=>hb
 |x::r,b,ha,hb=>by obtain⟨c,e⟩:=vS ha;have d:=qb e hb;cases x<;>simp only[EO,aR,BW,Q3]at c⊢ <;>first|exact d|exact⟨c,d⟩
mutual
theorem Ty.lvs_clo{n:Nat}:∀(t:Ty)(x:t.D),aR n (t.lvs x)=ζ
 |.bool,_=>rfl
 |.int _,_=>rfl
 |.str,_=>rfl
 |.list _,_=>rfl
 |.arr _ _,_=>rfl
 |.prod ts,x=>ts.lvs_clo x
theorem R1.lvs_clo{n:Nat}:∀(a:R1)(x:a.D),aR n (a.lvs x)=ζ
 |.one t,x=>t.lvs_clo x
 |.cons t a,x=>qb (t.lvs_clo x.1) (a.lvs_clo x.2)
end
variable {a g:Type}{n:Nat}{F:FuncId}{P:Program}{b:List QJ}{c:Int}{d:World}{e:Ty}{f:Bool}{h:Ac}{i:List Ac}{j:IntKind}{k:Value}
def qL(h:∀v∈i,Pure v)(a:Nat->Nat):Ac.renL a i=i:=by
 rw[OR];conv=>rhs;rw[<-eG i]
 exact Mt λv b=>(h v b).ren a
def tz{ρ:Nat->Nat}:∀{n:Nat}{v:Ac}{l:List Ac},(∀v∈l,Pure v)->Ac.renL ρ (Vh n v l)=Vh n (v.ren ρ) l
 |0,v,l,h=>by simp only[Vh,Ac.renL,qL h]
 |n+1,v,[],h=>rfl
 |n+1,v,x::l,h=>by have b:=tz (ρ:=ρ) (n:=n) (v:=v) (l:=l) λu a=>h u (Ce _ a);simp only[Vh,Ac.renL,(h x I3).ren,b]
def vo:∀{n:Nat}{v u:Ac}{l:List Ac},u∈Vh n v l->u=v\/u∈l
 |0,v,u,l,h=>by simpa[Vh]using h
 |n+1,v,u,[],h=>by simpa[Vh]using h
 |n+1,v,u,x::l,h=>by simp only[Vh]at h;rcases Aw.1 h with rfl|h;exact .inr k!;rcases vo h with h|h;exact .inl h;exact .inr (by simp[h])
def yh:∀{n:Nat}{v:TV}{l:List TV},(uA n v l).map TV.enc=Vh n v.enc (l.map TV.enc)
 |0,_,_=>rfl
 |n+1,_,[]=>rfl
 |n+1,v,x::l=>by simp only[uA,Bf,Vh,yh]
def yi:∀{n:Nat}{v u:TV}{l:List TV},u∈uA n v l->u=v\/u∈l
 |0,v,u,l,h=>by simpa[uA]using h
 |n+1,v,u,[],h=>by simpa[uA]using h
 |n+1,v,u,x::l,h=>by simp only[uA]at h;rcases Aw.1 h with rfl|h;exact .inr k!;rcases yi h with h|h;exact .inl h;exact .inr (by simp[h])
theorem qa{x:e.D}:∀v∈(e.enc x).cells,Pure v:=by
 intro v a;have h:=e.enc_pure x;cases b:e.enc x with
 |agg c=>rw[b]at a h;exact((Dt _ _).1 h) v a
 |_=>grind[Ac.cells]
def iB(a:Ty):∀(c:List Ty)(y:DL c)(b:a.D),LJ a c (uC a c y b)=(y,b)
 |[],_,_=>rfl
 |[_],_,_=>rfl
 |_::u::r,y,b=>by simp only[uC,LJ,iB a (u::r) y.2 b]
variable {P:Program}{cs:List QJ}{hs:FuncId->List Hint}{n:Nat}{F:FuncId}{ds rs:List Ty}
def AHv{f:Func}{e:Exit}{env:BZ}{H:Ap}{j:List TV}{c:Au}(k:yj e=ζ)(ok:No env H)(hr:nQ P env H f.results.toList=δ j)(g:Oa n (qJ (j.map TV.enc)) (BJ H) h c):
  AJS P f n (DQ h c) e (Bz env) (BJ H):=by
 have d:∃v b a,iN P f (Bz env) (BJ H)=δ v/\Oa n v (BJ H) b a/\DQ h c b a:=⟨_,_,_,uZ ok.env ok.heap hr,g,rfl,rfl⟩
 cases e<;>first|exact d|cases k
def ABL{g:DL ds->Option (DL rs)}(d:∀c∈cs,c.Ok P)(t:∀x,g x=ABA P cs hs n F ds rs x):(QJ.c0 F ds rs g).Ok P:=by
 intro x y a H;rw[t]at a;have key:Ea P F (mm ds x) [] (DQ (qJ (mm rs y)) []):=by unfold ABA at a;split at a;rename_i q s;split at a;rename_i c r;split at a;rename_i hn;obtain⟨e,o,z,a1,k1,l,B⟩:=qR (N:=q.ntmps) d (jr d n) F (hs F) c (cy 0 (xj ds x)) [] _ y ⟨jz (nT ds x),λe i=>by cases i⟩ a;unfold AIz at k1;split at k1;rename_i i;split at k1;rename_i m u;obtain⟨f,w,p⟩:=RF (qO m) l;simp only at k1 f w p;split at k1;rename_i C k;apply KD s r (by rw[<-Zs,BT];exact Om hn);rw[<-Zs,<-cz];refine Jg.after (a1.awp.mono ?_);rintro _ _ _ ⟨rfl,rfl,rfl⟩;exact⟨_,_,(p _).of_le (Bc _),AHv i f k (ub (H2:=[]) (Bc _) (λj A _ h=>by cases h) rfl (Wm (Ym k1)) (Xr (PO rs y)))⟩;cases k1;cases k1;cases k1;cases a;cases a;cases a
 exact Ea.frame (H:=H) [] key QW rfl rfl (λj b e h=>by cases h) (λe h=>by cases h) (λe h=>by cases h) (Xr (PO rs y)) (qL (PO ds x) _) ((Dt _ _).2 λv k=>(PO ds x v k).all _)
theorem AFs{pos:Nat}{g:e.D->DL ds->Option (DL (rs++[e]))}(m:∀c∈cs,c.Ok P)(T:∀b x,g b x=ADY P cs hs n F pos e ds rs b x):(QJ.c1 F pos e ds rs g).Ok P:=by
 intro b x y f H id V;rw[T]at f;have key:∃r i,y=uC e rs r i/\Ea P F (Vh pos (.ptr 0 0 0) (mm ds x)) [.live 0 (e.enc b).cells] (DQ (qJ (mm rs r)) [.live 0 (e.enc i).cells]):=by
  unfold ADY at f;split at f;rename_i M S;split at f;rename_i c R;split at f;rename_i hn;have t:No (cy 0 (uA pos (.c (.raw (.ptr 0 0 0))) (xj ds x))) [.live η (e.lvs b)]:=by refine⟨jz λv d=>?_,λa s=>?_⟩;rcases yi d with rfl|d;exact Ji trivial;grind[nT];rw[BA.1 s];exact e.lvs_ok b
  obtain⟨a,l,G,a1,k1,u,E⟩:=qR (N:=M.ntmps) m (jr m n) F (hs F) c _ _ _ y t f;unfold AI0 at k1;split at k1;rename_i s;split at k1;rename_i z W;generalize C:(qO z++_)=ids at k1;obtain⟨k,w,A⟩:=RF ids u;generalize IT ids l G=fz at k1 k w A;obtain⟨ef,U⟩:=fz;simp only at k1 k w A;split at k1;rename_i vs Y I d O;split at k1;rename_i r i hr q;injection k1 with k1;refine⟨r,i,k1.symm,?_⟩;have J:BJ [.live η (e.lvs b)]=[.live 0 (e.enc b).cells]:=by simp only[BJ,Bf,HQ,Dv.enc,e.lvs_enc]
  have K:BJ [.live η (e.lvs i)]=[.live 0 (e.enc i).cells]:=by simp only[BJ,Bf,HQ,Dv.enc,e.lvs_enc]
  have L:Vh pos (.ptr 0 0 0) (mm ds x)=(uA pos (.c (.raw (.ptr 0 0 0))) (xj ds x)).map TV.enc:=by rw[yh,Zs];rfl
  rw[<-J,<-K,L];apply KD S R (by rw[BT];exact Om hn);rw[<-cz];refine Jg.after (a1.awp.mono ?_);rintro _ _ _ ⟨rfl,rfl,rfl⟩;have o:1<=θ U:=Ct E.step.len w.step.len;refine⟨_,_,(A _).of_le (by rw[CW,CW];exact E.step.len),AHv s k d ?_⟩;rw[CW];refine ub (H2:=[.live η (e.lvs i)]) o (λj Z _ h=>?_) (by simp only[ly,e.lvs_clo,Xk]) (Wm (Ym hr)) (Xr (PO rs r));match j,h with
  |0,h=>simp only[ba,Ao]at h;subst h;refine⟨_,O,.inr (.inl ⟨_,_,_,_,rfl,rfl,?_⟩)⟩;rw[e.lvs_enc];exact Fq q
  |j+1,h=>grind
  cases k1;cases k1;cases k1;cases k1;cases f;cases f;cases f
 obtain⟨r,i,rfl,key⟩:=key;rw[iB];have Q:Ac.renL (λj=>[id].getD j 0) (Vh pos (.ptr 0 0 0) (mm ds x))=Vh pos (.ptr id 0 0) (mm ds x):=by rw[tz (PO ds x)];rfl
 exact Ea.frame (H:=H) [id] key (GI.2 ⟨k!,QW⟩) rfl rfl (λj X a p B=>by
   match j,p,B with
   |0,p,B=>grind[List.getElem?_cons_zero,Option.some.injEq]
   |j+1,p,_=>simp at p) (λa h=>by
   rw[BA.1 h];exact(Dt _ _).2 λv d=>qa v d) (λa h=>by
   rw[BA.1 h];exact(Dt _ _).2 λv d=>qa v d) (Xr (PO rs r)) Q ((Dt _ _).2 λv d=>by
   rcases vo d with rfl|d;rfl;exact(PO ds x v d).all _)
end Go.Ab
namespace Go.Ab
def gi:List (Nat×List Hint)->FuncId->List Hint
 |[],_=>[]
 |(k,h)::r,F=>match ξ k F with|true=>h|false=>gi r F
theorem CC{P:Program}:∀c∈([]:List QJ),c.Ok P:=q!
variable {a g:Type}{n:Nat}{F:FuncId}{P:Program}{b:List QJ}{c:Int}{d:World}{e:Ty}{f:Bool}{h:Ac}{i:List Ac}{j:IntKind}{k:Value}
theorem A7{P:Program}{c:QJ}(h:c.Ok P)(a:∀c∈b,c.Ok P):∀d∈c::b,d.Ok P:=q!
def wi(a:Int):Int:=ι .i64 a
abbrev len{α:Type}(l:List α):Int:=(θ l:Int)
def oH{A B:Type}(f:(A->Option B)->A->Option B):Nat->A->Option B
 |0,_=>ε
 |n+1,x=>f (oH f n) x
noncomputable def rU{A B:Type}(f:(A->Option B)->A->Option B)(x:A):Option B:=open Classical in if h:∃r n,oH f n x=δ r then δ h.choose else ε
theorem c7{f:(a->Option g)->a->Option g}{x:a}{r:g}(h:rU f x=δ r):∃n,oH f n x=δ r:=by unfold rU at h;split at h<;>grind
theorem fy{f:(a->Option g)->a->Option g}{x:a}{r:g}{n:Nat}(h:oH f n x=δ r):∃s,rU f x=δ s:=by unfold rU;rw[dif_pos ⟨r,n,h⟩];grind
def AFu{P:Program}{hs:FuncId→List Hint}{n:Nat}{F:FuncId}{ds rs:List Ty}{f:(DL ds→Option (DL rs))→DL ds→Option (DL rs)}(a:∀c∈b,c.Ok P)
  (e:∀g x,f g x=ABA P (.c0 F ds rs g::b) hs n F ds rs x):(QJ.c0 F ds rs (rU f)).Ok P:=by
 have key:∀m,(QJ.c0 F ds rs (oH f m)).Ok P:=by
  intro m;induction m with
  |zero=>intro x y d;cases d
  |succ m i=>exact ABL (cs:=.c0 F ds rs (oH f m)::b) (A7 i a) λx=>e (oH f m) x
 intro x y d;obtain⟨m,h⟩:=c7 d;exact key m x y h
def AI1(P:Program)(fn:Func)(te:Ty)(rs:List Ty):Exit->BZ->Ap->Option (DL (rs++[.list te])):=λe env H=>
 match yj e with
 |true=>
  match nQ P env H fn.results.toList with
  |some vs0=>
   match IT ((qO vs0).filter λi=>! ξ i 0) env H with
   |(ef,hf)=>
    match nQ P ef hf fn.results.toList,(hf[0]? :Option Dv)with
    |some vs,δ (.buf _ t l _ _)=>if h:(Ty.list t).beq (Ty.list te)=ζ then(match inp rs vs with|some y=>δ (uC (.list te) rs y (Ty.cast h l))|none=>ε)else ε
    |_,_=>ε
  |none=>ε
 |false=>ε
def fnC:Ac->Bool
 |.fn (.func _) [] []=>ζ
 |_=>η
def yB(te:Ty)(ds:List Ty)(post:List Ac)(l:List te.D)(x:DL ds):List TV:=.c (.own 0 0 te (θ l))::(xj ds x++post.map λv=>.c (.raw v))
noncomputable def ADZ(P:Program)(cs:List QJ)(hs:FuncId->List Hint)(n:Nat)(F:FuncId)(te:Ty)(ds rs:List Ty)(post:List Ac)(l:List te.D)(x:DL ds):Option (DL (rs++[.list te])):=
 match P.funcs[F]? with
 |some fn=>
  match fn.body with
  |some c=>
   match Nat.ble (yB te ds post l x).length fn.ntmps&&post.all fnC with
   |true=>rZ P cs (qZ P cs hs n) fn.ntmps F (hs F) c (cy 0 (yB te ds post l x)) [.buf η te l (θ l) 0] (AI1 P fn te rs)
   |false=>ε
  |none=>ε
 |none=>ε
theorem AHy(v:fnC h=ζ):∃F,h=.fn (.func F) [] []:=by unfold fnC at v;grind
def ADx(v:fnC h=ζ):Pure h:=by obtain⟨F,rfl⟩:=AHy v;rfl
variable {P:Program}{cs:List QJ}{hs:FuncId->List Hint}{n:Nat}{F:FuncId}{ds rs:List Ty}{te:Ty}{post:List Ac}
def AB8(l:List te.D)(x:DL ds):(yB te ds post l x).map TV.enc=.sl 0 (θ l) te.sz 0 (θ l)::(mm ds x++post):=by
 have e:(post.map λv=>TV.c (.raw v)).map TV.enc=post:=by
  rw[Og];conv=>rhs;rw[<-eG post]
  exact Mt λv _=>rfl
 simp only[yB,Bf,J7,Zs,e];rfl
theorem Q9{g:List te.D->DL ds->Option (DL (rs++[.list te]))}(t:∀c∈cs,c.Ok P)(hg:∀l x,g l x=ADZ P cs hs n F te ds rs post l x):(QJ.c2 F te ds rs post g).Ok P:=by
 intro l x y k d H id C;rw[hg]at k;have key:∃r m,y=uC (.list te) rs r m/\(∀v∈post,Pure v)/\Ea P F (.sl 0 (θ l) te.sz 0 (θ l)::(mm ds x++post)) [.live (θ l) (te.E.cl l)] (DQ (qJ (mm rs r)) [.live (θ m) (te.E.cl m)]):=by
  unfold ADZ at k;split at k;rename_i fn hf;split at k;rename_i c hb;split at k;rename_i hn;simp only[BW]at hn;have b:∀v∈post,Pure v:=λv a=>ADx (GA.1 hn.2 v a);have w:([Dv.buf η te l (θ l) 0]:Ap)[0]?=δ (.buf η te l (θ l) 0):=rfl;have K:No (cy 0 (yB te ds post l x)) [.buf η te l (θ l) 0]:=by refine⟨jz λv a=>?_,λe B=>?_⟩;rcases Aw.1 a with rfl|a;exact Ji (V7 w);rcases Ak.1 a with a|a;grind[nT];obtain⟨u,_,rfl⟩:=Bs.1 a;exact Ji trivial;rw[BA.1 B];exact rfl
  obtain⟨e,s,W,a1,k1,L,U⟩:=qR (N:=fn.ntmps) t (jr t n) F (hs F) c _ _ _ y K k;unfold AI1 at k1;split at k1;rename_i B;split at k1;rename_i O ad;generalize T:((qO O).filter _)=ids at k1;obtain⟨o,M,Q⟩:=RF ids L;generalize IT ids s W=fz at k1 o M Q;obtain⟨ef,hh⟩:=fz;simp only at k1 o M Q;split at k1;rename_i vs X q l1 J V a R;split at k1;rename_i z;split at k1;rename_i r hr;injection k1 with k1;have i:=Ty.beq_eq _ _ z;injection i with i;subst i;have p:(Ty.cast z l1:List q.D)=l1:=rfl;rw[p]at k1;have I:J=θ l1:=o.heap _ (BN R);refine⟨r,l1,k1.symm,b,?_⟩;have Y:BJ [.buf η q l (θ l) 0]=[.live (θ l) (q.E.cl l)]:=rfl;have Z:BJ [.buf η q l1 J V]=[.live (θ l1) (q.E.cl l1)]:=by rw[<-I];rfl
  rw[<-Y,<-Z,<-AB8];apply KD hf hb (by rw[BT];exact Om hn.1);rw[<-cz];refine Jg.after (a1.awp.mono ?_);rintro _ _ _ ⟨rfl,rfl,rfl⟩;have G:1<=θ hh:=Ct U.step.len M.step.len;refine⟨_,_,(Q _).of_le (by rw[CW,CW];exact U.step.len),AHv B o a ?_⟩;rw[CW];refine ub (H2:=[.buf η q l1 J V]) G (λj e' _ h=>?_) rfl (Wm (Ym hr)) (Xr (PO rs r));match j,h with
  |0,h=>simp only[ba,Ao]at h;subst h;exact⟨_,R,.inr (.inr (.inl ⟨_,_,_,_,_,_,_,rfl,rfl⟩))⟩
  |j+1,h=>simp at h
  cases k1;cases k1;cases k1;cases k1;cases k1;cases k;cases k;cases k
 obtain⟨r,m,rfl,b,key⟩:=key;rw[iB]at d⊢;simp only at d⊢;rw[<-d];rw[<-d]at C key;have f:∀v∈mm ds x++post,Pure v:=λv a=>(Ak.1 a).elim (PO ds x v) (b v);have ha:Ac.renL (λj=>[id].getD j 0) (.sl 0 (θ m) te.sz 0 (θ m)::(mm ds x++post))=.sl id (θ m) te.sz 0 (θ m)::(mm ds x++post):=by simp only[Ac.renL,qL f];rfl
 exact Ea.frame (H:=H) [id] key (GI.2 ⟨k!,QW⟩) rfl rfl (λj X e A S=>by
   match j,A,S with
   |0,A,S=>grind[List.getElem?_cons_zero,Option.some.injEq]
   |j+1,A,_=>simp at A) (λe h=>by
   rw[BA.1 h];exact(Dt _ _).2 (wm te l)) (λe h=>by
   rw[BA.1 h];exact(Dt _ _).2 (wm te m)) (Xr (PO rs r)) ha ((Dt _ _).2 λv a=>by
   rcases Aw.1 a with rfl|a;rfl;exact(f v a).all _)
def tH{f:(List te.D×DL ds→Option (DL (rs++[.list te])))→List te.D×DL ds→Option (DL (rs++[.list te]))}(a:∀c∈cs,c.Ok P)
  (d:∀g l x,f g (l,x)=ADZ P (.c2 F te ds rs post (λl x=>g (l,x))::cs) hs n F te ds rs post l x):(QJ.c2 F te ds rs post λl x=>rU f (l,x)).Ok P:=by
 have key:∀m,(QJ.c2 F te ds rs post λl x=>oH f m (l,x)).Ok P:=by
  intro m;induction m with
  |zero=>intro l x y b;cases b
  |succ m h=>exact Q9 (cs:=.c2 F te ds rs post (λl x=>oH f m (l,x))::cs) (A7 h a) λl x=>d (oH f m) l x
 intro l x y b;obtain⟨m,e⟩:=c7 b;exact key m l x y e
end Go.Ab
namespace Go.Ab
def clW(fn:Func):Nat->String:=λi=>
 match fn.body with
 |some (.seq (.region _ a _) (.seq (.seq (.region _ b _) (.cond _ (.seq (.region _ c _) _) _)) (.seq (.region _ d _) _)))=>(((a++b++c++d)[i]?).map (·.pos)).getD default
 |_=>default
def ACF(t b:TypeId)(w:Nat->String):Code:=
 .seq (.region 0 #[⟨δ 2,.assign (.const (.slice ε 0 0)),t,w 0, #[],ε⟩] η)
  (.seq (.seq (.region 1 #[⟨δ 3,.move (.tmp 0),t,w 1, #[],ε⟩,⟨δ 4,.binOp .eql t (.tmp 3) (.const (.slice ε 0 0)) t,b,w 2, #[⟨0,.data⟩],ε⟩] η)
    (.cond (.tmp 4) (.seq (.region 2 #[⟨δ 2,.assign (.const (.slice ε 0 0)),t,w 3, #[],ε⟩] η) .ret) .skip))
   (.seq (.region 3 #[⟨δ 5,.buildSlice t 0 #[],t,w 4, #[],ε⟩,⟨δ 6,.move (.tmp 0),t,w 5, #[],ε⟩,
     ⟨δ 7,.call {callee:=.builtin .append,args:= #[.tmp 5,.tmp 6],argTypes:= #[t,t]},t,w 6, #[⟨0,.data⟩,⟨1,.data⟩],ε⟩,
     ⟨δ 2,.assign (.tmp 7),t,w 7, #[⟨2,.data⟩,⟨2,.chain⟩,⟨0,.phase⟩,⟨1,.phase⟩,⟨2,.phase⟩],ε⟩] η) .ret))
def Oa.none{n0:Nat}{H:Au}{id g sz off:Nat}(hn:n0<=θ H)(b:id<θ H)(k:0<sz):Oa n0 (.sl id g sz off 0) H (.vs sz []) (H.set id .dead):=by
 refine⟨by simpa using hn,λX h w c s r=>?_⟩;obtain⟨p,t⟩:=s.kill b;refine⟨h,p,?_,λ_ _=>⟨rfl,rfl,rfl⟩,λB o=>?_⟩;cases r with
 |sl l m n q=>obtain⟨a,cap,rfl⟩:=n;exact Bx.vs (rows:=[]) (λ_ _=>undef) (Bc _) k (λj e h=>by simp at h) (λh=>(h rfl).elim) (λj e i v h=>by simp at h)
 obtain⟨i,e,l,d,m⟩:=o;rcases JU b l with⟨_,f⟩|⟨rfl,rfl⟩;exact⟨i,e,f,d,m⟩;exact(d rfl).elim
variable {a g:Type}{n:Nat}{F:FuncId}{P:Program}{b:List QJ}{c:Int}{d:World}{e:Ty}{f:Bool}{i:List Ac}{j:IntKind}{k:Value}
theorem ADe{P:Program}{F:FuncId}{t b:TypeId}{a:Ty}(o:(P.funcs[F]?).map (λx=>(x.body,x.ntmps,x.results))=some (some (ACF t b (((P.funcs[F]?).map clW).getD (λ_=>default))),8, #[.tmp 2]))(I:elT P t=some a)(j:gw 0 a #[] []=true):(QJ.cl F a).Ok P:=by
 generalize ((P.funcs[F]?).map clW).getD (λ_=>default)=w at o;obtain⟨x,T,B⟩:=S9.1 o;injection B with O B;injection B with hn hr;intro l H U;obtain⟨e,A,u⟩:=jw I;have J:=(Qd A).1;have z: ∀env,Sr P env t 0 #[]=some (a.sz,[]):=by intro env;unfold Sr;simp only[A];refine if_pos ⟨a.sz_pos,u,rfl,rfl,Bc _,?_⟩;unfold gw at j;simp only[BW]at j;exact Om j.2
 have main: ∀Q:Ac→Au→Prop,(l=[]→Q (.vs a.sz []) (BJ (H++[.dead])))→(∀r,l≠ []→app [] l=some r→Q (.sl H.length r.length a.sz 0 r.length) (BJ (H++[.buf false a r r.length 0])))→
   (l=[]\/ ∃r,app [] l=some r)->Ea P F [.vs a.sz (l.map a.enc)] (BJ H) Q:=by
  intro Q L M f;refine KD T O (by rw[hn];simp) ?_;rw[hn];refine Jg.seq (Fp rfl (Wg.cons rfl (Ds (v:=.nils) rfl (Wg.nil (Jg.seq (Jg.seq (Fp rfl (Wg.cons rfl (Ds (v:=.vs a.sz (l.map a.enc)) rfl (Wg.cons rfl (tW (sz:=a.sz) (rows:=l.map a.enc) rfl J rfl λK S=>Wg.nil ?_)))))))))));have k:K=true->l=[]:=λh=>by by_cases i:l=[]<;>simp_all
  have d:(BJ H++[Fk.live 0 []]).set (BJ H).length Fk.dead=BJ (H++[.dead]):=by simp_all[S6,An,Gp,BJ,Dv.enc]
  refine Jg.cond (b:=K) rfl (λy=>?_) (λR=>?_);refine Jg.seq (Fp rfl (Wg.cons rfl (Ds (v:=.nils) rfl (Wg.nil (Jg.weak (FU.virt (t:=2) (sz:=a.sz) rfl) (Jg.ret (⟨.sl (BJ H).length 0 a.sz 0 0,.vs a.sz [],(BJ H++[Fk.live 0 []]).set (BJ H).length Fk.dead,by simp[iN,hr,S1,nR,Env.putO,Env.put,Env.get],Oa.none (by simp) (by simp) a.sz_pos,?_⟩)))))));rw[d];exact L (k y);refine Jg.skip (Jg.seq (Fp rfl (Wg.cons rfl (Tm (sz:=a.sz) (vs:=[]) rfl (z _) (Wg.cons rfl (Ds (v:=.vs a.sz (l.map a.enc)) rfl (Wg.cons rfl ?_)))))));have G:J6 (BJ H++[Fk.live 0 []]) a.sz (.vs a.sz (l.map a.enc))=some (l.length,a.E.cl l):=by simp only[J6,if_true,BT];rfl
  have p:0+l.length<=16777216:=by rcases f with rfl|⟨r,hr⟩;simp;obtain⟨M,_⟩:=ng hr;simpa using M
  refine Rv (sx:=.tmp 5) (xx:=.tmp 6) (H:=BJ H++[Fk.live 0 []]) (id:=(BJ H).length) (g:=0) (g':=l.length) (n:=0) (cs:=[]) (m:=l.length) (news:=a.E.cl l) rfl A a.sz_pos u rfl (by simp) (by simp) G p (by rcases Vo l.length with q|q;exact .inr ⟨q,q⟩;exact .inl q) ?_;refine Wg.cons rfl (Ds (v:=.sl (BJ H).length l.length a.sz 0 (0+l.length)) rfl (Wg.nil (Jg.ret ?_)));have N:(BJ H++[Fk.live 0 []]).set (BJ H).length (.live l.length ([]++a.E.cl l))=BJ (H++[.buf false a l l.length 0]):=by simp_all[S6,An,Gp,BJ,Dv.enc]
  by_cases i:l=[];subst i;refine⟨.sl (BJ H).length 0 a.sz 0 0,.vs a.sz [],(BJ H++[Fk.live 0 []]).set (BJ H).length Fk.dead,by simp[iN,hr,S1,nR,Env.putO,Env.put,Env.get],?_,?_⟩;have:=Oa.none (n0:=(BJ H).length) (H:=BJ H++[Fk.live 0 []]) (id:=(BJ H).length) (g:=0) (off:=0) (by simp) (by simp) a.sz_pos;have e:(BJ H++[Fk.live 0 []]).set (BJ H).length (.live ([]:List a.D).length ([]++a.E.cl []))=BJ H++[Fk.live 0 []]:=by rw[S6 _ _ (An _),Gp];rfl
  rw[e];exact this;rw[d];exact L rfl;rcases f with h|⟨r,c⟩;exact(i h).elim;obtain⟨_,C⟩:=ng c;have s:l=r:=by simpa using C.symm
  subst s;refine⟨.sl (BJ H).length l.length a.sz 0 l.length,_,_,by simp[iN,hr,S1,nR,Env.putO,Env.put,Env.get],Oa.refl _ _ (by simp),?_⟩;grind[CW]
 refine⟨λi=>?_,λr i hr=>?_⟩;subst i;exact main _ (λ_=>⟨rfl,rfl⟩) (λr h=>(h rfl).elim) (.inl rfl);exact main _ (λh=>(i h).elim) (λV _ c=>by rw[hr]at c;injection c with c;subst c;exact⟨rfl,rfl⟩) (.inr ⟨r,hr⟩)
abbrev i64:Ty:=.int .i64
abbrev hn(k i:Nat)(s:List Ob)(e:List (Exit×List Ob)):Hint:=⟨k,i,[],[],[],[],s,e⟩
def k0{a d:List Ty}{g:DL a→Option (DL d)}(l:List (Nat×List Hint))(e:∀c∈b,c.Ok P)
  (f:g=λx=>ABA P b (gi l) 13 F a d x:=by kernel_rfl):(QJ.c0 F a d g).Ok P:=ABL e λx=>congrFun f x
def k1{P:Program}{a:Ty}{d f:List Ty}{g:a.D→DL d→Option (DL (f++[a]))}(l:List (Nat×List Hint))(e:∀c∈b,c.Ok P)
  (i:g=λh x=>ADY P b (gi l) 13 F n a d f h x:=by kernel_rfl):(QJ.c1 F n a d f g).Ok P:=AFs e λh x=>congrFun (congrFun i h) x
noncomputable def ABm{α:Type}(key:α->Int)(l:List α):Option (List α):=if(l.map key).Nodup/\θ l<=16777216 then δ (l.mergeSort λa b=>decide (key a<=key b))else ε
def AAu{key:a->Int}{l m:List a}(hn:(l.map key).Nodup)(p:m.Perm l)(t:m.Pairwise λq b=>key q<=key b):m=l.mergeSort λq b=>decide (key q<=key b):=by
 have d:(l.mergeSort λq b=>decide (key q<=key b)).Perm l:=List.mergeSort_perm _ _;have o:(l.mergeSort λq b=>decide (key q<=key b)).Pairwise λq b=>key q<=key b:=by refine(List.pairwise_mergeSort (le:=λq b=>decide (key q<=key b)) ?_ ?_ l).imp λh=>M! h;intro q b c d o;simp only[K!]at*;omega;intro q b;simp only[TU,K!];omega
 refine pC (le:=λq b=>key q<=key b) ?_ t o (p.trans d.symm);intro q b r s q1 q2;have e:key q=key b:=o!
 have f:=p.subset r;have g:=d.subset s;obtain⟨i,k⟩:=DU f;obtain⟨j,n⟩:=DU g;have:=(pL (l:=l.map key) (i:=i) (j:=j) (by rw[BT];exact(EP.1 k).1) hn).1 (by simp[k,n,e]);subst this;rw[k]at n;exact Bg n
noncomputable def ABn{α:Type}(key:α->Int)(l:List α):Option (List α):=open Classical in if(∀a∈l,∀b∈l,key a=key b->a=b)/\θ l<=16777216 then δ (l.mergeSort λa b=>decide (key a<=key b))else ε
def AEx{key:a->Int}{l:List a}(hn:(l.map key).Nodup):∀f∈l,∀b∈l,key f=key b->f=b:=by intro f g b h e;obtain⟨i,c⟩:=DU g;obtain⟨j,d⟩:=DU h;have:=(pL (l:=l.map key) (i:=i) (j:=j) (by rw[BT];exact(EP.1 c).1) hn).1 (by simp[c,d,e]);subst this;rw[c]at d;exact Bg d
def AAv{key:g->Int}{l m:List g}(hn:∀a∈l,∀b∈l,key a=key b->a=b)(f:m.Perm l)(k:m.Pairwise λa b=>key a<=key b):m=l.mergeSort λa b=>decide (key a<=key b):=by
 have d:(l.mergeSort λa b=>decide (key a<=key b)).Perm l:=List.mergeSort_perm _ _;have e:(l.mergeSort λa b=>decide (key a<=key b)).Pairwise λa b=>key a<=key b:=by refine(List.pairwise_mergeSort (le:=λa b=>decide (key a<=key b)) ?_ ?_ l).imp λh=>M! h;intro a b c d e;simp only[K!]at*;omega;intro a b;simp only[TU,K!];omega
 refine pC (le:=λa b=>key a<=key b) ?_ k e (f.trans d.symm);intro a b i j q1 q2;exact hn a (f.subset i) b (d.subset j) o!
theorem w64(h: -9223372036854775808<=c/\c<=9223372036854775807):ι .i64 c=c:=by grind[IntKind.wrap_i64]
def ACa{body:a->Option (Step a g)}(I:a->Prop)(Q:g->Prop)(b:a->Nat)(i:∀s,I s->(∃r,body s=δ (.done r)/\Q r)\/∃S,body s=δ (.next S)/\I S/\b S<b s){s:a}(h:I s):∃r,Ai body s=δ r/\Q r:=by
 have key:∀(n:Nat)(s:a),b s<n->I s->∃r,Ai body s=δ r/\Q r:=by
  intro n;induction n with
  |zero=>intro s j;omega
  |succ n k=>intro s j R;rcases i s R with⟨r,c,d⟩|⟨S,c,d,l⟩;exact⟨r,by rw[HG,c],d⟩;obtain⟨r,e,f⟩:=k S o! d;exact⟨r,by rw[HG,c];exact e,f⟩
 exact key (b s+1) s o! h
theorem AGC{l:List a}{x:a}(h:l[n]?=δ x):ix l (n:Int)=δ x:=by unfold ix;grind[Int.toNat_natCast]
def AI8{l:List a}(i:0<=c)(b:c<θ l):∃x,ix l c=δ x/\l[c.toNat]?=δ x:=by
 obtain⟨n,rfl⟩:=EE i;have hn:n<θ l:=o!
 exact⟨l[n],AGC (Ar hn),by simp[hn]⟩
def AHg{l b:List a}(h:θ l+θ b<=16777216):app l b=δ (l++b):=C! h
theorem AFb(b:GO n a){i:Nat}(h:i<n):Gk b (i:Int)=δ (b ⟨i,h⟩):=by grind[Gk]
def As(o:Option a)(Q:a->Prop):Prop:=∃r,o=δ r/\Q r
section
variable {α β γ:Type}
theorem AB{r:α}{Q:α->Prop}(h:Q r):As (.some r) Q:=⟨r,rfl,h⟩
def As.mono{o:Option α}{P Q:α->Prop}(h:As o P)(c:∀r,P r->Q r):As o Q:=by obtain⟨r,a,b⟩:=h;exact⟨r,a,c r b⟩
theorem AA{o:Option α}{k:α->Option β}{P:α->Prop}{Q:β->Prop}(h:As o P)(b:∀r,P r->As (k r) Q):As (σ o k) Q:=by obtain⟨r,rfl,a⟩:=h;exact b r a
theorem D6{o:Option α}{k:α->Option β}{P:α->Prop}{Q:β->Prop}(h:As o P)(b:∀r,o=.some r->P r->As (k r) Q):As (σ o k) Q:=by obtain⟨r,rfl,a⟩:=h;exact b r rfl a
def AM{o:Option α}{k:α->Option β}{P:α->Prop}{Q:β->Prop}(a:∀r,P r->As (k r) Q)(h:As o P):As (σ o k) Q:=AA h a
def AK{a b:Option α}{Q:α->Prop}(d:f=ζ->As a Q)(e:f=η->As b Q):As (bif f then a else b) Q:=by
 cases f with
 |true=>exact d rfl
 |false=>exact e rfl
def AC{p:Prop}{_:Decidable p}{a b:Option α}{Q:α->Prop}(c:p->As a Q)(d:¬p->As b Q):As (bif decide p then a else b) Q:=AK (λh=>c (M! h)) (λh=>d (of_decide_eq_false h))
theorem AO{a b:Option α}{Q:α->Prop}(d:f=η->As a Q)(e:f=ζ->As b Q):As (bif !f then a else b) Q:=by
 cases f with
 |true=>exact e rfl
 |false=>exact d rfl
theorem AP{_:BEq g} [LawfulBEq g] {x y:g}{a b:Option α}{Q:α->Prop}(c:x=y->As a Q)(d:x≠y->As b Q):As (bif x==y then a else b) Q:=AK (λh=>c (eq_of_beq h)) (λh=>d (ne_of_beq_false h))
theorem AL{_:BEq g} [LawfulBEq g] {x y:g}{a b:Option α}{Q:α->Prop}(c:x≠y->As a Q)(d:x=y->As b Q):As (bif x !=y then a else b) Q:=by refine AK (λh=>c λe=>?_) (λh=>d ?_);subst e;simp at h;simpa using h
def Bh{a b:Option α}{k:α->Option β}{Q:β->Prop}(h:As (bif f then σ a k else σ b k) Q):As (σ (bif f then a else b) k) Q:=by cases f<;>exact h
theorem BF{a:α}{k:α->Option β}{Q:β->Prop}(h:As (k a) Q):As (σ (.some a) k) Q:=h
def B0{o:Option α}{f:α->Option β}{k:β->Option γ}{Q:γ->Prop}(h:As (σ o λv=>σ (f v) k) Q):As (σ (σ o f) k) Q:=by cases o<;>exact h
def Mz{f:α->Option γ}{g:β->Option γ}{o:α⊕β}{k:γ->Option a}{Q:a->Prop}(h:As (ν (λu=>σ (f u) k) (λu=>σ (g u) k) o) Q):As (σ (ν f g o) k) Q:=by cases o<;>exact h
theorem BK{u:α}{f:α->Option γ}{g:β->Option γ}{Q:γ->Prop}(h:As (f u) Q):As (ν f g (.inl u)) Q:=h
theorem A4{u:β}{f:α->Option γ}{g:β->Option γ}{Q:γ->Prop}(h:As (g u) Q):As (ν f g (.inr u)) Q:=h
theorem BG{f:α->Option γ}{g:β->Option γ}{o:α⊕β}{Q:γ->Prop}(a:∀u,o=.inl u->As (f u) Q)(b:∀u,o=.inr u->As (g u) Q):As (ν f g o) Q:=by
 cases o with
 |inl u=>exact a u rfl
 |inr u=>exact b u rfl
def As.get{o:Option α}{Q:α->Prop}{r:α}(h:As o Q)(e:o=.some r):Q r:=by obtain⟨s,a,b⟩:=h;rw[e]at a;injection a with a;rw[a];exact b
def As.and{o:Option α}{P Q:α->Prop}(h:As o P)(g:As o Q):As o λr=>P r/\Q r:=by obtain⟨r,a,b⟩:=h;exact⟨r,a,b,g.get a⟩
theorem AJ{l:List α}{i:Int}(b:0<=i:=by omega)(c:i<l.length:=by omega):As (ix l i) λx=>l[i.toNat]? = .some x/\x∈l:=by obtain⟨x,d,a⟩:=AI8 b c;exact⟨x,d,a,BN a⟩
theorem Ad{l a:List α}(h:θ l+θ a<=16777216):As (app l a) λr=>r=l++a/\θ r=θ l+θ a/\θ r<=16777216:=⟨_,AHg h,rfl,k!,w!⟩
theorem CE{a b:BX}(h:θ a+θ b<=9223372036854775807):As (sapp a b) λr=>r=a++b/\θ r=θ a+θ b:=by refine⟨a++b,?_,rfl,k!⟩;unfold Go.Ab.sapp;rw[C! h]
theorem CY{s:BX}{lo hi:Int}(a:0<=lo:=by omega)(b:lo<=hi:=by omega)(c:hi<=s.length:=by omega):As (R0 s lo hi) λr=>r=(s.drop lo.toNat).take (hi.toNat-lo.toNat)/\(r.length:Int)=hi-lo:=by refine⟨_,if_pos ⟨a,b,c⟩,rfl,?_⟩;rw[BR,C5];omega
theorem Bn{s:List α}{lo hi:Int}(a:0<=lo:=by omega)(b:lo<=hi:=by omega)(c:hi<=s.length:=by omega):As (W7 s lo hi) λr=>r=(s.drop lo.toNat).take (hi.toNat-lo.toNat)/\(r.length:Int)=hi-lo:=by refine⟨_,if_pos ⟨a,b,c⟩,rfl,?_⟩;rw[BR,C5];omega
def RE{s:BX}{i:Int}(a:0<=i)(c:i<θ s):As (six s i) λb=>0<=b/\b<256:=by
 obtain⟨n,rfl⟩:=EE a;have hn:n<θ s:=o!
 refine⟨(s[n].toNat:Int),?_,o!,?_⟩;unfold Go.Ab.six;simp[hn];have:=s[n].toNat_lt;omega
def DX{a:GO n α}(b:0<=c)(i:c<n):As (Gk a c) λx=>x=a ⟨c.toNat,o!⟩:=by obtain⟨k,rfl⟩:=EE b;exact⟨_,AFb a o!,rfl⟩
theorem yV{z:α}(a:0<=c)(b:c<=16777216):As (mk z c c) λr=>r=ς c.toNat z/\(θ r:Int)=c:=by refine⟨ς c.toNat z,?_,rfl,w!⟩;unfold Go.Ab.mk;rw[C! ⟨a,Af _,b⟩]
def AW{body:a→Option (Step a g)}(I:a→Prop)(b:a→Nat){Q:g→Prop}{s:a}(c:I s)
  (f:∀s,I s->As (body s) λst=>match st with|.next S=>I S/\b S<b s|.done r=>Q r):As (Ai body s) Q:=by
 obtain⟨r,d,e⟩:=ACa (body:=body) I Q b (λs R=>by
  obtain⟨st,q1,q2⟩:=f s R;cases st with
  |next S=>exact .inr ⟨S,q1,q2.1,q2.2⟩
  |done r=>exact .inl ⟨r,q1,q2⟩) c
 exact⟨r,d,e⟩
theorem We(n:Int):ι .u64 n=n%18446744073709551616:=by simp[ι,IntKind.bits,IntKind.signed]
theorem wU(n:Int):ι .u32 n=n%4294967296:=by simp[ι,IntKind.bits,IntKind.signed]
def AGy(n:Int):ι .u8 n=n%256:=by simp[ι,IntKind.bits,IntKind.signed]
def aT{Q:α->Prop}(h:False):As .none Q:=h.elim
theorem AZ{x:Int}(h: -9223372036854775808<=x/\x<=9223372036854775807:=by omega):wi x=x:=w64 h
theorem l!{P:Prop}(h:P:=by (try dsimp[len]at*);(try first|omega|assumption|grind[AZ])):P:=h
theorem i!{P:Prop}(h:P:=by simp only[len];omega):P:=h
theorem x!{P:Prop}(h:P:=by (repeat' with_reducible first|intro a|apply AC|apply AO|(apply BK;try dsimp only)|apply AL|apply AP|(apply BF;try dsimp only)|apply AK|(apply A4;try dsimp only)|(apply BG<;>(intro u a;try subst a))|(refine AM ?_ (OE ?_);intro r hr)|apply Bh|(apply AA (Bo);intro r hr)|(apply AA (L8);intro r hr)|(refine AM ?_ (aW ?_);intro r hr)|(refine AM ?_ (Ww ?_);intro r hr)|(apply AA (Sb);intro r hr)|(refine AM ?_ (ZH ?_);intro r hr)|(refine AM ?_ (ZE ?_);intro r hr)|(refine AM ?_ (Wt ?_);intro r hr)|(apply AA (gP);intro r hr)|apply Mz|(apply AA (ER);intro r hr)|apply AB|apply B0|(refine AM ?_ (M8 ?_);intro r hr)|apply aT|(refine AM ?_ (GD ?_ ?_);intro r hr)|(refine AM ?_ (da ?_);intro r hr)|(refine AM ?_ (YR ?_);intro r hr)|(refine AM ?_ (IB ?_);intro r hr)|(refine AM ?_ (Qj ?_);intro r hr)|(rw[w _ _ rfl rfl];apply BF;dsimp only)|(refine AM ?_ (IF ?_);intro r hr)|(apply AA (Dz);intro r hr)|(apply AA (N8);intro r hr)|(apply AA (oR);intro r hr)|(refine AM ?_ (Dd ?_);intro r hr)|(refine AM ?_ (NW ?_ ?_);intro r hr)|(refine AM ?_ (FM ?_);intro r hr)|(apply AA (GK);intro r hr)|(refine AM ?_ (Jy ?_);intro r hr)|(refine AM ?_ (Ya ?_);intro r hr)|(apply AA (Fg);intro r hr)|(refine AM ?_ (aX ?_);intro r hr)|(refine AM ?_ (Cj ?_);intro r hr)|(refine AM ?_ (WS ?_);intro r hr)|(refine AM ?_ (Uo ?_);intro r hr)|(refine AM ?_ (Si ?_);intro r hr)|(refine AM ?_ (Ra ?_);intro r hr)|(apply AA (MI);intro r hr)|(apply AA (Um);intro r hr)|(refine AM ?_ (O7 ?_);intro r hr)|(refine AM ?_ (Xc ?_);intro r hr)|(refine AM ?_ (YN ?_);intro r hr)|(apply AA (dW);intro r hr)|(refine AM ?_ (ZG ?_);intro r hr)|(apply AA (dO);intro r hr)|(refine AM ?_ (iv ?_);intro r hr)|(apply AA (G3);intro r hr)|(apply AA (oS);intro r hr)|(refine AM ?_ (YX ?_);intro r hr)|(apply AA (GC);intro r hr)|(apply AA (N2);intro r hr)|(refine AM ?_ (Qk ?_);intro r hr)|(refine AM ?_ (YY ?_);intro r hr)|(refine AM ?_ (YW ?_);intro r hr)|(refine AM ?_ (Yb ?_);intro r hr)|(refine AM ?_ (WT ?_ ?_);intro r hr)|(refine AM ?_ (XY ?_);intro r hr)|(refine AM ?_ (ZF ?_);intro r hr)|(apply AA (pp);intro r hr)|(apply AA (CV);intro r hr)|(refine AM ?_ (Pc ?_);intro r hr)|(apply AA (jA);intro r hr)|(refine AM ?_ (XW ?_);intro r hr)|(refine AM ?_ (ZK ?_);intro r hr)|(apply AA (oT);intro r hr)|(refine AM ?_ (YM ?_);intro r hr)|(refine AM ?_ (ZI ?_);intro r hr)|(refine AM ?_ (YS ?_);intro r hr)|(refine AM ?_ (U9 ?_);intro r hr)|(refine AM ?_ (ZM ?_);intro r hr)|(refine AM ?_ (aV ?_);intro r hr)|(apply AA (SZ);intro r hr)|(refine AM ?_ (YU ?_);intro r hr)|(refine AM ?_ (YO ?_);intro r hr)|(refine AM ?_ (aZ ?_);intro r hr)|(apply AA (Ee);intro r hr)|(refine AM ?_ (Qi ?_);intro r hr)|(apply AA (CK);intro r hr)|(refine AM ?_ (AJ ?_ ?_);rintro r ⟨hr,b⟩)|(refine AM ?_ (N4 ?_ ?_);intro r hr)|(apply AA (KU);intro r hr)|(refine AM ?_ (YT ?_);intro r hr)|(refine AM ?_ (Yc ?_);intro r hr)|(refine AM ?_ (Gb ?_);intro r hr)|(refine AM ?_ (RE ?_ ?_);rintro r ⟨hr,b⟩)|(refine AM ?_ (Xa ?_);intro r hr)|(refine AM ?_ (dM ?_);intro r hr)|(refine AM ?_ (Ad ?_);rintro r ⟨hr,b,c⟩)|(refine AM ?_ (CY ?_ ?_ ?_);rintro r ⟨hr,b⟩)|(refine AM ?_ (XZ ?_);intro r hr)|(refine AM ?_ (XX ?_);intro r hr)|(refine AM ?_ (Wv ?_);intro r hr)|(apply AA (ti);intro r hr)|(refine AM ?_ (CE ?_);rintro r ⟨hr,b⟩)|(apply AA (Tr);intro r hr)|(apply AA (ac);intro r hr)|(refine AM ?_ (DX ?_ ?_);intro r hr)|(refine AM ?_ (YQ ?_);intro r hr)|(refine AM ?_ (Qm ?_);intro r hr)|(refine AM ?_ (Wu ?_);intro r hr)|(refine AM ?_ (YP ?_);intro r hr)|(refine AM ?_ (Bn ?_ ?_ ?_);rintro r ⟨hr,b⟩)|(refine AM ?_ (Yd ?_);intro r hr)|(apply AA (dH);intro r hr));all_goals first|exact l!|grind|((try dsimp[len]at*);grind[CI,DI,Do,Do.last,GG,KO,PN,SB,VK,Y0,Zv,len,mY,nU,oy,AZ])):P:=h
def AFC(x:Int):wi x=(x+9223372036854775808)%18446744073709551616-9223372036854775808:=by unfold wi;rw[IntKind.wrap_i64]
end
def Nn(I:a->Prop)(μ:a->Nat)(m:Nat)(Q:g->Prop):Step a g->Prop
 |.next s'=>I s'/\μ s'<m
 |.done r=>Q r
def Cp{R:Type}{body:g->Option (Step g R)}(I:g->Prop)(a:g->Nat){Q:R->Prop}{s:g}(b:I s)(c:∀s,I s->As (body s) (Nn I a (a s) Q)):As (Ai body s) Q:=AW I a b λs d=>(c s d).mono λst h=>by cases st<;>exact h
theorem As.next{R:Type}{I:g->Prop}{a:g->Nat}{m:Nat}{Q:R->Prop}{s:g}(h:I s)(b:a s<m):As (Option.some (Step.next s)) (Nn I a m Q):=⟨_,rfl,h,b⟩
theorem As.done{R:Type}{I:g->Prop}{a:g->Nat}{Q:R->Prop}{r:R}(h:Q r):As (Option.some (Step.done r)) (Nn I a n Q):=⟨_,rfl,h⟩
open Go.ChangeShapes Go.WideShapes Go.ChangeAt Go.RowKit
def gh0:Gh:=⟨λ_=>ε,λ_=>0,λ_=>0⟩
def cx0(w:World):Cx:=cx (λ_=>False) gh0 [] w
def AJ5(w:World):I1 (λ_=>False) gh0 [] w where
 out B h:=h.elim
 live id g cs h:=by simp at h
 lp id L h:=by simp at h
 inj id id' e e' B h:=by simp at h
 bld id e h:=by simp at h
theorem AAU:¬(cx0 d).O n:=by rintro(h|⟨id,e,h,_⟩);exact h;grind
def Zh{Q:Ac→Au→Prop}(h:Ea P F i [] Q){w:World}{cargs:Array Value}(hn:cargs.size=θ i)
  (d:∀(j:Nat)(v:Ac)(c:Value),i[j]?=δ v->cargs[j]?=δ c->Bx (cx0 w) v c):
  Calls P F cargs w λe b=>∃c v x a,e=.returned c/\Q v a/\Bx x v c/\Below w.heap.size w b:=by
 refine(h (λ_=>False) gh0 w cargs (AJ5 w) hn d).mono ?_;rintro e b ⟨c,v,l,a,rfl,q,_,r,x⟩;refine⟨c,v,_,a,rfl,q,r,x.os,x.tape,x.output,x.size,λk g=>x.keep k g ?_⟩;rintro⟨id,e,f,_⟩;simp at f
def AC0{a:Addr}{cap:Nat}{b:List Int}(A:n≤cap)(D:θ b=cap)(t:∀i,i<θ b→d.cell? (a.add i)=δ (.int j (b.getD i 0)))(q:a.block<d.heap.size∨n=0):
  Bx (cx0 d) (.vs 1 ((b.take n).map λw=>.int j w)) (.slice (δ a) n cap):=by
 have k:((b.take n).map λw=>Ac.int j w).length=n:=w!
 have g:∀(F:Nat)(e:Ac),((b.take n).map λw=>Ac.int j w)[F]?=δ e->F<n/\e=.int j (b.getD F 0):=by
  intro F e h;rw[CL]at h;cases c:(b.take n)[F]? with
  |none=>rw[c]at h;cases h
  |some w=>
   rw[c]at h;simp only[Bt,Ao]at h;subst h;have p:F<(b.take n).length:=by rcases Ax F (b.take n).length with h|h;exact h;rw[Cn h]at c;cases c
   simp only[BR]at p;rw[Jk o!]at c;exact⟨o!,by rw[Ns,c];rfl⟩
 have key:=Bx.vs (x:=cx0 d) (sz:=1) (rows:=(b.take n).map λw=>.int j w) (a:=δ a) (cap:=cap) (λF _=>.int j (b.getD F 0)) (by rw[k];exact A) o!
  (λF e h=>by rw[(g F e h).2];rfl)
  (λr=>by
   have C:0<n:=by rcases Vo n with h|h;subst h;simp at r;exact h
   have m:a.spot=ε:=by have:=t 0 o!;unfold World.cell? at this;split at this;split at this;cases this;rename_i u;simp only[Addr.add,if_true]at u;simpa using u;cases this
   obtain⟨B,s,E⟩:=a;simp only at m;subst m;refine⟨B,s,rfl,AAU,?_,λF e i v c l=>?_⟩;rcases q with h|h;exact h;omega;obtain⟨y,o⟩:=g F e c;subst o;have f:i=0:=by
    simp only[Ac.cells]at l;cases i with
    |zero=>rfl
    |succ i=>simp at l
   subst f;refine⟨?_,rfl⟩;have:=t F o!;simp only[Nat.mul_one,Ol];show d.cell? _=_;rw[<-this];unfold Addr.add;split;rename_i z;subst z;rfl;rfl)
  (λF e i v c l=>by
   obtain⟨y,o⟩:=g F e c;subst o;have f:v=.int j (b.getD F 0):=by
    simp only[Ac.cells]at l;cases i with
    |zero=>simpa using l.symm
    |succ i=>simp at l
   subst f;exact .int _ _)
 rw[k]at key;exact key
def AFA:Bx (cx0 d) (.vs 1 []) (.slice ε 0 0):=Bx.vs (x:=cx0 d) (sz:=1) (rows:=[]) (a:=ε) (cap:=0) (λ_ _=>.nilFunc) k! o! (λj e h=>by simp at h) (λh=>N! rfl h) (λj e i v h=>by simp at h)
open Go.RowKit
def qU{args:List Ac}{v:Ac}(h:∀(w:World)(a:Array Value),a.size=θ args→(∀(j:Nat)(u:Ac)(c:Value),args[j]?=δ u→a[j]?=δ c→ ∃x,Bx x u c)→
  Calls P F a w λe i=>∃c,e=.returned c/\(∀x,Bx x v c)/\Below w.heap.size w i) (H:Au):Ea P F args H (DQ v H):=by
 intro X g w a s p hr;refine(h w a p λj u c m n=>⟨_,hr j u c m n⟩).mono ?_;rintro e i ⟨c,rfl,q,b⟩;have l:G8 g H w g H i:=⟨b.os,b.tape,b.output,b.size,λB d _=>b.block B d,An _,λ_ _=>An _,λ_ _ _=>⟨rfl,rfl⟩,λB o=>.inl o,λB r hr=>⟨r,(b.block B (by rcases Ax B w.heap.size with h|h;exact h;simp[sh h]at hr)).trans hr⟩⟩
 exact⟨c,v,g,H,rfl,⟨rfl,rfl⟩,s.of_ext l (λid e k f=>.inl ⟨k,rfl,rfl,rfl,λB d=>b.block B (s.io_at k f d)⟩) s.inj,q _,l⟩
def zU{x:Cx}{s:List UInt8}(h:Bx x (.str s) k):k=.string ⟨s.toArray⟩:=by cases h;rename_i t h;subst h;rfl
def kh{x:Cx}(h:Bx x (.int j c) k):k=.int j c:=by cases h;rfl
open Go.Proofs Go.Sort
def mM{a:Ty}{l:List a.D}(h:n<θ l*a.sz):∃e,l[n/a.sz]?=δ e/\(a.E.cl l)[n]?=(a.enc e).cells[n%a.sz]? :=by
 have g:=a.sz_pos;induction l generalizing n with
 |nil=>simp at h
 |cons x r j=>
  have i:(a.enc x).cells.length=a.sz:=a.enc_len x;have e:a.E.cl (x::r)=(a.enc x).cells++a.E.cl r:=rfl;rw[e];by_cases b:n<a.sz;exact⟨x,by rw[Nat.div_eq_of_lt b];rfl,by rw[S8 b,CT o!]⟩;have c:n-a.sz<θ r*a.sz:=by rw[Ba,EI,Nat.one_mul]at h;omega
  obtain⟨y,d,f⟩:=j c;refine⟨y,?_,?_⟩;rw[Nat.div_eq_sub_div g o!,k9];exact d;rw[Ci o!,i,f,Nat.mod_eq_sub_mod (show n>=a.sz by omega)]
def lG{te:Ty}(l:List te.D):(te.E.cl l).length=θ l*te.sz:=by
 induction l with
 |nil=>simp[R3.cl]
 |cons x r a=>have e:te.E.cl (x::r)=(te.enc x).cells++te.E.cl r:=rfl;rw[e,AY,a,te.enc_len,Ba,EI,Nat.one_mul,X3]
def wW(x0:Cx)(te:Ty):Type:={p:te.D×List Value//θ p.2=te.sz/\(∀v∈p.2,v.oneCell'=ζ)/\∀(j:Nat)(v:Ac)(c:Value),(te.enc p.1).cells[j]?=δ v->p.2[j]?=δ c->Bx x0 v c}
def AJ8(key:a->Int):SWO (ltOf (λ(x y:a)=>Lib.compareInt (key x) (key y))):=by
 have e:∀x y,ltOf (λ(x y:a)=>Lib.compareInt (key x) (key y)) x y=τ (key x<key y):=λx y=>by unfold ltOf Lib.compareInt;by_cases c:key x<key y;simp[c];by_cases b:key y<key x<;>simp[c,b]
 exact⟨λx=>by rw[e];simp,λx y z c b=>by rw[e]at*;simp at*;omega,λx y z c b=>by rw[e]at*;simp at*;omega⟩
def _root_.List.set_getElem?_self'{l:List a}{x:a}(h:l[n]?=δ x):l.set n x=l:=by obtain⟨b,rfl⟩:=EP.1 h;exact List.set_getElem_self b
def zO{g:FuncId}(key:e.D→Int)(a9:∀o,(e.enc o).cells[0]?=δ (.int .i64 (key o))){sD:List e.D→Option (List e.D)}
  (ca:∀{l y},sD l=δ y->(∀a∈l,∀b∈l,key a=key b->a=b)/\θ l<=16777216/\y=l.mergeSort λa b=>decide (key a<=key b))
  (R:∀(a b:Int)(r s:List Value)(W:World),θ r+1=e.sz->θ s+1=e.sz->Calls P g #[.agg (Value.int .i64 a::r).toArray,.agg (Value.int .i64 b::s).toArray] W λo w'=>o=.returned (.int .i64 (Lib.compareInt a b))/\∃q cc,w'=grow (W.drewN q) cc)
  (hS:∀{α:Type} [Inhabited α] (Q:α->List Value) (_:∀x,(Q x).length=e.sz) (_:∀x,∀v∈Q x,v.oneCell'=ζ) (cf:α->α->Int) (_:SWO (ltOf cf)) (N cap:Nat) (d:Array α) (w:World),CmpLays P g #[] Q e.sz cf N 0 d.size w->HoldsK Q e.sz w N 0 d->N<w.heap.size->d.size<4611686018427387904->Calls P F #[.slice (δ ⟨N,0,ε⟩) d.size cap,.func (.func g) #[] #[]] w λo w'=>o=.returned (.tuple #[])/\∃z n os,PermIn 0 d.size d z/\SortedIn (ltOf cf) 0 d.size z/\w'=sortWorldK Q e.sz w N 0 n z os)
  (hN:∀(p:Option Addr)(cap:Nat)(fv:Value)(w:World),Calls P F #[.slice p 0 cap,fv] w λo w'=>o=.returned (.tuple #[])/\w'=w):
  (QJ.c2 F e [] [] [.fn (.func g) [] []] λl _=>sD l).Ok P:=by
 intro l x y hy Y H id ap X h w O s hs hr;obtain⟨hn,ce,bt⟩:=ca hy;obtain⟨c0,c1,rfl⟩:∃c0 c1,O= #[c0,c1]:=by
  obtain⟨a⟩:=O;match a,hs with
  |[a,b],_=>exact⟨a,b,rfl⟩
 have r0:=hr 0 _ c0 rfl rfl;have r1:=hr 1 _ c1 rfl rfl;obtain⟨hg,a6⟩:=s.live id _ _ ap;have bN:c1=.func (.func g) #[] #[]:=by
  cases r1 with
  |fn A I _ _=>rw[sX A,sX I]
 subst bN;by_cases hl:l=[];subst hl;have cb:y=[]:=by rw[bt];simp
 obtain⟨a,cap,rfl⟩:∃a cap,c0=.slice a 0 cap:=by
  cases r0 with
  |sl _ _ A _=>exact A
 apply (hN a cap _ w).mono;rintro o w' ⟨rfl,rfl⟩;refine⟨_,.tup [],h,H,rfl,⟨rfl,?_⟩,s,.tup rfl (λj v c C=>by simp at C),G8.refl h H w'⟩;rw[show(LJ (.list e) [] y).2=[]from cb];exact(List.set_getElem?_self' ap).symm;have hk:=e.sz_pos;have bb:0<θ l:=List.length_pos_iff.2 hl;rcases a6 with⟨_,b1⟩|⟨B,G,T,fz,f,V,hb,a4,b4,a7,J⟩;have:=lG (te:=e) l;rw[b1,Bb]at this;exact N! this.symm (Nat.ne_of_gt (Nat.mul_pos bb hk));obtain⟨cap,rfl⟩:∃cap,c0=.slice (δ ⟨B,0,ε⟩) (θ l) cap:=by
  cases r0 with
  |sl _ _ _ hc=>rcases hc hg with⟨A,_⟩|⟨B',cap,A,_,_,h4⟩;rw[V]at A;cases A;rw[V]at A;injection A with A;subst A;exact⟨cap,h4⟩
 have ad:∀i (t:i<θ l) c,c<e.sz->∃v,(e.enc l[i]).cells[c]?=δ v/\(e.E.cl l)[i*e.sz+c]?=δ v:=λi t c hc=>by
  have K:i*e.sz+c<θ l*e.sz:=by have:=Mu e.sz (show i+1<=θ l from t);rw[EI,Nat.one_mul]at this;omega
  obtain⟨o,A,I⟩:=mM K;have d1:(i*e.sz+c)/e.sz=i:=(blk_iff e.sz i _ hk).1 o!;have d2:(i*e.sz+c)%e.sz=c:=by rw[Nat.mod_eq_sub_div_mul,d1];omega
  rw[d1,Ar t]at A;rw[d2]at I;have Y:=e.enc_len o;rw[<-Bg A]at I Y;exact⟨_,Ar o!,by rw[I];exact Ar o!⟩
 let mk:∀i,i<θ l->wW (cx X h H w) e:=λi t=>⟨(l[i],(List.range e.sz).map λc=>f (i*e.sz+c)),k!,λv hv=>by
  obtain⟨c,hc,rfl⟩:=Bs.1 hv;obtain⟨u,_,I⟩:=ad i t c (Hw.1 hc);exact(J _ _ I).2.1,λj v c C hc=>by
  rw[CL]at hc;obtain⟨j',S,rfl⟩:=S9.1 hc;have ar:=(EP.1 S).1;rw[List.length_range]at ar;rw[Q6 ar]at S;injection S with S;subst S;obtain⟨u,A,I⟩:=ad i t j ar;dsimp only at C;rw[A]at C;injection C with C;subst C;exact(J _ _ I).2.2⟩
 let dl:List (wW (cx X h H w) e):=List.ofFn λi:Fin (θ l)=>mk i.val i.isLt;have bG:θ dl=θ l:=List.length_ofFn;have a2:∀i (t:i<θ l),dl[i]?=δ (mk i t):=λi t=>by rw[List.getElem?_ofFn,dif_pos t]
 have:Inhabited (wW (cx X h H w) e):=⟨mk 0 bb⟩
 let d:=dl.toArray;have L:d.size=θ l:=bG;have dg:∀i (t:i<θ l),d[i]! =mk i t:=λi t=>by
  have A:=a2 i t;have I:d[i]?=δ (mk i t):=by rw[lC];exact A
  rw[getElem!_def,I]
 have hd:d.toList.map (·.1.1)=l:=by refine I6 λi=>?_;rw[CL];show Option.map _ dl[i]?=_;by_cases t:i<θ l;rw[a2 i t,Bt,Ar t];rw[Cn o!,Cn o!,mh]
 have ao:HoldsK (λp:wW (cx X h H w) e=>p.1.2) e.sz w B 0 d:=by
  intro j C;rw[size_flatK,L]at C;rw[get_flatK _ _ _ _ (by rw[L];exact C)];have t:j/e.sz<θ l:=Nat.div_lt_of_lt_mul (by rw[Nat.mul_comm];exact C);have hm:=X4 j hk;have a8:j/e.sz*e.sz+j%e.sz=j:=Nat.div_add_mod' j e.sz;obtain⟨u,_,I⟩:=ad _ t _ hm;rw[a8]at I;have ha:=(J _ _ I).1;have K:j<G.size:=(bc.1 ha).1;rw[dg _ t];have hx:(((List.range e.sz).map λc=>f (j/e.sz*e.sz+c))[j%e.sz]!)=f j:=by rw[getElem!_def,CL,Q6 hm,Bt,a8]
  refine⟨?_,?_⟩;show w.cell? ⟨B,0+j,ε⟩=δ ((((List.range e.sz).map λc=>f (j/e.sz*e.sz+c))[j%e.sz]!));rw[hx];unfold World.cell?;rw[show w.heap[B]?=δ (.cells G T fz)from hb];simpa using ha;unfold World.frozen?;rw[show w.heap[B]?=δ (.cells G T fz)from hb];simpa using a7 j K
 have hB:B<w.heap.size:=(bc.1 hb).1;have a5:CmpLays P g #[] (λp:wW (cx X h H w) e=>p.1.2) e.sz (λx y=>Lib.compareInt (key x.1.1) (key y.1.1)) B 0 d.size w:=by
  intro m os dk hs x y;have hx:∀p:wW (cx X h H w) e,∃r:List Value,p.1.2=Value.int .i64 (key p.1.1)::r/\θ r+1=e.sz:=λp=>by
   obtain⟨⟨o,vs⟩,A,I,h3⟩:=p;dsimp only at A I h3;cases vs with
   |nil=>rw[Bb]at A;omega
   |cons v r=>have:=h3 0 _ v (a9 o) rfl;cases this;exact⟨r,rfl,A⟩
  obtain⟨r,b7,b8⟩:=hx x;obtain⟨s',b9,b'⟩:=hx y;have:=R (key x.1.1) (key y.1.1) r s' (sortWorldK (λp:wW (cx X h H w) e=>p.1.2) e.sz w B 0 m dk os) b8 b';rw[<-b7,<-b9]at this;exact this
 have Z:=hS (λp:wW (cx X h H w) e=>p.1.2) (λx=>x.2.1) (λx=>x.2.2.1) (λx y=>Lib.compareInt (key x.1.1) (key y.1.1)) (AJ8 λp:wW (cx X h H w) e=>key p.1.1) B cap d w a5 ao hB (by rw[L];omega);rw[L]at Z;apply Z.mono;rintro o w' ⟨rfl,z,n,os,U,a1,rfl⟩;have M:=U.1;rw[L]at M;have b6:z.toList.Perm d.toList:=by have:=U.2.2;rwa [<-L,<-(show z.size=d.size by omega),na,M,<-L,na]at this
 have bz:z.toList.map (·.1.1)=y:=by rw[bt];apply AAv hn (by rw[<-hd];exact b6.map _);rw[Gm];intro i j t C b2;rw[BT,Dx]at t C;have:=a1 i j (Bc _) b2 o!;rw[getElem!_pos z j C,getElem!_pos z i t]at this;simp only[List.getElem_map,Array.getElem_toList];unfold ltOf Lib.compareInt at this;simp only[decide_eq_false_iff_not]at this;by_cases c1:key (z[j]).1.1<key (z[i]).1.1;simp[c1]at this;omega
 have R:(e.E.cl y).length=θ l*e.sz:=by rw[lG,<-bz,BT,Dx,M]
 have b0:∀(j:Nat)(v:Ac),(e.E.cl y)[j]?=δ v->∃c:Value,(flatK (λp:wW (cx X h H w) e=>p.1.2) e.sz z)[j]! =c/\c.oneCell'=ζ/\Bx (cx X h H w) v c:=by
  intro j v C;have K:=(EP.1 C).1;rw[R]at K;have t:j/e.sz<z.size:=by rw[M];exact Nat.div_lt_of_lt_mul (by rw[Nat.mul_comm];exact K)
  have hm:=X4 j hk;rw[get_flatK _ _ _ _ (by rw[M];exact K),getElem!_pos z _ t];generalize hq:z[j/e.sz]=q;obtain⟨⟨o,vs⟩,A,I,h3⟩:=q;dsimp only at A I h3;have b3:j<θ y*e.sz:=by rw[<-lG];exact(EP.1 C).1
  obtain⟨e',g1,g2⟩:=mM b3;rw[<-bz,CL,Pf,Nr t,hq]at g1;have g1:o=e':=Bg g1;subst g1;rw[C]at g2;have ax:j%e.sz<θ vs:=o!
  refine⟨vs[j%e.sz],getElem!_pos vs _ ax,I _ (Jl ax),h3 _ v _ g2.symm (Ar ax)⟩
 have a':θ l*e.sz<=G.size:=by rw[<-lG];exact b4
 have cd:(flatK (λp:wW (cx X h H w) e=>p.1.2) e.sz z).size=θ l*e.sz:=by rw[size_flatK,M]
 have al:(sortWorldK (λp:wW (cx X h H w) e=>p.1.2) e.sz w B 0 n z os).heap=w.heap.modify B (onCells (putCells (λv=>v) 0 (flatK (λp:wW (cx X h H w) e=>p.1.2) e.sz z)))++os:=rfl;have a3:(sortWorldK (λp:wW (cx X h H w) e=>p.1.2) e.sz w B 0 n z os).heap[B]?=δ (.cells (putCells (λv=>v) 0 (flatK (λp:wW (cx X h H w) e=>p.1.2) e.sz z) G) T fz):=by rw[al,X6 (by rw[Array.size_modify];exact hB),bT,C! rfl,show w.heap[B]?=δ (.cells G T fz)from hb];rfl
 have bl:∀k,k<w.heap.size->k≠B->(sortWorldK (λp:wW (cx X h H w) e=>p.1.2) e.sz w B 0 n z os).heap[k]?=w.heap[k]? :=λk hk b5=>by rw[al,X6 (by rw[Array.size_modify];exact hk),bT,D! (On b5)]
 have a0:(putCells (λv=>v) 0 (flatK (λp:wW (cx X h H w) e=>p.1.2) e.sz z) G).size=G.size:=by unfold putCells;rw[Array.size_mapIdx]
 have hh:Holds (cx X h H w) (e.E.cl y) (putCells (λv=>v) 0 (flatK (λp:wW (cx X h H w) e=>p.1.2) e.sz z) G) fz:=by refine⟨λj=>(flatK (λp:wW (cx X h H w) e=>p.1.2) e.sz z)[j]!,by rw[a0,R];exact a',λi t=>a7 i (by rw[a0]at t;exact t),λj v C=>?_⟩;obtain⟨c,e1,e2,e3⟩:=b0 j v C;have K:=(EP.1 C).1;rw[R]at K;dsimp only;rw[e1];refine⟨?_,e2,e3⟩;unfold putCells;rw[Array.getElem?_mapIdx,Nr (show j<G.size by omega),Bt,C! ⟨Bc _,o!⟩,eP,e1]
 have bm:=s.upd ap (g':=θ l) (B:=B) (cs':=e.E.cl y) (An _) (λ_=>⟨V,a4.symm.trans a0.symm⟩) (.inl V) a3 bl rfl rfl rfl (by rw[al];simp) hh;refine⟨_,.tup [],_,_,rfl,⟨rfl,?_⟩,bm.1,.tup rfl (λj v c C=>by simp at C),bm.2⟩;rfl
def AEz{g:FuncId}{te:Ty}(key:te.D→Int)(i:∀e,(te.enc e).cells[0]?=δ (.int .i64 (key e)))
  (t:∀(a b:Int)(r s:List Value)(W:World),θ r+1=te.sz->θ s+1=te.sz->Calls P g #[.agg (Value.int .i64 a::r).toArray,.agg (Value.int .i64 b::s).toArray] W λe j=>e=.returned (.int .i64 (Lib.compareInt a b))/\∃q u,j=grow (W.drewN q) u)
  (C:∀{k:Type} [Inhabited k] (f:k->List Value) (_:∀x,(f x).length=te.sz) (_:∀x,∀v∈f x,v.oneCell'=ζ) (m:k->k->Int) (_:SWO (ltOf m)) (c cap:Nat) (d:Array k) (w:World),CmpLays P g #[] f te.sz m c 0 d.size w->HoldsK f te.sz w c 0 d->c<w.heap.size->d.size<4611686018427387904->Calls P F #[.slice (δ ⟨c,0,ε⟩) d.size cap,.func (.func g) #[] #[]] w λe j=>e=.returned (.tuple #[])/\∃o n os,PermIn 0 d.size d o/\SortedIn (ltOf m) 0 d.size o/\j=sortWorldK f te.sz w c 0 n o os)
  (B:∀(p:Option Addr)(cap:Nat)(A:Value)(w:World),Calls P F #[.slice p 0 cap,A] w λe j=>e=.returned (.tuple #[])/\j=w):
  (QJ.c2 F te [] [] [.fn (.func g) [] []] λl _=>ABm key l).Ok P:=
 zO key i (λ{l y} h=>by unfold ABm at h;split at h;rename_i z;exact⟨AEx z.1,z.2,(Bg h).symm⟩;cases h) t C B
def AEy{g:FuncId}{te:Ty}(key:te.D→Int)(i:∀e,(te.enc e).cells[0]?=δ (.int .i64 (key e)))
  (t:∀(a b:Int)(r s:List Value)(W:World),θ r+1=te.sz->θ s+1=te.sz->Calls P g #[.agg (Value.int .i64 a::r).toArray,.agg (Value.int .i64 b::s).toArray] W λe j=>e=.returned (.int .i64 (Lib.compareInt a b))/\∃q u,j=grow (W.drewN q) u)
  (C:∀{k:Type} [Inhabited k] (f:k->List Value) (_:∀x,(f x).length=te.sz) (_:∀x,∀v∈f x,v.oneCell'=ζ) (m:k->k->Int) (_:SWO (ltOf m)) (c cap:Nat) (d:Array k) (w:World),CmpLays P g #[] f te.sz m c 0 d.size w->HoldsK f te.sz w c 0 d->c<w.heap.size->d.size<4611686018427387904->Calls P F #[.slice (δ ⟨c,0,ε⟩) d.size cap,.func (.func g) #[] #[]] w λe j=>e=.returned (.tuple #[])/\∃o n os,PermIn 0 d.size d o/\SortedIn (ltOf m) 0 d.size o/\j=sortWorldK f te.sz w c 0 n o os)
  (B:∀(p:Option Addr)(cap:Nat)(A:Value)(w:World),Calls P F #[.slice p 0 cap,A] w λe j=>e=.returned (.tuple #[])/\j=w):
  (QJ.c2 F te [] [] [.fn (.func g) [] []] λl _=>ABn key l).Ok P:=
 zO key i (λ{l y} h=>by unfold ABn at h;split at h;rename_i z;exact⟨z.1,z.2,(Bg h).symm⟩;cases h) t C B
end Go.Ab
