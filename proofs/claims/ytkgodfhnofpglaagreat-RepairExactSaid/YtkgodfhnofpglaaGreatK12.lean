/- Texts of wip, joined and shortened by wip/tools/pack.py; nothing is assumed. -/
import Derived.Test.YtkgodfhnofpglaaGreatK11
import Derived.Test.YtkgodfhnofpglaaGreatProg
import Derived.Lib.Builder
import Derived.Lib.FrozenHead
import Derived.Lib.FrozenHead2
import Derived.Lib.AppendStr
import Derived.Lib.UnsafeStr
import Derived.Lib.Repeat
import Derived.Lib.RepeatB
import Derived.Lib.Walk
import Derived.WalkKit
import Derived.Laws.Externs
import Derived.Shelf.RegionOpenPlain
import Derived.Lib.MakeNoZero
import Derived.Laws.IdiomCopy
import Derived.Deep.LoopGhost
import Derived.Deep.DeepCutAuto
import Derived.Deep.DeepFit
import Derived.Deep.CutBlock
noncomputable section
set_option linter.all false
set_option maxHeartbeats 2000000
set_option maxRecDepth 100000
open Option renaming some->D
open List renaming length->Z
open Go renaming Ψ->E
open Bool renaming false->X
open Bool renaming true->A
open Option renaming none->U
open Option renaming some->δ,none->ε,bind->σ
open Bool renaming true->ζ,false->η
open List renaming length->θ
namespace Go.Pm
open Go Go.Ab
noncomputable section

end
variable {a:AL}
def yb{x}(h:CX a):An (G1 a x) λr=>CX r.2:=by unfold G1;refine AA (AW h g!) λj b=>AA (P:=λr=>CX r.1) ?_ λr hr=>AB hr;refine AQ (λ_=>AA (Cs b.1) λf c=>AB c) (λ_=>AA (P:=λr=>CX r.1) ?_ λr hr=>AB hr);refine AQ (λ_=>AA (Cs b.1) λf c=>AB c) (λ_=>AA (P:=λr=>CX r.1) ?_ λr hr=>AB hr);refine AQ (λ_=>AA (AW b.1 g!) λg d=>AA (IT d.1) λi e=>AB e) (λ_=>AA (P:=λr=>CX r.1) ?_ λr hr=>AB hr);exact AQ (λ_=>AA (AW b.1 g!) λg d=>AA (IT d.1) λi e=>AB e) (y? b.1)
def AAU{x}(h:CX a):An (HO a x) λr=>CX r.2:=by unfold HO;refine AA (AW h g!) λf c=>AA (P:=λr=>CX r.1) ?_ λr hr=>AB hr;refine AQ (λ_=>AA (Cs c.1) λd b=>AB b) (λ_=>AA (P:=λr=>CX r.1) ?_ λr hr=>AB hr);refine AQ (λ_=>AA (AW c.1 g!) λd b=>AB b.1) (λ_=>AA (P:=λr=>CX r.1) ?_ λr hr=>AB hr);refine AQ (λ_=>AA (Cs c.1) λd b=>AB b) (λ_=>AA (P:=λr=>CX r.1) ?_ λr hr=>AB hr);refine AQ (λ_=>AA (Cs c.1) λd b=>AB b) (λ_=>AA (P:=λr=>CX r.1) ?_ λr hr=>AB hr);refine AQ (λ_=>AA (Cs c.1) λd b=>AB b) (λ_=>AA (P:=λr=>CX r.1) ?_ λr hr=>AB hr);refine AQ (λ_=>AA (Cs c.1) λd b=>AB b) (λ_=>AA (P:=λr=>CX r.1) ?_ λr hr=>AB hr);refine AQ (λ_=>AA (yb c.1) λd b=>AB b) (λ_=>AA (P:=λr=>CX r.1) ?_ λr hr=>AB hr);refine AQ (λ_=>AA (IT c.1) λd b=>AB b) (λ_=>AA (P:=λr=>CX r.1) ?_ λr hr=>AB hr);refine AQ (λ_=>AA (AW c.1 g!) λd b=>?_) (y? c.1);rw[Aa];exact AA (rp o! o!) λe _=>AB b.1
def AEA{x}(h:CX a)(t:Dc x):An (IV a x) λr=>CX r.2:=by
 have G:=t.2.2.1;unfold IV;refine AA (Ac w!) λH v=>?_;have q:=v.1;rw[Bt]at q;subst q;have f:∀{c},CX c->An (σ (Bl c ()) λn=>σ (Bl n.2 ()) λp=>D (((n.1,x.2.1,p.1):Ad),p.2)) λr=>CX r.2:=λA_=>AA (Cs A_) λn w=>AA (Cs w) λp y=>AB y;refine AQ (λ_=>f h) (λm=>?_);simp only[len]at m;refine AA (AW h g!) λI s=>AQ (λ_=>f s.1) (λ_=>AA (AW s.1 i!) λu i=>AA (AW i.1 g!) λJ d=>?_);have j:=i.2.2;simp only[len]at j;have D_:0<=u.1:=i.2.1;have E:u.1<Z x.2.1:=o!
 obtain⟨e,k,l,B⟩:=AI D_ E;have C:e.1<=1099511627776:=(t.2.2.2.2.2 _ _ l).2.2.1;refine AA (P:=λr=>CX r.2.1) ?_ λr hr=>AB hr;refine AQ (λ_=>AA (Cs d.1) λK z=>AB z) (λ_=>AA (P:=λr=>CX r.2.1) ?_ λr hr=>AB hr);refine AQ (λ_=>?_) (λ_=>AA (P:=λr=>CX r.2.1) ?_ λr hr=>AB hr);rw[k];simp only[AD];exact AA (AW d.1 o!) λo b=>AB b.1;refine AQ (λ_=>?_) (λ_=>AA (P:=λr=>CX r.2.1) ?_ λr hr=>AB hr);rw[k];simp only[AD];exact AA (AW d.1 o!) λo b=>AB b.1;refine AQ (λ_=>?_) (y? d.1);rw[k];simp only[AD];exact AA (AAU d.1) λF g=>AB g
theorem ACl{l:List Int}(h:l.length<=16777216):Nb (l,l)=some true:=by
 suffices d:An (Ak (PE (l,l)) 0) λr=>r= .inr () by obtain⟨r,hr,rfl⟩:=d;unfold Nb;rw[bne_self_eq_false,cond_false,hr];rfl
 refine CV (λ(s:Int)=>0<=s/\s<=l.length) (λs=>((l.length:Int)-s).toNat) ⟨Ag _,by omega⟩ (λs a=>?_);have⟨f,g⟩:=a;unfold PE;dsimp only[len];refine AC (λb=>?_) (λ_=>An.done rfl);obtain⟨e,c,_⟩:=AI f b;rw[c,AD,AD,bne_self_eq_false,cond_false,Aa (by omega)];exact An.next ⟨by omega,by omega⟩ (by omega)
def ms{x:D4}(h:Z x.2.2.2.2.1<=16777216):Hn (x,x)=D A:=by unfold Hn;dsimp only;simp only[L!,B!];rw[ACl h];rfl
theorem AGO{x:List Ap×AJ×Ad×Int×Int}{r:AT×D4×Int}(e:Dz x=some r)(f:Fo x=some r)(h:r.2.1.2.2.2.2.1.length<=12)(g:r.2.2≠0->r.1=(0,(0,(Ge.all (false,[]))))/\r.2.1=(0,(0,(0,(0,([],(0,0))))))): ∃z,Vj x=some z/\Mm x=some z/\z.2.1.2.2.2.2.1.length<=12:=by
 unfold Vj Mm;rw[e,f,AD,AD];by_cases a:r.2.2≠0
 ·rw[bne_iff_ne.2 a,cond_true,beq_eq_false_iff_ne.2 a,cond_false];obtain⟨c,d⟩:=g a;exact⟨_,rfl,by rw[p!,<-c,<-d],BS _⟩
 have a:=lW.1 a;rw[a,bne_self_eq_false,cond_false,beq_self_eq_true,cond_true];by_cases b:r.1.2.1≠x.2.2.2.2
 ·rw[bne_iff_ne.2 b,cond_true,cond_true];exact⟨_,rfl,rfl,BS _⟩
 ·rw[lW.1 b,bne_self_eq_false,cond_false,cond_false];exact⟨_,rfl,by rw[<-a],h⟩
def vZ{x:Ψ Int×Int×Int}(h:∀c∈x.1,0<=c/\c<256)(hx: -9223372036854775808<=x.2.1/\x.2.1<=9223372036854775807)(W: -9223372036854775808<=x.2.2/\x.2.2<=9223372036854775807):An (K7 x) λr=>r=A:=by
 unfold K7;rw[AGd,AD,CE,A!];refine AA (AEZ h) λv2 O=>AA (ADi O) λa h3=>?_;obtain⟨s1,s2,s3,s4,s5,s6,s7,s8,s9,Z,ad,⟨m,hm,G⟩,al,a2,n,li⟩:=h3;have ap:=s6.len;have U_:1<=m/\m<=64:=o!
 have E:∀f∈a.2.2.2.2.1,FB Ex a.2.2.2.1.2.1 a.2.2.2.1.2.2 m f:=λf E=>by rcases G f E with q|⟨g,⟨y,F,v⟩,L,M⟩;exact .inl q;exact .inr (ADl s7 o! o! F M (by rw[<-v];exact L))
 have hg:∀f∈a.2.2.2.2.1,FB C9 a.2.2.2.1.2.1 a.2.2.2.1.2.2 m f:=λf E=>by rcases G f E with q|⟨g,⟨y,F,v⟩,L,M⟩;exact .inl q;exact .inr (ABU s7 o! o! F M (by rw[<-v];exact L))
 have hU:Uq a.2.2.2.1.2.1:=λx hx y F v=>Nk al.nodup hx F v;have A_:∀(l:Ad)(p k:Int),k<=9223372036854775807->_:=λl p k hk=>ACn (l:=l) (p:=p) (k:=k) hU s7 o! s4 s5 g! (hm.trans s3.symm) U_ ad E hg hk;refine AA (AEA Z s6.vl) λv4 h4=>AA (P:=λr=>∃u,r=.inr u/\CX u) ?_ λr hr=>?_
 ·refine CV (λs=>0<=s.1/\s.1<=2/\CX s.2) (λs=>(2-s.1).toNat) ⟨Ag _,d!,h4⟩ ?_;rintro⟨i,b⟩ ⟨i0,i1,X_⟩;dsimp only at i0 i1 X_;unfold Oq;dsimp only;refine AC (λhc=>?_) (λ_=>k? ⟨_,rfl,X_⟩);refine AA (AI i0 hc) λv6 _=>?_;have ax:i<2:=hc;rw[Aa (x:=i+1)];refine AA (P:=λr=>∃u,r=.inr u/\CX u) ?_ λr hr=>by obtain⟨u,rfl,V⟩:=hr;exact A3 (y! ⟨d!,d!,V⟩ d!)
  refine CV (λs=>0<=s.1/\s.1<=4/\CX s.2) (λs=>(4-s.1).toNat) ⟨Ag _,d!,X_⟩ ?_;rintro⟨j,b⟩ ⟨j0,j1,Y⟩;dsimp only at j0 j1 Y;unfold Ot;dsimp only;refine AC (λa0=>?_) (λ_=>k? ⟨_,rfl,Y⟩);rw[Aa (x:=j+1)];refine AA (AW Y o!) λv8 h8=>AA (AW h8.1 o!) λv9 h9=>AA (P:=λr=>r.2<=9223372036854775807) (AQ (y? W.2) (y? d!)) λB N=>?_;obtain⟨r,r1,r2,r3,_,r5,r6⟩:=A_ v6 B.1 B.2 N;rw[r1,r2,AD,AD,rA,CE,A!,H!,A!,ms o!,AD,CE,A!];have ar:r.1.2.1<=9223372036854775807:=o!
  refine AA (P:=λq=>∃u,q=.inr u) ?_ λq hq=>by obtain⟨u,rfl⟩:=hq;exact A3 (y! ⟨d!,d!,h9.1⟩ d!)
  refine CV (λs=>0<=s.1/\s.1<=2) (λs=>(2-s.1).toNat) ⟨Ag _,d!⟩ ?_;rintro⟨t,z⟩ ⟨H,J⟩;dsimp only at H J;unfold Ou;dsimp only;refine AC (λD_=>?_) (λ_=>k? ⟨_,rfl⟩);have ao:t<2:=D_;rw[Aa (x:=t+1)];obtain⟨e,v,_,S⟩:=AI H D_;have T:e<=9223372036854775807:=by simp only[As,nQ,or_false]at S;omega
  rw[v,AD,AD];obtain⟨w,w1,K,w3,_,w5,_⟩:=A_ v6 B.1 e T;obtain⟨y,y1,y2,y3⟩:=AGO w1 K w3 w5;rw[y1,y2,AD,AD,rA,CE,A!,H!,A!,ms o!,AD,CE,A!];exact y! d! d!
 obtain⟨u,rfl,V⟩:=hr;apply A3;refine AA (AW V o!) λo Q=>?_;have hp:0<=o.1/\o.1<a.2.1.2.1:=⟨Q.2.1,o!⟩
 have d:=s6.vl;have l1:=d.1;have l2:=d.2.1;have l3:=d.2.2.1;have key:∃r q,Ak (Nh (a.2.2.2.2.1,a.2.1,a.2.2.1,o.1)) (a.2.2.1.1+θ a.2.2.1.2.1-1)=D r/\Ak (Hm (a.2.2.2.2.1,a.2.1,a.2.2.1,o.1)) (a.2.2.1.1+θ a.2.2.1.2.1-1)=D q/\r=q:=by refine AE5 (λ(s t:Int)=>s=t/\ -1<=s/\s<=1099511631872) _ (λs=>(s+1).toNat) ?_ ⟨rfl,o!⟩;rintro s _ ⟨rfl,H,J⟩;by_cases C:s>=0;obtain⟨w,w1,K,w3,w4,_⟩:=A_ a.2.2.1 o.1 s o!;have ws:=w4 d hp.1 hp.2 C;have I:wi (s-1)=s-1:=Aa;unfold Nh;dsimp only;rw[G! C,B!,w1,AD];rcases ws with q|q;refine .inr ⟨_,_,by rw[q];rfl,?_,rfl⟩;rw[Df];unfold Hm;dsimp only;rw[G! C,B!,K,AD,q];rfl;refine .inl ⟨s-1,s-1,by rw[q,I];rfl,?_,⟨rfl,o!⟩,o!⟩;unfold Hm;dsimp only;rw[G! C,B!,K,AD,q,I];rfl;refine .inr ⟨.inr (),.inr (),?_,?_,rfl⟩;unfold Nh;dsimp only;rw[F! C,A!];rw[Df];unfold Hm;dsimp only;rw[F! C,A!]
 obtain⟨r,q,k1,k2,rfl⟩:=key;obtain⟨a1,e1,rfl⟩:=Oo d;obtain⟨v0,e0,h0⟩:=NC (x:=a.2.1);have H:=h0.2 s4.vb;subst H;obtain⟨w0,f0,g0⟩:=BZ (x:=a.2.2.1);have J:=g0.2 d;subst J;obtain⟨b1,d1,R⟩:=F9 (x:=a.2.2.1);have R:=R d;subst R;unfold MA Qs;dsimp only;rw[e1,AD,k1,e0,AD,AD,CE,A!,f0,AD,CE,A!,F! o!,A!,F! o!,A!,d1,AD,k2,AD];cases r<;>exact AB (L! _)
end Go.Pm
namespace Go.Proofs.YtkgodfhnofpglaaGreat
open Go.RowKit Go.Ab Go.Pm
def ABs:∃j,Tryz.prog.info? 248=D j/\j.size=2:=by
 have h:(Tryz.prog.info? 248).map (·.size)=D 2:=h!
 exact Tt.1 h
def AGh:liesAt Tryz.prog Tryz.prog.depth 248 (2/Tryz.prog.cellsOf 248) 0 248 1=A:=h!
def vd(b:Nat)(w:World)(d:w.cell? ⟨b,0,U⟩=D (.pointer (D ⟨b,0,U⟩))):
  Calls Tryz.prog 233 #[.pointer (D ⟨b,0,U⟩)] w λe c=>e=.returned (.tuple #[])/\c=w:=by
 obtain⟨j,a,_⟩:=ABs;go_enter Tryz.func233,Tryz.ntmps233;go_wp2;rw[Lib.run_neq_ptr_same w _ Tryz.underlying246 a];go_wp2;go_end0;exact⟨rfl,rfl⟩
def jz(b:Nat)(w:World)(h:w.cell? ⟨b,0,U⟩=D (.pointer U))(a:w.shape? b=D (248,2))(f:w.frozen? ⟨b,0,U⟩=X):
  Calls Tryz.prog 233 #[.pointer (D ⟨b,0,U⟩)] w λe g=>e=.returned (.tuple #[])/\g=w.setCell ⟨b,0,U⟩ (.pointer (D ⟨b,0,U⟩)):=by
 obtain⟨j,d,c⟩:=ABs;go_enter Tryz.func233,Tryz.ntmps233;go_wp2;rw[Lib.run_to_unsafe w ⟨b,0,U⟩ Tryz.underlying246 Tryz.underlying353 d (by rw[c];decide) a (Nat.zero_lt_succ 1)];simp only[Result.andThen];rw[Oper.upon_value];go_wp2;rw[run_callFunc_extern Tryz.func277 h! h! h! (e:=Extern.AbiNoEscape.same) h!];rw[Lib.run_noEscape];simp only[Result.andThen];rw[Oper.upon_value];go_wp2;rw[Lib.run_from_unsafe w ⟨b,0,U⟩ Tryz.underlying353 Tryz.underlying246 d a AGh];simp only[Result.andThen];rw[Oper.upon_value];go_wp2;go_end0;exact⟨rfl,rfl⟩
def yu(B b:Nat)(bs:E Value)(w:World)(h:Lib.IsBuilderF 248 5 B b bs w):
  Calls Tryz.prog 233 #[.pointer (D ⟨b,0,U⟩)] w λe a=>e=.returned (.tuple #[])/\Lib.BuilderAtF 248 5 B b (.pointer (D ⟨b,0,U⟩)) bs a/\Below B w a:=by
 rcases h with h|h;apply (jz b w h.cell0 h.shape h.frozen0).mono;rintro e a ⟨rfl,rfl⟩;exact⟨rfl,h.used _,(Below.refl B w).setCell (p:=⟨b,0,U⟩) h.1 _⟩;apply (vd b w h.cell0).mono;rintro e a ⟨rfl,rfl⟩;exact⟨rfl,h,Below.refl B _⟩
def ABr:∃i,Tryz.prog.info? 5=D i/\i.zero=D (.int .u8 0)/\i.size=1/\i.bytes=1:=by
 have h:(Tryz.prog.info? 5).map (λi=>(i.zero,i.size,i.bytes))=D (D (.int .u8 0),1,1):=h!
 obtain⟨i,b,a⟩:=Tt.1 h;simp only[Ep]at a;exact⟨i,b,a.1,a.2.1,a.2.2⟩
def tj{B b}{p}{bs}{w}(h:Lib.BuilderAtF 248 5 B b p bs w):∃v,w.heap[b]?=D (.cells #[p,v] 248 (0,0))/\w.cell? ⟨b,1,U⟩=D v/\w.ownsRowF B 5 1 v (Z bs) bs/\v.ownBlock≠D b:=by obtain⟨e,v,a,c,d⟩:=h;exact⟨v,a,by rw[Lib.cell_of_heap a];rfl,c,d⟩
def AIu(B b:Nat)(bs:E Value)(w:World)(h:Lib.IsBuilderF 248 5 B b bs w):
  Calls Tryz.prog 171 #[.pointer (D ⟨b,0,U⟩)] w λe l=>e=.returned (.int .i64 (Z bs))/\l=w:=by
 obtain⟨p,j⟩:∃p,Lib.BuilderAtF 248 5 B b p bs w:=h.elim (λh=>⟨_,h⟩) (λh=>⟨_,h⟩);obtain⟨v,k,m,a,_⟩:=tj j;obtain⟨d,cap,rfl⟩:∃d cap,v=.slice d (Z bs) cap:=by rcases a.2 with⟨c,i⟩|⟨g,cap,f,n,c,_⟩;exact⟨U,0,by rw[c,i]⟩;exact⟨_,_,c⟩
 go_enter Tryz.func171,Tryz.ntmps171
 go_wp2
 go_ret
 exact⟨rfl,rfl⟩
def xT(B b:Nat)(bs:Ψ Value)(c:Int)(w:World)(h:Lib.IsBuilderF 248 5 B b bs w)(C:Z bs+1≤140737488355328)(H:B≤w.heap.size):
  Calls Tryz.prog 167 #[.pointer (D ⟨b,0,U⟩),.int .u8 c] w λe E=>e=.returned .nilIface/\Lib.BuilderAtF 248 5 B b (.pointer (D ⟨b,0,U⟩)) (bs++[.int .u8 c]) E/\Below B w E:=by
 obtain⟨M,I,t,x,y⟩:=ABr;go_enter Tryz.func167,Tryz.ntmps167;go_wp2_with (go_at_call 233;apply (yu B b bs _ h).mono)
 rintro e F ⟨rfl,m,l⟩;have A_:=m.1;have r:=m.lt;have c0:=m.cell0;obtain⟨v,q,z,i,s⟩:=tj m;have K:=l.size;go_wp2_with (at_builtin;apply wpList_append_ownF _ rfl _ _ 22 rfl B 5 M (.int .u8 0) 1 1 Tryz.underlying22 I t x y rfl g! _ _ _ rfl (i.alloc _) ⟨F.heap.size,0,U⟩ 1 1 [.int .u8 c] rfl rfl ?z ?c2 ?c3 ?c4 ?c5)
 case z=>
  intro j u n;match j,n with
  |0,n=>simp at n;subst n;simp[Addr.add]
 case c2=>intro u D_;simp at D_;subst D_;rfl
 case c3=>unfold maxLen;omega
 case c4=>omega
 case c5=>simp;omega
 intro N o d a _;have f:o.heap[b]?=D (.cells #[.pointer (D ⟨b,0,U⟩),v] 248 (0,0)):=by rw[a.block b w! (s ·.symm),Lib.alloc_old F _ b r];exact q
 have O:o.cell? ⟨b,0,U⟩=D (.pointer (D ⟨b,0,U⟩)):=by rw[Lib.cell_of_heap f];rfl
 have P:o.cell? ⟨b,1,U⟩=D v:=by rw[Lib.cell_of_heap f];rfl
 have Q:o.frozen? ⟨b,1,U⟩=X:=Lib.frozen_of_heap f 1;obtain⟨g,cap,rfl⟩:∃g cap,N=.slice (D ⟨g,0,U⟩) (Z bs+1) cap:=by rcases d.2 with⟨_,S⟩|⟨g,cap,G,R,L,_⟩;omega;exact⟨g,cap,L⟩
 go_wp2
 go_ret
 refine⟨rfl,?_,?_⟩;exact Lib.BuilderAtF.put (T:=248) (e:=5) A_ f (bs':=bs++[.int .u8 c]) (by simpa using d) g!;exact((l.alloc o! _).grown a w! (λk J=>(i.lt k J).1)).setCell (p:=⟨b,1,U⟩) A_ _
def Yr(B b:Nat)(bs:Ψ Value)(s:ByteArray)(w:World)(h:Lib.IsBuilderF 248 5 B b bs w)(z:Z bs+s.size≤140737488355328)(E:B≤w.heap.size):
  Calls Tryz.prog 166 #[.pointer (D ⟨b,0,U⟩),.string s] w λe C=>e=.returned (.tuple #[.int .i64 s.size,.nilIface])/\Lib.BuilderAtF 248 5 B b (.pointer (D ⟨b,0,U⟩)) (bs++Lib.strCells s) C/\Below B w C:=by
 obtain⟨I,F,r,t,u⟩:=ABr;go_enter Tryz.func166,Tryz.ntmps166;go_wp2_with (go_at_call 233;apply (yu B b bs _ h).mono)
 rintro e P ⟨rfl,j,i⟩;have y:=j.1;have n:=j.lt;have c0:=j.cell0;obtain⟨v,m,K,f,o⟩:=tj j;have H:=i.size;go_wp2_with (at_builtin;apply Lib.wpList_append_own_stringF _ rfl _ _ 22 9 rfl B 5 I Tryz.underlying22 Tryz.underlying9 F r t u _ _ _ rfl f s rfl ?c3 ?c4 ?c5)
 case c3=>unfold maxLen;omega
 case c4=>omega
 case c5=>omega
 intro J l c a _;have d:l.heap[b]?=D (.cells #[.pointer (D ⟨b,0,U⟩),v] 248 (0,0)):=by rw[a.block b n (o ·.symm)];exact m
 have L:l.cell? ⟨b,0,U⟩=D (.pointer (D ⟨b,0,U⟩)):=by rw[Lib.cell_of_heap d];rfl
 have M:l.cell? ⟨b,1,U⟩=D v:=by rw[Lib.cell_of_heap d];rfl
 have N:l.frozen? ⟨b,1,U⟩=X:=Lib.frozen_of_heap d 1;obtain⟨x,A_,cap,rfl⟩:∃x A_ cap,J=.slice x A_ cap:=by rcases c.2 with⟨q,_⟩|⟨g,cap,D_,O,q,_⟩;exact⟨_,_,_,q⟩;exact⟨_,_,_,q⟩
 go_wp2
 go_ret2
 refine⟨rfl,?_,?_⟩;exact Lib.BuilderAtF.put (T:=248) (e:=5) y d (bs':=bs++Lib.strCells s) (by simpa[Lib.strCells_length]using c) g!;exact(i.grown a o! (λk G=>(f.lt k G).1)).setCell (p:=⟨b,1,U⟩) y _
def wJ(B b:Nat)(l:Ψ UInt8)(w:World)(h:Lib.IsBuilderF 248 5 B b (Lib.byteCells l) w)(y:l≠ []):
  Calls Tryz.prog 168 #[.pointer (D ⟨b,0,U⟩)] w λe z=>e=.returned (.string ⟨l.toArray⟩)/\Lib.IsBuilderF 248 5 B b (Lib.byteCells l) z/\Below B w z:=by
 obtain⟨p,K,k⟩:∃p,(p=.pointer U\/p=.pointer (D ⟨b,0,U⟩))/\Lib.BuilderAtF 248 5 B b p (Lib.byteCells l) w:=h.elim (λh=>⟨_,.inl rfl,h⟩) (λh=>⟨_,.inr rfl,h⟩);obtain⟨D_,v,i,c,t⟩:=k;have s:Z l≠0:=by simpa using y
 rw[Lib.byteCells_length]at c;obtain⟨g,cap,a,f,rfl,n,I,H,J,o,G,u⟩:∃g cap a f,v=.slice (D ⟨g,0,U⟩) (Z l) cap/\B<=g/\w.heap[g]?=D (.cells a 5 f)/\f.2<=Z l*1/\Z l<=cap/\cap<=maxLen/\a.size=cap*1/\a.toList.take (Z l*1)=Lib.byteCells l:=by rcases c.2 with⟨_,N⟩|⟨g,cap,a,f,L,r⟩;exact O! N s;exact⟨g,cap,a,f,L,r⟩
 have A_:w.drew.cell? ⟨b,1,U⟩=D (.slice (D ⟨g,0,U⟩) (Z l) cap):=by have:w.drew.heap[b]?=D (.cells #[p,.slice (D ⟨g,0,U⟩) (Z l) cap] 248 (0,0)):=i;rw[Lib.cell_of_heap this];rfl
 have E:(Builtin.unsafeSliceData_ #[22] 317 #[.slice (D ⟨g,0,U⟩) (Z l) cap]).run Tryz.prog w.drew=.ok (.pointer (D ⟨g,0,U⟩)) w.drew:=Lib.run_unsafeSliceData_row _ _ _ _ _ _ o!;have F:(Builtin.unsafeString_ #[317,3] 9 #[.pointer (D ⟨g,0,U⟩),.int .i64 (Z l)]).run Tryz.prog w.drew=.ok (.string ⟨l.toArray⟩) (w.drew.freeze ⟨g,0,U⟩ (Z l)):=by apply Lib.run_unsafeString_row w.drew 317 3 9 5 Tryz.underlying317 h! g a.size (by have q:w.drew.heap[g]?=D (.cells a 5 f):=I;simp[World.shape?,q]) l y o! (by unfold maxLen at o;omega);intro j x M;exact c.cells (g:=g) rfl j (.int .u8 x.toNat) (by simp[Lib.byteCells,M])
 have d:Lib.IsBuilderF 248 5 B b (Lib.byteCells l) (w.drew.freeze ⟨g,0,U⟩ (Z l)):=by
  have C:Lib.BuilderAtF 248 5 B b p (Lib.byteCells l) w.drew:=⟨D_,_,i,by rw[Lib.byteCells_length];exact c,t⟩
  have m:=C.froze (g:=g) (cap:=cap) (by rw[Lib.byteCells_length];exact A_);rw[Lib.byteCells_length]at m;rcases K with rfl|rfl;exact .inl m;exact .inr m
 go_enter Tryz.func168,Tryz.ntmps168
 go_wp2
 go_region
 all_goals (go_wp2;go_ret;exact⟨rfl,d,Lib.below_freeze (Below.drew (Below.refl B w)) (p:=⟨g,0,U⟩) n _⟩)
set_option maxRecDepth 1000000 in
def AEU(B b n:Nat)(w:World)(p:B≤b)(a:w.heap[b]?=D (.cells #[.pointer (D ⟨b,0,U⟩),.slice U 0 0] 248 (0,0)))(j:B≤w.heap.size)(hn:n≤281474976710656):
  Calls Tryz.prog 236 #[.pointer (D ⟨b,0,U⟩),.int .i64 n] w λe o=>e=.returned (.tuple #[])/\Lib.BuilderAt 248 5 B b (.pointer (D ⟨b,0,U⟩)) [] o/\Below B w o:=by
 obtain⟨c,h,q,g⟩:=Lib.run_makeNoZero (P:=Tryz.prog) w.drew #[3] 22 5 Tryz.underlying22 n hn;have m:IntKind.i64.wrap (IntKind.i64.wrap 0+(n:Int))=n:=by rw[IntKind.wrap_i64,IntKind.wrap_i64];omega
 have k:(callFunc 278 #[.int .i64 (IntKind.i64.wrap (IntKind.i64.wrap 0+(n:Int)))]).run Tryz.prog w.drew=.ok (.value (.slice (D ⟨w.drew.heap.size,0,U⟩) n c.size)) (w.drew.drew.drew.alloc (.cells c 5)):=by rw[m,run_callFunc_extern Tryz.func278 h! h! h! (e:=Extern.BytealgMakeNoZero.makeNoZero #[3] #[22]) h!,h];rfl
 have f:b<w.heap.size:=by rcases A1 b w.heap.size with i|i;exact i;simp[tf i]at a
 have r:w.drew.cell? ⟨b,1,U⟩=D (.slice U 0 0):=by have:w.drew.heap[b]?=_:=a;rw[Lib.cell_of_heap this];rfl
 have s:(w.alloc (.cells c 5)).cell? ⟨b,1,U⟩=D (.slice U 0 0):=by have:(w.alloc (.cells c 5)).heap[b]?=_:=(Lib.alloc_old w _ b f).trans a;rw[Lib.cell_of_heap this];rfl
 have t:(w.alloc (.cells c 5)).frozen? ⟨b,1,U⟩=X:=Lib.frozen_of_heap ((Lib.alloc_old w _ b f).trans a) 1;have l:∀W:World,(Builtin.copy_ #[22,22] 3 #[.slice (D ⟨w.heap.size,0,U⟩) 0 c.size,.slice U 0 0]).run Tryz.prog W=.ok (goInt 0) W:=λW=>run_copy_none W 22 22 3 5 _ _ 0 c.size 0 0 Tryz.underlying22 h! rfl;clear m;have d:=Lib.grown_fresh (T:=248) (e:=5) (cs:=c) p a j (g (by unfold maxLen;omega)) g!;rw[World.setCell_alloc_past _ _ _ _ f]at d;go_enter Tryz.func236,Tryz.ntmps236;go_wp2;go_region;all_goals (go_wp2;go_end0;exact⟨rfl,d⟩)
set_option maxRecDepth 1000000 in
def AGg(B b n:Nat)(w:World)(g:B≤b)(c:w.heap[b]?=D (.cells #[.pointer U,.slice U 0 0] 248 (0,0)))(h:B≤w.heap.size)(hn:n≤281474976710656):
  Calls Tryz.prog 170 #[.pointer (D ⟨b,0,U⟩),.int .i64 n] w λe f=>e=.returned (.tuple #[])/\Lib.BuilderAt 248 5 B b (.pointer (D ⟨b,0,U⟩)) [] f/\Below B w f:=by
 have a:(w.setCell ⟨b,0,U⟩ (.pointer (D ⟨b,0,U⟩))).heap[b]?=D (.cells #[.pointer (D ⟨b,0,U⟩),.slice U 0 0] 248 (0,0)):=by simp[World.setCell,cP,c]
 have i:(w.setCell ⟨b,0,U⟩ (.pointer (D ⟨b,0,U⟩))).cell? ⟨b,1,U⟩=D (.slice U 0 0):=by rw[Lib.cell_of_heap a];rfl
 have d:Below B w (w.setCell ⟨b,0,U⟩ (.pointer (D ⟨b,0,U⟩))):=(Below.refl B w).setCell (p:=⟨b,0,U⟩) g _;have m:Lib.BuilderAt 248 5 B b (.pointer (D ⟨b,0,U⟩)) [] (w.setCell ⟨b,0,U⟩ (.pointer (D ⟨b,0,U⟩))):=⟨g,.slice U 0 0,a,World.ownsRow_nil _ _ _ _,by simp[Value.ownBlock]⟩
 have j:(w.setCell ⟨b,0,U⟩ (.pointer (D ⟨b,0,U⟩))).drew.cell? ⟨b,1,U⟩=D (.slice U 0 0):=i;go_enter Tryz.func170,Tryz.ntmps170;go_wp2_with (go_at_call 233;apply (jz b w (by rw[Lib.cell_of_heap c];rfl) (by simp[World.shape?,c]) (Lib.frozen_of_heap c 0)).mono;rintro e f ⟨rfl,rfl⟩)
 go_region
 all_goals go_wp2_with (go_at_call 236;apply (AEU B b n (w.setCell ⟨b,0,U⟩ (.pointer (D ⟨b,0,U⟩))).drew g a (by simpa[World.setCell,World.drew,-World.drew_eq]using h) hn).mono;rintro e f ⟨rfl,k,l⟩)
 all_goals first
  |(go_end0;exact⟨rfl,k,d.drew.trans l⟩)
  |(go_end0;exact⟨rfl,m.drew,d.drew⟩)
end Go.Proofs.YtkgodfhnofpglaaGreat
