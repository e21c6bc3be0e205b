/- A layer over the model in which values are trees: its laws and a typed interpreter, part 2. Texts of the folder wip, laid in few files with shorter names by a program (wip/tools/pack.py); nothing is assumed. -/
import Derived.Test.YtieiiaiokpgfkaaGreatK1
import Derived.Laws.MakeOwn
import Derived.RangeFuncNested
import Derived.Lib.ConvBytes
import Derived.Laws.AppendOwn
import Derived.Lib.FrozenHead2
set_option linter.unusedVariables false
set_option linter.unusedSimpArgs false
set_option linter.unusedSectionVars false
namespace Go.Ab
def YU : AG → List Nat
 | .ptr id _ _ => [id]
 | .sl id _ _ _ _ => [id]
 | _ => []
def fi (env : Env) (op : Op) : List Nat := op.operands.toList.flatMap fun x => YU (Al env x)
theorem Us {o : Oper} {env env' : Env} (h : ∀ t ∈ Nq o, env'.get t = env.get t) : ∀ x ∈ o.op.operands, Al env' x = Al env x := by
 intro x hx
 cases x with
 | tmp t =>
  refine h t ?_
  unfold Nq
  rw [List.mem_filterMap]
  exact ⟨.tmp t, by simpa using hx, rfl⟩
 | _ => rfl
theorem aM {env env' : Env} {l : List Operand} (h : ∀ x ∈ l, Al env' x = Al env x) : l.map (Al env') = l.map (Al env) := List.map_congr_left h
theorem bS {P : Program} {env env' : Env} {H : AU} {op : Op} (h : ∀ x ∈ op.operands, Al env' x = Al env x) : BN P env' H op = BN P env H op := by
 cases op with
 | move x => simp only [BN, h x (by simp [Op.operands])]
 | assign x => simp only [BN, h x (by simp [Op.operands])]
 | pick c a b => simp only [BN, h c (by simp [Op.operands]), h a (by simp [Op.operands]), h b (by simp [Op.operands])]
 | load t a => simp only [BN, h a (by simp [Op.operands])]
 | nilCheck x => simp only [BN, h x (by simp [Op.operands])]
 | binOp op t x y yt => simp only [BN, h x (by simp [Op.operands]), h y (by simp [Op.operands])]
 | unOp op t x => simp only [BN, h x (by simp [Op.operands])]
 | convert s d x => simp only [BN, h x (by simp [Op.operands])]
 | fieldAddr s x f => simp only [BN, h x (by simp [Op.operands])]
 | field s x f => simp only [BN, h x (by simp [Op.operands])]
 | indexAddr t x i => simp only [BN, h x (by simp [Op.operands]), h i (by simp [Op.operands])]
 | index t x i => simp only [BN, h x (by simp [Op.operands]), h i (by simp [Op.operands])]
 | extract x i => simp only [BN, h x (by simp [Op.operands])]
 | slice t x lo hi mx =>
  have hl : lo.map (Al env') = lo.map (Al env) := by cases lo with | none => rfl | some y => simp [h y (by simp [Op.operands])]
  have hh : hi.map (Al env') = hi.map (Al env) := by cases hi with | none => rfl | some y => simp [h y (by simp [Op.operands])]
  have hm : mx.map (Al env') = mx.map (Al env) := by cases mx with | none => rfl | some y => simp [h y (by simp [Op.operands])]
  simp only [BN, h x (by simp [Op.operands]), hl, hh, hm]
 | makeFunc f a b =>
  simp only [BN]
  rw [aM fun x hx => h x (by simp only [Op.operands]; exact Array.mem_append_left _ (by simpa using hx)), aM fun x hx => h x (by simp only [Op.operands]; exact Array.mem_append_right _ (by simpa using hx))]
 | build t parts =>
  simp only [BN]
  have : (parts.toList.map fun p => (p.1, Al env' p.2)) = parts.toList.map fun p => (p.1, Al env p.2) := List.map_congr_left fun p hp => by
   rw [h p.2 (by simp only [Op.operands, List.mem_toArray, List.mem_map]; exact ⟨p, hp, rfl⟩)]
  rw [this]
 | call c =>
  obtain ⟨cal, args, ats⟩ := c
  simp only [Op.operands, Call.operands] at h
  cases cal with
  | value f => simp [BN]
  | invoke r m => simp [BN]
  | builtin b =>
   obtain ⟨args⟩ := args
   obtain ⟨ats⟩ := ats
   match args with
   | [] => simp [BN]
   | [x] =>
    have hx := h x (by simp)
    cases b <;> simp [BN]
    match ats with
    | [] => rfl
    | [t] => simp [hx]
    | _ :: _ :: _ => rfl
   | [x, y] =>
    have hx := h x (by simp)
    have hy := h y (by simp)
    cases b <;> simp [BN, hx, hy]
   | [x, y, z] =>
    have hx := h x (by simp)
    have hy := h y (by simp)
    have hz := h z (by simp)
    cases b <;> simp [BN, hx, hy, hz]
   | _ :: _ :: _ :: _ :: _ => cases b <;> rfl
 | _ => rfl
section
variable {P : Program} {H H' : AU}
theorem Ou {id g : Nat} (h : H'[id]? = H[id]?) : Mh H' id g = Mh H id g := by unfold Mh; rw [h]
theorem dK {v : AG} {n : Nat} (h : ∀ id ∈ YU v, H'[id]? = H[id]?) : Lm H' v n = Lm H v n := by
 cases v <;> simp only [Lm]
 rw [h _ (by simp [YU])]
theorem aZ {v : AG} {n : Nat} (h : ∀ id ∈ YU v, H'[id]? = H[id]?) : shift H' n v = shift H n v := by
 cases v <;> simp only [shift]
 rw [Ou (h _ (by simp [YU]))]
theorem fZ {t : TypeId} {v : AG} (h : ∀ id ∈ YU v, H'[id]? = H[id]?) : Zc P H' t v = Zc P H t v := by
 unfold Zc
 cases P.underlying t with
 | none => rfl
 | some d =>
  cases v with
  | sl id g sz off len =>
   have e := Ou (H := H) (H' := H') (g := g) (h id (by simp [YU]))
   cases d <;> first | rfl | (simp only [e])
  | _ => cases d <;> rfl
theorem d9 {env : Env} {op : Op} (h : ∀ id ∈ fi env op, H'[id]? = H[id]?) : BN P env H' op = BN P env H op := by
 have hx : ∀ x ∈ op.operands, ∀ id ∈ YU (Al env x), H'[id]? = H[id]? := fun x hx id hid => h id (by
  unfold fi
  rw [List.mem_flatMap]
  exact ⟨x, by simpa using hx, hid⟩)
 cases op with
 | load t a =>
  have ha := hx a (by simp [Op.operands])
  simp only [BN, YX]
  split <;> simp only [dK ha]
 | nilCheck x =>
  have ha := hx x (by simp [Op.operands])
  simp only [BN]
  split
  ·rename_i id g off he
   rw [Ou (ha id (by rw [he]; simp [YU]))]
  ·rfl
  ·rfl
  ·rfl
 | convert s d x =>
  have ha := hx x (by simp [Op.operands])
  have hr : rowsOf H' (Al env x) = rowsOf H (Al env x) := by
   generalize Al env x = v at ha
   cases v <;> simp only [rowsOf]
   rw [ha _ (by simp [YU])]
  simp only [BN, PI]
  generalize Al env x = v at hr
  split <;> first | rfl | (rw [hr])
 | fieldAddr s x f =>
  have ha := hx x (by simp [Op.operands])
  simp only [BN, ON]
  split
  ·split
   ·rfl
   ·exact aZ ha
  ·rfl
 | indexAddr t x i =>
  have ha := hx x (by simp [Op.operands])
  simp only [BN, OS]
  split
  ·split
   ·exact aZ ha
   ·rfl
  ·split
   ·rfl
   ·rename_i id g sz' off len he
    rw [Ou (ha id (by rw [he]; simp [YU]))]
   ·rfl
  ·rfl
 | slice t x lo hi mx =>
  have ha := hx x (by simp [Op.operands])
  simp only [BN]
  generalize Al env x = v at ha
  cases v <;> simp only [Ww]
  rw [Ou (ha _ (by simp [YU]))]
 | call c =>
  obtain ⟨cal, args, ats⟩ := c
  simp only [Op.operands, Call.operands] at hx
  cases cal with
  | value f => simp [BN]
  | invoke r m => simp [BN]
  | builtin b =>
   obtain ⟨args⟩ := args
   obtain ⟨ats⟩ := ats
   match args with
   | [] => simp [BN]
   | [x] =>
    have ha := hx x (by simp)
    cases b <;> simp only [BN]
    match ats with
    | [] => rfl
    | [t] =>
     simp only
     exact fZ ha
    | _ :: _ :: _ => rfl
   | [x, y] => cases b <;> simp [BN]
   | [x, y, z] => cases b <;> simp [BN]
   | _ :: _ :: _ :: _ :: _ => cases b <;> rfl
 | _ => simp only [BN]
theorem Pw.of_qeval {N : Nat} {o : Oper} {env : Env} {v : AG} (hv : BN P env H o.op = some v) : Pw P N o env H (fi env o.op) v := by
 intro env' H'' he hh
 refine Dg.quiet (v := v) ?_ ⟨rfl, rfl⟩
 rw [bS (Us he), d9 hh]
 exact hv
end
end Go.Ab
namespace Go.Ab
section
variable {P : Program} {N : Nat} {o : Oper} {env : Env} {H : AU} {K : AG → AU → Prop}
theorem Dg.callAll {c : Call} {f : Operand} {first caps : List AG} {F : FuncId}
  (ho : o.op = .call c) (hcal : c.callee = .value f) (hf : Al env f = .fn (.func F) first caps) (hE : WB P F = true)
  (hc : Bz P F (YD env c first caps) H K) : Dg P N o env H K := by
 refine Dg.of_wp (by rw [ho]; rfl) ?_
 intro X h a w s Q
 have hrf := B5 s.env f
 rw [hf] at hrf
 obtain ⟨first', caps', hev, h1, h2, hv1, hv2⟩ : ∃ first' caps', a.eval f = .func (.func F) first' caps' ∧ first'.size = first.length ∧ caps'.size = caps.length ∧
   (∀ (j : Nat) (v : AG) (c : Value), first[j]? = some v → first'[j]? = some c → A1 (cx X h H w) v c) ∧ (∀ (j : Nat) (v : AG) (c : Value), caps[j]? = some v → caps'[j]? = some c → A1 (cx X h H w) v c) := by
  generalize a.eval f = cf at hrf
  cases hrf with
  | fn h1 h2 hv1 hv2 => exact ⟨_, _, rfl, h1, h2, hv1, hv2⟩
 have hrun : (execOp a.eval o).run P w = .ok (.enter F (first' ++ c.args.map a.eval ++ caps')) w := by
  unfold execOp
  rw [ho]
  simp only [resolve, hcal, hev, Deferred.ofValue, Sem.run_bind, Sem.run_pure, Result.andThen_ok, invoke, VY hE]
 unfold Oper.wp
 rw [hrun]
 simp only [Oper.upon_enter]
 have hargs : ∀ (j : Nat) (v : AG) (d : Value), (YD env c first caps)[j]? = some v → (first' ++ c.args.map a.eval ++ caps')[j]? = some d → A1 (cx X h H w) v d := by
  intro j v d hj hd
  unfold YD at hj
  rcases Nat.lt_or_ge j (first.length + c.args.size) with hlt1 | hge1
  ·rw [List.getElem?_append_left (by simp; omega)] at hj
   rw [Array.getElem?_append_left (by simp; omega)] at hd
   rcases Nat.lt_or_ge j first.length with hlt2 | hge2
   ·rw [List.getElem?_append_left hlt2] at hj
    rw [Array.getElem?_append_left (by omega)] at hd
    exact hv1 j v d hj hd
   ·rw [List.getElem?_append_right hge2, List.getElem?_map] at hj
    rw [Array.getElem?_append_right (by omega), Array.getElem?_map, h1] at hd
    cases hx : c.args[j - first.length]? with
    | none => rw [hx] at hd; cases hd
    | some x =>
     rw [hx] at hd
     rw [Array.getElem?_toList, hx] at hj
     simp only [Option.map_some, Option.some.injEq] at hj hd
     subst hj hd
     exact B5 s.env x
  ·rw [List.getElem?_append_right (by simp; omega)] at hj
   rw [Array.getElem?_append_right (by simp; omega)] at hd
   refine hv2 _ v d ?_ hd
   simpa [h1] using hj
 refine (hc X h w _ s.sim ?_ hargs).mono ?_
 ·simp [YD, h1, h2]
 ·rintro e w' ⟨d, v, h', H', rfl, q, sc, rv, x⟩
  exact ⟨d, v, h', H', rfl, q, rv, sc, x⟩
def NN (P : Program) (env : Env) (t : TypeId) (len : Nat) (parts : Array (Nat × Operand)) : Option (Nat × List AG) :=
 match eI P t with
 | some (none, e, sz) =>
  let vs := parts.toList.map fun p => Al env p.2
  if 0 < sz ∧ PC P e = true ∧ parts.toList.map (·.1) = List.range len ∧ (vs.all fun v => v.solid && decide (v.cells.length = sz)) = true ∧ len ≤ 4096 ∧ sz ≤ 4096 then some (sz, vs) else none
 | _ => none
theorem Dg.buildSlice_v {t : TypeId} {len sz : Nat} {parts : Array (Nat × Operand)} {vs : List AG} (ho : o.op = .buildSlice t len parts) (hp : NN P env t len parts = some (sz, vs)) (hk : K (.vs sz vs) H) : Dg P N o env H K := by
 unfold NN at hp
 split at hp
 ·rename_i e sz' he
  simp only at hp
  split at hp
  ·rename_i hc
   obtain ⟨h1, h2, h3, h4, h5, h6⟩ := hc
   simp only [Option.some.injEq, Prod.mk.injEq] at hp
   obtain ⟨rfl, rfl⟩ := hp
   refine Dg.buildSlice ho he h1 h2 h3 rfl (fun v hv => ?_) ⟨h5, h6⟩ hk
   have := List.all_eq_true.1 h4 v hv
   simpa using this
  ·cases hp
 ·cases hp
theorem Dg.buildSlice_own {t : TypeId} {len sz : Nat} {parts : Array (Nat × Operand)} {vs : List AG} (ho : o.op = .buildSlice t len parts) (hp : NN P env t len parts = some (sz, vs))
  (hk : K (.sl H.length 0 sz 0 vs.length) (H ++ [.live 0 (vs.flatMap AG.cells)])) : Dg P N o env H K := by
 unfold NN at hp
 split at hp
 case h_2 => cases hp
 rename_i e sz' he
 simp only at hp
 split at hp
 case isFalse => cases hp
 rename_i hc
 obtain ⟨hsz, hse, hidx, hall, hlen⟩ := hc
 simp only [Option.some.injEq, Prod.mk.injEq] at hp
 obtain ⟨rfl, hvs⟩ := hp
 have hsol : ∀ v ∈ vs, v.solid = true ∧ v.cells.length = sz' := fun v hv => by
  rw [hvs] at hall
  have := List.all_eq_true.1 hall v hv
  simpa using this
 refine Dg.of_wp (by rw [ho]; rfl) ?_
 intro X h a w s Q
 obtain ⟨hun, b, hi⟩ := LB he
 obtain ⟨i, z, hinfo, _, hz, hzs⟩ := NI hse
 have hisz := XG hi hinfo
 have hl : vs.length = len := by
  have h1 := congrArg List.length hidx
  have h2 := congrArg List.length hvs
  simp at h1 h2
  omega
 let cs : List Value := parts.toList.map fun p => a.eval p.2
 have hcs : cs.length = len := by
  have h1 := congrArg List.length hidx
  simp at h1
  simp [cs, h1]
 have hrel : ∀ (j : Nat) (v : AG) (c : Value), vs[j]? = some v → cs[j]? = some c → A1 (cx X h H w) (.agg v.cells) (.agg c.cells) ∧ v.cells.length = sz' := by
  intro j v c hv hc
  have hm := hsol v (List.mem_of_getElem? hv)
  refine ⟨?_, hm.2⟩
  subst hvs
  simp only [cs, List.getElem?_map] at hv hc
  cases hp : parts.toList[j]? with
  | none => rw [hp] at hv; cases hv
  | some p =>
   rw [hp] at hv hc
   simp only [Option.map_some, Option.some.injEq] at hv hc
   subst hv hc
   exact Ov (B5 s.env p.2) hm.1
 have hsize : ∀ c ∈ cs, c.cells.size = sz' := by
  intro c hc
  obtain ⟨j, hj⟩ := List.getElem?_of_mem hc
  have hjl : j < vs.length := by
   rcases Nat.lt_or_ge j cs.length with h2 | h2
   ·omega
   ·rw [List.getElem?_eq_none h2] at hj; cases hj
  obtain ⟨h1, h2⟩ := hrel j _ c (List.getElem?_eq_getElem hjl) hj
  cases h1 with
  | agg hs _ _ => rw [hs, h2]
 have hzip : (parts.map fun (q : Nat × Operand) => (q.1, a.eval q.2)).toList = (cs.zipIdx 0).map fun x => (x.2, x.1) := by
  apply List.ext_getElem?
  intro j
  simp only [Array.toList_map, List.getElem?_map, List.getElem?_zipIdx, Nat.zero_add, cs]
  cases hp : parts.toList[j]? with
  | none => rfl
  | some p =>
   have h1 : (parts.toList.map (·.1))[j]? = some p.1 := by rw [List.getElem?_map, hp]; rfl
   rw [hidx] at h1
   have hjl : j < len := by
    rcases Nat.lt_or_ge j len with h2 | h2
    ·exact h2
    ·rw [List.getElem?_eq_none (by simpa using h2)] at h1; cases h1
   rw [List.getElem?_range hjl] at h1
   simp only [Option.some.injEq] at h1
   simp [h1]
 have hflatlen : ∀ l : List Value, (∀ c ∈ l, c.cells.size = sz') → (l.flatMap fun c => c.cells.toList).length = l.length * sz' := by
  intro l
  induction l with
  | nil => simp
  | cons c l ih =>
   intro hl
   simp only [List.flatMap_cons, List.length_append, Array.length_toList, hl c (by simp), ih (fun d hd => hl d (List.mem_cons_of_mem _ hd)), List.length_cons, Nat.add_mul]
   omega
 have hflat : (cs.flatMap fun c => c.cells.toList).length = len * sz' := by rw [hflatlen cs hsize, hcs]
 have hrun : ∃ arr : Array Value, (execOp a.eval o).run P w = .ok (.value (.slice (some ⟨w.heap.size, 0, none⟩) len len)) { w with heap := w.heap.push (.cells arr e) } ∧ arr.toList = cs.flatMap fun c => c.cells.toList := by
  unfold execOp
  rw [ho]
  by_cases h0 : len = 0
  ·subst h0
   have : cs = [] := List.eq_nil_of_length_eq_zero hcs
   refine ⟨#[], ?_, by rw [this]; rfl⟩
   have hp : parts = #[] := by
    have h1 := congrArg List.length hidx
    simp at h1
    exact h1
   simp [Instr.buildSlice, run_underlying hun, Gr hi, hp, Instr.fill, newRow, show Array.range 0 = #[] from rfl]
  ·refine ⟨(cs.flatMap fun c => c.cells.toList).toArray, ?_, rfl⟩
   have hpos : ¬ len * i.size = 0 := by rw [hisz]; exact Nat.mul_ne_zero h0 (by omega)
   have hsm : ¬ len * i.size > 2 ^ 24 := by
    rw [hisz]
    have := Nat.mul_le_mul hlen.1 hlen.2
    omega
   have hf := Go.Great.fill_whole (s := sz') hsz cs ((Array.range (len * i.size)).map (z.cells[· % z.cells.size]!)) hsize (by simp [hcs, hisz])
   have := run_buildSlice (P := P) w t e len (parts.map fun (q : Nat × Operand) => (q.1, a.eval q.2)) _ i z hun hinfo hz hsm hpos (by rw [hzip, hisz] at *; exact hf)
   simp only [Sem.run_bind]
   rw [show (parts.map fun x => match x with | (i, x) => (i, a.eval x)) = (parts.map fun (q : Nat × Operand) => (q.1, a.eval q.2)) from rfl, this]
   rfl
 obtain ⟨arr, hrun, harr⟩ := hrun
 unfold Oper.wp
 rw [hrun, Oper.upon_value]
 have harel : ∀ (l : List AG) (m : List Value), m.length = l.length → (∀ (j : Nat) (v : AG) (c : Value), l[j]? = some v → m[j]? = some c → A1 (cx X h H w) (.agg v.cells) (.agg c.cells)) →
   A1 (cx X h H w) (.agg (l.flatMap AG.cells)) (.agg (m.flatMap fun c => c.cells.toList).toArray) := by
  intro l
  induction l with
  | nil =>
   intro m hm _
   have : m = [] := List.eq_nil_of_length_eq_zero (by simpa using hm)
   subst this
   exact .agg rfl (fun j c hj => by simp at hj) fun j v c hj => by simp at hj
  | cons v l ih =>
   intro m hm hr
   cases m with
   | nil => simp at hm
   | cons c m =>
    have r0 := hr 0 v c rfl rfl
    have r1 := ih m (by simpa using hm) fun j v' c' h1 h2 => hr (j + 1) v' c' (by simpa using h1) (by simpa using h2)
    cases r0 with
    | agg hs1 ho1 hv1 =>
     cases r1 with
     | agg hs2 ho2 hv2 =>
      have e2 : (m.flatMap fun c => c.cells.toList).length = (l.flatMap AG.cells).length := by simpa using hs2
      refine .agg (by simp [e2, hs1]) (fun j d hj => ?_) fun j u d hj hd => ?_
      ·simp only [List.flatMap_cons, List.getElem?_toArray] at hj
       rcases Nat.lt_or_ge j c.cells.size with h2 | h2
       ·rw [List.getElem?_append_left (by simpa using h2)] at hj
        exact ho1 j d (by simpa using hj)
       ·rw [List.getElem?_append_right (by simpa using h2)] at hj
        exact ho2 _ d (by simpa using hj)
      ·simp only [List.flatMap_cons, List.getElem?_toArray] at hj hd
       rcases Nat.lt_or_ge j c.cells.size with h2 | h2
       ·rw [List.getElem?_append_left (by simpa using h2)] at hd
        rw [List.getElem?_append_left (by omega)] at hj
        exact hv1 j u d hj (by simpa using hd)
       ·rw [List.getElem?_append_right (by simpa using h2)] at hd
        rw [List.getElem?_append_right (by omega)] at hj
        rw [Array.length_toList, hs1] at hd
        exact hv2 _ u d hj (by simpa using hd)
 have hag := harel vs cs (by omega) fun j v c h1 h2 => (hrel j v c h1 h2).1
 have harr' : arr = (cs.flatMap fun c => c.cells.toList).toArray := by rw [← harr]
 have hh := PD.of_agg hag
 rw [← harr'] at hh
 refine ⟨_, _, _, _, rfl, hk, ?_, s.sim.push arr e (0, 0) _ hh, FB.push _ _ _⟩
 refine .sl (by simp [cx]) (by simp [cx, Gh.at_]) ⟨_, _, by rw [hl]⟩ fun _ => .inr ⟨w.heap.size, len, by simp [cx, Gh.at_], by omega, ?_, by rw [hl]⟩
 simp only [cx, Gh.at_, if_true, harr', List.size_toArray, hflat]
 omega
theorem Dg.makeSlice0 {t e : TypeId} {x y : Operand} {kl kc : IntKind} {l c : Int} {sz : Nat} {z : List AG} (ho : o.op = .makeSlice t x y) (he : eI P t = some (none, e, sz)) (hsz : 0 < sz) (hse : PC P e = true) (hz : UG P e = some z) (hzl : z.length = sz)
  (hx : Al env x = .int kl l) (hy : Al env y = .int kc c) (h0 : 0 ≤ l) (h1 : l ≤ c) (h2 : c ≤ 16777216) (hk : K (.sl H.length 0 sz 0 l.toNat) (H ++ [.live 0 (List.replicate l.toNat z).flatten])) : Dg P N o env H K := by
 refine Dg.of_wp (by rw [ho]; rfl) ?_
 intro X h a w s Q
 obtain ⟨hun, b, hi⟩ := LB he
 obtain ⟨i, zv, hinfo, hby, hzv, hzs⟩ := NI hse
 have hisz := XG hi hinfo
 obtain ⟨i', v', hi', hv', hrel⟩ := UH (cx X h H w) hz
 have : i' = i := by rw [hinfo] at hi'; exact (Option.some.inj hi').symm
 subst this
 have : v' = zv := by rw [hzv] at hv'; exact (Option.some.inj hv').symm
 subst this
 have rx := B5 s.env x
 have ry := B5 s.env y
 rw [hx] at rx
 rw [hy] at ry
 have ex : a.eval x = .int kl l := by generalize a.eval x = q at rx; cases rx; rfl
 have ey : a.eval y = .int kc c := by generalize a.eval y = q at ry; cases ry; rfl
 have hbb : (i'.bytes : Int) * c ≤ 281474976710656 := by
  have : (i'.bytes : Int) * c ≤ 1048576 * 16777216 := Int.mul_le_mul (by omega) h2 (by omega) (by omega)
  omega
 have hrun := run_make (P := P) w t e i' v' hun hinfo hzv kl kc l c h0 h1 hbb (by omega)
 have hex : (execOp a.eval o).run P w = .ok (.value (.slice (some ⟨w.heap.size, 0, none⟩) l.toNat c.toNat)) (w.alloc (.cells (madeCells v'.cells (c.toNat * i'.size)) e)) := by
  unfold execOp
  rw [ho]
  simp only [ex, ey, Sem.run_bind, hrun, Result.andThen_ok, Sem.run_pure]
 unfold Oper.wp
 rw [hex, Oper.upon_value]
 have hcs : v'.cells.size = sz := by rw [hzs, hisz]
 have hh : PD (cx X h H w) (List.replicate l.toNat z).flatten (madeCells v'.cells (c.toNat * i'.size)) (0, 0) := by
  have hfl : (List.replicate l.toNat z).flatten.length = l.toNat * sz := by simp [hzl]
  have hcl : l.toNat * sz ≤ c.toNat * i'.size := by rw [hisz]; exact Nat.mul_le_mul_right _ (by omega)
  have hget : ∀ (m j : Nat), j < m * sz → (List.replicate m z).flatten[j]? = z[j % sz]? := by
   intro m
   induction m with
   | zero => intro j hj; omega
   | succ m ih =>
    intro j hj
    rw [List.replicate_succ, List.flatten_cons]
    rcases Nat.lt_or_ge j sz with hlt | hge
    ·rw [List.getElem?_append_left (by omega), Nat.mod_eq_of_lt hlt]
    ·rw [List.getElem?_append_right (by omega), hzl, ih (j - sz) (by rw [Nat.add_mul] at hj; omega), ← Nat.mod_eq_sub_mod hge]
  refine ⟨fun j => v'.cells.getD (j % sz) undef, by rw [hfl, size_madeCells]; exact hcl, fun _ _ => by simp, fun j v hj => ?_⟩
  have hjl : j < l.toNat * sz := by
   rcases Nat.lt_or_ge j (l.toNat * sz) with h3 | h3
   ·exact h3
   ·rw [List.getElem?_eq_none (by rw [hfl]; exact h3)] at hj; cases hj
  rw [hget _ _ hjl] at hj
  have hm : j % sz < v'.cells.size := by rw [hcs]; exact Nat.mod_lt _ hsz
  have hcell : v'.cells[j % sz]? = some (v'.cells[j % sz]'hm) := Array.getElem?_eq_getElem hm
  have hgd : v'.cells.getD (j % sz) undef = v'.cells[j % sz]'hm := by rw [Array.getD_eq_getD_getElem?, hcell]; rfl
  have hmade : (madeCells v'.cells (c.toNat * i'.size))[j]? = some (v'.cells[j % sz]'hm) := by
   unfold madeCells
   rw [Array.getElem?_map, Array.getElem?_range, if_pos (Nat.lt_of_lt_of_le hjl hcl)]
   have hm' : j % v'.cells.size < v'.cells.size := by rw [hcs]; rw [hcs] at hm; exact hm
   rw [Option.map_some, getElem!_pos v'.cells _ hm']
   simp only [hcs]
  simp only [hgd]
  cases hrel with
  | agg q1 q2 q3 => exact ⟨hmade, q2 _ _ hcell, q3 _ _ _ hj hcell⟩
 refine ⟨_, _, _, _, rfl, hk, ?_, s.sim.push _ e (0, 0) _ hh, FB.push _ _ _⟩
 refine .sl (by simp [cx]) (by simp [cx, Gh.at_]) ⟨_, _, rfl⟩ fun _ => .inr ⟨w.heap.size, c.toNat, by simp [cx, Gh.at_], by omega, ?_, rfl⟩
 simp [cx, Gh.at_, size_madeCells, hisz]
end
end Go.Ab
namespace Go.Ab
section
variable {X : Nat → Prop} {h : Gh} {H : AU} {w : World}
theorem GY.loopSet (s : GY X h H w) {id B : Nat} {L : XQ} {r : Loop} (he : H[id]? = some (.lp L)) (hio : h.io id = some B) (hb : w.heap[B]? = some (.loop r)) (st : LoopState) (p : Option Code) :
  GY X h (H.set id (.lp { L with state := st, pending := p })) (w.putObj B (.loop { r with state := st, pending := p })) ∧
   FB h H w h (H.set id (.lp { L with state := st, pending := p })) (w.putObj B (.loop { r with state := st, pending := p })) := by
 have hid : id < H.length := by
  rcases Nat.lt_or_ge id H.length with h2 | h2
  ·exact h2
  ·rw [List.getElem?_eq_none h2] at he; cases he
 have hx : FB h H w h (H.set id (.lp { L with state := st, pending := p })) (w.putObj B (.loop { r with state := st, pending := p })) := by
  refine ⟨rfl, rfl, rfl, by simp, fun k hk' hn => ?_, by simp, fun _ _ => Nat.le_refl _, fun _ _ _ => ⟨rfl, rfl⟩, fun k ho => ?_, fun k y hy => ?_⟩
  ·refine World.putObj_heap_other fun e => ?_
   subst e
   exact hn ⟨id, _, he, by simp, hio⟩
  ·obtain ⟨i, e, h1, hne, h2⟩ := ho
   rcases IW hid h1 with ⟨hi, h1'⟩ | ⟨rfl, _⟩
   ·exact .inl ⟨i, e, h1', hne, h2⟩
   ·exact .inl ⟨i, _, he, by simp, h2⟩
  ·by_cases e : k = B
   ·subst e
    exact ⟨_, World.putObj_heap_same (VQ hb)⟩
   ·exact ⟨y, by rw [World.putObj_heap_other e, hy]⟩
 refine ⟨s.of_ext hx (fun i e h1 hne => ?_) (fun i i' e1 e2 k h1 h2 hn1 hn2 h3 h4 => ?_), hx⟩
 ·rcases IW hid h1 with ⟨hi, h1'⟩ | ⟨rfl, rfl⟩
  ·refine .inl ⟨h1', rfl, rfl, rfl, fun B' hio' => World.putObj_heap_other fun e => ?_⟩
   subst e
   exact hi (s.inj i id _ _ B' h1' he hne (by simp) hio' hio)
  ·obtain ⟨hg, B', r', hio', hb', h1, h2, h3, h4, h5, h6, h7⟩ := s.lp i L he
   rw [show (cx X h H w).io i = h.io i from rfl, hio] at hio'
   injection hio' with e
   subst e
   rw [show (cx X h H w).w.heap = w.heap from rfl, hb] at hb'
   injection hb' with e
   injection e with e
   subst e
   refine .inr (.inr ⟨_, rfl, hg, B, _, hio, World.putObj_heap_same (VQ hb), rfl, rfl, h3, h4, h5, h6, fun t v m => ⟨(h7 t v m).1, (h7 t v m).2.later (hx.later X)⟩⟩)
 ·rcases IW hid h1 with ⟨i1, e1⟩ | ⟨rfl, _⟩ <;> rcases IW hid h2 with ⟨i2, e2⟩ | ⟨rfl, _⟩
  ·exact s.inj _ _ _ _ k e1 e2 hn1 hn2 h3 h4
  ·exact s.inj _ _ _ _ k e1 he hn1 (by simp) h3 h4
  ·exact s.inj _ _ _ _ k he e2 (by simp) hn2 h3 h4
  ·rfl
theorem GY.kill (s : GY X h H w) {id : Nat} (hid : id < H.length) : GY X h (H.set id .dead) w ∧ FB h H w h (H.set id .dead) w := by
 have hx : FB h H w h (H.set id .dead) w := by
  refine ⟨rfl, rfl, rfl, Nat.le_refl _, fun k hk' hn => rfl, by simp, fun _ _ => Nat.le_refl _, fun _ _ _ => ⟨rfl, rfl⟩, fun k ho => ?_, fun k y hy => ⟨y, hy⟩⟩
  obtain ⟨i, e, h1, hne, h2⟩ := ho
  rcases IW hid h1 with ⟨hi, h1'⟩ | ⟨rfl, rfl⟩
  ·exact .inl ⟨i, e, h1', hne, h2⟩
  ·exact (hne rfl).elim
 refine ⟨s.of_ext hx (fun i e h1 hne => ?_) (fun i i' e1 e2 k h1 h2 hn1 hn2 h3 h4 => ?_), hx⟩
 ·rcases IW hid h1 with ⟨hi, h1'⟩ | ⟨rfl, rfl⟩
  ·exact .inl ⟨h1', rfl, rfl, rfl, fun B' _ => rfl⟩
  ·exact (hne rfl).elim
 ·rcases IW hid h1 with ⟨i1, e1⟩ | ⟨rfl, rfl⟩
  ·rcases IW hid h2 with ⟨i2, e2⟩ | ⟨rfl, rfl⟩
   ·exact s.inj _ _ _ _ k e1 e2 hn1 hn2 h3 h4
   ·exact (hn2 rfl).elim
  ·exact (hn1 rfl).elim
end
def Kx : Env → List Tmp → List AG → Env
 | env, t :: ts, v :: vs => Kx (env.put t v) ts vs
 | env, _, _ => env
theorem XX {x : Cx} : ∀ (ts : List Tmp) (vs : List AG) (cs : List Value) (env : Env) (a : Act), (∀ t ∈ ts, t < a.tmps.size) → cs.length = vs.length →
  (∀ (j : Nat) (v : AG) (c : Value), vs[j]? = some v → cs[j]? = some c → A1 x v c) → Je x env a →
  Je x (Kx env ts vs) { a with tmps := (ts.zip cs).foldl (fun (tmps : Array Value) (q : Tmp × Value) => tmps.setIfInBounds q.1 q.2) a.tmps }
 | [], vs, cs, env, a, _, _, _, h => by simpa [Kx] using h
 | t :: ts, [], cs, env, a, _, hl, _, h => by
  have : cs = [] := List.eq_nil_of_length_eq_zero (by simpa using hl)
  subst this
  simpa [Kx] using h
 | t :: ts, v :: vs, [], env, a, _, hl, _, h => by simp at hl
 | t :: ts, v :: vs, c :: cs, env, a, ht, hl, hr, h => by
  simp only [Kx, List.zip_cons_cons, List.foldl_cons]
  have h1 : Je x (env.put t v) (a.put (some t) c) := h.put (ht t (by simp)) (hr 0 v c rfl rfl)
  exact XX ts vs cs (env.put t v) (a.put (some t) c) (fun u hu => by rw [UB]; exact ht u (List.mem_cons_of_mem _ hu)) (by simpa using hl)
   (fun j v' c' h1 h2 => hr (j + 1) v' c' (by simpa using h1) (by simpa using h2)) h1
theorem WY : ∀ (l : List (Tmp × Value)) (a : Array Value), (l.foldl (fun (tmps : Array Value) (q : Tmp × Value) => tmps.setIfInBounds q.1 q.2) a).size = a.size
 | [], a => rfl
 | q :: l, a => by rw [List.foldl_cons, WY l]; simp
def g7 (id : Nat) (K : AG → AU → Prop) : Exit → Env → AU → Prop
 | .normal, _, H => ∃ L, H[id]? = some (.lp L) ∧ K (.bool true) (H.set id (.lp { L with state := .ready, pending := none }))
 | .ret, _, H => ∃ L, H[id]? = some (.lp L) ∧ K (.bool false) (H.set id (.lp { L with state := .done, pending := some .ret }))
 | .exit k, _, H => ∃ L, H[id]? = some (.lp L) ∧ K (.bool false) (H.set id (.lp { L with state := .done, pending := some (.exit k) }))
 | _, _, _ => False
section
variable {P : Program} {N : Nat} {o : Oper} {env : Env} {H : AU} {K : AG → AU → Prop}
theorem Dg.yield {c : Call} {f : Operand} {id : Nat} {L : XQ} (ho : o.op = .call c) (hcal : c.callee = .value f) (hf : Al env f = .yf id) (he : H[id]? = some (.lp L))
  (hn : c.args.size = L.params.size) (hps : (L.params.toList.all fun t => decide (t < L.n)) = true)
  (hw : KE P L.n L.assign (Kx L.env L.params.toList (c.args.toList.map (Al env))) H fun e env1 H1 => e = .normal ∧ ∃ L1, H1[id]? = some (.lp L1) ∧ L1.state = .ready ∧ KE P L.n L.body env1 (H1.set id (.lp { L1 with state := .busy })) (g7 id K)) : Dg P N o env H K := by
 intro ro X h a w s Q
 obtain ⟨hg, B, r, hio, hb, h1, h2, h3, h4, h5, h6, h7⟩ := s.sim.lp id L he
 have hio : h.io id = some B := hio
 have hb : w.heap[B]? = some (.loop r) := hb
 have hrf := B5 s.env f
 rw [hf] at hrf
 have hev : a.eval f = .func (.yield B) #[] #[] := by
  generalize a.eval f = cf at hrf
  cases hrf with
  | yf hid h1 hc =>
   obtain ⟨B', hB', rfl⟩ := hc hg
   rw [show (cx X h H w).io id = h.io id from rfl, hio] at hB'
   injection hB' with e
   rw [e]
 have hrun : (execOp a.eval o).run P w = .ok (.round B r.fn ((r.params.zip (c.args.map a.eval)).foldl (fun tmps (t, a) => tmps.setIfInBounds t a) r.tmps) r.assign r.body) w := by
  unfold execOp
  rw [ho]
  simp only [resolve, hcal, hev, Deferred.ofValue, Sem.run_bind, Sem.run_pure, Result.andThen_ok, invoke]
  rw [show (#[] ++ c.args.map a.eval : Array Value) = c.args.map a.eval by simp]
  exact run_yield hb (by rw [Array.size_map, hn, h3])
 refine ⟨fun _ _ => trivial, ?_⟩
 rw [Oper.semAt_eq _ _ _ (fun c hc => by rw [ho] at hc; cases hc), hrun, Oper.uponIn_round]
 refine ⟨(fun h => by cases h), ?_⟩
 let R : Ending → World → Prop := fun e w' => ∃ c v h' H', e = .returned c ∧ K v H' ∧ A1 (cx X h' H' w') v c ∧ GY X h' H' w' ∧ FB h H w h' H' w'
 refine RoundIn.mono (R := R) ?_ (by
  rintro e w' ⟨c', v, h', H', rfl, k, hv, hs, hx⟩
  exact ⟨c', v, h', H', rfl, k, hv, hs, hx⟩)
 refine roundIn_of_wpIn trivial ?_
 have htm : ((r.params.zip (c.args.map a.eval)).foldl (fun tmps (t, a) => tmps.setIfInBounds t a) r.tmps) = ((L.params.toList.zip (c.args.toList.map a.eval)).foldl (fun (tmps : Array Value) (q : Tmp × Value) => tmps.setIfInBounds q.1 q.2) r.tmps) := by
  rw [h3, ← Array.foldl_toList, Array.toList_zip, Array.toList_map]
 rw [htm, h4, h5]
 have hst0 : St X h L.n (Kx L.env L.params.toList (c.args.toList.map (Al env))) H { tmps := (L.params.toList.zip (c.args.toList.map a.eval)).foldl (fun (tmps : Array Value) (q : Tmp × Value) => tmps.setIfInBounds q.1 q.2) r.tmps, defers := [] } w := by
  refine ⟨s.sim, ?_, by rw [WY, h6]⟩
  refine XX (x := cx X h H w) L.params.toList (c.args.toList.map (Al env)) (c.args.toList.map a.eval) L.env { tmps := r.tmps, defers := [] } (fun t ht => ?_) (by simp) (fun j v d hj hd => ?_) (fun t v m => ⟨by rw [h6]; exact (h7 t v m).1, (h7 t v m).2⟩)
  ·rw [h6]
   simpa using List.all_eq_true.1 hps t ht
  ·rw [List.getElem?_map] at hj hd
   cases hx : c.args.toList[j]? with
   | none => rw [hx] at hj; cases hj
   | some x =>
    rw [hx] at hj hd
    simp only [Option.map_some, Option.some.injEq] at hj hd
    subst hj hd
    exact B5 s.env x
 refine wpIn_mono (hw (some B) X h _ w hst0 fun l e => by injection e with e; subst e; exact ⟨r, hb⟩) ?_
 rintro e a1 w1 ⟨h', env1, H1, ⟨rfl, L1, he1, hst, hbody⟩, s1, x1, _⟩
 obtain ⟨hg1, B1, r1, hio1, hb1, q1, q2, q3, q4, q5, q6, q7⟩ := s1.sim.lp id L1 he1
 have hio1 : h'.io id = some B1 := hio1
 have hb1 : w1.heap[B1]? = some (.loop r1) := hb1
 have hid : id < H.length := by
  rcases Nat.lt_or_ge id H.length with h2 | h2
  ·exact h2
  ·rw [List.getElem?_eq_none h2] at he; cases he
 have eB : B1 = B := by
  have := (x1.same id hid (by rw [show h'.gen id = 0 from hg1, show h.gen id = 0 from hg])).1
  rw [hio1, hio] at this
  injection this
 subst eB
 obtain ⟨hs2, hx2⟩ := s1.sim.loopSet he1 hio1 hb1 .busy L1.pending
 have hr1 : ({ r1 with state := .busy } : Loop) = { r1 with state := .busy, pending := L1.pending } := by rw [← q2]
 refine ⟨_, run_beginRound hb1 (by rw [q1, hst]), ?_⟩
 rw [hr1]
 refine wpIn_mono (hbody (some B1) X h' a1 _ ⟨hs2, s1.env.later (hx2.later X), s1.size⟩ fun l e => by injection e with e; subst e; exact ⟨_, World.putObj_heap_same (VQ hb1)⟩) ?_
 rintro e a2 w2 ⟨h2', env2, H2, q, s2, x2, _⟩
 have fin : ∀ (jump : Option Code) (L2 : XQ), H2[id]? = some (.lp L2) → K (.bool jump.isNone) (H2.set id (.lp { L2 with state := if jump.isNone then .ready else .done, pending := jump })) →
   ∃ v w', (Instr.endRound B1 jump).run P w2 = .ok v w' ∧ R (.returned v) w' := by
  intro jump L2 he2 hk
  obtain ⟨hg2, B2, r2, hio2, hb2, p1, p2, p3, p4, p5, p6, p7⟩ := s2.sim.lp id L2 he2
  have hio2 : h2'.io id = some B2 := hio2
  have hb2 : w2.heap[B2]? = some (.loop r2) := hb2
  have hlt1 : id < H1.length := Nat.lt_of_lt_of_le hid x1.n
  have eB : B2 = B1 := by
   have := (x2.same id (by simpa using hlt1) (by rw [show h2'.gen id = 0 from hg2, show h'.gen id = 0 from hg1])).1
   rw [hio2, hio1] at this
   injection this
  subst eB
  obtain ⟨hs3, hx3⟩ := s2.sim.loopSet he2 hio2 hb2 (if jump.isNone then .ready else .done) jump
  exact ⟨_, _, run_endRound jump hb2, _, _, h2', _, rfl, hk, .bool _, hs3, ((x1.trans hx2).trans x2).trans hx3⟩
 cases e with
 | normal => obtain ⟨L2, q1, q2⟩ := q; exact fin none L2 q1 q2
 | ret => obtain ⟨L2, q1, q2⟩ := q; exact fin (some .ret) L2 q1 q2
 | exit k => obtain ⟨L2, q1, q2⟩ := q; exact fin (some (.exit k)) L2 q1 q2
 | _ => exact q.elim
end
end Go.Ab
namespace Go.Ab
section
variable {P : Program} {N : Nat} {env : Env} {H : AU} {Q : Exit → Env → AU → Prop}
def gx (P : Program) (N : Nat) (env : Env) (id : Nat) (Q : Exit → Env → AU → Prop) (H : AU) : Prop :=
 ∃ L, H[id]? = some (.lp L) ∧ L.state ≠ .busy ∧ (match L.pending with
  | none => Q .normal env (H.set id .dead)
  | some c => KE P N c env (H.set id .dead) Q)
theorem dk {r : Option Nat} {n : Nat} {f : FuncId} {args : Array Value} {w : World} {R : Ending → World → Prop} (h : Calls P f args w R) : CallsIn (FR r) n P f args w R := by
 have h1 : CallsIn Fence.wide n P f args w R := callsIn_wide.2 h
 cases r with
 | none => exact h1
 | some l => exact h1
theorem KE.rangeFunc0 {f : Operand} {ps : Array Tmp} {assign body : Code} {first caps : List AG} {G : FuncId} (env0 : Env) (hsub : ∀ p ∈ env0, p ∈ env) (hf : Al env f = .fn (.func G) first caps) (hE : WB P G = true)
  (hcall : Bz P G (first ++ [.yf H.length] ++ caps) (H ++ [.lp ⟨N, env0, ps, assign, body, .ready, none⟩]) fun _ H' => gx P N env H.length Q H') : KE P N (.rangeFunc f ps assign body) env H Q := by
 intro r X h a w s k
 have hrf := B5 s.env f
 rw [hf] at hrf
 obtain ⟨first', caps', hev, n1, n2, hv1, hv2⟩ : ∃ first' caps', a.eval f = .func (.func G) first' caps' ∧ first'.size = first.length ∧ caps'.size = caps.length ∧
   (∀ (j : Nat) (v : AG) (c : Value), first[j]? = some v → first'[j]? = some c → A1 (cx X h H w) v c) ∧ (∀ (j : Nat) (v : AG) (c : Value), caps[j]? = some v → caps'[j]? = some c → A1 (cx X h H w) v c) := by
  generalize a.eval f = cf at hrf
  cases hrf with
  | fn h1 h2 hv1 hv2 => exact ⟨_, _, rfl, h1, h2, hv1, hv2⟩
 have main : ∀ (W0 : World) (rc : Loop) (mark : List Deferred), GY X h H W0 → FB h H w h H W0 → rc.state = .ready → rc.pending = none → rc.tmps = a.tmps → rc.params = ps → rc.assign = assign → rc.body = body → mark.Nodup →
   (∀ d ∈ mark, ∃ D, d = { target := .collected D, args := #[] } ∧ w.heap.size ≤ D ∧ W0.heap[D]? = some (.deferred (some []))) →
   CallsIn (FR r) (0 - 1) P G (first' ++ #[.func (.yield W0.heap.size) #[] #[]] ++ caps') (W0.alloc (.loop rc))
    (rangePost (FR r) 0 P W0.heap.size (fun e a' w' => ∃ h' env' H', Q e env' H' ∧ St X h' N env' H' a' w' ∧ FB h H w h' H' w' ∧ Rr a w a' w') { a with defers := mark ++ a.defers }) := by
  intro W0 rc mark s0 x0 e1 e2 e3 e4 e5 e6 hnd hmark
  have xp := FB.push (h := h) (H := H) (w := W0) (.loop rc) 0 (.lp ⟨N, env0, ps, assign, body, .ready, none⟩)
  have sp := s0.push_any (.loop rc) 0 (.lp ⟨N, env0, ps, assign, body, .ready, none⟩) fun _ => .inr ⟨_, rfl, by simp [cx, Gh.at_], W0.heap.size, rc, by simp [cx, Gh.at_], by show (W0.heap.push (.loop rc))[W0.heap.size]? = _; simp, e1, e2, e4, e5, e6, by rw [e3]; exact s.size, fun t v m => by
   obtain ⟨m1, m2⟩ := s.env t v (hsub _ m)
   refine ⟨by rw [← s.size]; exact m1, ?_⟩
   rw [e3]
   exact m2.later ((x0.trans xp).later X)⟩
  have ea : W0.alloc (.loop rc) = { W0 with heap := W0.heap.push (.loop rc) } := rfl
  rw [ea]
  generalize hW1 : ({ W0 with heap := W0.heap.push (.loop rc) } : World) = W1 at xp sp
  generalize hg1 : h.at_ H.length (some W0.heap.size) 0 0 = g1 at xp sp
  have gat : g1.gen H.length = 0 ∧ g1.io H.length = some W0.heap.size := by rw [← hg1]; simp [Gh.at_]
  have hl := (x0.trans xp).later X
  have hsz : (first' ++ #[Value.func (.yield W0.heap.size) #[] #[]] ++ caps').size = (first ++ [AG.yf H.length] ++ caps).length := by
   simp [n1, n2]
   omega
  have hargs : ∀ (j : Nat) (v : AG) (c : Value), (first ++ [AG.yf H.length] ++ caps)[j]? = some v → (first' ++ #[Value.func (.yield W0.heap.size) #[] #[]] ++ caps')[j]? = some c → A1 (cx X g1 (H ++ [.lp ⟨N, env0, ps, assign, body, .ready, none⟩]) W1) v c := by
   intro j v c hj hc
   rcases Nat.lt_or_ge j (first.length + 1) with hlt1 | hge1
   ·rw [List.getElem?_append_left (by simp; omega)] at hj
    rw [Array.getElem?_append_left (by simp; omega)] at hc
    rcases Nat.lt_or_ge j first.length with hlt2 | hge2
    ·rw [List.getElem?_append_left hlt2] at hj
     rw [Array.getElem?_append_left (by omega)] at hc
     exact (hv1 j v c hj hc).later hl
    ·have : j = first.length := by omega
     subst this
     rw [List.getElem?_append_right (Nat.le_refl _), Nat.sub_self] at hj
     rw [Array.getElem?_append_right (by omega), n1, Nat.sub_self] at hc
     simp at hj hc
     subst hj hc
     exact .yf (by simp [cx]) rfl fun _ => ⟨W0.heap.size, gat.2, rfl⟩
   ·rw [List.getElem?_append_right (by simp; omega)] at hj
    rw [Array.getElem?_append_right (by simp; omega)] at hc
    refine (hv2 _ v c ?_ hc).later hl
    simpa [n1] using hj
  have hC := hcall X g1 W1 _ sp hsz hargs
  refine (dk hC).mono ?_
  ·rintro e w' ⟨c, v, h', H', rfl, ⟨L, hL, hbusy, hQ⟩, sc, rv, x⟩
   obtain ⟨hg, B, rr, hio, hb, q1, q2, q3, q4, q5, q6, q7⟩ := sc.lp H.length L hL
   have hio : h'.io H.length = some B := hio
   have hb : w'.heap[B]? = some (.loop rr) := hb
   have eB : B = W0.heap.size := by
    have := (x.same H.length (by simp) (by rw [show h'.gen H.length = 0 from hg, gat.1])).1
    rw [hio, gat.2] at this
    injection this
   subst eB
   obtain ⟨s2, x2⟩ := sc.loopSet hL hio hb .exhausted rr.pending
   have hlen : H.length < (H'.set H.length (.lp { L with state := .exhausted, pending := rr.pending })).length := by
    have := x.n
    simp at this ⊢
    omega
   obtain ⟨s3, x3⟩ := s2.kill hlen
   rw [List.set_set] at s3 x3
   have xe := ((xp.trans x).trans x2).trans x3
   have st : St X h' N env (H'.set H.length .dead) { a with defers := mark ++ a.defers } (w'.putObj W0.heap.size (.loop { rr with state := .exhausted, pending := rr.pending })) :=
    ⟨s3, fun t v m => ⟨(s.env t v m).1, (s.env t v m).2.later ((x0.trans xe).later X)⟩, s.size⟩
   have df : Rr a w { a with defers := mark ++ a.defers } (w'.putObj W0.heap.size (.loop { rr with state := .exhausted, pending := rr.pending })) := by
    refine ⟨mark, rfl, hnd, fun d hd => ?_⟩
    obtain ⟨D, h1, h2, h3⟩ := hmark d hd
    exact ⟨D, h1, h2, xe.defs s0 h3⟩
   refine ⟨rr.pending, _, run_endLoop hb (by rw [q1]; exact hbusy), ?_⟩
   rw [q2] at *
   cases hp : L.pending with
   | none =>
    rw [hp] at hQ st df xe
    exact ⟨h', env, _, hQ, st, x0.trans xe, df⟩
   | some cd =>
    rw [hp] at hQ st df xe s3
    refine wpIn_mono (hQ r X h' _ _ st (k.later (x0.trans xe))) ?_
    rintro e' a' w'' ⟨h2, env2, H2, q, s', x', d'⟩
    exact ⟨h2, env2, H2, q, s', (x0.trans xe).trans x', df.trans s3 (x0.trans xe) x' d'⟩
 have hres : ∀ (l : Nat) (W : World), (resolve a.eval (rangeCall f l) 0).run P W = .ok { target := .fn (.func G) caps', args := first' ++ #[.func (.yield l) #[] #[]] } W := by
  intro l W
  have hc : a.eval (.const (.func (.yield l) #[] #[])) = .func (.yield l) #[] #[] := rfl
  simp [resolve, hev, hc, Deferred.ofValue]
 refine wpIn_rangeFunc fun fn _ => ?_
 cases r with
 | none =>
  have x0 : FB h H w h H (w.alloc (.deferred (some []))) := FB.grow rfl rfl rfl (by show _ ≤ (w.heap.push _).size; simp) fun k hk => by
   show (w.heap.push _)[k]? = _
   rw [Array.getElem?_push, if_neg (by omega)]
  have s0 : GY X h H (w.alloc (.deferred (some []))) := s.sim.grow rfl rfl rfl (by show _ ≤ (w.heap.push _).size; simp) fun k hk => by
   show (w.heap.push _)[k]? = _
   rw [Array.getElem?_push, if_neg (by omega)]
  have hm := main (w.alloc (.deferred (some []))) { state := .ready, pending := none, fn, tmps := a.tmps, params := ps, assign, body, defers := w.heap.size } [{ target := .collected w.heap.size, args := #[] }] s0 x0 rfl rfl rfl rfl rfl rfl (by simp) fun d hd => by
   simp only [List.mem_singleton] at hd
   exact ⟨w.heap.size, hd, Nat.le_refl _, World.alloc_heap_new w _⟩
  rw [World.size_alloc] at hm
  exact ⟨_, _, _, _, _, _, _, _, run_enterLoop_outer fn a.tmps ps assign body, hres _ _, fun _ _ => trivial, by simp only [invoke]; exact VY hE _ _, (fun h => by cases h), hm⟩
 | some l =>
  obtain ⟨x, hx⟩ := k l rfl
  have hm := main w { state := .ready, pending := none, fn, tmps := a.tmps, params := ps, assign, body, defers := x.defers } [] s.sim (FB.refl _ _ _) rfl rfl rfl rfl rfl rfl (by simp) fun d hd => by cases hd
  exact ⟨_, _, _, _, _, _, _, _, run_enterLoop_inner hx fn a.tmps ps assign body, hres _ _, fun _ _ => trivial, by simp only [invoke]; exact VY hE _ _, (fun h => by cases h), hm⟩
end
end Go.Ab
namespace Go.Ab
def isQ : Op → Bool
 | .move _ | .assign _ | .pick .. | .load .. | .nilCheck _ | .binOp .. | .unOp .. | .convert .. | .fieldAddr .. | .field .. | .indexAddr .. | .index .. | .slice .. | .extract .. | .makeFunc .. | .build .. => true
 | .call c => match c.callee with | .builtin .len => true | .builtin .max => true | .builtin .min => true | _ => false
 | _ => false
abbrev CallE := FuncId → List AG → AU → Option (AG × AU)
abbrev CodeE := Nat → Code → Env → AU → Option (Exit × Env × AU)
def br (P : Program) (env : Env) (H : AU) (op : Op) : Option AG :=
 match op with
 | .buildSlice t len parts => match NN P env t len parts with | some (sz, vs) => some (.vs sz vs) | none => none
 | op => BN P env H op
def dq (op : Op) : Bool := match op with | .buildSlice .. => true | op => isQ op
def cF (ops : Array Oper) (m : List Nat) : Nat → List Nat → List Nat
 | 0, _ => []
 | n + 1, left =>
  let rdy := left.filter fun i => left.all fun p => p == i || !Kh m p i
  let qs := rdy.filter fun i => match ops[i]? with | some o => dq o.op | none => false
  let last := fun i => left.all fun j => j == i || Kh m i j || Ed ops j
  let es := rdy.filter fun i => !Ed ops i && last i
  let as := rdy.filter fun i => Ed ops i && last i
  match qs, es, as with
  | i :: _, _, _ => i :: cF ops m n (left.erase i)
  | [], i :: _, _ => i :: cF ops m n (left.erase i)
  | [], [], i :: _ => i :: cF ops m n (left.erase i)
  | [], [], [] => []
def d8 (ops : Array Oper) : List Nat := cF ops (El ops.toList []) ops.size (List.range ops.size)
end Go.Ab
namespace Go.Ab
section
variable {P : Program} {N : Nat} {o : Oper} {env : Env} {H H' : AU} {v : AG} {F : List Nat}
end
end Go.Ab
namespace Go.Ab
section
variable {P : Program} {call : CallE} {code : CodeE} {H H' : AU} {v : AG} {F : List Nat}
theorem Pw.of_dquiet {N : Nat} {o : Oper} {env : Env} (hv : br P env H o.op = some v) : Pw P N o env H (fi env o.op) v := by
 unfold br at hv
 split at hv
 ·rename_i t len parts ho
  split at hv
  ·rename_i sz vs hp
   injection hv with e
   subst e
   intro env' H'' he hh
   refine Dg.buildSlice_v ho (sz := sz) (vs := vs) ?_ ⟨rfl, rfl⟩
   rw [← hp]
   have h1 : ∀ x ∈ o.op.operands, Al env' x = Al env x := Us he
   unfold NN
   have : (parts.toList.map fun p => Al env' p.2) = parts.toList.map fun p => Al env p.2 := List.map_congr_left fun p hp => by
    refine h1 p.2 ?_
    rw [ho]
    simp only [Op.operands, List.mem_toArray, List.mem_map]
    exact ⟨p, hp, rfl⟩
   rw [this]
  ·cases hv
 ·exact Pw.of_qeval hv
end
end Go.Ab
namespace Go.Ab
section
variable {P : Program}
end
end Go.Ab
namespace Go.Ab
def Y0 (F : Fence) (n0 : Nat) (P : Program) (c : Code) (K : Exit → Act → World → Prop) (a : Act) (w : World) : Prop :=
 ∀ (b : Frame) (k : List Item) (cs : List Frame), b.roundOf = F.round → F.fn b.fn → F.room (cs.length + 1 + n0) →
  ∃ e a' w', K e a' w' ∧ ArrivesIn (Machine.fenced P F) P (lone (b.atR a (.code c :: .inLoop c :: k)) cs w) b k cs e a' w'
section
variable {P : Program} {F : Fence} {n0 : Nat} {c : Code} {K : Exit → Act → World → Prop} {a : Act} {w : World}
theorem dF (h : Y0 F n0 P c K a w) : (Code.loop c).wpIn F n0 P K a w := by
 intro b k cs hro hb hr
 obtain ⟨e, a', w', hq, harr⟩ := h b k cs hro hb hr
 exact ⟨e, a', w', hq, .of_steps (.one (fenced_calm hb hr rfl) stepR_loop) harr⟩
theorem aq (h : c.wpIn F n0 P (Exit.then (fun a' w' => Y0 F n0 P c K a' w') K) a w) : Y0 F n0 P c K a w := by
 intro b k cs hro hb hr
 obtain ⟨e, a₁, w₁, hq, harr⟩ := h b (.inLoop c :: k) cs hro hb hr
 cases e with
 | normal =>
  obtain ⟨e₂, a₂, w₂, hq₂, harr₂⟩ := hq b k cs hro hb hr
  exact ⟨e₂, a₂, w₂, hq₂, .of_steps (StepsIn.trans harr (.one (fenced_calm hb hr rfl) stepR_inLoop)) harr₂⟩
 | exit id => exact ⟨_, a₁, w₁, hq, .pass (x := .inLoop c) rfl (fun _ _ => .inl (by simp)) harr⟩
 | goto l => exact ⟨_, a₁, w₁, hq, .pass (x := .inLoop c) rfl (fun _ _ => .inl (by simp)) harr⟩
 | ret => exact ⟨_, a₁, w₁, hq, .pass (x := .inLoop c) rfl (fun _ _ => .inl (by simp)) harr⟩
 | panic ch => exact ⟨_, a₁, w₁, hq, .pass (x := .inLoop c) rfl (fun _ _ => .inl (by simp)) harr⟩
 | outgrown => exact ⟨_, a₁, w₁, hq, .pass (x := .inLoop c) rfl (fun _ _ => .inl (by simp)) harr⟩
theorem Ro {K' : Exit → Act → World → Prop} (h : Y0 F n0 P c K a w) (hk : ∀ e a w, K e a w → K' e a w) : Y0 F n0 P c K' a w := by
 intro b k cs hro hb hr
 obtain ⟨e, a', w', hq, harr⟩ := h b k cs hro hb hr
 exact ⟨e, a', w', hk _ _ _ hq, harr⟩
end
def IY (P : Program) (N : Nat) (c : Code) (env : Env) (H : AU) (Q : Exit → Env → AU → Prop) : Prop :=
 ∀ (r : Option Nat) (X : Nat → Prop) (h : Gh) (a : Act) (w : World), St X h N env H a w → Xy r w →
  Y0 (FR r) 0 P c (fun e a' w' => ∃ h' env' H', Q e env' H' ∧ St X h' N env' H' a' w' ∧ FB h H w h' H' w' ∧ Rr a w a' w') a w
section
variable {P : Program} {N : Nat} {env : Env} {H : AU} {Q : Exit → Env → AU → Prop}
theorem IY.mono {c : Code} {Q' : Exit → Env → AU → Prop} (h : IY P N c env H Q) (hq : ∀ e env' H', Q e env' H' → Q' e env' H') : IY P N c env H Q' := by
 intro r X g a w s k
 refine Ro (h r X g a w s k) ?_
 rintro e a' w' ⟨h', env', H', q, rest⟩
 exact ⟨h', env', H', hq _ _ _ q, rest⟩
theorem KE.of_loopW {c : Code} (h : IY P N c env H Q) : KE P N (.loop c) env H Q :=
 fun r X g a w s k => dF (h r X g a w s k)
theorem IY.unroll {c : Code} (h : KE P N c env H (jL (fun env' H' => ∃ env2 H2, DP N H.length env' H' env2 H2 ∧ IY P N c env2 H2 Q) Q)) : IY P N c env H Q := by
 intro r X g a w s k
 refine aq (wpIn_mono (h r X g a w s k) ?_)
 rintro e a2 w2 ⟨h2, env2, H2, q, s2, x2, d2⟩
 cases e with
 | normal =>
  obtain ⟨env3, H3, hw, hl⟩ := q
  obtain ⟨h3, s3, hg, ho⟩ := hw.2 X h2 a2 w2 s2
  have x3 : FB g H w h3 H3 w2 := DP.ext rfl hw.1 hg ho x2
  refine Ro (hl r X h3 a2 w2 s3 (k.later x3)) ?_
  rintro e a' w' ⟨h', env', H', q', s', x', d'⟩
  exact ⟨h', env', H', q', s', x3.trans x', d2.trans s3.sim x3 x' d'⟩
 | _ => exact ⟨h2, env2, H2, q, s2, x2, d2⟩
def Wz (P : Program) (N : Nat) (c : Code) (env : Env) (H : AU) (Q : Exit → Env → AU → Prop) : Prop :=
 match c with
 | .loop x => IY P N x env H Q
 | c => KE P N c env H Q
theorem Wz.awp {c : Code} (h : Wz P N c env H Q) : KE P N c env H Q := by
 unfold Wz at h
 split at h
 ·exact .of_loopW h
 ·exact h
theorem Wz.of_awp {c : Code} (hn : ∀ x, c ≠ .loop x) (h : KE P N c env H Q) : Wz P N c env H Q := by
 unfold Wz
 split
 ·exact (hn _ rfl).elim
 ·exact h
theorem Wz.mono {c : Code} {Q' : Exit → Env → AU → Prop} (h : Wz P N c env H Q) (hq : ∀ e env' H', Q e env' H' → Q' e env' H') : Wz P N c env H Q' := by
 cases c with
 | loop x => exact IY.mono h hq
 | _ => exact KE.mono h hq
theorem IY.weak {c : Code} {env2 : Env} {H2 : AU} (hw : DP N H.length env H env2 H2) (h : IY P N c env2 H2 Q) : IY P N c env H Q := by
 intro r X g a w s k
 obtain ⟨h2, s2, hg, ho⟩ := hw.2 X g a w s
 refine Ro (h r X h2 a w s2 k) ?_
 rintro e a' w' ⟨h', env', H', q, s', x', d'⟩
 exact ⟨h', env', H', q, s', (DP.ext rfl hw.1 hg ho (FB.refl g H w)).trans x', d'⟩
theorem Wz.weak {c : Code} {env2 : Env} {H2 : AU} (hw : DP N H.length env H env2 H2) (h : Wz P N c env2 H2 Q) : Wz P N c env H Q := by
 cases c with
 | loop x => exact IY.weak hw h
 | _ => exact KE.weak hw h
theorem KE.after {c : Code} (h : KE P N c env H (fun e env' H' => ∃ env2 H2, DP N H.length env' H' env2 H2 ∧ Q e env2 H2)) : KE P N c env H Q := by
 intro r X g a w s k
 refine wpIn_mono (h r X g a w s k) ?_
 rintro e a' w' ⟨h', env', H', ⟨env2, H2, hw, q⟩, s', x', d'⟩
 obtain ⟨h2, s2, hg, ho⟩ := hw.2 X h' a' w' s'
 exact ⟨h2, env2, H2, q, s2, DP.ext rfl hw.1 hg ho x', d'⟩
theorem IY.after {c : Code} (h : IY P N c env H (fun e env' H' => ∃ env2 H2, DP N H.length env' H' env2 H2 ∧ Q e env2 H2)) : IY P N c env H Q := by
 intro r X g a w s k
 refine Ro (h r X g a w s k) ?_
 rintro e a' w' ⟨h', env', H', ⟨env2, H2, hw, q⟩, s', x', d'⟩
 obtain ⟨h2, s2, hg, ho⟩ := hw.2 X h' a' w' s'
 exact ⟨h2, env2, H2, q, s2, DP.ext rfl hw.1 hg ho x', d'⟩
theorem Wz.after {c : Code} (h : Wz P N c env H (fun e env' H' => ∃ env2 H2, DP N H.length env' H' env2 H2 ∧ Q e env2 H2)) : Wz P N c env H Q := by
 cases c with
 | loop x => exact IY.after h
 | _ => exact KE.after h
end
end Go.Ab
namespace Go.Ab
def Bj (v : AG) (H : AU) : AG → AU → Prop := fun u H' => u = v ∧ H' = H
def TY (e : Exit) (env : Env) (H : AU) : Exit → Env → AU → Prop := fun e1 env1 H1 => e1 = e ∧ env1 = env ∧ H1 = H
def callT (ρ : Operand → AG) : Op → Option (Sum (FuncId × List AG) (Nat × List AG))
 | .call c =>
  match c.callee with
  | .value f =>
   match ρ f with
   | .fn (.func F) first caps => some (.inl (F, first ++ c.args.toList.map ρ ++ caps))
   | .yf id => some (.inr (id, c.args.toList.map ρ))
   | _ => none
  | _ => none
 | _ => none
def jB (H : AU) : List (Nat × Dt) → AU
 | [] => H
 |(i, e) :: r => jB (H.set i e) r
end Go.Ab
namespace Go.Ab
section
variable {X : Nat → Prop} {h : Gh} {H : AU} {w : World}
theorem GY.regen (s : GY X h H w) {id g g' : Nat} {cs : List AG} (he : H[id]? = some (Dt.live g cs)) (hg : g ≤ g') :
  GY X (h.at_ id (h.io id) g' (h.cap id)) (H.set id (.live g' cs)) w ∧ FB h H w (h.at_ id (h.io id) g' (h.cap id)) (H.set id (.live g' cs)) w := by
 obtain ⟨hgen, hent⟩ := s.live id g cs he
 have hgen' : h.gen id = g := hgen
 have hidl : id < H.length := by
  rcases Nat.lt_or_ge id H.length with h2 | h2
  ·exact h2
  ·rw [List.getElem?_eq_none h2] at he; cases he
 rcases hent with ⟨hno, hcs⟩ | ⟨B, arr, T, fz, f, hio, hb, hcap, hle, hfz, hcells⟩
 ·have hno' : h.io id = none := hno
  rcases Nat.eq_or_lt_of_le hg with e | hlt
  ·subst e
   have e1 : h.at_ id (h.io id) g (h.cap id) = h := by
    unfold Gh.at_
    cases h
    simp only [Gh.mk.injEq]
    refine ⟨funext fun i => ?_, funext fun i => ?_, funext fun i => ?_⟩
    ·split <;> simp_all
    ·split
     ·rename_i hi; subst hi; exact hgen'.symm
     ·rfl
    ·split <;> simp_all
   have e2 : H.set id (.live g cs) = H := by
    apply List.ext_getElem?
    intro i
    rw [List.getElem?_set]
    split
    ·rename_i hi; subst hi; exact he.symm
    ·rfl
   rw [e1, e2]
   exact ⟨s, FB.refl _ _ _⟩
  ·subst hcs
   obtain ⟨m, rfl⟩ : ∃ m, g' = m + 1 := ⟨g' - 1, by omega⟩
   have key : ∀ (h0 : Gh) (H0 : AU) (k : Nat), h0 = h.at_ id none (g + k) (h.cap id) → H0 = H.set id (.live (g + k) []) → (GY X h0 H0 w ∧ FB h H w h0 H0 w) → (GY X (h.at_ id none (g + (k + 1)) (h.cap id)) (H.set id (.live (g + (k + 1)) [])) w ∧ FB h H w (h.at_ id none (g + (k + 1)) (h.cap id)) (H.set id (.live (g + (k + 1)) [])) w) := by
    intro h0 H0 k e1 e2 hs
    subst e1 e2
    obtain ⟨q1, q2⟩ := hs.1.bump (id := id) (g := g + k) (cs := []) (by simp [hidl]) (by simp [Gh.at_])
    have e3 : (h.at_ id none (g + k) (h.cap id)).at_ id none (g + k + 1) ((h.at_ id none (g + k) (h.cap id)).cap id) = h.at_ id none (g + (k + 1)) (h.cap id) := by
     unfold Gh.at_
     simp only [Gh.mk.injEq]
     refine ⟨funext fun i => ?_, funext fun i => ?_, funext fun i => ?_⟩ <;> by_cases hi : i = id <;> simp [hi, Nat.add_assoc]
    rw [e3, List.set_set] at q1 q2
    exact ⟨q1, hs.2.trans q2⟩
   have all : ∀ k, GY X (h.at_ id none (g + (k + 1)) (h.cap id)) (H.set id (.live (g + (k + 1)) [])) w ∧ FB h H w (h.at_ id none (g + (k + 1)) (h.cap id)) (H.set id (.live (g + (k + 1)) [])) w := by
    intro k
    induction k with
    | zero => exact s.bump he hno'
    | succ k ih => exact key _ _ (k + 1) rfl rfl ih
   have := all (m - g)
   rw [show g + (m - g + 1) = m + 1 by omega] at this
   rw [hno']
   exact this
 ·have hio' : h.io id = some B := hio
  have hcap' : arr.size = h.cap id := hcap
  have := s.upd (g' := g') (B := B) (arr := arr) (T := T) (fz := fz) (w' := w) he hg (fun _ => ⟨hio', hcap'.symm⟩) (.inl hio') hb (fun _ _ _ => rfl) rfl rfl rfl (Nat.le_refl _) ⟨f, hle, hfz, hcells⟩
  rw [hcap'] at this
  rw [hio']
  exact this
end
section
variable {P : Program} {N : Nat} {o : Oper} {env : Env} {H : AU} {K : AG → AU → Prop}
theorem A1.regen {X : Nat → Prop} {h : Gh} {H : AU} {w : World} {id g g' sz off n : Nat} {c : Value} {e : Dt} (hgen : h.gen id = g) (r : A1 (cx X h H w) (.sl id g sz off n) c) :
  A1 (cx X (h.at_ id (h.io id) g' (h.cap id)) (H.set id e) w) (.sl id g' sz off n) c := by
 cases r with
 | sl hid hg1 h1 hc =>
  refine .sl (by simpa [cx] using hid) (by simp [cx, Gh.at_]) h1 fun _ => ?_
  have := hc hgen
  simpa [cx, Gh.at_] using this
theorem Dg.regen {id g g' sz off n : Nat} {cs : List AG} {H1 : AU} (hg : g ≤ g') (he : H1[id]? = some (Dt.live g cs)) (h : Dg P N o env H fun v H' => v = .sl id g sz off n ∧ H' = H1) (hk : K (.sl id g' sz off n) (H1.set id (.live g' cs))) : Dg P N o env H K := by
 intro r X h0 a w s Q
 refine OU (h r X h0 a w s Q) ?_
 rintro a' w' ⟨c, v, h', H', ha, ⟨rfl, rfl⟩, hv, hs, hx⟩
 obtain ⟨q1, q2⟩ := hs.regen (g' := g') he hg
 exact ⟨c, _, _, _, ha, hk, A1.regen (hs.live id g cs he).1 hv, q1, hx.trans q2⟩
theorem Dg.append_gen {sx xx : Operand} {t e : TypeId} {id g g' n sz m : Nat} {cs news : List AG} (ho : o.op = .call { callee := .builtin .append, args := #[sx, xx], argTypes := #[t, t] }) (he : eI P t = some (none, e, sz)) (hsz : 0 < sz) (hse : PC P e = true)
  (hs : Al env sx = .sl id g sz 0 n) (hid : H[id]? = some (Dt.live g cs)) (hn : cs.length = n * sz) (hx : Ki H sz (Al env xx) = some (m, news)) (hlim : n + m ≤ 16777216)
  (hgg : g < g' ∨ (g' = g ∧ m = 0)) (hk : K (.sl id g' sz 0 (n + m)) (H.set id (.live g' (cs ++ news)))) : Dg P N o env H K := by
 refine Dg.of_wp (by rw [ho]; rfl) ?_
 intro X h a w s Q
 obtain ⟨hun, b, hi⟩ := LB he
 obtain ⟨i, z, hinfo, hby, hz, hzs⟩ := NI hse
 have hisz := XG hi hinfo
 have rs := B5 s.env sx
 rw [hs] at rs
 have rx := B5 s.env xx
 obtain ⟨hgen, hent⟩ := s.sim.live id g cs hid
 have hgen' : h.gen id = g := hgen
 have hidl : id < H.length := by
  rcases Nat.lt_or_ge id H.length with h2 | h2
  ·exact h2
  ·rw [List.getElem?_eq_none h2] at hid; cases hid
 have hself : Ki H sz (.sl id g sz 0 n) = some (n, cs) := by
  simp only [Ki, hid]
  rw [if_pos ⟨trivial, trivial, by omega⟩]
  simp [← hn]
 unfold Oper.wp
 have hc0 : (h.io id = none ∧ n = 0 ∧ a.eval sx = .slice none 0 0) ∨ ∃ B cap, h.io id = some B ∧ n ≤ cap ∧ cap * sz ≤ h.cap id ∧ a.eval sx = .slice (some ⟨B, 0, none⟩) n cap := by
  generalize a.eval sx = c at rs
  cases rs with
  | sl p q r hc =>
   rcases hc hgen with ⟨h1, h2, _, h3⟩ | ⟨B, cap, h1, h2, h3, h4⟩
   ·exact .inl ⟨h1, h2, h3⟩
   ·exact .inr ⟨B, cap, h1, h2, by simpa [cx] using h3, h4⟩
 have grow : ∀ (base : Option Addr) (cap : Nat), a.eval sx = .slice base n cap → cap < n + m → 0 < m →
   Oper.upon P o a (fun a' w' => ∃ c v h' H', a' = a.put o.dst c ∧ K v H' ∧ A1 (cx X h' H' w') v c ∧ GY X h' H' w' ∧ FB h H w h' H' w') Q ((execOp a.eval o).run P w) := by
  intro base cap has hgrow hmpos
  have sd := s.sim.drew
  obtain ⟨ax, capx, us, hax, hnl, hrel, hone, _, hfc⟩ := KC (P := P) sd (rx.later (FB.drew.later X)) hsz hx
  obtain ⟨_, _, _, _, _, _, _, hlen0, _⟩ := KC (P := P) s.sim rx hsz hx
  obtain ⟨_, _, os, _, _, hrelo, honeo, _, hfo⟩ := KC (P := P) sd (rs.later (FB.drew.later X)) hsz hself
  obtain ⟨C, hC, hrun⟩ := ZC (ty := o.type) (base := base) (n := n) (cap := cap) (os := os) hun hinfo hz hby hlen0 (by rw [hisz, ← has]; exact hfo) (by rw [hisz]; exact hfc) hgrow hlim
  rw [LK ho (by rw [has]; exact hrun), Oper.upon_value]
  have hh : PD (cx X h H w.drew) (cs ++ news) (os.toArray ++ us.toArray ++ Builtin.zeroCells z.cells (C - (n + m))) (0, 0) := bH hrelo hrel honeo hone
  obtain ⟨q1, q2⟩ := sd.upd (g' := g') (B := w.heap.size) (T := e) (fz := (0, 0)) (w' := { w.drew with heap := w.drew.heap.push (.cells (os.toArray ++ us.toArray ++ Builtin.zeroCells z.cells (C - (n + m))) e) }) hid (by omega) (fun hne => by omega)
   (.inr (Nat.le_refl _)) (by show (w.heap.push _)[w.heap.size]? = _; simp) (fun k hk hne => by show (w.heap.push _)[k]? = w.heap[k]?; rw [Array.getElem?_push, if_neg hne]) rfl rfl rfl (by show w.heap.size ≤ (w.heap.push _).size; simp) hh
  refine ⟨_, _, _, _, rfl, hk, ?_, q1, FB.drew.trans q2⟩
  refine .sl (by simpa [cx] using hidl) (by simp [cx, Gh.at_]) ⟨_, _, rfl⟩ fun _ => .inr ⟨w.heap.size, C, by simp [cx, Gh.at_], hC, ?_, rfl⟩
  have e1 : us.length = m * sz := by rw [hrel.1, hnl]
  have e2 : os.length = n * sz := by rw [hrelo.1, hn]
  simp only [cx, Gh.at_, if_true, Array.size_append, List.size_toArray, Qs, hzs, hisz, e1, e2]
  have : (C - (n + m)) * sz + (n * sz + m * sz) = C * sz := by rw [← Nat.add_mul, ← Nat.add_mul]; congr 1; omega
  omega
 rcases hc0 with ⟨hio, rfl, has⟩ | ⟨B, cap, hio, hcap, hcap2, has⟩
 ·rcases Nat.eq_zero_or_pos m with hm | hm
  ·subst hm
   obtain ⟨ax, capx, us, hax, hnl, hrel, hone, hlen, hfc⟩ := KC (P := P) s.sim rx hsz hx
   have hnews : news = [] := List.eq_nil_of_length_eq_zero (by omega)
   subst hnews
   have hcs : cs = [] := List.eq_nil_of_length_eq_zero (by omega)
   subst hcs
   have hus : us = [] := List.eq_nil_of_length_eq_zero hrel.1
   subst hus
   have hrun := Xb (ty := o.type) (base := none) (n := 0) (cap := 0) (w' := w) hun hinfo hlen (by rw [hisz]; exact hfc) (by omega) rfl
   rw [LK ho (by rw [has]; exact hrun), Oper.upon_value]
   obtain ⟨q1, q2⟩ := s.sim.regen (g' := g') hid (by omega)
   rw [hio] at q1 q2
   rw [List.append_nil] at hk
   refine ⟨_, _, _, _, rfl, hk, ?_, q1, q2⟩
   exact .sl (by simpa [cx] using hidl) (by simp [cx, Gh.at_]) ⟨_, _, rfl⟩ fun _ => .inl ⟨by simp [cx, Gh.at_], rfl, rfl, rfl⟩
  ·exact grow none 0 has (by omega) hm
 ·rcases Nat.lt_or_ge cap (n + m) with hlt | hge
  ·exact grow _ cap has hlt (by omega)
  ·obtain ⟨ax, capx, us, hax, hnl, hrel, hone, hlen, hfc⟩ := KC (P := P) s.sim rx hsz hx
   rcases hent with ⟨hno, _⟩ | ⟨B', arr, T, fz, f, hio', hb, hcap', hle, hfz, hcells⟩
   ·rw [show (cx X h H w).io id = h.io id from rfl, hio] at hno; cases hno
   ·rw [show (cx X h H w).io id = h.io id from rfl, hio] at hio'
    injection hio' with e0
    subst e0
    have hcap'' : arr.size = h.cap id := hcap'
    have e1 : us.length = m * sz := by rw [hrel.1, hnl]
    have hroom : n * sz + m * sz ≤ arr.size := by
     rw [← Nat.add_mul, hcap'']
     exact Nat.le_trans (Nat.mul_le_mul_right _ hge) hcap2
    obtain ⟨w', arr', p1, p2, p3, p4, p5, p6, p7, p8, p9⟩ := Np (P := P) (off := n * sz) us 0 arr w hb (by omega) hfz hone
    have hrun := Xb (ty := o.type) (base := some ⟨B, 0, none⟩) (n := n) (cap := cap) (w' := w') hun hinfo hlen (by rw [hisz]; exact hfc) hge (by rw [hisz]; simp only [KH, Nat.zero_add]; exact p1)
    rw [LK ho (by rw [has]; exact hrun), Oper.upon_value]
    have hh : PD (cx X h H w) (cs ++ news) arr' fz := by
     refine ⟨fun j => if n * sz ≤ j ∧ j < n * sz + m * sz then us.getD (j - n * sz) undef else f j, by simp [hn, hnl]; omega, by rw [p3]; exact hfz, fun j v hj => ?_⟩
     rw [p4]
     simp only [Nat.add_zero, e1]
     rcases Nat.lt_or_ge j cs.length with h2 | h2
     ·rw [List.getElem?_append_left h2] at hj
      rw [if_neg (by omega), if_neg (by omega)]
      exact hcells j v hj
     ·rw [List.getElem?_append_right h2] at hj
      have hjl : j - cs.length < news.length := by
       rcases Nat.lt_or_ge (j - cs.length) news.length with h3 | h3
       ·exact h3
       ·rw [List.getElem?_eq_none h3] at hj; cases hj
      rw [if_pos (by omega), if_pos (by omega)]
      have hg : us[j - n * sz]? = some (us[j - n * sz]'(by omega)) := List.getElem?_eq_getElem (by omega)
      have eg : us.getD (j - n * sz) undef = us[j - n * sz]'(by omega) := by rw [List.getD_eq_getElem?_getD, hg]; rfl
      rw [eg]
      refine ⟨hg, hone _ (List.getElem_mem _), hrel.2 _ v _ hj ?_⟩
      rw [hn]
      exact hg
    obtain ⟨q1, q2⟩ := s.sim.upd (g' := g') (B := B) (arr := arr') (T := T) (fz := fz) (w' := w') hid (by omega) (fun _ => ⟨hio, by rw [p3, hcap'']⟩) (.inl hio) p2 (fun k _ hk => p5 k hk) p6 p7 p8 (by rw [p9]; exact Nat.le_refl _) hh
    refine ⟨_, _, _, _, rfl, hk, ?_, q1, q2⟩
    refine .sl (by simpa [cx] using hidl) (by simp [cx, Gh.at_]) ⟨_, _, rfl⟩ fun _ => .inr ⟨B, cap, by simp [cx, Gh.at_], hge, ?_, rfl⟩
    simp only [cx, Gh.at_, if_true, p3, Nat.zero_add, hcap'']
    exact hcap2
theorem Dg.append_nil_gen {sx xx : Operand} {t e : TypeId} {sz m : Nat} {news : List AG} (ho : o.op = .call { callee := .builtin .append, args := #[sx, xx], argTypes := #[t, t] }) (he : eI P t = some (none, e, sz)) (hsz : 0 < sz) (hse : PC P e = true)
  (hs : Al env sx = .nils) (hx : Ki H sz (Al env xx) = some (m, news)) (hlim : m ≤ 16777216) (hk : K (.sl H.length m sz 0 m) (H ++ [.live m news])) : Dg P N o env H K := by
 refine Dg.regen (id := H.length) (g := 0) (g' := m) (cs := news) (Nat.zero_le _) (by simp) (Dg.append_nil ho he hsz hse hs hx hlim ⟨rfl, rfl⟩) ?_
 simpa using hk
theorem Dg.buildSlice_gen {t : TypeId} {len sz : Nat} {parts : Array (Nat × Operand)} {vs : List AG} (ho : o.op = .buildSlice t len parts) (hp : NN P env t len parts = some (sz, vs))
  (hk : K (.sl H.length vs.length sz 0 vs.length) (H ++ [.live vs.length (vs.flatMap AG.cells)])) : Dg P N o env H K := by
 refine Dg.regen (id := H.length) (g := 0) (g' := vs.length) (cs := vs.flatMap AG.cells) (Nat.zero_le _) (by simp) (Dg.buildSlice_own ho hp ⟨rfl, rfl⟩) ?_
 simpa using hk
theorem Dg.makeSlice {t e : TypeId} {x y : Operand} {kl kc : IntKind} {l c : Int} {sz : Nat} {z : List AG} (ho : o.op = .makeSlice t x y) (he : eI P t = some (none, e, sz)) (hsz : 0 < sz) (hse : PC P e = true) (hz : UG P e = some z) (hzl : z.length = sz)
  (hx : Al env x = .int kl l) (hy : Al env y = .int kc c) (h0 : 0 ≤ l) (h1 : l ≤ c) (h2 : c ≤ 16777216) (hk : K (.sl H.length l.toNat sz 0 l.toNat) (H ++ [.live l.toNat (List.replicate l.toNat z).flatten])) : Dg P N o env H K := by
 refine Dg.regen (id := H.length) (g := 0) (g' := l.toNat) (cs := (List.replicate l.toNat z).flatten) (H1 := H ++ [.live 0 (List.replicate l.toNat z).flatten]) (sz := sz) (off := 0) (n := l.toNat) (Nat.zero_le _) (by simp) (Dg.makeSlice0 ho he hsz hse hz hzl hx hy h0 h1 h2 ⟨rfl, rfl⟩) (by simpa using hk)
end
end Go.Ab
namespace Go.Ab
section
variable {P : Program} {N : Nat} {o : Oper} {env : Env} {H : AU} {K : AG → AU → Prop}
def XS (s : List UInt8) : List AG := s.map fun b => .int .u8 (b.toNat : Int)
theorem Dg.toBytes0 {src dst e : TypeId} {x : Operand} {s : List UInt8} {u : TypeDesc} (ho : o.op = .convert src dst x) (hs : P.underlying src = some u) (hd : P.underlying dst = some (.slice e)) (he : P.underlying e = some (.int .u8))
  (hx : Al env x = .str s) (hk : K (.sl H.length 0 1 0 s.length) (H ++ [.live 0 (XS s)])) : Dg P N o env H K := by
 refine Dg.of_wp (by rw [ho]; rfl) ?_
 intro X h a w st Q
 have rv := B5 st.env x
 rw [hx] at rv
 generalize hc : a.eval x = c at rv
 cases rv with
 | str t ht =>
  have hts : t.size = s.length := by rw [← ht]; rfl
  have hrun : (execOp a.eval o).run P w = .ok (.value (.slice (some ⟨w.heap.size, 0, none⟩) t.size (grownCap w t.size 0 e))) (Lib.bytesWorld w e t) := by
   have := Lib.run_convert_string_bytes w src dst e t hs hd he
   unfold execOp
   rw [ho]
   simp [resolve, hc, this]
  unfold Oper.wp
  rw [hrun, Oper.upon_value]
  have hge := grownCap_ge w t.size 0 e
  have hsz : (Lib.bytesCells w e t).size = grownCap w t.size 0 e := by
   simp only [Lib.bytesCells, Array.size_append, Array.size_map, Array.size_replicate]
   have : t.data.size = t.size := rfl
   omega
  have sd := st.sim.drew
  have hw : Lib.bytesWorld w e t = { w.drew with heap := w.drew.heap.push (.cells (Lib.bytesCells w e t) e ((Lib.bytesCells w e t).size, (Lib.bytesCells w e t).size + 1)) } := by
   unfold Lib.bytesWorld World.freeze World.alloc
   rw [if_neg (by decide)]
   show World.mk _ _ _ _ _ = World.mk _ _ _ _ _
   congr 1
   apply Array.ext_getElem?
   intro j
   have hsz : w.drew.heap.size = w.heap.size := rfl
   rw [Array.getElem?_modify, Array.getElem?_push, Array.getElem?_push]
   by_cases hj : j = w.heap.size
   ·subst hj
    simp [hsz]
   ·have hj' : w.heap.size ≠ j := Ne.symm hj
    simp [hsz, hj, hj']
  rw [hw]
  have hh : PD (cx X h H w.drew) (XS s) (Lib.bytesCells w e t) ((Lib.bytesCells w e t).size, (Lib.bytesCells w e t).size + 1) := by
   refine ⟨fun j => .int .u8 ((s.getD j 0).toNat : Int), by simp [XS]; omega, fun i hi => ?_, fun j v hj => ?_⟩
   ·have : ¬ (Lib.bytesCells w e t).size ≤ i := by omega
    simp [this]
   ·unfold XS at hj
    rw [List.getElem?_map] at hj
    cases hb : s[j]? with
    | none => rw [hb] at hj; cases hj
    | some b =>
     rw [hb] at hj
     simp only [Option.map_some, Option.some.injEq] at hj
     subst hj
     have hjl : j < s.length := by
      rcases Nat.lt_or_ge j s.length with h2 | h2
      ·exact h2
      ·rw [List.getElem?_eq_none h2] at hb; cases hb
     have hg : s.getD j 0 = b := by rw [List.getD_eq_getElem?_getD, hb]; rfl
     refine ⟨?_, rfl, ?_⟩
     ·have hdj : t.data[j]? = some b := by
       rw [← hb, ← ht, Array.getElem?_toList]
      simp only [hg, Lib.bytesCells]
      rw [Array.getElem?_append_left (by
       have : t.data.size = t.size := rfl
       simp
       omega), Array.getElem?_map, hdj]
      rfl
     ·simp only [hg]
      exact .int _ _
  refine ⟨_, _, _, _, rfl, hk, ?_, sd.push _ e _ (XS s) hh, FB.drew.trans (FB.push _ _ _)⟩
  refine .sl (by simp [cx]) (by simp [cx, Gh.at_]) ⟨_, _, by rw [hts]⟩ fun _ => .inr ⟨w.heap.size, grownCap w t.size 0 e, ?_, by omega, ?_, by rw [hts]⟩
  ·have : w.drew.heap.size = w.heap.size := rfl
   simp [cx, Gh.at_, this]
  ·simp only [cx, Gh.at_, if_true]
   omega
theorem Dg.toBytes {src dst e : TypeId} {x : Operand} {s : List UInt8} {u : TypeDesc} (ho : o.op = .convert src dst x) (hs : P.underlying src = some u) (hd : P.underlying dst = some (.slice e)) (he : P.underlying e = some (.int .u8))
  (hx : Al env x = .str s) (hk : K (.sl H.length s.length 1 0 s.length) (H ++ [.live s.length (XS s)])) : Dg P N o env H K := by
 refine Dg.regen (id := H.length) (g := 0) (g' := s.length) (cs := XS s) (H1 := H ++ [.live 0 (XS s)]) (sz := 1) (off := 0) (n := s.length) (Nat.zero_le _) (by simp) (Dg.toBytes0 ho hs hd he hx ⟨rfl, rfl⟩) (by simpa using hk)
end
end Go.Ab
namespace Go.Ab
theorem DP.virtC {N : Nat} {env : Env} {H : AU} {b g i sz : Nat} {cs : List AG} (hb : H[b]? = some (Dt.live g cs)) (hi : cs[i]? = some .nils) :
  DP N H.length env H env (H.set b (.live g (cs.set i (.sl H.length 0 sz 0 0))) ++ [.live 0 []]) := by
 have hbl : b < H.length := by
  rcases Nat.lt_or_ge b H.length with h2 | h2
  ·exact h2
  ·rw [List.getElem?_eq_none h2] at hb; cases hb
 refine ⟨by simp, fun X h a w s => ⟨h.at_ H.length none 0 0, ?_, fun id hid => by simp [Gh.at_, Nat.ne_of_lt hid], ?_⟩⟩
 ·have s1 := s.sim.virt
  have hx := FB.virt (h := h) (H := H) (w := w)
  have lat0 := hx.later X
  have key : ∀ (j : Nat) (e : Dt), (H.set b (.live g (cs.set i (.sl H.length 0 sz 0 0))) ++ [Dt.live 0 []])[j]? = some e →
    (j ≠ b ∧ (H ++ [Dt.live 0 []])[j]? = some e) ∨ (j = b ∧ e = .live g (cs.set i (.sl H.length 0 sz 0 0))) := by
   intro j e hj
   rcases Nat.lt_or_ge j H.length with hl | hl
   ·rw [List.getElem?_append_left (by simpa using hl), List.getElem?_set] at hj
    split at hj
    ·rename_i hbj
     subst hbj
     injection hj with hj
     exact .inr ⟨rfl, hj.symm⟩
    ·rename_i hbj
     exact .inl ⟨fun e => hbj e.symm, by rw [List.getElem?_append_left hl]; exact hj⟩
   ·refine .inl ⟨by omega, ?_⟩
    rw [List.getElem?_append_right (by simpa using hl)] at hj
    rw [List.getElem?_append_right hl]
    simpa using hj
  have own' : ∀ B, owned (h.at_ H.length none 0 0) (H.set b (.live g (cs.set i (.sl H.length 0 sz 0 0))) ++ [.live 0 []]) B → owned (h.at_ H.length none 0 0) (H ++ [.live 0 []]) B := by
   rintro B ⟨j, e, hj, hne, hio⟩
   rcases key j e hj with ⟨_, h1⟩ | ⟨rfl, rfl⟩
   ·exact ⟨j, e, h1, hne, hio⟩
   ·exact ⟨j, _, by rw [List.getElem?_append_left hbl]; exact hb, by simp, hio⟩
  have lat : (cx X (h.at_ H.length none 0 0) (H ++ [.live 0 []]) w).Later (cx X (h.at_ H.length none 0 0) (H.set b (.live g (cs.set i (.sl H.length 0 sz 0 0))) ++ [.live 0 []]) w) :=
   { size := Nat.le_refl _, keep := fun _ _ _ _ => rfl, own := fun B _ ho => ho.imp _root_.id (own' B), n := by simp [cx], gen := fun _ _ => Nat.le_refl _, same := fun _ _ _ => ⟨rfl, rfl⟩ }
  refine ⟨⟨fun B hB => ⟨(s1.out B hB).1, fun ho => (s1.out B hB).2 (own' B ho)⟩, fun j g0 cs' hj => ?_, fun j L hj => ?_, fun j k e e' B h1 h2 hn1 hn2 h3 h4 => ?_, s1.bldKeep fun j e hj hB => ?_⟩, fun t v m => ?_, s.size⟩
  ·rcases key j _ hj with ⟨_, h1⟩ | ⟨rfl, h1⟩
   ·obtain ⟨hg, hh⟩ := s1.live j g0 cs' h1
    refine ⟨hg, ?_⟩
    rcases hh with ⟨hio, h0⟩ | ⟨B, arr, T, fz, f, hio, hbk, hcap, hle, hfz, hcells⟩
    ·exact .inl ⟨hio, h0⟩
    ·exact .inr ⟨B, arr, T, fz, f, hio, hbk, hcap, hle, hfz, fun k v hk => ⟨(hcells k v hk).1, (hcells k v hk).2.1, (hcells k v hk).2.2.later lat⟩⟩
   ·injection h1 with h5 h6
    subst h5 h6
    obtain ⟨hg, hh⟩ := s1.live j g0 cs (by rw [List.getElem?_append_left hbl]; exact hb)
    refine ⟨hg, ?_⟩
    rcases hh with ⟨hio, h0⟩ | ⟨B, arr, T, fz, f, hio, hbk, hcap, hle, hfz, hcells⟩
    ·subst h0; simp at hi
    ·refine .inr ⟨B, arr, T, fz, f, hio, hbk, hcap, by simpa using hle, hfz, fun k v hk => ?_⟩
     rw [List.getElem?_set] at hk
     split at hk
     ·rename_i hik
      subst hik
      split at hk
      ·injection hk with hk
       subst hk
       obtain ⟨p1, p2, p3⟩ := hcells i _ hi
       refine ⟨p1, p2, ?_⟩
       generalize f i = c at p3 p2
       cases p3
       exact .sl (by simp [cx]) (by simp [cx, Gh.at_]) ⟨_, _, rfl⟩ fun _ => .inl ⟨by simp [cx, Gh.at_], rfl, rfl, rfl⟩
      ·cases hk
     ·obtain ⟨p1, p2, p3⟩ := hcells k v hk
      exact ⟨p1, p2, p3.later lat⟩
  ·rcases key j _ hj with ⟨_, h1⟩ | ⟨rfl, h1⟩
   ·obtain ⟨hg, B, r, q1, q2, q3, q4, q5, q6, q7, q8, q9⟩ := s1.lp j L h1
    exact ⟨hg, B, r, q1, q2, q3, q4, q5, q6, q7, q8, fun t v m => ⟨(q9 t v m).1, (q9 t v m).2.later lat⟩⟩
   ·cases h1
  ·have back : ∀ {j : Nat} {e : Dt}, (H.set b (.live g (cs.set i (.sl H.length 0 sz 0 0))) ++ [Dt.live 0 []])[j]? = some e → e ≠ .dead → ∃ e0, (H ++ [Dt.live 0 []])[j]? = some e0 ∧ e0 ≠ .dead := by
    intro j e hj hne
    rcases key j _ hj with ⟨_, h1⟩ | ⟨rfl, h1⟩
    ·exact ⟨e, h1, hne⟩
    ·exact ⟨_, by rw [List.getElem?_append_left hbl]; exact hb, by simp⟩
   obtain ⟨d, hd1, hd2⟩ := back h1 hn1
   obtain ⟨d', hd1', hd2'⟩ := back h2 hn2
   exact s1.inj j k _ _ B hd1 hd1' hd2 hd2' h3 h4
  ·rcases key j _ hj with ⟨_, h1⟩ | ⟨rfl, h1⟩
   ·exact ⟨h1, rfl, rfl, fun _ _ _ _ _ => rfl⟩
   ·subst h1; cases hB
  ·exact ⟨(s.env t v m).1, ((s.env t v m).2.later lat0).later lat⟩
 ·rintro B ⟨j, e, hj, hne, hio⟩
  rcases Nat.lt_or_ge j H.length with hl | hl
  ·have hio' : h.io j = some B := by simpa [Gh.at_, Nat.ne_of_lt hl] using hio
   by_cases hjb : j = b
   ·subst hjb; exact ⟨j, _, hb, by simp, hio'⟩
   ·rw [List.getElem?_append_left (by simpa using hl), List.getElem?_set_ne (fun e => hjb e.symm)] at hj
    exact ⟨j, e, hj, hne, hio'⟩
  ·rw [List.getElem?_append_right (by simpa using hl)] at hj
   have : j = H.length := by
    rcases Nat.eq_or_lt_of_le hl with e | h2
    ·exact e.symm
    ·rw [List.getElem?_eq_none (by simp; omega)] at hj; cases hj
   subst this
   simp [Gh.at_] at hio
theorem A1.nil_vs {x : Cx} {c : Value} {sz : Nat} (hs : 0 < sz) (r : A1 x .nils c) : A1 x (.vs sz []) c := by
 cases r
 exact A1.vs (rows := []) (cap := 0) (fun _ _ => undef) (Nat.le_refl _) hs (fun _ _ h => by simp at h) (fun h => (h rfl).elim) fun _ _ _ _ h => by simp at h
theorem DP.subset {N : Nat} {env env2 : Env} {H : AU} (h : ∀ q ∈ env2, q ∈ env) : DP N H.length env H env2 H :=
 ⟨Nat.le_refl _, fun _ g _ _ s => ⟨g, ⟨s.sim, fun t v m => s.env t v (h _ m), s.size⟩, fun _ _ => ⟨rfl, rfl, rfl⟩, fun _ h => h⟩⟩
end Go.Ab
namespace Go.Ab
end Go.Ab
namespace Go.Ab
section
variable {P : Program}
theorem fM {ρ : Operand → AG} {op : Op} {F : FuncId} {vs : List AG} (h : callT ρ op = some (.inl (F, vs))) :
  ∃ c f first caps, op = .call c ∧ c.callee = .value f ∧ ρ f = .fn (.func F) first caps ∧ vs = first ++ c.args.toList.map ρ ++ caps := by
 unfold callT at h
 split at h
 ·rename_i c
  split at h
  ·rename_i f hcal
   split at h
   ·rename_i G first caps hf
    simp only [Option.some.injEq, Sum.inl.injEq, Prod.mk.injEq] at h
    obtain ⟨rfl, rfl⟩ := h
    exact ⟨c, f, first, caps, rfl, hcal, hf, rfl⟩
   ·simp at h
   ·cases h
  ·cases h
 ·cases h
section
variable {N : Nat} {o : Oper} {env : Env} {H H' : AU} {v : AG}
theorem aP {F : FuncId} {vs : List AG} (h : callT (Al env) o.op = some (.inl (F, vs))) (hE : WB P F = true) (hc : Bz P F vs H (Bj v H')) : Dg P N o env H (Bj v H') := by
 obtain ⟨c, f, first, caps, ho, hcal, hf, rfl⟩ := fM h
 exact Dg.callAll ho hcal hf hE hc
end
section
variable {H H' : AU} {v : AG} {F : List Nat} {p : Prop}
end
end
end Go.Ab
namespace Go.Ab
section
variable {P : Program}
end
end Go.Ab
namespace Go.Ab
mutual
theorem Rn {p q : Nat → Bool} (h : ∀ id, p id = true → q id = true) : ∀ v : AG, v.idsAll p = true → v.idsAll q = true
 | .ptr id g off, k => h id k
 | .sl id g sz off len, k => h id k
 | .yf id, k => h id k
 | .vptr cs, k => GW h cs k
 | .vs sz rows, k => GW h rows k
 | .fn f a b, k => by
  simp only [AG.idsAll, Bool.and_eq_true] at k ⊢
  exact ⟨GW h a k.1, GW h b k.2⟩
 | .agg cs, k => GW h cs k
 | .tup cs, k => GW h cs k
 | .bool _, _ => rfl
 | .int _ _, _ => rfl
 | .str _, _ => rfl
 | .nilp, _ => rfl
 | .nils, _ => rfl
 | .nilf, _ => rfl
 | .any, _ => rfl
theorem GW {p q : Nat → Bool} (h : ∀ id, p id = true → q id = true) : ∀ l : List AG, AG.idsAllL p l = true → AG.idsAllL q l = true
 | [], _ => rfl
 | v :: r, k => by
  simp only [AG.idsAllL, Bool.and_eq_true] at k ⊢
  exact ⟨Rn h v k.1, GW h r k.2⟩
end
mutual
theorem gy (ρ σ : Nat → Nat) : ∀ v : AG, (v.ren ρ).ren σ = v.ren fun id => σ (ρ id)
 | .ptr id g off => rfl
 | .sl id g sz off len => rfl
 | .yf id => rfl
 | .vptr cs => by simp only [AG.ren, NH ρ σ cs]
 | .vs sz rows => by simp only [AG.ren, NH ρ σ rows]
 | .fn f a b => by simp only [AG.ren, NH ρ σ a, NH ρ σ b]
 | .agg cs => by simp only [AG.ren, NH ρ σ cs]
 | .tup cs => by simp only [AG.ren, NH ρ σ cs]
 | .bool _ => rfl
 | .int _ _ => rfl
 | .str _ => rfl
 | .nilp => rfl
 | .nils => rfl
 | .nilf => rfl
 | .any => rfl
theorem NH (ρ σ : Nat → Nat) : ∀ l : List AG, AG.renL σ (AG.renL ρ l) = AG.renL (fun id => σ (ρ id)) l
 | [] => rfl
 | v :: r => by simp only [AG.renL, gy ρ σ v, NH ρ σ r]
end
mutual
theorem dr {p q : Nat → Bool} {ρ : Nat → Nat} (h : ∀ id, p id = true → q (ρ id) = true) : ∀ v : AG, v.idsAll p = true → (v.ren ρ).idsAll q = true
 | .ptr id g off, k => h id k
 | .sl id g sz off len, k => h id k
 | .yf id, k => h id k
 | .vptr cs, k => KB h cs k
 | .vs sz rows, k => KB h rows k
 | .fn f a b, k => by
  simp only [AG.ren, AG.idsAll, Bool.and_eq_true] at k ⊢
  exact ⟨KB h a k.1, KB h b k.2⟩
 | .agg cs, k => KB h cs k
 | .tup cs, k => KB h cs k
 | .bool _, _ => rfl
 | .int _ _, _ => rfl
 | .str _, _ => rfl
 | .nilp, _ => rfl
 | .nils, _ => rfl
 | .nilf, _ => rfl
 | .any, _ => rfl
theorem KB {p q : Nat → Bool} {ρ : Nat → Nat} (h : ∀ id, p id = true → q (ρ id) = true) : ∀ l : List AG, AG.idsAllL p l = true → AG.idsAllL q (AG.renL ρ l) = true
 | [], _ => rfl
 | v :: r, k => by
  simp only [AG.renL, AG.idsAllL, Bool.and_eq_true] at k ⊢
  exact ⟨dr h v k.1, KB h r k.2⟩
end
def Pure (v : AG) : Prop := v.idsAll (fun _ => false) = true
def Zk (e : Dt) : Prop := match e with | .live _ cs => AG.idsAllL (fun _ => false) cs = true | _ => False
theorem Pure.all {v : AG} (h : Pure v) (p : Nat → Bool) : v.idsAll p = true := Rn (fun _ e => by cases e) v h
theorem Pure.ren {v : AG} (h : Pure v) (ρ : Nat → Nat) : v.ren ρ = v := eD (p := fun _ => false) (fun _ e => by cases e) v h
theorem Zk.all {e : Dt} (h : Zk e) (p : Nat → Bool) : e.idsAll p = true := by
 cases e with
 | live g cs => exact GW (fun _ e => by cases e) cs h
 | _ => cases h
theorem Zk.ren {e : Dt} (h : Zk e) (ρ : Nat → Nat) : e.ren ρ = e := by
 cases e with
 | live g cs => simp only [Dt.ren]; rw [Pl (p := fun _ => false) (fun _ e => by cases e) cs h]
 | _ => cases h
theorem Bz.sub {P : Program} {F : FuncId} {args : List AG} {H : AU} {K : AG → AU → Prop} (bs : List Nat) {Qc : AG → AU → Prop} (hnd : bs.Nodup) (hlt : ∀ b ∈ bs, b < H.length)
  (hb : ∀ b ∈ bs, ((H.getD b .dead).idsAll fun id => decide (id ∈ bs)) = true) (hids : AG.idsAllL (fun id => decide (id ∈ bs)) args = true)
  (hc : Bz P F (AG.renL (bs.idxOf ·) args) (RX H bs) Qc) (hk : ∀ v Hc, Qc v Hc → K (v.ren (Jg H bs)) (Mf H bs Hc)) : Bz P F args H K := by
 intro X h w cargs s hsz hargs
 refine (hc (Xs X h H bs) (Ow h bs) w cargs (s.sub hnd hb) (by simpa [J8] using hsz) ?_).mono ?_
 ·intro j v d hj hd
  rw [J8, List.getElem?_map] at hj
  cases hu : args[j]? with
  | none => rw [hu] at hj; cases hj
  | some u =>
   rw [hu] at hj
   simp only [Option.map_some, Option.some.injEq] at hj
   subst hj
   exact A1.ren (p := fun id => decide (id ∈ bs)) (fun id => cJ id) rfl hP (hargs j u d hu hd) (IU hids hu)
 ·rintro e w' ⟨d, v, hc', Hc, rfl, q, sc, rv, x⟩
  have hl : bs.length ≤ Hc.length := by have := x.n; simpa [RX] using this
  exact ⟨d, _, JM h H bs hc', Mf H bs Hc, rfl, hk v Hc q, s.back hnd hlt x sc, A1.back hnd hlt hl rv, FB.back hnd hlt x⟩
theorem ZU {ρ : Nat → Nat} : ∀ (bs : List Nat) (H Hc : AU), (∀ e ∈ Hc, Zk e) → Sq ρ H bs Hc = jB H (bs.zip Hc)
 | [], H, Hc, _ => by cases Hc <;> rfl
 | b :: bs, H, [], _ => rfl
 | b :: bs, H, e :: es, h => by
  simp only [Sq, List.zip_cons_cons, jB]
  rw [(h e (by simp)).ren, ZU bs _ es fun e' he => h e' (by simp [he])]
theorem Bz.frame {P : Program} {F : FuncId} {args0 args : List AG} {H0 H0' H : AU} {v : AG} (bs : List Nat) (hc : Bz P F args0 H0 (Bj v H0')) (hnd : bs.Nodup) (h0 : H0.length = bs.length) (h1 : H0'.length = bs.length)
  (hH : ∀ (j b : Nat) (e : Dt), bs[j]? = some b → H0[j]? = some e → H[b]? = some e) (p0 : ∀ e ∈ H0, Zk e) (p1 : ∀ e ∈ H0', Zk e) (pv : Pure v)
  (ha : AG.renL (fun j => bs.getD j 0) args0 = args) (hi : AG.idsAllL (fun j => decide (j < bs.length)) args0 = true) : Bz P F args H (Bj v (jB H (bs.zip H0'))) := by
 have get : ∀ b ∈ bs, ∃ (j : Nat) (e : Dt), bs[j]? = some b ∧ H0[j]? = some e ∧ H[b]? = some e := by
  intro b hb
  obtain ⟨j, hj, e⟩ := List.mem_iff_getElem.1 hb
  have h2 : bs[j]? = some b := by rw [List.getElem?_eq_getElem hj, e]
  have h3 : H0[j]? = some (H0[j]'(by omega)) := List.getElem?_eq_getElem (by omega)
  exact ⟨j, _, h2, h3, hH j b _ h2 h3⟩
 have hlt : ∀ b ∈ bs, b < H.length := by
  intro b hb
  obtain ⟨j, e, _, _, h2⟩ := get b hb
  rcases Nat.lt_or_ge b H.length with h3 | h3
  ·exact h3
  ·rw [List.getElem?_eq_none h3] at h2; cases h2
 have hsub : RX H bs = H0 := by
  apply List.ext_getElem?
  intro j
  unfold RX
  rw [List.getElem?_map]
  cases hj : bs[j]? with
  | none =>
   rw [List.getElem?_eq_none_iff] at hj
   rw [List.getElem?_eq_none (by omega)]
   rfl
  | some b =>
   have hjl : j < bs.length := by
    rcases Nat.lt_or_ge j bs.length with h3 | h3
    ·exact h3
    ·rw [List.getElem?_eq_none h3] at hj; cases hj
   have h3 : H0[j]? = some (H0[j]'(by omega)) := List.getElem?_eq_getElem (by omega)
   have h4 := hH j b _ hj h3
   rw [h3, Option.map_some, List.getD_eq_getElem?_getD, h4, Option.getD_some, (p0 _ (List.getElem_mem _)).ren]
 refine Bz.sub bs (Qc := Bj v H0') hnd hlt (fun b hb => ?_) ?_ ?_ ?_
 ·obtain ⟨j, e, _, h2, h3⟩ := get b hb
  rw [List.getD_eq_getElem?_getD, h3, Option.getD_some]
  exact (p0 e (List.mem_of_getElem? h2)).all _
 ·rw [← ha]
  refine KB (fun j hj => ?_) args0 hi
  simp only [decide_eq_true_eq] at hj ⊢
  rw [List.getD_eq_getElem?_getD, List.getElem?_eq_getElem hj]
  exact List.getElem_mem _
 ·rw [hsub, ← ha, NH]
  have : AG.renL (fun j => bs.idxOf (bs.getD j 0)) args0 = args0 := by
   refine Pl (p := fun j => decide (j < bs.length)) (fun j hj => ?_) args0 hi
   simp only [decide_eq_true_eq] at hj
   exact Pq hnd (by rw [List.getD_eq_getElem?_getD, List.getElem?_eq_getElem hj]; rfl)
  rw [this]
  exact hc
 ·rintro u Hc ⟨rfl, rfl⟩
  refine ⟨pv.ren _, ?_⟩
  unfold Mf
  rw [ZU _ _ _ p1, List.drop_eq_nil_of_le (by omega)]
  simp
structure Ln (α : Type) where
 sz : Nat
 f : α → AG
 pos : 0 < sz
 len : ∀ x, (f x).cells.length = sz
 pure : ∀ x, Pure (f x)
def Ln.cl {α : Type} (e : Ln α) (l : List α) : List AG := (l.map e.f).flatMap AG.cells
theorem Ln.clen {α : Type} (e : Ln α) : ∀ l : List α, (e.cl l).length = l.length * e.sz
 | [] => by simp [Ln.cl]
 | x :: l => by
  have := Ln.clen e l
  simp only [Ln.cl, List.map_cons, List.flatMap_cons, List.length_append, e.len] at this ⊢
  rw [this]
  simp [Nat.add_mul, Nat.add_comm]
def bu (k : IntKind) : Ln Int := ⟨1, .int k, by decide, fun _ => rfl, fun _ => rfl⟩
abbrev BF := List UInt8
def ix {α : Type} (l : List α) (i : Int) : Option α := if 0 ≤ i then l[i.toNat]? else none
def app {α : Type} (l xs : List α) : Option (List α) := if l.length + xs.length ≤ 16777216 then some (l ++ xs) else none
theorem o_ix {α : Type} {f : α → AG} {l : List α} {i : Int} {x : α} (h : ix l i = some x) : 0 ≤ i ∧ (l.map f)[i.toNat]? = some (f x) := by
 unfold ix at h
 split at h
 ·rename_i hi
  exact ⟨hi, by rw [List.getElem?_map, h]; rfl⟩
 ·cases h
theorem Xz {α : Type} {l xs r : List α} (h : app l xs = some r) : l.length + xs.length ≤ 16777216 ∧ r = l ++ xs := by
 unfold app at h
 split at h
 ·rename_i hl
  exact ⟨hl, (Option.some.inj h).symm⟩
 ·cases h
theorem o_rows {α : Type} (e : Ln α) (l : List α) : eP e.sz (e.cl l) (l.map e.f) := ⟨e.pos, fun v hv => by
 obtain ⟨x, _, rfl⟩ := List.mem_map.1 hv
 exact e.len x, rfl⟩
inductive Step (S R : Type) where
 | next (s : S)
 | done (r : R)
def T7 {S R : Type} (body : S → Option (Step S R)) : Nat → S → Option R
 | 0, _ => none
 | n + 1, s =>
  match body s with
  | some (.next s') => T7 body n s'
  | some (.done r) => some r
  | none => none
theorem dw {S R : Type} {body : S → Option (Step S R)} {n : Nat} {s : S} {r : R} (h : T7 body n s = some r) : T7 body (n + 1) s = some r := by
 induction n generalizing s with
 | zero => cases h
 | succ n ih =>
  rw [T7] at h ⊢
  cases hb : body s with
  | none => rw [hb] at h; cases h
  | some q =>
   rw [hb] at h
   cases q with
   | next s' => exact ih h
   | done r => exact h
theorem dG {S R : Type} {body : S → Option (Step S R)} {n m : Nat} {s : S} {r : R} (h : T7 body n s = some r) (hm : n ≤ m) : T7 body m s = some r := by
 induction hm with
 | refl => exact h
 | step _ ih => exact dw ih
open Classical in
noncomputable def AT {S R : Type} (body : S → Option (Step S R)) (s : S) : Option R := if h : ∃ r n, T7 body n s = some r then some h.choose else none
theorem W9 {S R : Type} {body : S → Option (Step S R)} {s : S} {r : R} : AT body s = some r ↔ ∃ n, T7 body n s = some r := by
 unfold AT
 constructor
 ·intro h
  split at h
  ·rename_i hx
   obtain ⟨n, hn⟩ := hx.choose_spec
   injection h with h
   exact ⟨n, by rw [hn, h]⟩
  ·cases h
 ·rintro ⟨n, hn⟩
  have hx : ∃ r n, T7 body n s = some r := ⟨r, n, hn⟩
  rw [dif_pos hx]
  obtain ⟨m, hm⟩ := hx.choose_spec
  have h1 := dG hn (Nat.le_max_left n m)
  have h2 := dG hm (Nat.le_max_right n m)
  rw [h1] at h2
  exact h2.symm
theorem T8 {S R : Type} (body : S → Option (Step S R)) (s : S) : AT body s = match body s with
  | some (.next s') => AT body s'
  | some (.done r) => some r
  | none => none := by
 apply Option.ext
 intro r
 rw [W9]
 constructor
 ·rintro ⟨n, h⟩
  cases n with
  | zero => cases h
  | succ n =>
   rw [T7] at h
   cases hb : body s with
   | none => rw [hb] at h; cases h
   | some q =>
    rw [hb] at h
    cases q with
    | next s' => exact W9.2 ⟨n, h⟩
    | done r => exact h
 ·intro h
  cases hb : body s with
  | none => rw [hb] at h; cases h
  | some q =>
   rw [hb] at h
   cases q with
   | next s' =>
    obtain ⟨n, hn⟩ := W9.1 h
    exact ⟨n + 1, by rw [T7, hb]; exact hn⟩
   | done r0 => exact ⟨1, by rw [T7, hb]; exact h⟩
theorem fa {S R : Type} {body : S → Option (Step S R)} (C : S → R → Prop) (h1 : ∀ s s' r, body s = some (.next s') → C s' r → C s r) (h2 : ∀ s r, body s = some (.done r) → C s r) {s : S} {r : R} (h : AT body s = some r) : C s r := by
 obtain ⟨n, hn⟩ := W9.1 h
 clear h
 induction n generalizing s with
 | zero => cases hn
 | succ n ih =>
  rw [T7] at hn
  cases hb : body s with
  | none => rw [hb] at hn; cases hn
  | some q =>
   rw [hb] at hn
   cases q with
   | next s' => exact h1 s s' r hb (ih hn)
   | done r0 =>
    injection hn with hn
    subst hn
    exact h2 s r0 hb
theorem bnd {α β : Type} {x : Option α} {k : α → Option β} {r : β} (h : x.bind k = some r) : ∃ a, x = some a ∧ k a = some r := by
 cases x with
 | none => cases h
 | some a => exact ⟨a, rfl, h⟩
end Go.Ab
namespace Go.Ab
abbrev MN (n : Nat) (α : Type) := Fin n → α
def MN.all {n : Nat} {α : Type} (x : α) : MN n α := fun _ => x
def UJ {α : Type} (n : Nat) (e : Ln α) (a : MN n α) : List AG := (List.finRange n).flatMap fun i => (e.f (a i)).cells
theorem gF {α : Type} (n : Nat) (e : Ln α) (a : MN n α) : (UJ n e a).length = n * e.sz := by
 unfold UJ
 have : ∀ l : List (Fin n), (l.flatMap fun i => (e.f (a i)).cells).length = l.length * e.sz := by
  intro l
  induction l with
  | nil => simp
  | cons x l ih => rw [List.flatMap_cons, List.length_append, ih, e.len]; simp [Nat.add_mul, Nat.add_comm]
 rw [this, List.length_finRange]
def aget {α : Type} {n : Nat} (a : MN n α) (i : Int) : Option α := if h : 0 ≤ i ∧ i.toNat < n then some (a ⟨i.toNat, h.2⟩) else none
def X0 {α : Type} {n : Nat} (a : MN n α) (i : Int) (v : α) : MN n α := fun j => if (j.val : Int) = i then v else a j
theorem Yd {α : Type} {n : Nat} {a : MN n α} {i : Int} {x : α} (h : aget a i = some x) : 0 ≤ i ∧ ∃ k : Fin n, i = (k.val : Int) ∧ a k = x := by
 unfold aget at h
 split at h
 ·rename_i hi
  exact ⟨hi.1, ⟨i.toNat, hi.2⟩, (Int.toNat_of_nonneg hi.1).symm, Option.some.inj h⟩
 ·cases h
theorem Z7 {α β : Type} (g : α → List β) (sz : Nat) (hg : ∀ x, (g x).length = sz) (l1 : List α) (x : α) (l2 : List α) :
  (l1 ++ x :: l2).flatMap g = l1.flatMap g ++ g x ++ l2.flatMap g ∧ (l1.flatMap g).length = l1.length * sz := by
 refine ⟨by simp, ?_⟩
 induction l1 with
 | nil => simp
 | cons y l ih => rw [List.flatMap_cons, List.length_append, ih, hg]; simp [Nat.add_mul, Nat.add_comm]
theorem Z3 {n : Nat} (k : Fin n) : ∃ l1 l2, List.finRange n = l1 ++ k :: l2 ∧ l1.length = k.val ∧ k ∉ l1 ∧ k ∉ l2 := by
 refine ⟨(List.finRange n).take k.val, (List.finRange n).drop (k.val + 1), ?_, by simp [Nat.le_of_lt k.isLt], ?_, ?_⟩
 ·have h1 : (List.finRange n).drop k.val = k :: (List.finRange n).drop (k.val + 1) := by
   rw [List.drop_eq_getElem_cons (by simp)]
   simp
  rw [← h1, List.take_append_drop]
 ·intro h
  obtain ⟨i, hi, e⟩ := List.mem_iff_getElem.1 h
  simp at hi e
  have := congrArg Fin.val e
  simp at this
  omega
 ·intro h
  obtain ⟨i, hi, e⟩ := List.mem_iff_getElem.1 h
  simp at hi e
  have := congrArg Fin.val e
  simp at this
  omega
theorem Zp {α : Type} {n : Nat} (e : Ln α) (a : MN n α) (k : Fin n) : ∃ c1 c2, UJ n e a = c1 ++ (e.f (a k)).cells ++ c2 ∧ c1.length = k.val * e.sz ∧
  ∀ v, UJ n e (X0 a k.val v) = c1 ++ (e.f v).cells ++ c2 := by
 obtain ⟨l1, l2, h1, h2, h3, h4⟩ := Z3 k
 unfold UJ
 rw [h1]
 obtain ⟨p, q⟩ := Z7 (fun i => (e.f (a i)).cells) e.sz (fun i => e.len _) l1 k l2
 refine ⟨_, _, p, by rw [q, h2], fun v => ?_⟩
 have ne : ∀ j, j ≠ k → X0 a k.val v j = a j := by
  intro j hj
  unfold X0
  rw [if_neg]
  intro h
  exact hj (Fin.ext (by omega))
 have eq : X0 a k.val v k = v := by unfold X0; rw [if_pos rfl]
 rw [(Z7 (fun i => (e.f (X0 a k.val v i)).cells) e.sz (fun i => e.len _) l1 k l2).1]
 rw [eq]
 congr 1
 ·congr 1
  rw [List.flatMap_def, List.flatMap_def]
  congr 1
  exact List.map_congr_left fun j hj => by rw [ne j fun e => h3 (e ▸ hj)]
 ·rw [List.flatMap_def, List.flatMap_def]
  congr 1
  exact List.map_congr_left fun j hj => by rw [ne j fun e => h4 (e ▸ hj)]
section
variable {α : Type} {n : Nat} (e : Ln α) {a : MN n α} {i : Int} {x : α}
theorem gG (h : aget a i = some x) (pre post : List AG) : (pre ++ UJ n e a ++ post).length = pre.length + n * e.sz + post.length ∧ pre.length + i.toNat * e.sz + e.sz ≤ (pre ++ UJ n e a ++ post).length ∧
  ((pre ++ UJ n e a ++ post).drop (pre.length + i.toNat * e.sz)).take e.sz = (e.f x).cells ∧ ∀ v, Pn (pre ++ UJ n e a ++ post) (pre.length + i.toNat * e.sz) (e.f v).cells = pre ++ UJ n e (X0 a i v) ++ post := by
 obtain ⟨h0, k, rfl, rfl⟩ := Yd h
 obtain ⟨c1, c2, h1, h2, h3⟩ := Zp e a k
 have hk : ((k.val : Int)).toNat = k.val := by simp
 have hlen := gF n e a
 have hx := e.len (a k)
 refine ⟨by simp [hlen, Nat.add_assoc], ?_, ?_, fun v => ?_⟩
 ·rw [h1, hk]
  simp only [List.length_append, h2, hx]
  omega
 ·rw [h1, hk, ← h2]
  have : (pre ++ (c1 ++ (e.f (a k)).cells ++ c2) ++ post) = (pre ++ c1) ++ ((e.f (a k)).cells ++ (c2 ++ post)) := by simp
  rw [this, ← List.length_append, List.drop_left, ← hx, List.take_left]
 ·have hv := e.len v
  rw [h3 v, h1, hk, ← h2]
  have : (pre ++ (c1 ++ (e.f (a k)).cells ++ c2) ++ post) = (pre ++ c1) ++ ((e.f (a k)).cells ++ (c2 ++ post)) := by simp
  rw [this]
  unfold Pn
  rw [← List.length_append, List.take_left, hv, ← hx, List.drop_append, List.drop_eq_nil_of_le (by omega)]
  simp
theorem gC {off m : Nat} (pre post : List AG) (h : aget a i = some x) (hle : off + m ≤ e.sz) : pre.length + i.toNat * e.sz + off + m ≤ (pre ++ UJ n e a ++ post).length ∧ ((pre ++ UJ n e a ++ post).drop (pre.length + i.toNat * e.sz + off)).take m = ((e.f x).cells.drop off).take m := by
 obtain ⟨_, h1, h2, _⟩ := gG e h pre post
 refine ⟨by omega, ?_⟩
 rw [← h2, List.drop_take, List.take_take, List.drop_drop, Nat.min_eq_left (by omega)]
end
def sapp (a b : BF) : Option BF := if a.length + b.length ≤ 9223372036854775807 then some (a ++ b) else none
theorem o_sapp {a b r : BF} (h : sapp a b = some r) : (if a.length + b.length ≤ 9223372036854775807 then some (AG.str (a ++ b)) else none) = some (.str r) := by
 unfold sapp at h
 split at h
 ·rename_i hc
  rw [if_pos hc, Option.some.inj h]
 ·cases h
def ssl (s : BF) (lo hi : Int) : Option BF := if 0 ≤ lo ∧ lo ≤ hi ∧ hi ≤ s.length then some ((s.drop lo.toNat).take (hi.toNat - lo.toNat)) else none
def lsl {α : Type} (s : List α) (lo hi : Int) : Option (List α) := if 0 ≤ lo ∧ lo ≤ hi ∧ hi ≤ s.length then some ((s.drop lo.toNat).take (hi.toNat - lo.toNat)) else none
section
variable {α : Type} (e : Ln α) {P : Program} {H : AU} {t el : TypeId} {s r : List α} {lo hi : Int} {k1 k2 : IntKind}
end
def Du (l : List Int) : BF := l.map fun n => UInt8.ofNat n.toNat
theorem cL : ∀ l : List Int, jA (l.map (bu .u8).f) = some (Du l)
 | [] => rfl
 | n :: l => by
  have := cL l
  simp only [List.map_cons]
  simp only [bu] at this ⊢
  simp only [jA, this]
  rfl
theorem jZ (k : IntKind) (l : List Int) : (bu k).cl l = l.map (bu k).f := by
 unfold Ln.cl
 induction l with
 | nil => rfl
 | cons x l ih => simp only [List.map_cons, List.flatMap_cons, ih]; rfl
theorem gv {P : Program} {H : AU} {src dst : TypeId} (l : List Int) (hd : kd P dst = .str) (hs : kd P src = .bytes) :
  PI P H src dst (.vs 1 (l.map (bu .u8).f)) = some (.str (Du l)) := by
 simp only [PI, hd, hs, rowsOf]
 have : (l.map (bu .u8).f).flatMap AG.cells = l.map (bu .u8).f := jZ .u8 l
 simp only [this, if_true, cL]
 rfl
end Go.Ab
namespace Go.Ab
theorem dx {S R : Type} {body : S → Option (Step S R)} {C : S → R → Prop} (h : ∀ s q, body s = some q → match q with | .next s' => ∀ o, C s' o → C s o | .done o => C s o) {s : S} {o : R} (hh : AT body s = some o) : C s o :=
 fa C (fun s _ r hb ih => h s _ hb r ih) (fun s _ hb => h s _ hb) hh
def mk {α : Type} (x : α) (l c : Int) : Option (List α) := if 0 ≤ l ∧ l ≤ c ∧ c ≤ 16777216 then some (List.replicate l.toNat x) else none
theorem o_mk {α : Type} (e : Ln α) (x : α) {l c : Int} {r : List α} (h : mk x l c = some r) : (0 ≤ l ∧ l ≤ c ∧ c ≤ 16777216) ∧ l.toNat = r.length ∧ (List.replicate l.toNat (e.f x).cells).flatten = e.cl r := by
 unfold mk at h
 split at h
 ·rename_i hc
  injection h with h
  subst h
  refine ⟨hc, by simp, ?_⟩
  unfold Ln.cl
  induction l.toNat with
  | zero => rfl
  | succ n ih => simp only [List.replicate_succ, List.flatten_cons, List.map_cons, List.flatMap_cons, ih]
 ·cases h
def MW (s : BF) : List Int := s.map fun b => (b.toNat : Int)
theorem o_tob (s : BF) : s.length = (MW s).length ∧ XS s = (bu .u8).cl (MW s) := by
 refine ⟨by simp [MW], ?_⟩
 unfold Ln.cl MW XS
 induction s with
 | nil => rfl
 | cons b r ih =>
  simp only [List.map_cons, List.flatMap_cons, ih]
  rfl
def six (s : BF) (i : Int) : Option Int := if 0 ≤ i then (s[i.toNat]?).map fun b => (b.toNat : Int) else none
theorem o_six {P : Program} {t : TypeId} {s : BF} {k : IntKind} {i x : Int} (h : six s i = some x) (hk : kd P t = .str) : Wo P t (.str s) (.int k i) = some (.int .u8 x) := by
 unfold six at h
 split at h
 ·rename_i hi
  simp only [Wo]
  rw [if_pos ⟨hk, hi⟩]
  cases hs : s[i.toNat]? with
  | none => rw [hs] at h; cases h
  | some b => rw [hs] at h; simp only [Option.map_some, Option.some.injEq] at h ⊢; rw [h]
 ·cases h
end Go.Ab
namespace Go.Ab
theorem Zu {α : Type} (e : Ln α) {l : List α} {i : Int} {x : α} (h : ix l i = some x) : ∃ c1 c2, e.cl l = c1 ++ (e.f x).cells ++ c2 ∧ c1.length = i.toNat * e.sz ∧ 0 ≤ i ∧ i.toNat < l.length ∧ l[i.toNat]? = some x ∧ ∀ v, e.cl (l.set i.toNat v) = c1 ++ (e.f v).cells ++ c2 := by
 unfold ix at h
 split at h
 case isFalse => cases h
 rename_i hi
 obtain ⟨hl, hx⟩ := List.getElem?_eq_some_iff.1 h
 have hs : l = l.take i.toNat ++ x :: l.drop (i.toNat + 1) := by
  rw [← hx, ← List.drop_eq_getElem_cons hl, List.take_append_drop]
 have hset : ∀ v, l.set i.toNat v = l.take i.toNat ++ v :: l.drop (i.toNat + 1) := fun v => by rw [List.set_eq_take_append_cons_drop, if_pos hl]
 have hcl : ∀ v, e.cl (l.take i.toNat ++ v :: l.drop (i.toNat + 1)) = e.cl (l.take i.toNat) ++ (e.f v).cells ++ e.cl (l.drop (i.toNat + 1)) := fun v => by simp [Ln.cl]
 refine ⟨e.cl (l.take i.toNat), e.cl (l.drop (i.toNat + 1)), ?_, ?_, hi, hl, h, fun v => by rw [hset, hcl]⟩
 ·conv => lhs; rw [hs]
  exact hcl x
 ·rw [e.clen, List.length_take, Nat.min_eq_left (Nat.le_of_lt hl)]
def Ej {α : Type} (l : List α) (i : Int) (v : α) : List α := l.set i.toNat v
theorem LI {α : Type} {l : List α} {i : Int} {v : α} {n : Nat} (h : l.length = n) : (Ej l i v).length = n := by rw [← h]; exact List.length_set
section
variable {α : Type} (e : Ln α) {l : List α} {i : Int} {x : α}
end
section
variable {α : Type} {n : Nat} (e : Ln α) {a : MN n α} {i : Int} {x : α}
end
section
variable {α : Type} (e : Ln α) {l : List α} {i : Int} {x : α}
theorem jX {off m : Nat} (h : ix l i = some x) (hle : off + m ≤ e.sz) : i.toNat * e.sz + off + m ≤ (e.cl l).length ∧ ((e.cl l).drop (i.toNat * e.sz + off)).take m = ((e.f x).cells.drop off).take m := by
 obtain ⟨c1, c2, h1, h2, _⟩ := Zu e h
 have hx := e.len x
 rw [h1, ← h2]
 refine ⟨by simp only [List.length_append, hx]; omega, ?_⟩
 rw [List.append_assoc, List.drop_append, List.drop_eq_nil_of_le (by omega), List.nil_append, Nat.add_sub_cancel_left, List.drop_append, List.take_append, List.length_drop, hx,
  show m - (e.sz - off) = 0 by omega]
 simp
end
end Go.Ab
namespace Go.Ab
open Go.RowKit
section
variable {P : Program} (w : World)
end
end Go.Ab
namespace Go.Ab
end Go.Ab
namespace Go.Ab
end Go.Ab
namespace Go.Ab
mutual
def AG.beq : AG → AG → Bool
 | .bool a, .bool b => a == b
 | .int k n, .int k' n' => decide (k = k') && decide (n = n')
 | .str s, .str t => decide (s = t)
 | .nilp, .nilp => true
 | .nils, .nils => true
 | .nilf, .nilf => true
 | .ptr a b c, .ptr a' b' c' => decide (a = a') && (decide (b = b') && decide (c = c'))
 | .vptr cs, .vptr ds => AG.beqL cs ds
 | .vs a cs, .vs b ds => decide (a = b) && AG.beqL cs ds
 | .sl a b c d e, .sl a' b' c' d' e' => decide (a = a') && (decide (b = b') && (decide (c = c') && (decide (d = d') && decide (e = e'))))
 | .agg cs, .agg ds => AG.beqL cs ds
 | .tup cs, .tup ds => AG.beqL cs ds
 | _, _ => false
def AG.beqL : List AG → List AG → Bool
 | [], [] => true
 | a :: r, b :: s => AG.beq a b && AG.beqL r s
 | _, _ => false
end
mutual
theorem beq_eq : ∀ (a b : AG), AG.beq a b = true → a = b
 | .bool a, b, h => by cases b <;> simp [AG.beq] at h; rw [h]
 | .int k n, b, h => by cases b <;> simp [AG.beq] at h; rw [h.1, h.2]
 | .str s, b, h => by cases b <;> simp [AG.beq] at h; rw [h]
 | .nilp, b, h => by cases b <;> simp [AG.beq] at h; rfl
 | .nils, b, h => by cases b <;> simp [AG.beq] at h; rfl
 | .nilf, b, h => by cases b <;> simp [AG.beq] at h; rfl
 | .ptr _ _ _, b, h => by cases b <;> simp [AG.beq] at h; rw [h.1, h.2.1, h.2.2]
 | .vptr cs, b, h => by cases b <;> simp [AG.beq] at h; rw [W3 cs _ h]
 | .vs a cs, b, h => by cases b <;> simp [AG.beq] at h; rw [h.1, W3 cs _ h.2]
 | .sl _ _ _ _ _, b, h => by cases b <;> simp [AG.beq] at h; rw [h.1, h.2.1, h.2.2.1, h.2.2.2.1, h.2.2.2.2]
 | .agg cs, b, h => by cases b <;> simp [AG.beq] at h; rw [W3 cs _ h]
 | .tup cs, b, h => by cases b <;> simp [AG.beq] at h; rw [W3 cs _ h]
 | .fn _ _ _, b, h => by cases b <;> simp [AG.beq] at h
 | .yf _, b, h => by cases b <;> simp [AG.beq] at h
 | .any, b, h => by cases b <;> simp [AG.beq] at h
theorem W3 : ∀ (a b : List AG), AG.beqL a b = true → a = b
 | [], b, h => by cases b <;> simp [AG.beqL] at h; rfl
 | x :: r, b, h => by
  cases b with
  | nil => simp [AG.beqL] at h
  | cons y s =>
   simp only [AG.beqL, Bool.and_eq_true] at h
   rw [beq_eq x y h.1, W3 r s h.2]
end
end Go.Ab
namespace Go.Ab
mutual
inductive Ty where
 | bool
 | int (k : IntKind)
 | str
 | list (t : Ty)
 | arr (n : Nat) (t : Ty)
 | prod (ts : NJ)
inductive NJ where
 | one (t : Ty)
 | cons (t : Ty) (ts : NJ)
end
mutual
@[reducible] def Ty.D : Ty → Type
 | .bool => Bool
 | .int _ => Int
 | .str => List UInt8
 | .list t => List t.D
 | .arr n t => MN (n + 1) t.D
 | .prod ts => ts.D
@[reducible] def NJ.D : NJ → Type
 | .one t => t.D
 | .cons t ts => t.D × ts.D
end
mutual
def Ty.sz : Ty → Nat
 | .bool => 1
 | .int _ => 1
 | .str => 1
 | .list _ => 1
 | .arr n t => (n + 1) * t.sz
 | .prod ts => ts.sz
def NJ.sz : NJ → Nat
 | .one t => t.sz
 | .cons t ts => t.sz + ts.sz
end
mutual
def Ty.enc : (t : Ty) → t.D → AG
 | .bool, b => .bool b
 | .int k, n => .int k n
 | .str, s => .str s
 | .list t, l => .vs t.sz (l.map t.enc)
 | .arr n t, a => .agg ((List.finRange (n + 1)).flatMap fun i => (t.enc (a i)).cells)
 | .prod ts, x => .agg (ts.cells x)
def NJ.cells : (ts : NJ) → ts.D → List AG
 | .one t, x => (t.enc x).cells
 | .cons t ts, x => (t.enc x.1).cells ++ ts.cells x.2
end
mutual
theorem Ty.sz_pos : ∀ t : Ty, 0 < t.sz
 | .bool => by decide
 | .int _ => by simp [Ty.sz]
 | .str => by decide
 | .list _ => by simp [Ty.sz]
 | .arr n t => by simp only [Ty.sz]; exact Nat.mul_pos (Nat.succ_pos n) t.sz_pos
 | .prod ts => by simp only [Ty.sz]; exact ts.sz_pos
theorem NJ.sz_pos : ∀ ts : NJ, 0 < ts.sz
 | .one t => by simp only [NJ.sz]; exact t.sz_pos
 | .cons t ts => by simp only [NJ.sz]; have := t.sz_pos; omega
end
mutual
theorem Ty.enc_len : ∀ (t : Ty) (x : t.D), (t.enc x).cells.length = t.sz
 | .bool, _ => rfl
 | .int _, _ => rfl
 | .str, _ => rfl
 | .list _, _ => rfl
 | .arr n t, a => by
  show ((List.finRange (n + 1)).flatMap fun i => (t.enc (a i)).cells).length = (n + 1) * t.sz
  have : ∀ l : List (Fin (n + 1)), (l.flatMap fun i => (t.enc (a i)).cells).length = l.length * t.sz := by
   intro l
   induction l with
   | nil => simp
   | cons x l ih => rw [List.flatMap_cons, List.length_append, ih, t.enc_len]; simp [Nat.add_mul, Nat.add_comm]
  rw [this, List.length_finRange]
 | .prod ts, x => ts.cells_len x
theorem NJ.cells_len : ∀ (ts : NJ) (x : ts.D), (ts.cells x).length = ts.sz
 | .one t, x => by simp only [NJ.cells, NJ.sz]; exact t.enc_len x
 | .cons t ts, x => by simp only [NJ.cells, NJ.sz, List.length_append]; rw [t.enc_len, ts.cells_len]
end
mutual
theorem Ty.enc_pure : ∀ (t : Ty) (x : t.D), Pure (t.enc x)
 | .bool, _ => rfl
 | .int _, _ => rfl
 | .str, _ => rfl
 | .list t, l => by
  unfold Pure
  show AG.idsAllL _ (l.map t.enc) = true
  rw [Bx]
  intro v hv
  obtain ⟨x, _, rfl⟩ := List.mem_map.1 hv
  exact t.enc_pure x
 | .arr n t, a => by
  unfold Pure
  show AG.idsAllL _ ((List.finRange (n + 1)).flatMap fun i => (t.enc (a i)).cells) = true
  rw [Bx]
  intro v hv
  obtain ⟨i, _, hv⟩ := List.mem_flatMap.1 hv
  exact Pk (t.enc_pure _) v hv
 | .prod ts, x => by
  unfold Pure
  show AG.idsAllL _ (ts.cells x) = true
  rw [Bx]
  exact ts.cells_pure x
theorem NJ.cells_pure : ∀ (ts : NJ) (x : ts.D), ∀ v ∈ ts.cells x, Pure v
 | .one t, x, v, hv => Pk (t.enc_pure x) v hv
 | .cons t ts, x, v, hv => by
  simp only [NJ.cells, List.mem_append] at hv
  rcases hv with hv | hv
  ·exact Pk (t.enc_pure _) v hv
  ·exact ts.cells_pure _ v hv
end
def Ty.E (t : Ty) : Ln t.D := ⟨t.sz, t.enc, t.sz_pos, t.enc_len, t.enc_pure⟩
mutual
def Ty.beq : Ty → Ty → Bool
 | .bool, .bool => true
 | .int k, .int k' => decide (k = k')
 | .str, .str => true
 | .list t, .list t' => t.beq t'
 | .arr n t, .arr n' t' => Nat.beq n n' && t.beq t'
 | .prod ts, .prod ts' => ts.beq ts'
 | _, _ => false
def NJ.beq : NJ → NJ → Bool
 | .one t, .one t' => t.beq t'
 | .cons t ts, .cons t' ts' => t.beq t' && ts.beq ts'
 | _, _ => false
end
mutual
theorem Ty.beq_eq : ∀ (t t' : Ty), t.beq t' = true → t = t'
 | .bool, t', h => by cases t' <;> simp [Ty.beq] at h; rfl
 | .int k, t', h => by cases t' <;> simp [Ty.beq] at h; rw [h]
 | .str, t', h => by cases t' <;> simp [Ty.beq] at h; rfl
 | .list t, t', h => by cases t' <;> simp [Ty.beq] at h; rw [t.beq_eq _ h]
 | .arr n t, t', h => by cases t' <;> simp [Ty.beq] at h; rw [h.1, t.beq_eq _ h.2]
 | .prod ts, t', h => by cases t' <;> simp [Ty.beq] at h; rw [ts.beq_eq _ h]
theorem NJ.beq_eq : ∀ (t t' : NJ), t.beq t' = true → t = t'
 | .one t, t', h => by cases t' <;> simp [NJ.beq] at h; rw [t.beq_eq _ h]
 | .cons t ts, t', h => by cases t' <;> simp [NJ.beq] at h; rw [t.beq_eq _ h.1, ts.beq_eq _ h.2]
end
def Ty.cast {t t' : Ty} (h : t.beq t' = true) (x : t.D) : t'.D := Ty.beq_eq t t' h ▸ x
theorem Ty.enc_cast {t t' : Ty} (h : t.beq t' = true) (x : t.D) : t'.enc (Ty.cast h x) = t.enc x := by
 have := Ty.beq_eq t t' h
 subst this
 rfl
mutual
def Ty.zero : (t : Ty) → t.D
 | .bool => false
 | .int _ => (0 : Int)
 | .str => ([] : List UInt8)
 | .list t => ([] : List t.D)
 | .arr n t => (MN.all t.zero : MN (n + 1) t.D)
 | .prod ts => ts.zero
def NJ.zero : (ts : NJ) → ts.D
 | .one t => t.zero
 | .cons t ts => (t.zero, ts.zero)
end
end Go.Ab
namespace Go.Ab
inductive Ar where
 | bl (b : Bool)
 | it (k : IntKind) (n : Int)
 | st (s : List UInt8)
 | ls (t : Ty) (l : List t.D)
 | ar (n : Nat) (t : Ty) (a : MN (n + 1) t.D)
 | own (id ver : Nat) (t : Ty) (n : Nat)
 | nil
 | raw (v : AG)
def Ar.w : Ar → Nat
 | .ar n t _ => (n + 1) * t.sz
 | _ => 1
def Ar.enc : Ar → List AG
 | .bl b => [.bool b]
 | .it k n => [.int k n]
 | .st s => [.str s]
 | .ls t l => [.vs t.sz (l.map t.enc)]
 | .ar n t a => ((Ty.arr n t).enc a).cells
 | .own id _ t n => [.sl id n t.sz 0 n]
 | .nil => [.nils]
 | .raw v => [v]
def Ar.one : Ar → AG
 | .bl b => .bool b
 | .it k n => .int k n
 | .st s => .str s
 | .ls t l => .vs t.sz (l.map t.enc)
 | .ar n t a => (Ty.arr n t).enc a
 | .own id _ t n => .sl id n t.sz 0 n
 | .nil => .nils
 | .raw v => v
def lvs (cs : List Ar) : List AG := cs.flatMap Ar.enc
theorem Ar.enc_len (x : Ar) : x.enc.length = x.w := by
 cases x with
 | ar n t a => exact Ty.enc_len (.arr n t) a
 | _ => rfl
inductive TV where
 | c (x : Ar)
 | g (cs : List Ar)
 | aptr (id base n : Nat) (t : Ty) (i : Int) (off : Nat)
 | bptr (id ver : Nat) (t : Ty) (n : Nat) (i : Int) (off : Nat)
 | vptr (cs : List Ar) (post : List AG)
 | tup (vs : List TV)
mutual
def TV.enc : TV → AG
 | .c x => x.one
 | .g cs => .agg (lvs cs)
 | .aptr id base _ t i off => .ptr id 0 (base + i.toNat * t.sz + off)
 | .bptr id _ t n i off => .ptr id n (i.toNat * t.sz + off)
 | .vptr cs post => .vptr (lvs cs ++ post)
 | .tup vs => .tup (TV.encL vs)
def TV.encL : List TV → List AG
 | [] => []
 | v :: r => v.enc :: TV.encL r
end
theorem Zz : ∀ l : List TV, TV.encL l = l.map TV.enc
 | [] => rfl
 | v :: r => by simp only [TV.encL, List.map_cons, Zz r]
abbrev As := List (Nat × TV)
inductive LS where
 | ready
 | busy
 | ret
 | exit (x : Nat)
def LS.st : LS → LoopState
 | .ready => .ready
 | .busy => .busy
 | _ => .done
def LS.pend : LS → Option Code
 | .ret => some .ret
 | .exit x => some (.exit x)
 | _ => none
def LS.beq : LS → LS → Bool
 | .ready, .ready => true
 | .busy, .busy => true
 | .ret, .ret => true
 | .exit x, .exit y => Nat.beq x y
 | _, _ => false
theorem LS.beq_eq {a b : LS} (h : a.beq b = true) : a = b := by
 cases a <;> cases b <;> simp only [LS.beq] at h <;> first | rfl | cases h | rw [Nat.eq_of_beq_eq_true h]
inductive Bw where
 | dead
 | live (ro : Bool) (cs : List Ar)
 | buf (ro : Bool) (t : Ty) (l : List t.D) (n ver : Nat)
 | lp (ro : Bool) (F : FuncId) (n : Nat) (env : As) (ps : Array Tmp) (a b : Code) (s : LS)
abbrev AS := List Bw
def BW (env : As) : Env := env.map fun p => (p.1, p.2.enc)
def Bw.enc : Bw → Dt
 | .dead => .dead
 | .live _ cs => .live 0 (lvs cs)
 | .buf _ t l n _ => .live n (t.E.cl l)
 | .lp _ _ n env ps a b s => .lp ⟨n, BW env, ps, a, b, s.st, s.pend⟩
def Ah (H : AS) : AU := H.map Bw.enc
def Ox : TV := .c (.raw .any)
def As.get : As → Nat → TV
 | [], _ => Ox
 |(k, v) :: r, t => match Nat.beq k t with | true => v | false => As.get r t
def As.del (t : Nat) : As → As
 | [] => []
 |(k, v) :: r => match Nat.beq k t with | true => As.del t r | false => (k, v) :: As.del t r
def As.put (env : As) (t : Nat) (v : TV) : As := (t, v) :: As.del t env
def As.putO (env : As) : Option Nat → TV → As
 | some t, v => env.put t v
 | none, _ => env
theorem beq_false {a b : Nat} (h : a ≠ b) : Nat.beq a b = false := by
 cases hb : Nat.beq a b with
 | false => rfl
 | true => exact absurd (Nat.eq_of_beq_eq_true hb) h
theorem P6 (env : As) (t : Nat) : (BW env).get t = (env.get t).enc := by
 induction env with
 | nil => simp [BW, Env.get, As.get, Ox, TV.enc, Ar.one]
 | cons p r ih =>
  obtain ⟨k, v⟩ := p
  simp only [BW, List.map_cons, Env.get, As.get] at ih ⊢
  by_cases h : k = t
  ·subst h
   rw [if_pos rfl, Nat.beq_refl]
  ·rw [if_neg h, beq_false h]
   exact ih
theorem gW (env : As) (t : Nat) : BW (As.del t env) = (BW env).filter fun p => decide (p.1 ≠ t) := by
 induction env with
 | nil => rfl
 | cons p r ih =>
  obtain ⟨k, v⟩ := p
  simp only [As.del, BW, List.map_cons] at ih ⊢
  by_cases h : k = t
  ·subst h
   rw [Nat.beq_refl, List.filter_cons_of_neg (by simp)]
   exact ih
  ·rw [beq_false h, List.filter_cons_of_pos (by simpa using h)]
   simp only [List.map_cons]
   rw [ih]
theorem YH (env : As) (t : Nat) (v : TV) : BW (env.put t v) = (BW env).put t v.enc := by
 simp only [As.put, Env.put, ← gW]
 rfl
theorem Pp (env : As) (t : Option Nat) (v : TV) : BW (env.putO t v) = (BW env).putO t v.enc := by
 cases t with
 | none => rfl
 | some t => exact YH env t v
def gQ : Value → Ar
 | .bool b => .bl b
 | .int k n => .it k n
 | .string s => .st s.data.toList
 | .pointer none => .raw .nilp
 | .slice none 0 0 => .nil
 | .nilFunc => .raw .nilf
 | _ => .raw .any
def cvT : Value → TV
 | .agg cs => match cs.toList.all (·.oneCell') with | true => .g (cs.toList.map gQ) | false => Ox
 | v => .c (gQ v)
theorem cY (v : Value) : (gQ v).one = Zy v := by
 cases v with
 | pointer p => cases p <;> rfl
 | slice a l c =>
  cases a with
  | some _ => rfl
  | none =>
   match l, c with
   | 0, 0 => rfl
   | 0, _ + 1 => rfl
   | _ + 1, _ => rfl
 | _ => rfl
theorem gR (v : Value) : (gQ v).enc = [Zy v] := by
 cases v with
 | pointer p => cases p <;> rfl
 | slice a l c =>
  cases a with
  | some _ => rfl
  | none =>
   match l, c with
   | 0, 0 => rfl
   | 0, _ + 1 => rfl
   | _ + 1, _ => rfl
 | _ => rfl
theorem iT (v : Value) : (cvT v).enc = gS v := by
 cases v with
 | agg cs =>
  simp only [cvT, gS]
  cases h : cs.toList.all (·.oneCell') with
  | false => simp [Ox, TV.enc, Ar.one]
  | true =>
   simp only [TV.enc, if_true, lvs, AG.agg.injEq]
   clear h
   induction cs.toList with
   | nil => rfl
   | cons x r ih => simp only [List.map_cons, List.flatMap_cons, gR, ih]; rfl
 | pointer p => exact cY (.pointer p)
 | slice a l c => exact cY (.slice a l c)
 | _ => rfl
def GX (env : As) : Operand → TV
 | .tmp t => env.get t
 | .const v => cvT v
 | .global _ => Ox
 | .func f => .c (.raw (.fn (.func f) [] []))
theorem JR (env : As) (x : Operand) : Al (BW env) x = (GX env x).enc := by
 cases x with
 | tmp t => exact P6 env t
 | const v => exact (iT v).symm
 | global _ => rfl
 | func f => rfl
end Go.Ab
namespace Go.Ab
def OV : List Ar → Nat → Option (List Ar × List Ar)
 | ls, 0 => some ([], ls)
 | [], _ + 1 => none
 | x :: r, n + 1 =>
  match Nat.ble x.w (n + 1) with
  | true => match OV r (n + 1 - x.w) with | some (a, b) => some (x :: a, b) | none => none
  | false => none
mutual
def Ty.lvs : (t : Ty) → t.D → List Ar
 | .bool, b => [.bl b]
 | .int k, n => [.it k n]
 | .str, s => [.st s]
 | .list t, l => [.ls t l]
 | .arr n t, a => [.ar n t a]
 | .prod ts, x => ts.lvs x
def NJ.lvs : (ts : NJ) → ts.D → List Ar
 | .one t, x => t.lvs x
 | .cons t ts, x => t.lvs x.1 ++ ts.lvs x.2
end
def Ar.scalar : Ar → Bool
 | .ar .. => false
 | .raw (.agg _) => false
 | _ => true
def part (P : Program) (t : TypeId) (cs : List Ar) (off : Nat) : Option TV :=
 match OV cs off with
 | some (_, r) =>
  match tI P t with
  | some (true, n) => match OV r n with | some (a, _) => some (.g a) | none => none
  | some (false, _) => match r with | x :: _ => (match x.scalar with | true => some (.c x) | false => none) | [] => none
  | none => none
 | none => none
section
variable {R : Type}
def iD (o : Option TV) (k : TV → Option R) : Option R :=
 match o with
 | some v => k v
 | none => none
def gE (cs : List Ar) (base n : Nat) (t : Ty) : Option (MN (n + 1) t.D) :=
 match OV cs base with
 | some (_, .ar n' t' a :: _) => if h : (Ty.arr n' t').beq (Ty.arr n t) = true then some (Ty.cast h a) else none
 | _ => none
def WE (H : AS) (id ver : Nat) (t : Ty) : Option (List t.D) :=
 match H[id]? with
 | some (.buf _ t' l _ ver') => match Nat.beq ver ver' with | true => (if h : (Ty.list t').beq (Ty.list t) = true then some (Ty.cast h l) else none) | false => none
 | _ => none
def PB (H : AS) (id : Nat) : Option (List Ar) :=
 match H[id]? with
 | some (.live _ cs) => some cs
 | _ => none
def loadT (P : Program) (H : AS) (t : TypeId) (v : TV) (k : TV → Option R) : Option R :=
 match v with
 | .c (.raw (.ptr id 0 off)) => match PB H id with | some cs => iD (part P t cs off) k | none => none
 | .vptr cs _ => iD (part P t cs 0) k
 | .aptr id base n te i off =>
  match PB H id with
  | some cs => match gE cs base n te with | some a => (aget a i).bind fun e => iD (part P t (te.lvs e) off) k | none => none
  | none => none
 | .bptr id ver te _ i off => match WE H id ver te with | some l => (ix l i).bind fun e => iD (part P t (te.lvs e) off) k | none => none
 | _ => none
def fy : AG → TV
 | .bool b => .c (.bl b)
 | .int k n => .c (.it k n)
 | .str s => .c (.st s)
 | v => .c (.raw v)
def okA (o : Option AG) (k : TV → Option R) : Option R :=
 match o with
 | some v => k (fy v)
 | none => none
def eqT (as bs : List Ar) : Bool := ak (lvs as) (lvs bs)
def jY (P : Program) (op : BinOp) (t : TypeId) (x y : TV) (k : TV → Option R) : Option R :=
 match x, y with
 | .c (.it kx a), .c (.it ky b) =>
  match op with
  | .shl => cond (decide (b < 0)) none (k (.c (.it kx (kx.wrap (a * 2 ^ min b.toNat kx.bits)))))
  | .shr => cond (decide (b < 0)) none (k (.c (.it kx (a.fdiv (2 ^ min b.toNat kx.bits)))))
  | .quo => if kx = ky then cond (b == 0) none (k (.c (.it kx (kx.wrap (a.tdiv b))))) else none
  | .rem => if kx = ky then cond (b == 0) none (k (.c (.it kx (a.tmod b)))) else none
  | op => if kx = ky then okA (Xd op kx a b) k else none
 | .c (.bl a), .c (.bl b) =>
  match op with
  | .eql => if kd P t = .bool then k (.c (.bl (a == b))) else none
  | .neq => if kd P t = .bool then k (.c (.bl (!(a == b)))) else none
  | _ => none
 | .c (.st a), .c (.st b) =>
  match op with
  | .add => (sapp a b).bind fun s => k (.c (.st s))
  | op => okA (bg op a b) k
 | .g as, .g bs =>
  match gL P t with
  | some ks =>
   if typed ks (lvs as) = true ∧ typed ks (lvs bs) = true then
    match op with
    | .eql => k (.c (.bl (eqT as bs)))
    | .neq => k (.c (.bl (!eqT as bs)))
    | _ => none
   else none
  | none => none
 | _, _ => none
def unT (op : UnOp) (v : TV) (k : TV → Option R) : Option R :=
 match v with
 | .c x => okA (unV op x.one) k
 | _ => none
def gN (P : Program) (H : AS) (src dst : TypeId) (v : TV) (k : TV → Option R) : Option R :=
 match v with
 | .c (.ls (.int .u8) l) => if kd P dst = .str ∧ kd P src = .bytes then k (.c (.st (Du l))) else none
 | .c (.own id ver (.int .u8) _) => if kd P dst = .str ∧ kd P src = .bytes then (match WE H id ver (.int .u8) with | some l => k (.c (.st (Du l))) | none => none) else none
 | .c (.it kk n) => okA (PI P [] src dst (.int kk n)) k
 | .c (.st s) => okA (PI P [] src dst (.str s)) k
 | _ => none
def Xm (P : Program) (H : AS) (s f : Nat) (v : TV) (k : TV → Option R) : Option R :=
 match fI P s f with
 | some (off, _, n) =>
  match Nat.beq n 0 with
  | true => none
  | false =>
   match v with
   | .c (.raw (.ptr id 0 o)) => match PB H id with | some _ => k (.c (.raw (.ptr id 0 (o + off)))) | none => none
   | .vptr cs post => match OV cs off with | some (_, r) => k (.vptr r post) | none => none
   | .aptr id base n te i o => match PB H id with | some _ => k (.aptr id base n te i (o + off)) | none => none
   | .bptr id ver te n i o => match WE H id ver te with | some _ => k (.bptr id ver te n i (o + off)) | none => none
   | _ => none
 | none => none
def dn (P : Program) (s f : Nat) (v : TV) (k : TV → Option R) : Option R :=
 match fI P s f, v with
 | some (off, t, _), .g cs => iD (part P t cs off) k
 | _, _ => none
def Xo (P : Program) (H : AS) (t : TypeId) (v i : TV) (k : TV → Option R) : Option R :=
 match i with
 | .c (.it _ i) =>
  match eI P t with
  | some (some len, _, sz) =>
   match v with
   | .c (.raw (.ptr id 0 off)) =>
    match PB H id with
    | some cs =>
     match OV cs off with
     | some (_, .ar n te a :: _) => if len = n + 1 ∧ sz = te.sz then (aget a i).bind fun _ => k (.aptr id off n te i 0) else none
     | _ => none
    | none => none
   | .vptr (.ar n te a :: r) post => if len = n + 1 ∧ sz = te.sz then (aget a i).bind fun e => k (.vptr (te.lvs e) ((((Ty.arr n te).enc a).cells.drop (i.toNat * te.sz + te.sz)) ++ (lvs r ++ post))) else none
   | _ => none
  | some (none, _, sz) =>
   match v with
   | .c (.ls te l) => if sz = te.sz then (ix l i).bind fun e => k (.vptr (te.lvs e) []) else none
   | .c (.own id ver te n) => match WE H id ver te with | some l => (if sz = te.sz then (ix l i).bind fun _ => k (.bptr id ver te n i 0) else none) | none => none
   | _ => none
  | none => none
 | _ => none
def bk (P : Program) (e : TypeId) (sz : Nat) (cs : List Ar) (i : Int) (k : TV → Option R) : Nat → Nat → Option R
 | 0, _ => none
 | m + 1, j => cond (decide (i = Int.ofNat j)) (iD (part P e cs (j * sz)) k) (bk P e sz cs i k m (j + 1))
def dt (P : Program) (t : TypeId) (v i : TV) (k : TV → Option R) : Option R :=
 match i with
 | .c (.it _ i) =>
  match v with
  | .g [.ar n te a] =>
   match eI P t with
   | some (some len, e, sz) => if len = n + 1 ∧ sz = te.sz then (aget a i).bind fun x => iD (part P e (te.lvs x) 0) k else none
   | _ => none
  | .g cs =>
   match eI P t with
   | some (some len, e, sz) => match Nat.ble len 16 with | true => bk P e sz cs i k len 0 | false => none
   | _ => none
  | .c (.st s) => if kd P t = .str then (six s i).bind fun b => k (.c (.it .u8 b)) else none
  | _ => none
 | _ => none
def fK (d : Int) : Option TV → Option Int
 | none => some d
 | some (.c (.it _ n)) => some n
 | _ => none
def eK (P : Program) (t : TypeId) (v : TV) (lo hi mx : Option TV) (k : TV → Option R) : Option R :=
 match mx with
 | some _ => none
 | none =>
  match v with
  | .c (.st s) =>
   match fK 0 lo, fK s.length hi with
   | some l, some h => if kd P t = .str then (ssl s l h).bind fun x => k (.c (.st x)) else none
   | _, _ => none
  | .c (.ls te xs) =>
   match fK 0 lo, fK xs.length hi, eI P t with
   | some l, some h, some (none, _, sz) => if sz = te.sz then (lsl xs l h).bind fun x => k (.c (.ls te x)) else none
   | _, _, _ => none
  | _ => none
def lenT (P : Program) (H : AS) (t : TypeId) (v : TV) (k : TV → Option R) : Option R :=
 match P.underlying t, v with
 | some .string, .c (.st s) => k (.c (.it .i64 s.length))
 | some (.array n _), _ => k (.c (.it .i64 n))
 | some (.slice _), .c (.ls _ l) => k (.c (.it .i64 l.length))
 | some (.slice _), .c (.own id ver te n) => match WE H id ver te with | some _ => k (.c (.it .i64 n)) | none => none
 | some (.slice _), .c .nil => k (.c (.it .i64 0))
 | _, _ => none
def mmT (mx : Bool) (x y : TV) (k : TV → Option R) : Option R :=
 match x, y with
 | .c (.it kx a), .c (.it _ b) => k (.c (.it kx (if mx then (if b > a then b else a) else (if b < a then b else a))))
 | _, _ => none
def mm3T (x y z : TV) (k : TV → Option R) : Option R :=
 match x, y, z with
 | .c (.it kx a), .c (.it _ b), .c (.it _ c) => k (.c (.it kx (if c < (if b < a then b else a) then c else (if b < a then b else a))))
 | _, _, _ => none
def TV.words : TV → Option (List Ar)
 | .c x => match x.scalar && x.one.solid with | true => some [x] | false => none
 | .g cs => some cs
 | _ => none
mutual
def Ty.zlvs : (t : Ty) → List Ar
 | .bool => [.bl false]
 | .int k => [.it k 0]
 | .str => [.st []]
 | .list _ => [.nil]
 | .arr n t => [.ar n t (MN.all t.zero)]
 | .prod ts => ts.zlvs
def NJ.zlvs : NJ → List Ar
 | .one t => t.zlvs
 | .cons t ts => t.zlvs ++ ts.zlvs
end
mutual
def fu (P : Program) : Nat → TypeId → Option Ty
 | 0, _ => none
 | d + 1, t =>
  match P.underlying t with
  | some .bool => some .bool
  | some (.int k) => some (.int k)
  | some .string => some .str
  | some (.slice e) => (fu P d e).map Ty.list
  | some (.array (n + 1) e) => (fu P d e).map (Ty.arr n)
  | some (.struct fs) => (jM P d fs.toList).map Ty.prod
  | _ => none
def jM (P : Program) : Nat → List Field → Option NJ
 | 0, _ => none
 | _ + 1, [] => none
 | d + 1, [f] => (fu P d f.type).map NJ.one
 | d + 1, f :: r => match fu P d f.type, jM P d r with | some t, some ts => some (.cons t ts) | _, _ => none
end
def bJ : AG → Ar
 | .bool b => .bl b
 | .int k n => .it k n
 | .str s => .st s
 | v => .raw v
def af (P : Program) (t : TypeId) : Option (List Ar) :=
 match UG P t with
 | some z =>
  match fu P 1000 t with
  | some ty => match AG.beqL z (lvs ty.zlvs) with | true => some ty.zlvs | false => some (z.map bJ)
  | none => some (z.map bJ)
 | none => none
def fm (cs : List Ar) (off : Nat) (vs : List Ar) (n : Nat) : Option (List Ar) :=
 match OV cs off with
 | some (a, r) => match OV r n with | some (_, b) => some (a ++ (vs ++ b)) | none => none
 | none => none
def iB : List Ar → Nat
 | [] => 0
 | x :: r => x.w + iB r
def cn (p : Rs) : List Ar → List (Nat × TV) → Option (List Ar)
 | cs, [] => some cs
 | cs, (i, v) :: r =>
  match p.at_ i, v.words with
  | some (off, size), some ws =>
   match Nat.beq (iB ws) size with
   | true => match fm cs off ws size with | some cs' => cn p cs' r | none => none
   | false => none
  | _, _ => none
def dj (P : Program) (t : TypeId) (parts : List (Nat × TV)) : Option TV :=
 match af P t, aS P t with
 | some z, some p => (cn p z parts).map TV.g
 | _, _ => none
def aT : List TV → Option (List AG)
 | [] => some []
 | .c x :: r => match x.scalar, aT r with | true, some l => some (x.one :: l) | _, _ => none
 | _ => none
def iv (P : Program) (env : As) (H : AS) (op : Op) (k : TV → Option R) : Option R :=
 match op with
 | .move x | .assign x => k (GX env x)
 | .pick c a b => match GX env c with | .c (.bl t) => cond t (k (GX env a)) (k (GX env b)) | _ => none
 | .load t a => loadT P H t (GX env a) k
 | .nilCheck x =>
  match GX env x with
  | .c (.raw (.ptr id 0 off)) => match PB H id with | some _ => k (.c (.raw (.ptr id 0 off))) | none => none
  | .c (.raw (.fn (.func f) a b)) => k (.c (.raw (.fn (.func f) a b)))
  | .vptr cs post => k (.vptr cs post)
  | .aptr id base n te i off => match PB H id with | some _ => k (.aptr id base n te i off) | none => none
  | .bptr id ver te n i off => match WE H id ver te with | some _ => k (.bptr id ver te n i off) | none => none
  | _ => none
 | .binOp op t x y _ => jY P op t (GX env x) (GX env y) k
 | .unOp op _ x => unT op (GX env x) k
 | .convert s d x => gN P H s d (GX env x) k
 | .fieldAddr s x f => Xm P H s f (GX env x) k
 | .field s x f => dn P s f (GX env x) k
 | .indexAddr t x i => Xo P H t (GX env x) (GX env i) k
 | .index t x i => dt P t (GX env x) (GX env i) k
 | .slice t x lo hi mx => eK P t (GX env x) (lo.map (GX env)) (hi.map (GX env)) (mx.map (GX env)) k
 | .extract x i => match GX env x with | .tup vs => (match vs[i]? with | some v => k v | none => none) | _ => none
 | .makeFunc f a b => match aT (a.toList.map (GX env)), aT (b.toList.map (GX env)) with | some l, some m => k (.c (.raw (.fn f l m))) | _, _ => none
 | .build t parts => iD (dj P t (parts.toList.map fun p => (p.1, GX env p.2))) k
 | .call { callee := .builtin .len, args := ⟨[x]⟩, argTypes := ⟨[t]⟩ } => lenT P H t (GX env x) k
 | .call { callee := .builtin .max, args := ⟨[x, y]⟩, .. } => mmT true (GX env x) (GX env y) k
 | .call { callee := .builtin .min, args := ⟨[x, y]⟩, .. } => mmT false (GX env x) (GX env y) k
 | .call { callee := .builtin .min, args := ⟨[x, y, z]⟩, .. } => mm3T (GX env x) (GX env y) (GX env z) k
 | _ => none
end
end Go.Ab
namespace Go.Ab
def OK (H : AS) (id ver : Nat) (t : Ty) (n : Nat) : Prop :=
 id < H.length ∧ ∀ ro t' l n' ver', H[id]? = some (.buf ro t' l n' ver') → ver ≤ ver' ∧ (ver = ver' → t' = t ∧ n' = n)
def Ar.ok (H : AS) : Ar → Prop
 | .own id ver t n => OK H id ver t n
 | _ => True
def lok (H : AS) (cs : List Ar) : Prop := ∀ x ∈ cs, x.ok H
mutual
def TV.refs : TV → List Ar
 | .c x => [x]
 | .g cs => cs
 | .aptr .. => []
 | .bptr id ver t n _ _ => [.own id ver t n]
 | .vptr cs _ => cs
 | .tup vs => TV.refsL vs
def TV.refsL : List TV → List Ar
 | [] => []
 | v :: r => v.refs ++ TV.refsL r
end
def TV.ok (H : AS) (v : TV) : Prop := lok H v.refs
def Bw.ok (H : AS) : Bw → Prop
 | .live _ cs => lok H cs
 | .buf _ _ l n _ => n = l.length
 | .dead => True
 | .lp _ _ _ env _ _ _ _ => ∀ p ∈ env, ∀ id ver t n, Ar.own id ver t n ∉ p.2.refs
structure Lo (env : As) (H : AS) : Prop where
 env : ∀ p ∈ env, p.2.ok H
 heap : ∀ e ∈ H, e.ok H
theorem Dj {H : AS} {a b : List Ar} : lok H (a ++ b) ↔ lok H a ∧ lok H b := by
 simp only [lok, List.mem_append]
 exact ⟨fun h => ⟨fun x hx => h x (.inl hx), fun x hx => h x (.inr hx)⟩, fun h x hx => hx.elim (h.1 x) (h.2 x)⟩
theorem ij {H : AS} : lok H [] := fun _ h => by cases h
theorem bU {v : TV} : ∀ {l : List TV}, v ∈ l → ∀ x ∈ v.refs, x ∈ TV.refsL l
 | w :: r, hv, x, hx => by
  simp only [TV.refsL, List.mem_append]
  rcases List.mem_cons.1 hv with rfl | hv
  ·exact .inl hx
  ·exact .inr (bU hv x hx)
theorem Y5 {H : AS} {vs : List TV} (h : (TV.tup vs).ok H) {v : TV} (hv : v ∈ vs) : v.ok H := fun x hx => h x (by simp only [TV.refs]; exact bU hv x hx)
theorem NG {H : AS} : ∀ {vs : List TV}, (∀ v ∈ vs, v.ok H) → (TV.tup vs).ok H
 | [], _ => fun x hx => by simp [TV.refs, TV.refsL] at hx
 | v :: r, h => by
  have := NG (vs := r) fun w hw => h w (by simp [hw])
  intro x hx
  simp only [TV.refs, TV.refsL, List.mem_append] at hx
  rcases hx with hx | hx
  ·exact h v (by simp) x hx
  ·exact this x hx
theorem Yy {env : As} {H : AS} (h : ∀ p ∈ env, p.2.ok H) (t : Nat) : (env.get t).ok H := by
 induction env with
 | nil => intro x hx; simp only [As.get, Ox, TV.refs, List.mem_singleton] at hx; subst hx; trivial
 | cons p r ih =>
  obtain ⟨k, v⟩ := p
  simp only [As.get]
  split
  ·exact h (k, v) (by simp)
  ·exact ih fun p hp => h p (by simp [hp])
theorem eX {H : AS} (v : Value) : (gQ v).ok H := by
 cases v with
 | pointer p => cases p <;> trivial
 | slice a l c =>
  cases a with
  | some _ => trivial
  | none =>
   match l, c with
   | 0, 0 => trivial
   | 0, _ + 1 => trivial
   | _ + 1, _ => trivial
 | _ => trivial
theorem XF {H : AS} : Ox.ok H := fun x hx => by
 simp only [Ox, TV.refs, List.mem_singleton] at hx; subst hx; trivial
theorem Gd {H : AS} {x : Ar} (h : x.ok H) : (TV.c x).ok H := fun y hy => by
 simp only [TV.refs, List.mem_singleton] at hy; subst hy; exact h
theorem jb {H : AS} (v : Value) : (cvT v).ok H := by
 cases v with
 | agg cs =>
  simp only [cvT]
  cases h : cs.toList.all (·.oneCell') with
  | false => exact XF
  | true =>
   intro x hx
   simp only [TV.refs, List.mem_map] at hx
   obtain ⟨y, _, rfl⟩ := hx
   exact eX y
 | _ => exact Gd (eX _)
theorem Ur {env : As} {H : AS} (h : ∀ p ∈ env, p.2.ok H) (x : Operand) : (GX env x).ok H := by
 cases x with
 | tmp t => exact Yy h t
 | const v => exact jb v
 | global _ => exact XF
 | func f => exact Gd trivial
theorem DN (a b : List Ar) : lvs (a ++ b) = lvs a ++ lvs b := List.flatMap_append
theorem Df (x : Ar) (b : List Ar) : lvs (x :: b) = x.enc ++ lvs b := List.flatMap_cons
theorem UF : ∀ cs : List Ar, (lvs cs).length = iB cs
 | [] => rfl
 | x :: r => by rw [Df, List.length_append, x.enc_len, UF r]; rfl
theorem KD : ∀ {ls : List Ar} {n : Nat} {a b : List Ar}, OV ls n = some (a, b) → ls = a ++ b ∧ (lvs a).length = n
 | ls, 0, a, b, h => by
  cases ls <;> simp only [OV, Option.some.injEq, Prod.mk.injEq] at h <;> obtain ⟨rfl, rfl⟩ := h <;> exact ⟨rfl, rfl⟩
 | [], n + 1, a, b, h => by simp [OV] at h
 | x :: r, n + 1, a, b, h => by
  simp only [OV] at h
  split at h
  ·rename_i hle
   split at h
   ·rename_i a' b' hs
    simp only [Option.some.injEq, Prod.mk.injEq] at h
    obtain ⟨rfl, rfl⟩ := h
    obtain ⟨h1, h2⟩ := KD hs
    refine ⟨by rw [h1]; rfl, ?_⟩
    rw [Df, List.length_append, h2, x.enc_len]
    have := Nat.le_of_ble_eq_true hle
    omega
   ·cases h
  ·cases h
mutual
theorem Ty.lvs_enc : ∀ (t : Ty) (x : t.D), lvs (t.lvs x) = (t.enc x).cells
 | .bool, _ => rfl
 | .int _, _ => rfl
 | .str, _ => rfl
 | .list _, _ => rfl
 | .arr n t, a => by simp only [Ty.lvs, lvs, List.flatMap_cons, List.flatMap_nil, List.append_nil, Ar.enc]
 | .prod ts, x => by simp only [Ty.lvs, Ty.enc, AG.cells]; exact ts.lvs_cells x
theorem NJ.lvs_cells : ∀ (ts : NJ) (x : ts.D), Go.Ab.lvs (ts.lvs x) = ts.cells x
 | .one t, x => by simp only [NJ.lvs, NJ.cells]; exact t.lvs_enc x
 | .cons t ts, x => by simp only [NJ.lvs, NJ.cells]; rw [DN, t.lvs_enc, ts.lvs_cells]
end
mutual
theorem Ty.lvs_ok {H : AS} : ∀ (t : Ty) (x : t.D), lok H (t.lvs x)
 | .bool, _ => fun y hy => by simp only [Ty.lvs, List.mem_singleton] at hy; subst hy; trivial
 | .int _, _ => fun y hy => by simp only [Ty.lvs, List.mem_singleton] at hy; subst hy; trivial
 | .str, _ => fun y hy => by simp only [Ty.lvs, List.mem_singleton] at hy; subst hy; trivial
 | .list _, _ => fun y hy => by simp only [Ty.lvs, List.mem_singleton] at hy; subst hy; trivial
 | .arr n t, a => fun y hy => by simp only [Ty.lvs, List.mem_singleton] at hy; subst hy; trivial
 | .prod ts, x => by simp only [Ty.lvs]; exact ts.lvs_ok x
theorem NJ.lvs_ok {H : AS} : ∀ (ts : NJ) (x : ts.D), lok H (ts.lvs x)
 | .one t, x => by simp only [NJ.lvs]; exact t.lvs_ok x
 | .cons t ts, x => by simp only [NJ.lvs]; exact Dj.2 ⟨t.lvs_ok _, ts.lvs_ok _⟩
end
theorem Ar.scalar_enc {x : Ar} (h : x.scalar = true) : x.enc = [x.one] := by
 cases x with
 | ar n t a => cases h
 | _ => rfl
theorem Ar.scalar_cells {x : Ar} (h : x.scalar = true) : x.one.cells = [x.one] := by
 cases x with
 | ar n t a => cases h
 | raw v => cases v <;> first | rfl | cases h
 | _ => rfl
theorem LP {P : Program} {t : TypeId} {cs : List Ar} {off : Nat} {v : TV} (h : part P t cs off = some v) :
  (∃ n, tI P t = some (true, n) ∧ off + n ≤ (lvs cs).length ∧ v.enc = .agg (((lvs cs).drop off).take n) ∨ tI P t = some (false, n) ∧ (lvs cs)[off]? = some v.enc) ∧ ∀ H, lok H cs → v.ok H := by
 unfold part at h
 split at h
 ·rename_i a r hs
  obtain ⟨rfl, ha⟩ := KD hs
  split at h
  ·rename_i n ht
   split at h
   ·rename_i b c hs2
    obtain ⟨rfl, hb⟩ := KD hs2
    injection h with h
    subst h
    refine ⟨⟨n, .inl ⟨ht, ?_, ?_⟩⟩, fun H hl => ?_⟩
    ·simp only [DN, List.length_append]; omega
    ·simp only [TV.enc, DN, AG.agg.injEq]
     rw [← ha, List.drop_left, ← hb, List.take_left]
    ·exact (Dj.1 (Dj.1 hl).2).1
   ·cases h
  ·rename_i n ht
   split at h
   ·rename_i x r
    split at h
    ·rename_i hx
     injection h with h
     subst h
     refine ⟨⟨n, .inr ⟨ht, ?_⟩⟩, fun H hl => Gd ((Dj.1 hl).2 x (by simp))⟩
     rw [DN, Df, Ar.scalar_enc hx, List.getElem?_append_right (by omega)]
     simp [ha, TV.enc]
    ·cases h
   ·cases h
  ·cases h
 ·cases h
theorem XB {P : Program} {t : TypeId} {cs : List Ar} {off : Nat} {v : TV} (h : part P t cs off = some v) {AH : AU} {a : AG}
  (hr : ∀ n, off + n ≤ (lvs cs).length → Lm AH a n = some (((lvs cs).drop off).take n)) : YX P t AH a = some v.enc := by
 obtain ⟨⟨n, h1 | h1⟩, _⟩ := LP h
 ·obtain ⟨ht, hle, hv⟩ := h1
  simp only [YX, ht, hr n hle, Option.map_some, hv]
 ·obtain ⟨ht, hv⟩ := h1
  have hl : off < (lvs cs).length := by
   rcases Nat.lt_or_ge off (lvs cs).length with h2 | h2
   ·exact h2
   ·rw [List.getElem?_eq_none h2] at hv; cases hv
  simp only [YX, ht, hr 1 (by omega), Option.bind_some]
  rw [List.head?_take, List.head?_drop, hv]
  rfl
theorem ZP {H : AS} {id : Nat} {cs : List Ar} (h : PB H id = some cs) : ∃ ro, H[id]? = some (.live ro cs) := by
 unfold PB at h
 split at h
 ·rename_i ro cs' he
  injection h with h
  subst h
  exact ⟨ro, he⟩
 ·cases h
theorem De (H : AS) (id : Nat) : (Ah H)[id]? = (H[id]?).map Bw.enc := List.getElem?_map
theorem aJ {H : AS} {id : Nat} {cs : List Ar} (h : PB H id = some cs) : (Ah H)[id]? = some (.live 0 (lvs cs)) := by
 obtain ⟨ro, he⟩ := ZP h
 rw [De, he]
 rfl
theorem ig {H : AS} {id : Nat} {cs : List Ar} (hH : ∀ e ∈ H, e.ok H) (h : PB H id = some cs) : lok H cs := by
 obtain ⟨ro, he⟩ := ZP h
 exact hH _ (List.mem_of_getElem? he)
theorem di {H : AS} {id ver : Nat} {t : Ty} {l : List t.D} (h : WE H id ver t = some l) : ∃ ro n, H[id]? = some (.buf ro t l n ver) := by
 unfold WE at h
 split at h
 ·rename_i ro t' l' n ver' he
  split at h
  ·rename_i hv
   have hv' : ver = ver' := Nat.eq_of_beq_eq_true hv
   subst hv'
   split at h
   ·rename_i ht
    have ht' : t'.beq t = true := ht
    have := Ty.beq_eq t' t ht'
    subst this
    injection h with h
    refine ⟨ro, n, ?_⟩
    rw [he, ← h]
    rfl
   ·cases h
  ·cases h
 ·cases h
theorem X2 {H : AS} {id ver n : Nat} {t : Ty} {l : List t.D} (hH : ∀ e ∈ H, e.ok H) (hr : OK H id ver t n) (h : WE H id ver t = some l) : (Ah H)[id]? = some (.live n (t.E.cl l)) ∧ l.length = n := by
 obtain ⟨ro, n', he⟩ := di h
 obtain ⟨_, h2⟩ := hr.2 _ _ _ _ _ he
 obtain ⟨_, rfl⟩ := h2 rfl
 have : n' = l.length := hH _ (List.mem_of_getElem? he)
 refine ⟨?_, this.symm⟩
 rw [De, he]
 rfl
theorem dc {cs : List Ar} {base n : Nat} {t : Ty} {a : MN (n + 1) t.D} (h : gE cs base n t = some a) : ∃ pre post, cs = pre ++ (.ar n t a :: post) ∧ (lvs pre).length = base := by
 unfold gE at h
 split at h
 ·rename_i pre n' t' a' post hs
  split at h
  ·rename_i ht
   have := Ty.beq_eq _ _ ht
   injection this with h1 h2
   subst h1 h2
   injection h with h
   obtain ⟨h1, h2⟩ := KD hs
   refine ⟨pre, post, ?_, h2⟩
   rw [h1, ← h]
   rfl
  ·cases h
 ·cases h
theorem Su (n : Nat) (t : Ty) (a : MN (n + 1) t.D) : (Ar.ar n t a).enc = UJ (n + 1) t.E a := rfl
end Go.Ab
namespace Go.Ab
section
variable {P : Program} {R : Type} {H : AS} {k : TV → Option R} {r : R}
theorem Ot {o : Option TV} (h : iD o k = some r) : ∃ v, o = some v ∧ k v = some r := by
 unfold iD at h
 split at h
 ·exact ⟨_, rfl, h⟩
 ·cases h
theorem Vc (v : AG) : (fy v).enc = v := by
 cases v <;> rfl
theorem Vd (v : AG) : (fy v).ok H := by
 cases v <;> exact Gd trivial
theorem Wq {o : Option AG} (h : okA o k = some r) : ∃ v, o = some v ∧ k (fy v) = some r := by
 unfold okA at h
 split at h
 ·exact ⟨_, rfl, h⟩
 ·cases h
theorem W7 {b : Bool} {o : Option R} (h : cond b none o = some r) : b = false ∧ o = some r := by
 cases b with
 | true => cases h
 | false => exact ⟨rfl, h⟩
theorem ZQ {t : TypeId} {v : TV} (hH : ∀ e ∈ H, e.ok H) (hv : v.ok H) (h : loadT P H t v k = some r) : ∃ u, YX P t (Ah H) v.enc = some u.enc ∧ k u = some r ∧ u.ok H := by
 unfold loadT at h
 split at h
 ·rename_i id off
  split at h
  ·rename_i cs hl
   obtain ⟨u, hp, hk⟩ := Ot h
   refine ⟨u, XB hp fun n hle => ?_, hk, (LP hp).2 H (ig hH hl)⟩
   simp only [TV.enc, Ar.one, Lm, aJ hl]
   rw [if_pos ⟨trivial, hle⟩]
  ·cases h
 ·rename_i cs post
  obtain ⟨u, hp, hk⟩ := Ot h
  refine ⟨u, XB hp fun n hle => ?_, hk, (LP hp).2 H hv⟩
  simp only [TV.enc, Lm]
  rw [Nat.zero_add] at hle
  rw [if_pos (by simp; omega), List.drop_zero, List.take_append_of_le_length hle]
 ·rename_i id base n te i off
  split at h
  ·rename_i cs hl
   split at h
   ·rename_i a ha
    obtain ⟨e, he, h⟩ := Option.bind_eq_some_iff.1 h
    obtain ⟨u, hp, hk⟩ := Ot h
    obtain ⟨pre, post, rfl, hpre⟩ := dc ha
    refine ⟨u, XB hp fun m hle => ?_, hk, (LP hp).2 H (te.lvs_ok e)⟩
    rw [te.lvs_enc, te.enc_len] at hle
    obtain ⟨h1, h2⟩ := gC te.E (lvs pre) (lvs post) he hle
    have hC : lvs (pre ++ (.ar n te a :: post)) = lvs pre ++ UJ (n + 1) te.E a ++ lvs post := by rw [DN, Df, Su, List.append_assoc]
    simp only [TV.enc, Lm, aJ hl, hC]
    have hb : base + i.toNat * te.sz + off = (lvs pre).length + i.toNat * te.E.sz + off := by rw [hpre]; rfl
    rw [hb, if_pos ⟨trivial, h1⟩, h2, te.lvs_enc]
    rfl
   ·cases h
  ·cases h
 ·rename_i id ver te n i off
  split at h
  ·rename_i l hl
   obtain ⟨e, he, h⟩ := Option.bind_eq_some_iff.1 h
   obtain ⟨u, hp, hk⟩ := Ot h
   obtain ⟨hb, _⟩ := X2 hH (hv (.own id ver te n) (by simp [TV.refs])) hl
   refine ⟨u, XB hp fun m hle => ?_, hk, (LP hp).2 H (te.lvs_ok e)⟩
   rw [te.lvs_enc, te.enc_len] at hle
   obtain ⟨h1, h2⟩ := jX te.E he hle
   simp only [TV.enc, Lm, hb]
   rw [if_pos ⟨trivial, h1⟩]
   show some (List.take m (List.drop (i.toNat * te.E.sz + off) (te.E.cl l))) = _
   rw [h2, te.lvs_enc]
   rfl
  ·cases h
 ·cases h
theorem de {op : BinOp} {kx : IntKind} {a b : Int} {v : AG} (h : Xd op kx a b = some v) : op ≠ .shl ∧ op ≠ .shr := by
 constructor <;> rintro rfl <;> cases h
theorem dg {op : BinOp} {t : TypeId} {x y : TV} (h : jY P op t x y k = some r) : ∃ u, cQ P op t x.enc y.enc = some u.enc ∧ k u = some r ∧ u.ok H := by
 unfold jY at h
 split at h
 ·rename_i kx a ky b
  simp only [TV.enc, Ar.one, cQ]
  split at h
  ·obtain ⟨hb, h⟩ := W7 h
   have hb' : ¬ b < 0 := by simpa using hb
   refine ⟨_, ?_, h, Gd trivial⟩
   simp only [Wv, if_neg hb', TV.enc, Ar.one]
  ·obtain ⟨hb, h⟩ := W7 h
   have hb' : ¬ b < 0 := by simpa using hb
   refine ⟨_, ?_, h, Gd trivial⟩
   simp only [Wv, if_neg hb', TV.enc, Ar.one]
  ·split at h
   ·rename_i hk
    obtain ⟨hb, h⟩ := W7 h
    have hb' : ¬ b = 0 := by simpa using hb
    refine ⟨_, ?_, h, Gd trivial⟩
    simp only [if_pos hk, Xd, if_neg hb', TV.enc, Ar.one]
   ·cases h
  ·split at h
   ·rename_i hk
    obtain ⟨hb, h⟩ := W7 h
    have hb' : ¬ b = 0 := by simpa using hb
    refine ⟨_, ?_, h, Gd trivial⟩
    simp only [if_pos hk, Xd, if_neg hb', TV.enc, Ar.one]
   ·cases h
  ·rename_i h1 h2 h3 h4
   split at h
   ·rename_i hk
    obtain ⟨v, hv, h⟩ := Wq h
    refine ⟨_, ?_, h, Vd v⟩
    rw [Vc]
    obtain ⟨q1, q2⟩ := de hv
    cases op <;> first | exact absurd rfl q1 | exact absurd rfl q2 | (simp only [if_pos hk]; exact hv)
   ·cases h
 ·rename_i a b
  simp only [TV.enc, Ar.one, cQ]
  split at h
  ·split at h
   ·rename_i hk; exact ⟨_, by simp only [if_pos hk, TV.enc, Ar.one], h, Gd trivial⟩
   ·cases h
  ·split at h
   ·rename_i hk; exact ⟨_, by simp only [if_pos hk, TV.enc, Ar.one], h, Gd trivial⟩
   ·cases h
  ·cases h
 ·rename_i a b
  simp only [TV.enc, Ar.one, cQ]
  split at h
  ·obtain ⟨s, hs, h⟩ := Option.bind_eq_some_iff.1 h
   exact ⟨_, by simp only [bg, TV.enc, Ar.one]; exact o_sapp hs, h, Gd trivial⟩
  ·obtain ⟨v, hv, h⟩ := Wq h
   exact ⟨_, by rw [Vc]; exact hv, h, Vd v⟩
 ·rename_i as bs
  split at h
  ·rename_i ks hks
   split at h
   ·rename_i hty
    simp only [TV.enc, cQ, hks, if_pos hty]
    split at h
    ·exact ⟨_, by simp only [TV.enc, Ar.one, eqT], h, Gd trivial⟩
    ·exact ⟨_, by simp only [TV.enc, Ar.one, eqT], h, Gd trivial⟩
    ·cases h
   ·cases h
  ·cases h
 ·cases h
theorem fv {op : UnOp} {v : TV} (h : unT op v k = some r) : ∃ u, unV op v.enc = some u.enc ∧ k u = some r ∧ u.ok H := by
 unfold unT at h
 split at h
 ·obtain ⟨v, hv, h⟩ := Wq h
  exact ⟨_, by rw [Vc]; exact hv, h, Vd v⟩
 ·cases h
theorem cl_u8 (l : List Int) : (Ty.int .u8).E.cl l = l.map (bu .u8).f := by
 unfold Ln.cl
 induction l with
 | nil => rfl
 | cons n l ih => simp only [List.map_cons, List.flatMap_cons, ih]; rfl
theorem fO {src dst : TypeId} {kk : IntKind} {n : Int} {AH : AU} : PI P AH src dst (.int kk n) = PI P [] src dst (.int kk n) := by
 unfold PI; cases kd P dst <;> rfl
theorem fP {src dst : TypeId} {s : List UInt8} {AH : AU} : PI P AH src dst (.str s) = PI P [] src dst (.str s) := by
 unfold PI; cases kd P dst <;> rfl
theorem cV {src dst : TypeId} {v : TV} (hH : ∀ e ∈ H, e.ok H) (hv : v.ok H) (h : gN P H src dst v k = some r) : ∃ u, PI P (Ah H) src dst v.enc = some u.enc ∧ k u = some r ∧ u.ok H := by
 unfold gN at h
 split at h
 ·rename_i l
  split at h
  ·rename_i hk
   refine ⟨_, ?_, h, Gd trivial⟩
   exact gv l hk.1 hk.2
  ·cases h
 ·rename_i id ver n
  split at h
  ·rename_i hk
   split at h
   ·rename_i l hl
    obtain ⟨hb, hn⟩ := X2 hH (hv (.own id ver (.int .u8) n) (by simp [TV.refs])) hl
    refine ⟨_, ?_, h, Gd trivial⟩
    simp only [TV.enc, Ar.one, PI, hk.1, hk.2, if_true, rowsOf, hb]
    rw [if_pos ⟨trivial, rfl, by rw [(Ty.int .u8).E.clen, hn]; show 0 + n ≤ n * 1; omega⟩]
    have : ((Ty.int .u8).E.cl l).length = n := by rw [(Ty.int .u8).E.clen, hn]; exact Nat.mul_one n
    rw [List.drop_zero, ← this, List.take_length, cl_u8]
    exact congrArg (Option.map AG.str) (cL l)
   ·cases h
  ·cases h
 ·obtain ⟨v, hv, h⟩ := Wq h
  exact ⟨_, by rw [Vc]; exact fO.trans hv, h, Vd v⟩
 ·obtain ⟨v, hv, h⟩ := Wq h
  exact ⟨_, by rw [Vc]; exact fP.trans hv, h, Vd v⟩
 ·cases h
end
end Go.Ab
namespace Go.Ab
section
variable {P : Program} {R : Type} {H : AS} {k : TV → Option R} {r : R}
theorem WS {id : Nat} {cs : List Ar} (h : PB H id = some cs) : Mh (Ah H) id 0 = true := by
 simp [Mh, aJ h]
theorem Ze {id ver n : Nat} {t : Ty} {l : List t.D} (hH : ∀ e ∈ H, e.ok H) (hr : OK H id ver t n) (h : WE H id ver t = some l) : Mh (Ah H) id n = true := by
 simp [Mh, (X2 hH hr h).1]
theorem Yr {s f : Nat} {v : TV} (hH : ∀ e ∈ H, e.ok H) (hv : v.ok H) (h : Xm P H s f v k = some r) : ∃ u, ON P (Ah H) s f v.enc = some u.enc ∧ k u = some r ∧ u.ok H := by
 unfold Xm at h
 split at h
 ·rename_i off t n hf
  split at h
  ·cases h
  ·rename_i hn
   have hn' : n ≠ 0 := fun e => by subst e; cases hn
   unfold ON
   simp only [hf, if_neg hn']
   split at h
   ·rename_i id o
    split at h
    ·rename_i cs hl
     exact ⟨_, by simp only [TV.enc, Ar.one, shift, WS hl, if_true], h, Gd trivial⟩
    ·cases h
   ·rename_i cs post
    split at h
    ·rename_i a b hs
     obtain ⟨rfl, ha⟩ := KD hs
     refine ⟨_, ?_, h, (Dj.1 hv).2⟩
     simp only [TV.enc, shift]
     rw [if_pos (by simp only [List.length_append, DN]; omega), DN, List.append_assoc, ← ha, List.drop_left]
    ·cases h
   ·rename_i id base n te i o
    split at h
    ·rename_i cs hl
     refine ⟨_, ?_, h, fun _ h => by cases h⟩
     simp only [TV.enc, shift, WS hl, if_true, Nat.add_assoc]
    ·cases h
   ·rename_i id ver te n i o
    split at h
    ·rename_i l hl
     refine ⟨_, ?_, h, hv⟩
     simp only [TV.enc, shift, Ze hH (hv (.own id ver te n) (by simp [TV.refs])) hl, if_true, Nat.add_assoc]
    ·cases h
   ·cases h
 ·cases h
theorem cE {t : TypeId} {cs : List Ar} {off : Nat} {v : TV} (h : part P t cs off = some v) {C : List AG} {o : Nat} (hC : ∀ n, off + n ≤ (lvs cs).length → o + n ≤ C.length ∧ (C.drop o).take n = ((lvs cs).drop off).take n) : ZS P t C o = some v.enc := by
 obtain ⟨⟨n, h1 | h1⟩, _⟩ := LP h
 ·obtain ⟨ht, hle, hv⟩ := h1
  obtain ⟨q1, q2⟩ := hC n hle
  simp only [ZS, ht, if_pos q1, q2, hv]
 ·obtain ⟨ht, hv⟩ := h1
  have hl : off < (lvs cs).length := by
   rcases Nat.lt_or_ge off (lvs cs).length with h2 | h2
   ·exact h2
   ·rw [List.getElem?_eq_none h2] at hv; cases hv
  obtain ⟨q1, q2⟩ := hC 1 hl
  simp only [ZS, ht]
  have := congrArg List.head? q2
  rw [List.head?_take, List.head?_drop, List.head?_take, List.head?_drop, hv] at this
  simpa using this
theorem bw {s f : Nat} {v : TV} (hv : v.ok H) (h : dn P s f v k = some r) : ∃ u, Z1 P s f v.enc = some u.enc ∧ k u = some r ∧ u.ok H := by
 unfold dn at h
 split at h
 ·rename_i off t n cs hf
  obtain ⟨u, hp, hk⟩ := Ot h
  refine ⟨u, ?_, hk, (LP hp).2 H hv⟩
  simp only [Z1, hf, TV.enc]
  exact cE hp fun n hle => ⟨hle, rfl⟩
 ·cases h
theorem Zn {n : Nat} {α : Type} {a : MN n α} {i : Int} {x : α} (h : aget a i = some x) : 0 ≤ i ∧ i < n := by
 obtain ⟨h0, j, rfl, _⟩ := Yd h
 exact ⟨h0, by have := j.isLt; omega⟩
theorem Yz {t : TypeId} {v i : TV} (hH : ∀ e ∈ H, e.ok H) (hv : v.ok H) (h : Xo P H t v i k = some r) : ∃ u, OS P (Ah H) t v.enc i.enc = some u.enc ∧ k u = some r ∧ u.ok H := by
 unfold Xo at h
 split at h
 ·rename_i kk i
  simp only [TV.enc, Ar.one, OS]
  split at h
  ·rename_i len el sz he
   simp only [he]
   split at h
   ·rename_i id off
    split at h
    ·rename_i cs hl
     split at h
     ·rename_i pre n te a post hs
      split at h
      ·rename_i hc
       obtain ⟨rfl, rfl⟩ := hc
       obtain ⟨e, hg, h⟩ := Option.bind_eq_some_iff.1 h
       refine ⟨_, ?_, h, fun _ h => by cases h⟩
       rw [if_pos (Zn hg)]
       simp only [TV.enc, Ar.one, shift, WS hl, if_true, Nat.add_zero]
      ·cases h
     ·cases h
    ·cases h
   ·rename_i n te a rr post
    split at h
    ·rename_i hc
     obtain ⟨rfl, rfl⟩ := hc
     obtain ⟨e, hg, h⟩ := Option.bind_eq_some_iff.1 h
     refine ⟨_, ?_, h, te.lvs_ok e⟩
     rw [if_pos (Zn hg)]
     obtain ⟨_, h1, h2, _⟩ := gG te.E hg [] []
     simp only [List.nil_append, List.append_nil, List.length_nil, Nat.zero_add] at h1 h2
     have h1' : i.toNat * te.sz + te.sz ≤ (UJ (n + 1) te.E a).length := h1
     simp only [TV.enc, shift, Df, Su]
     rw [if_pos (by simp only [List.length_append]; omega)]
     rw [te.lvs_enc, List.append_assoc, List.drop_append_of_le_length (by omega)]
     have e1 : (UJ (n + 1) te.E a).drop (i.toNat * te.sz) = (te.enc e).cells ++ (UJ (n + 1) te.E a).drop (i.toNat * te.sz + te.sz) := by
      rw [← List.drop_drop]
      have h3 : ((UJ (n + 1) te.E a).drop (i.toNat * te.sz)).take te.sz = (te.enc e).cells := h2
      rw [← h3, List.take_append_drop]
     rw [e1, List.append_assoc]
     rfl
    ·cases h
   ·cases h
  ·rename_i el sz he
   simp only [he]
   split at h
   ·rename_i te l
    split at h
    ·rename_i hc
     subst hc
     obtain ⟨e, hg, h⟩ := Option.bind_eq_some_iff.1 h
     obtain ⟨q1, q2⟩ := o_ix (f := te.enc) hg
     refine ⟨_, ?_, h, te.lvs_ok e⟩
     simp only [TV.enc, Ar.one]
     rw [if_pos ⟨q1, trivial⟩, q2, te.lvs_enc, List.append_nil]
     rfl
    ·cases h
   ·rename_i id ver te n
    split at h
    ·rename_i l hl
     split at h
     ·rename_i hc
      subst hc
      obtain ⟨e, hg, h⟩ := Option.bind_eq_some_iff.1 h
      have hr := hv (.own id ver te n) (by simp [TV.refs])
      obtain ⟨hb, hn⟩ := X2 hH hr hl
      refine ⟨.bptr id ver te n i 0, ?_, h, fun x hx => by simp only [TV.refs, List.mem_singleton] at hx; subst hx; exact hr⟩
      obtain ⟨_, _, _, _, h0, h1, _, _⟩ := Zu te.E hg
      simp only [TV.enc, Ar.one]
      rw [if_pos ⟨h0, by omega, trivial, Ze hH hr hl⟩, Nat.zero_add, Nat.add_zero]
     ·cases h
    ·cases h
   ·cases h
  ·cases h
 ·cases h
theorem YF {e : TypeId} {sz : Nat} {cs : List Ar} {i : Int} (hv : lok H cs) : ∀ {m j : Nat}, bk P e sz cs i k m j = some r → ∃ u, (0 ≤ i ∧ i < ((j + m : Nat) : Int)) ∧ ZS P e (lvs cs) (i.toNat * sz) = some u.enc ∧ k u = some r ∧ u.ok H
 | 0, j, h => by cases h
 | m + 1, j, h => by
  simp only [bk] at h
  cases hb : decide (i = Int.ofNat j) with
  | true =>
   rw [hb] at h
   have hi : i = (j : Int) := by simpa using hb
   obtain ⟨u, hp, hk⟩ := Ot h
   subst hi
   refine ⟨u, ⟨by omega, by omega⟩, ?_, hk, (LP hp).2 H hv⟩
   exact cE hp fun n hle => ⟨by simpa using hle, rfl⟩
  | false =>
   rw [hb] at h
   obtain ⟨u, q1, q2⟩ := YF hv (m := m) (j := j + 1) h
   exact ⟨u, ⟨q1.1, by omega⟩, q2⟩
theorem cA {t : TypeId} {v i : TV} (hv : v.ok H) (h : dt P t v i k = some r) : ∃ u, Wo P t v.enc i.enc = some u.enc ∧ k u = some r ∧ u.ok H := by
 unfold dt at h
 split at h
 ·rename_i kk i
  split at h
  ·rename_i n te a
   split at h
   ·rename_i len el sz he
    split at h
    ·rename_i hc
     obtain ⟨rfl, rfl⟩ := hc
     obtain ⟨e, hg, h⟩ := Option.bind_eq_some_iff.1 h
     obtain ⟨u, hp, hk⟩ := Ot h
     refine ⟨u, ?_, hk, (LP hp).2 H (te.lvs_ok e)⟩
     simp only [TV.enc, Ar.one, Wo, he]
     rw [if_pos (Zn hg)]
     refine cE hp fun m hle => ?_
     rw [te.lvs_enc, te.enc_len, Nat.zero_add] at hle
     obtain ⟨h1, h2⟩ := gC te.E (off := 0) [] [] hg (m := m) (by rw [Nat.zero_add]; exact hle)
     simp only [List.nil_append, List.append_nil, List.length_nil, Nat.zero_add, Nat.add_zero, List.drop_zero] at h1 h2
     have e1 : lvs [Ar.ar n te a] = UJ (n + 1) te.E a := by rw [Df, Su]; simp [lvs]
     rw [e1, te.lvs_enc, List.drop_zero]
     exact ⟨h1, h2⟩
    ·cases h
   ·cases h
  ·rename_i cs _
   split at h
   ·rename_i len el sz he
    split at h
    ·obtain ⟨u, q1, q2, q3⟩ := YF (cs := cs) (H := H) hv h
     refine ⟨u, ?_, q3⟩
     simp only [TV.enc, Ar.one, Wo, he]
     rw [if_pos (by simpa using q1), q2]
    ·cases h
   ·cases h
  ·rename_i s
   split at h
   ·rename_i hk
    obtain ⟨b, hb, h⟩ := Option.bind_eq_some_iff.1 h
    exact ⟨_, by simp only [TV.enc, Ar.one]; exact o_six hb hk, h, Gd trivial⟩
   ·cases h
  ·cases h
 ·cases h
theorem X1 {d : Nat} {o : Option TV} {l : Int} (h : fK d o = some l) (h0 : 0 ≤ l) : Oz d (o.map TV.enc) = some l.toNat := by
 unfold fK at h
 split at h
 ·injection h with h; subst h; simp [Oz]
 ·injection h with h; subst h; simp [Oz, TV.enc, Ar.one, aO, h0]
 ·cases h
theorem cH {t : TypeId} {v : TV} {lo hi mx : Option TV} (h : eK P t v lo hi mx k = some r) : ∃ u, Ww P (Ah H) t v.enc (lo.map TV.enc) (hi.map TV.enc) (mx.map TV.enc) = some u.enc ∧ k u = some r ∧ u.ok H := by
 unfold eK at h
 split at h
 ·cases h
 ·split at h
  ·rename_i s
   split at h
   ·rename_i l hh hl hhi
    split at h
    ·rename_i hk
     obtain ⟨x, hx, h⟩ := Option.bind_eq_some_iff.1 h
     refine ⟨_, ?_, h, Gd trivial⟩
     unfold ssl at hx
     split at hx
     ·rename_i hc
      injection hx with hx
      subst hx
      simp only [TV.enc, Ar.one, Ww, X1 (d := 0) hl hc.1, X1 hhi (Int.le_trans hc.1 hc.2.1), Option.map_none]
      rw [if_pos ⟨hk, by omega, by omega⟩]
     ·cases hx
    ·cases h
   ·cases h
  ·rename_i te xs
   split at h
   ·rename_i l hh el sz hl hhi he
    split at h
    ·rename_i hk
     subst hk
     obtain ⟨x, hx, h⟩ := Option.bind_eq_some_iff.1 h
     refine ⟨_, ?_, h, Gd trivial⟩
     unfold lsl at hx
     split at hx
     ·rename_i hc
      injection hx with hx
      subst hx
      have hlen : (xs.map te.enc).length = xs.length := List.length_map _
      have b1 := X1 (d := 0) hl hc.1
      have b2 := X1 hhi (Int.le_trans hc.1 hc.2.1)
      have b3 : Oz xs.length none = some xs.length := rfl
      simp only [TV.enc, Ar.one, Ww, hlen, b1, b2, Option.map_none, b3, he]
      rw [if_pos ⟨trivial, by omega, by omega, by omega, by simp⟩, List.map_take, List.map_drop]
     ·cases hx
    ·cases h
   ·cases h
  ·cases h
theorem dv {t : TypeId} {v : TV} (hH : ∀ e ∈ H, e.ok H) (hv : v.ok H) (h : lenT P H t v k = some r) : ∃ u, Zc P (Ah H) t v.enc = some u.enc ∧ k u = some r ∧ u.ok H := by
 unfold lenT at h
 split at h
 ·rename_i s hu
  exact ⟨_, by simp only [Zc, hu, TV.enc, Ar.one], h, Gd trivial⟩
 ·rename_i n e hu
  exact ⟨_, by simp only [Zc, hu, TV.enc, Ar.one], h, Gd trivial⟩
 ·rename_i te l e hu
  exact ⟨_, by simp only [Zc, hu, TV.enc, Ar.one, List.length_map], h, Gd trivial⟩
 ·rename_i e id ver te n hu
  split at h
  ·rename_i l hl
   refine ⟨_, ?_, h, Gd trivial⟩
   simp only [Zc, hu, TV.enc, Ar.one, Ze hH (hv (.own id ver te n) (by simp [TV.refs])) hl, if_true]
  ·cases h
 ·rename_i e hu
  exact ⟨_, by simp only [Zc, hu, TV.enc, Ar.one], h, Gd trivial⟩
 ·cases h
end
end Go.Ab
namespace Go.Ab
theorem Qr {v : TV} {ws : List Ar} (h : v.words = some ws) : v.enc.solid = true ∧ v.enc.cells = lvs ws ∧ ∀ H, v.ok H → lok H ws := by
 unfold TV.words at h
 split at h
 ·rename_i x
  split at h
  ·rename_i hx
   simp only [Bool.and_eq_true] at hx
   injection h with h
   subst h
   refine ⟨hx.2, ?_, fun H hv => hv⟩
   rw [Df, Ar.scalar_enc hx.1]
   exact Ar.scalar_cells hx.1
  ·cases h
 ·injection h with h
  subst h
  exact ⟨rfl, rfl, fun H hv => hv⟩
 ·cases h
theorem XD {cs vs cs' : List Ar} {off n : Nat} (h : fm cs off vs n = some cs') (hn : (lvs vs).length = n) : lvs cs' = Pn (lvs cs) off (lvs vs) ∧ off + n ≤ (lvs cs).length ∧ ∀ H, lok H cs → lok H vs → lok H cs' := by
 unfold fm at h
 split at h
 ·rename_i a r hs
  obtain ⟨rfl, ha⟩ := KD hs
  split at h
  ·rename_i m b hs2
   obtain ⟨rfl, hm⟩ := KD hs2
   injection h with h
   subst h
   refine ⟨?_, by simp only [DN, List.length_append]; omega, fun H h1 h2 => ?_⟩
   ·unfold Pn
    simp only [DN]
    rw [← ha, List.take_left, ← List.drop_drop, List.drop_left, hn, ← hm, List.drop_left]
    simp
   ·obtain ⟨q1, q2⟩ := Dj.1 h1
    exact Dj.2 ⟨q1, Dj.2 ⟨h2, (Dj.1 q2).2⟩⟩
  ·cases h
 ·cases h
mutual
theorem Ty.zlvs_ok {H : AS} : ∀ t : Ty, lok H t.zlvs
 | .bool => fun y hy => by simp only [Ty.zlvs, List.mem_singleton] at hy; subst hy; trivial
 | .int _ => fun y hy => by simp only [Ty.zlvs, List.mem_singleton] at hy; subst hy; trivial
 | .str => fun y hy => by simp only [Ty.zlvs, List.mem_singleton] at hy; subst hy; trivial
 | .list _ => fun y hy => by simp only [Ty.zlvs, List.mem_singleton] at hy; subst hy; trivial
 | .arr n t => fun y hy => by simp only [Ty.zlvs, List.mem_singleton] at hy; subst hy; trivial
 | .prod ts => by simp only [Ty.zlvs]; exact ts.zlvs_ok
theorem NJ.zlvs_ok {H : AS} : ∀ ts : NJ, lok H ts.zlvs
 | .one t => by simp only [NJ.zlvs]; exact t.zlvs_ok
 | .cons t ts => by simp only [NJ.zlvs]; exact Dj.2 ⟨t.zlvs_ok, ts.zlvs_ok⟩
end
theorem fY (v : AG) : (bJ v).enc = [v] := by cases v <;> rfl
theorem gk {H : AS} (v : AG) : (bJ v).ok H := by cases v <;> trivial
theorem Y1 : ∀ z : List AG, lvs (z.map bJ) = z
 | [] => rfl
 | v :: r => by rw [List.map_cons, Df, Y1 r, fY]; rfl
theorem fA {H : AS} (z : List AG) : lok H (z.map bJ) := fun x hx => by
 obtain ⟨v, _, rfl⟩ := List.mem_map.1 hx
 exact gk v
theorem Qt {P : Program} {t : TypeId} {z : List Ar} (h : af P t = some z) : UG P t = some (lvs z) ∧ ∀ H, lok H z := by
 unfold af at h
 split at h
 ·rename_i a ha
  split at h
  ·rename_i ty hty
   split at h
   ·rename_i hb
    injection h with h
    subst h
    exact ⟨by rw [ha, W3 _ _ hb], fun H => ty.zlvs_ok⟩
   ·injection h with h
    subst h
    exact ⟨by rw [ha, Y1], fun H => fA a⟩
  ·injection h with h
   subst h
   exact ⟨by rw [ha, Y1], fun H => fA a⟩
 ·cases h
theorem Z2 {p : Rs} : ∀ {parts : List (Nat × TV)} {cs cs' : List Ar}, cn p cs parts = some cs' → ZK p (lvs cs) (parts.map fun q => (q.1, q.2.enc)) = some (lvs cs') ∧ ∀ H, lok H cs → (∀ q ∈ parts, q.2.ok H) → lok H cs'
 | [], cs, cs', h => by
  simp only [cn, Option.some.injEq] at h
  subst h
  exact ⟨rfl, fun H h _ => h⟩
 |(i, v) :: r, cs, cs', h => by
  simp only [cn] at h
  split at h
  ·rename_i off size ws hp hw
   split at h
   ·rename_i hs
    have hs' := Nat.eq_of_beq_eq_true hs
    split at h
    ·rename_i c2 hset
     obtain ⟨w1, w2, w3⟩ := Qr hw
     obtain ⟨s1, s2, s3⟩ := XD hset (by rw [UF, hs'])
     obtain ⟨q1, q2⟩ := Z2 h
     refine ⟨?_, fun H hl hv => q2 H (s3 H hl (w3 H (hv (i, v) (by simp)))) fun q hq => hv q (by simp [hq])⟩
     simp only [List.map_cons, ZK, hp]
     rw [if_pos ⟨w1, by rw [w2, UF, hs'], s2⟩, w2, ← s1]
     exact q1
    ·cases h
   ·cases h
  ·cases h
section
variable {P : Program} {R : Type} {env : As} {H : AS} {k : TV → Option R} {r : R}
theorem cR {t : TypeId} {parts : List (Nat × TV)} {v : TV} (h : dj P t parts = some v) : Zr P t (parts.map fun q => (q.1, q.2.enc)) = some v.enc ∧ ((∀ q ∈ parts, q.2.ok H) → v.ok H) := by
 unfold dj at h
 split at h
 ·rename_i z p hz hp
  obtain ⟨z1, z2⟩ := Qt hz
  rw [Option.map_eq_some_iff] at h
  obtain ⟨cs, hf, rfl⟩ := h
  obtain ⟨f1, f2⟩ := Z2 hf
  refine ⟨?_, fun hv => f2 H (z2 H) hv⟩
  simp only [Zr, z1, hp, f1, Option.map_some, TV.enc]
 ·cases h
theorem Y7 : ∀ {l : List TV} {m : List AG}, aT l = some m → m = l.map TV.enc
 | [], m, h => by simp only [aT, Option.some.injEq] at h; subst h; rfl
 | .c x :: r, m, h => by
  simp only [aT] at h
  split at h
  ·rename_i l' _ hl
   injection h with h
   subst h
   rw [List.map_cons, ← Y7 hl]
   rfl
  ·cases h
 | .g _ :: _, m, h => by simp [aT] at h
 | .aptr .. :: _, m, h => by simp [aT] at h
 | .bptr .. :: _, m, h => by simp [aT] at h
 | .vptr .. :: _, m, h => by simp [aT] at h
 | .tup _ :: _, m, h => by simp [aT] at h
theorem bN {mx : Bool} {x y : TV} (h : mmT mx x y k = some r) : ∃ u, jJ mx [x.enc, y.enc] = some u.enc ∧ k u = some r ∧ u.ok H := by
 unfold mmT at h
 split at h
 ·exact ⟨_, by simp only [TV.enc, Ar.one, jJ], h, Gd trivial⟩
 ·cases h
theorem d3 {x y z : TV} (h : mm3T x y z k = some r) : ∃ u, mm3 x.enc y.enc z.enc = some u.enc ∧ k u = some r ∧ u.ok H := by
 unfold mm3T at h
 split at h
 ·exact ⟨_, by simp only [TV.enc, Ar.one, mm3], h, Gd trivial⟩
 ·cases h
theorem bT {op : Op} (ok : Lo env H) (h : iv P env H op k = some r) : ∃ v, BN P (BW env) (Ah H) op = some v.enc ∧ k v = some r ∧ v.ok H := by
 have eo : ∀ x, (GX env x).ok H := Ur ok.env
 have en := JR env
 unfold iv at h
 split at h
 ·exact ⟨_, by simp only [BN, en], h, eo _⟩
 ·exact ⟨_, by simp only [BN, en], h, eo _⟩
 ·rename_i c a b
  split at h
  ·rename_i t hc
   have e1 : Al (BW env) c = .bool t := by rw [en, hc]; rfl
   cases t with
   | true => exact ⟨_, by simp only [BN, e1, if_true, en], h, eo _⟩
   | false => exact ⟨_, by simp only [BN, e1, Bool.false_eq_true, if_false, en], h, eo _⟩
  ·cases h
 ·obtain ⟨u, h1, h2⟩ := ZQ ok.heap (eo _) h
  exact ⟨u, by simp only [BN, en, h1], h2⟩
 ·rename_i x
  split at h
  ·rename_i id off hx
   split at h
   ·rename_i cs hl
    have e1 : Al (BW env) x = .ptr id 0 off := by rw [en, hx]; rfl
    exact ⟨_, by simp only [BN, e1, WS hl, if_true, TV.enc, Ar.one], h, Gd trivial⟩
   ·cases h
  ·rename_i f a b hx
   have e1 : Al (BW env) x = .fn (.func f) a b := by rw [en, hx]; rfl
   exact ⟨_, by simp only [BN, e1, TV.enc, Ar.one], h, Gd trivial⟩
  ·rename_i cs post hx
   have e1 : Al (BW env) x = .vptr (lvs cs ++ post) := by rw [en, hx]; rfl
   have := eo x
   rw [hx] at this
   exact ⟨_, by simp only [BN, e1, TV.enc], h, this⟩
  ·rename_i id base n te i off hx
   split at h
   ·rename_i cs hl
    have e1 : Al (BW env) x = .ptr id 0 (base + i.toNat * te.sz + off) := by rw [en, hx]; rfl
    have := eo x
    rw [hx] at this
    exact ⟨_, by simp only [BN, e1, WS hl, if_true, TV.enc], h, this⟩
   ·cases h
  ·rename_i id ver te n i off hx
   split at h
   ·rename_i l hl
    have e1 : Al (BW env) x = .ptr id n (i.toNat * te.sz + off) := by rw [en, hx]; rfl
    have := eo x
    rw [hx] at this
    exact ⟨_, by simp only [BN, e1, Ze ok.heap (this (.own id ver te n) (by simp [TV.refs])) hl, if_true, TV.enc], h, this⟩
   ·cases h
  ·cases h
 ·obtain ⟨u, h1, h2⟩ := dg (H := H) h
  exact ⟨u, by simp only [BN, en, h1], h2⟩
 ·obtain ⟨u, h1, h2⟩ := fv (H := H) h
  exact ⟨u, by simp only [BN, en, h1], h2⟩
 ·obtain ⟨u, h1, h2⟩ := cV ok.heap (eo _) h
  exact ⟨u, by simp only [BN, en, h1], h2⟩
 ·obtain ⟨u, h1, h2⟩ := Yr ok.heap (eo _) h
  exact ⟨u, by simp only [BN, en, h1], h2⟩
 ·obtain ⟨u, h1, h2⟩ := bw (eo _) h
  exact ⟨u, by simp only [BN, en, h1], h2⟩
 ·obtain ⟨u, h1, h2⟩ := Yz ok.heap (eo _) h
  exact ⟨u, by simp only [BN, en, h1], h2⟩
 ·obtain ⟨u, h1, h2⟩ := cA (H := H) (eo _) h
  exact ⟨u, by simp only [BN, en, h1], h2⟩
 ·rename_i t x lo hi mx
  obtain ⟨u, h1, h2⟩ := cH (H := H) h
  have q : ∀ o : Option Operand, o.map (Al (BW env)) = (o.map (GX env)).map TV.enc := by
   intro o
   cases o with
   | none => rfl
   | some y => simp only [Option.map_some, en]
  exact ⟨u, by simp only [BN, en, q, h1], h2⟩
 ·rename_i x i
  split at h
  ·rename_i vs hx
   split at h
   ·rename_i v hv
    have e1 : Al (BW env) x = .tup (vs.map TV.enc) := by rw [en, hx]; simp only [TV.enc, Zz]
    have e2 := eo x
    rw [hx] at e2
    exact ⟨v, by simp only [BN, e1, List.getElem?_map, hv, Option.map_some], h, Y5 e2 (List.mem_of_getElem? hv)⟩
   ·cases h
  ·cases h
 ·rename_i f a b
  split at h
  ·rename_i l m hl hm
   refine ⟨_, ?_, h, Gd trivial⟩
   have q : ∀ o : List Operand, o.map (Al (BW env)) = (o.map (GX env)).map TV.enc := by
    intro o
    rw [List.map_map]
    exact List.map_congr_left fun y _ => en y
   simp only [BN, q, ← Y7 hl, ← Y7 hm, TV.enc, Ar.one]
  ·cases h
 ·rename_i t parts
  obtain ⟨v, hv, h⟩ := Ot h
  obtain ⟨b1, b2⟩ := cR (H := H) hv
  refine ⟨v, ?_, h, b2 fun q hq => ?_⟩
  ·simp only [BN]
   rw [← b1, List.map_map]
   congr 1
   exact List.map_congr_left fun p _ => by simp only [Function.comp, en]
  ·obtain ⟨p, _, rfl⟩ := List.mem_map.1 hq
   exact eo _
 ·obtain ⟨u, h1, h2⟩ := dv ok.heap (eo _) h
  exact ⟨u, by simp only [BN, en, h1], h2⟩
 ·obtain ⟨u, h1, h2⟩ := bN (H := H) h
  exact ⟨u, by simp only [BN, en, h1], h2⟩
 ·obtain ⟨u, h1, h2⟩ := bN (H := H) h
  exact ⟨u, by simp only [BN, en, h1], h2⟩
 ·obtain ⟨u, h1, h2⟩ := d3 (H := H) h
  exact ⟨u, by simp only [BN, en, h1], h2⟩
 ·cases h
end
end Go.Ab
namespace Go.Ab
def Conv (x y : Cx) (v v' : AG) : Prop := ∀ c, A1 x v c → A1 y v' c
def Nr (x y : Cx) (H H2 : AU) : Prop :=
 H2.length = H.length ∧ ∀ (j : Nat) (e' : Dt), H2[j]? = some e' → e' = .dead ∨
  (∃ g cs cs', H[j]? = some (.live g cs) ∧ e' = .live g cs' ∧ cs'.length = cs.length ∧ ∀ (i : Nat) (v' : AG), cs'[i]? = some v' → ∃ v, cs[i]? = some v ∧ Conv x y v v') ∨
  (H[j]? = some e' ∧ ∀ g cs, e' ≠ .live g cs)
theorem Nr.refl (x : Cx) (H : AU) : Nr x x H H := by
 refine ⟨rfl, fun j e' hj => ?_⟩
 cases e' with
 | dead => exact .inl rfl
 | live g c => exact .inr (.inl ⟨g, c, c, hj, rfl, rfl, fun i v hi => ⟨v, hi, fun _ r => r⟩⟩)
 | _ => exact .inr (.inr ⟨hj, by simp⟩)
theorem Nr.own {x y : Cx} {H H2 : AU} {h : Gh} (hr : Nr x y H H2) : ∀ B, owned h H2 B → owned h H B := by
 rintro B ⟨j, e', hj, hne, hio⟩
 rcases hr.2 j e' hj with h1 | ⟨g, cs, cs', h1, _⟩ | ⟨h1, _⟩
 ·exact (hne h1).elim
 ·exact ⟨j, _, h1, by simp, hio⟩
 ·exact ⟨j, _, h1, hne, hio⟩
theorem Nr.later {X : Nat → Prop} {h : Gh} {H H2 : AU} {w : World} {x y : Cx} (hr : Nr x y H H2) : (cx X h H w).Later (cx X h H2 w) :=
 { size := Nat.le_refl _, keep := fun _ _ _ _ => rfl, own := fun B _ ho => ho.imp _root_.id (hr.own B), n := by simp [cx, hr.1], gen := fun _ _ => Nat.le_refl _, same := fun _ _ _ => ⟨rfl, rfl⟩ }
theorem GY.rel {X : Nat → Prop} {h : Gh} {H H2 : AU} {w : World} (s : GY X h H w) (hr : Nr (cx X h H w) (cx X h H2 w) H H2) : GY X h H2 w := by
 have own' := hr.own (h := h)
 have lat : (cx X h H w).Later (cx X h H2 w) := hr.later
 have back : ∀ {j : Nat} {e : Dt}, H2[j]? = some e → e ≠ .dead → ∃ e0, H[j]? = some e0 ∧ e0 ≠ .dead := by
  intro j e hj hne
  rcases hr.2 j e hj with h1 | ⟨g, cs, cs', h1, _⟩ | ⟨h1, _⟩
  ·exact (hne h1).elim
  ·exact ⟨_, h1, by simp⟩
  ·exact ⟨_, h1, hne⟩
 refine ⟨fun B hB => ⟨(s.out B hB).1, fun ho => (s.out B hB).2 (own' B ho)⟩, fun j g0 cs' hj => ?_, fun j L hj => ?_, fun i j e e' B h1 h2 hn1 hn2 h3 h4 => ?_, s.bldKeep fun j e hj hB => ?_⟩
 ·rcases hr.2 j _ hj with h1 | ⟨g, cs, cs1, h1, h2, h3, h4⟩ | ⟨_, h1⟩
  ·cases h1
  ·injection h2 with h5 h6
   subst h5 h6
   obtain ⟨hg, hh⟩ := s.live j g0 cs h1
   refine ⟨hg, ?_⟩
   rcases hh with ⟨hio, h0⟩ | ⟨B, arr, T, fz, f, hio, hb, hcap, hle, hfz, hcells⟩
   ·refine .inl ⟨hio, ?_⟩
    subst h0
    exact List.eq_nil_of_length_eq_zero (by simpa using h3)
   ·refine .inr ⟨B, arr, T, fz, f, hio, hb, hcap, by omega, hfz, fun i v' hi => ?_⟩
    obtain ⟨v, hv, hR⟩ := h4 i v' hi
    obtain ⟨p1, p2, p3⟩ := hcells i v hv
    exact ⟨p1, p2, hR _ p3⟩
  ·exact absurd rfl (h1 _ _)
 ·rcases hr.2 j _ hj with h1 | ⟨g, cs, cs1, _, h2, _⟩ | ⟨h1, _⟩
  ·cases h1
  ·cases h2
  ·obtain ⟨hg, B, r, q1, q2, q3, q4, q5, q6, q7, q8, q9⟩ := s.lp j L h1
   exact ⟨hg, B, r, q1, q2, q3, q4, q5, q6, q7, q8, fun t v m => ⟨(q9 t v m).1, (q9 t v m).2.later lat⟩⟩
 ·obtain ⟨d, hd1, hd2⟩ := back h1 hn1
  obtain ⟨d', hd1', hd2'⟩ := back h2 hn2
  exact s.inj i j _ _ B hd1 hd1' hd2 hd2' h3 h4
 ·refine ⟨?_, rfl, rfl, fun _ _ _ _ _ => rfl⟩
  rcases hr.2 j _ hj with h1 | ⟨g, cs, cs1, _, h2, _⟩ | ⟨h1, _⟩
  ·subst h1; cases hB
  ·subst h2; cases hB
  ·exact h1
theorem Nr.onto {X : Nat → Prop} {h : Gh} {H H2 : AU} {w : World} (hr : Nr (cx X h H w) (cx X h H w) H H2) : Nr (cx X h H w) (cx X h H2 w) H H2 := by
 have lat : (cx X h H w).Later (cx X h H2 w) := hr.later
 refine ⟨hr.1, fun j e' hj => ?_⟩
 rcases hr.2 j e' hj with h1 | ⟨g, cs, cs', h1, h2, h3, h4⟩ | h1
 ·exact .inl h1
 ·refine .inr (.inl ⟨g, cs, cs', h1, h2, h3, fun i v' hi => ?_⟩)
  obtain ⟨v, q1, q2⟩ := h4 i v' hi
  exact ⟨v, q1, fun c r => (q2 c r).later lat⟩
 ·exact .inr (.inr h1)
theorem DP.sem {N : Nat} {env env2 : Env} {H H2 : AU} (hl : H2.length = H.length) (hr : ∀ X h w, GY X h H w → Nr (cx X h H w) (cx X h H2 w) H H2 ∧ ∀ t v', (t, v') ∈ env2 → ∃ v, (t, v) ∈ env ∧ Conv (cx X h H w) (cx X h H2 w) v v') :
  DP N H.length env H env2 H2 := by
 refine ⟨by omega, fun X h a w s => ?_⟩
 obtain ⟨q1, q2⟩ := hr X h w s.sim
 refine ⟨h, ⟨s.sim.rel q1, fun t v' m => ?_, s.size⟩, fun _ _ => ⟨rfl, rfl, rfl⟩, q1.own⟩
 obtain ⟨v, m1, hc⟩ := q2 t v' m
 exact ⟨(s.env t v m1).1, hc _ (s.env t v m1).2⟩
theorem Nr.ext {X : Nat → Prop} {h h0 : Gh} {H H0 H2 : AU} {w w0 : World} {x y : Cx} (hr : Nr x y H H2) (e : FB h0 H0 w0 h H w) : FB h0 H0 w0 h H2 w where
 os := e.os
 tape := e.tape
 output := e.output
 size := e.size
 keep := e.keep
 n := by rw [hr.1]; exact e.n
 gen := e.gen
 same := e.same
 fresh B hB := e.fresh B (hr.own B hB)
 loops := e.loops
theorem Dg.after {P : Program} {N : Nat} {o : Oper} {env : Env} {H : AU} {v v2 : AG} {H1 H2 : AU} (h : Dg P N o env H (Bj v H1))
  (hr : ∀ X h w, GY X h H1 w → Nr (cx X h H1 w) (cx X h H2 w) H1 H2 ∧ Conv (cx X h H1 w) (cx X h H2 w) v v2) : Dg P N o env H (Bj v2 H2) := by
 intro r X h0 a w s Q
 refine OU (h r X h0 a w s Q) ?_
 rintro a' w' ⟨c, u, h', H', ha, ⟨rfl, rfl⟩, hv, hs, hx⟩
 obtain ⟨q1, q2⟩ := hr X h' w' hs
 exact ⟨c, _, h', _, ha, ⟨rfl, rfl⟩, q2 _ hv, hs.rel q1, Nr.ext (X := X) q1 hx⟩
theorem Dg.before {P : Program} {N : Nat} {o : Oper} {env env2 : Env} {H H2 : AU} {K : AG → AU → Prop} (hw : DP N H.length env H env2 H2) (h : Dg P N o env2 H2 K) : Dg P N o env H K := by
 intro r X g a w s Q
 obtain ⟨h2, s2, hg, ho⟩ := hw.2 X g a w s
 refine OU (h r X h2 a w s2 Q) ?_
 rintro a' w' ⟨c, v, h', H', ha, hk, hv, hs, hx⟩
 exact ⟨c, v, h', H', ha, hk, hv, hs, (DP.ext rfl hw.1 hg ho (FB.refl g H w)).trans hx⟩
theorem Bz.before {P : Program} {F : FuncId} {args args2 : List AG} {H H2 : AU} {K : AG → AU → Prop} (hn : args2.length = args.length)
  (hr : ∀ X h w, GY X h H w → Nr (cx X h H w) (cx X h H2 w) H H2 ∧ ∀ (j : Nat) (v' : AG), args2[j]? = some v' → ∃ v, args[j]? = some v ∧ Conv (cx X h H w) (cx X h H2 w) v v')
  (h : Bz P F args2 H2 K) : Bz P F args H K := by
 intro X g w cargs s hsz ha
 obtain ⟨q1, q2⟩ := hr X g w s
 refine (h X g w cargs (s.rel q1) (by omega) fun j v' c hj hc => ?_).mono ?_
 ·obtain ⟨v, hv, hcv⟩ := q2 j v' hj
  exact hcv _ (ha j v c hv hc)
 ·rintro e w' ⟨c, v, h', H', rfl, q, sc, rv, x⟩
  exact ⟨c, v, h', H', rfl, q, sc, rv, (Nr.ext (X := X) q1 (FB.refl g H w)).trans x⟩
def PO (v v' : AG) : Prop := ∀ (x : Cx) (c : Value), A1 x v c → A1 x v' c
theorem PO.refl (v : AG) : PO v v := fun _ _ h => h
theorem PO.nil {sz : Nat} (h : 0 < sz) : PO .nils (.vs sz []) := fun _ _ r => r.nil_vs h
def Bc (cs cs' : List AG) : Prop := cs'.length = cs.length ∧ ∀ (i : Nat) (v' : AG), cs'[i]? = some v' → ∃ v, cs[i]? = some v ∧ PO v v'
theorem Bc.refl (cs : List AG) : Bc cs cs := ⟨rfl, fun _ v h => ⟨v, h, .refl v⟩⟩
theorem Bc.append {a a' b b' : List AG} (h1 : Bc a a') (h2 : Bc b b') : Bc (a ++ b) (a' ++ b') := by
 refine ⟨by simp [h1.1, h2.1], fun i v' h => ?_⟩
 rcases Nat.lt_or_ge i a'.length with hi | hi
 ·rw [List.getElem?_append_left hi] at h
  obtain ⟨v, q1, q2⟩ := h1.2 i v' h
  exact ⟨v, by rw [List.getElem?_append_left (by rw [← h1.1]; exact hi)]; exact q1, q2⟩
 ·rw [List.getElem?_append_right hi] at h
  obtain ⟨v, q1, q2⟩ := h2.2 _ v' h
  exact ⟨v, by rw [List.getElem?_append_right (by rw [← h1.1]; exact hi), ← h1.1]; exact q1, q2⟩
theorem Bc.one {v v' : AG} (h : PO v v') : Bc [v] [v'] := ⟨rfl, fun i u hi => by
 match i, hi with
 | 0, hi => simp at hi; subst hi; exact ⟨v, rfl, h⟩
 | i + 1, hi => simp at hi⟩
theorem Bc.agg {cs cs' : List AG} (h : Bc cs cs') : PO (.agg cs) (.agg cs') := by
 intro x c r
 cases r with
 | agg hs h1 hr =>
  refine .agg (by rw [hs, h.1]) h1 fun j v' d hj hd => ?_
  obtain ⟨v, q1, q2⟩ := h.2 j v' hj
  exact q2 _ _ (hr j v d q1 hd)
end Go.Ab
namespace Go.Ab
mutual
def Ty.mk : (t : Ty) → List Ar → Option (t.D × List Ar)
 | .bool, .bl b :: r => some (b, r)
 | .int k, .it k' n :: r => if k = k' then some (n, r) else none
 | .str, .st s :: r => some (s, r)
 | .list t, .ls t' l :: r => if h : (Ty.list t').beq (Ty.list t) = true then some (Ty.cast h l, r) else none
 | .list _, .nil :: r => some ([], r)
 | .arr n t, .ar n' t' a :: r => if h : (Ty.arr n' t').beq (Ty.arr n t) = true then some (Ty.cast h a, r) else none
 | .prod ts, ls => ts.mk ls
 | _, _ => none
def NJ.mk : (ts : NJ) → List Ar → Option (ts.D × List Ar)
 | .one t, ls => t.mk ls
 | .cons t ts, ls =>
  match t.mk ls with
  | some (x, r) => match ts.mk r with | some (y, r') => some ((x, y), r') | none => none
  | none => none
end
mutual
theorem Ty.mk_spec : ∀ (t : Ty) (ls : List Ar) (x : t.D) (r : List Ar), t.mk ls = some (x, r) → ∃ a, ls = a ++ r ∧ Bc (lvs a) (t.enc x).cells
 | .bool, ls, x, r, h => by
  cases ls with
  | nil => simp [Ty.mk] at h
  | cons y ls =>
   cases y <;> simp only [Ty.mk] at h <;> try (cases h; done)
   simp only [Option.some.injEq, Prod.mk.injEq] at h
   obtain ⟨rfl, rfl⟩ := h
   exact ⟨[_], rfl, Bc.refl _⟩
 | .int k, ls, x, r, h => by
  cases ls with
  | nil => simp [Ty.mk] at h
  | cons y ls =>
   cases y <;> simp only [Ty.mk] at h <;> try (cases h; done)
   split at h
   ·rename_i hk
    subst hk
    simp only [Option.some.injEq, Prod.mk.injEq] at h
    obtain ⟨rfl, rfl⟩ := h
    exact ⟨[_], rfl, Bc.refl _⟩
   ·cases h
 | .str, ls, x, r, h => by
  cases ls with
  | nil => simp [Ty.mk] at h
  | cons y ls =>
   cases y <;> simp only [Ty.mk] at h <;> try (cases h; done)
   simp only [Option.some.injEq, Prod.mk.injEq] at h
   obtain ⟨rfl, rfl⟩ := h
   exact ⟨[_], rfl, Bc.refl _⟩
 | .list t, ls, x, r, h => by
  cases ls with
  | nil => simp [Ty.mk] at h
  | cons y ls =>
   cases y <;> simp only [Ty.mk] at h <;> try (cases h; done)
   ·split at h
    ·rename_i hb
     simp only [Option.some.injEq, Prod.mk.injEq] at h
     obtain ⟨rfl, rfl⟩ := h
     refine ⟨[_], rfl, ?_⟩
     have e1 : ((Ty.list t).enc (Ty.cast hb ‹_›)) = _ := Ty.enc_cast hb _
     rw [e1]
     exact Bc.refl _
    ·cases h
   ·simp only [Option.some.injEq, Prod.mk.injEq] at h
    obtain ⟨rfl, rfl⟩ := h
    exact ⟨[_], rfl, Bc.one (PO.nil t.sz_pos)⟩
 | .arr n t, ls, x, r, h => by
  cases ls with
  | nil => simp [Ty.mk] at h
  | cons y ls =>
   cases y <;> simp only [Ty.mk] at h <;> try (cases h; done)
   split at h
   ·rename_i hb
    simp only [Option.some.injEq, Prod.mk.injEq] at h
    obtain ⟨rfl, rfl⟩ := h
    refine ⟨[_], rfl, ?_⟩
    have e1 : ((Ty.arr n t).enc (Ty.cast hb ‹_›)) = _ := Ty.enc_cast hb _
    rw [e1]
    have e2 : ∀ y : Ar, lvs [y] = y.enc := fun y => by rw [Df]; simp [lvs]
    rw [e2]
    exact Bc.refl _
   ·cases h
 | .prod ts, ls, x, r, h => ts.mk_spec ls x r (by simpa only [Ty.mk] using h)
theorem NJ.mk_spec : ∀ (ts : NJ) (ls : List Ar) (x : ts.D) (r : List Ar), ts.mk ls = some (x, r) → ∃ a, ls = a ++ r ∧ Bc (lvs a) (ts.cells x)
 | .one t, ls, x, r, h => t.mk_spec ls x r (by simpa only [NJ.mk] using h)
 | .cons t ts, ls, x, r, h => by
  simp only [NJ.mk] at h
  split at h
  ·rename_i y r1 h1
   split at h
   ·rename_i z r2 h2
    simp only [Option.some.injEq, Prod.mk.injEq] at h
    obtain ⟨rfl, rfl⟩ := h
    obtain ⟨a, rfl, ha⟩ := t.mk_spec ls y r1 h1
    obtain ⟨b, rfl, hb⟩ := ts.mk_spec r1 z r2 h2
    exact ⟨a ++ b, by rw [List.append_assoc], by rw [DN]; exact ha.append hb⟩
   ·cases h
  ·cases h
end
def Ty.isAgg : Ty → Bool
 | .arr .. => true
 | .prod _ => true
 | _ => false
def Ty.all (t : Ty) (ls : List Ar) : Option t.D :=
 match t.mk ls with
 | some (x, []) => some x
 | _ => none
theorem Ty.all_spec {t : Ty} {ls : List Ar} {x : t.D} (h : t.all ls = some x) : Bc (Go.Ab.lvs ls) (t.enc x).cells := by
 unfold Ty.all at h
 split at h
 ·rename_i y hy
  injection h with h
  subst h
  obtain ⟨a, rfl, ha⟩ := t.mk_spec ls y [] hy
  rw [List.append_nil]
  exact ha
 ·cases h
def Ty.data (t : Ty) (v : TV) : Option t.D :=
 match v with
 | .c x => match t.isAgg || !x.scalar with | true => none | false => t.all [x]
 | .g cs => match t.isAgg with | true => t.all cs | false => none
 | _ => none
theorem Ty.scalar_cells {t : Ty} (h : t.isAgg = false) (x : t.D) : (t.enc x).cells = [t.enc x] := by
 cases t <;> first | rfl | cases h
theorem Ty.agg_enc {t : Ty} (h : t.isAgg = true) (x : t.D) : t.enc x = .agg (t.enc x).cells := by
 cases t <;> first | rfl | cases h
theorem Ty.data_spec {t : Ty} {v : TV} {x : t.D} (h : t.data v = some x) : PO v.enc (t.enc x) := by
 unfold Ty.data at h
 split at h
 ·rename_i y
  split at h
  ·cases h
  ·rename_i hb
   simp only [Bool.or_eq_false_iff, Bool.not_eq_false'] at hb
   have := Ty.all_spec h
   rw [t.scalar_cells hb.1, Df, Ar.scalar_enc hb.2] at this
   obtain ⟨u, hu, hl⟩ := this.2 0 _ rfl
   simp at hu
   subst hu
   exact hl
 ·rename_i cs
  split at h
  ·rename_i hb
   have := (Ty.all_spec h).agg
   rw [← t.agg_enc hb] at this
   exact this
  ·cases h
 ·cases h
def Ty.tv (t : Ty) (x : t.D) : TV :=
 match t, x with
 | .bool, b => .c (.bl b)
 | .int k, n => .c (.it k n)
 | .str, s => .c (.st s)
 | .list t, l => .c (.ls t l)
 | .arr n t, a => .g [.ar n t a]
 | .prod ts, x => .g (ts.lvs x)
theorem Ty.tv_enc (t : Ty) (x : t.D) : (t.tv x).enc = t.enc x := by
 cases t with
 | arr n t =>
  have e2 : ∀ y : Ar, Go.Ab.lvs [y] = y.enc := fun y => by rw [Df]; simp [Go.Ab.lvs]
  simp only [Ty.tv, TV.enc, e2]
  rfl
 | prod ts => simp only [Ty.tv, TV.enc, ts.lvs_cells]; rfl
 | _ => rfl
theorem Ty.tv_ok {H : AS} (t : Ty) (x : t.D) : (t.tv x).ok H := by
 cases t with
 | arr n t => exact fun y hy => by simp only [Ty.tv, TV.refs, List.mem_singleton] at hy; subst hy; trivial
 | prod ts => exact ts.lvs_ok x
 | _ => exact Gd trivial
def Bw.ro : Bw → Bool
 | .dead => false
 | .live b _ => b
 | .buf b _ _ _ _ => b
 | .lp b _ _ _ _ _ _ _ => b
def Bw.isLp : Bw → Bool
 | .lp .. => true
 | _ => false
def fx (H H' : AS) : Prop := ∀ (id : Nat), id < H.length → ∀ ro F n env ps a b s, H'[id]? = some (.lp ro F n env ps a b s) → ∃ ro0 s0, H[id]? = some (.lp ro0 F n env ps a b s0)
theorem fx.refl (H : AS) : fx H H := fun _ _ _ _ _ _ _ _ _ _ h => ⟨_, _, h⟩
def Bw.lock : Bw → Bw
 | .dead => .dead
 | .live _ cs => .live true cs
 | .buf _ t l n ver => .buf true t l n ver
 | .lp _ F n env ps a b s => .lp true F n env ps a b s
theorem aK (e : Bw) : e.lock.enc = e.enc := by cases e <;> rfl
structure BC (H H' : AS) : Prop where
 len : H.length ≤ H'.length
 refs : ∀ id ver t n, OK H id ver t n → OK H' id ver t n
 ro : ∀ (id : Nat) (e : Bw), H[id]? = some e → e.ro = true → H'[id]? = some e
 nb : ∀ id, id < H.length → (∀ t l n ver, H[id]? ≠ some (.buf false t l n ver)) → ∀ t l n ver, H'[id]? ≠ some (.buf false t l n ver)
 lp : fx H H'
theorem BC.refl (H : AS) : BC H H := ⟨Nat.le_refl _, fun _ _ _ _ h => h, fun _ _ h _ => h, fun _ _ h => h, .refl H⟩
theorem BC.trans {a b c : AS} (h : BC a b) (k : BC b c) : BC a c :=
 ⟨Nat.le_trans h.len k.len, fun id ver t n q => k.refs id ver t n (h.refs id ver t n q), fun id e q r => k.ro id e (h.ro id e q r) r, fun id q r => k.nb id (Nat.lt_of_lt_of_le q h.len) (h.nb id q r), fun id q _ _ _ _ _ _ _ _ r => by
  obtain ⟨ro1, s1, r1⟩ := k.lp id (Nat.lt_of_lt_of_le q h.len) _ _ _ _ _ _ _ _ r
  exact h.lp id q _ _ _ _ _ _ _ _ r1⟩
theorem BC.leaf {H H' : AS} (h : BC H H') {x : Ar} (k : x.ok H) : x.ok H' := by
 cases x with
 | own id ver t n => exact h.refs id ver t n k
 | _ => trivial
theorem BC.lok {H H' : AS} (h : BC H H') {cs : List Ar} (k : lok H cs) : lok H' cs := fun x hx => h.leaf (k x hx)
theorem BC.tv {H H' : AS} (h : BC H H') {v : TV} (k : v.ok H) : v.ok H' := h.lok k
theorem BC.ent {H H' : AS} (h : BC H H') {e : Bw} (k : e.ok H) : e.ok H' := by
 cases e with
 | live b cs => exact h.lok k
 | buf b t l n ver => exact k
 | dead => trivial
 | lp => exact k
theorem BC.env {H H' : AS} (h : BC H H') {env : As} (k : ∀ p ∈ env, p.2.ok H) : ∀ p ∈ env, p.2.ok H' := fun p hp => h.tv (k p hp)
theorem BC.push (H : AS) (e : Bw) : BC H (H ++ [e]) := by
 refine ⟨by simp, fun id ver t n h => ⟨by have := h.1; simp; omega, fun ro t' l n' ver' he => ?_⟩, fun id e' he hr => ?_, fun id hid h => by rw [List.getElem?_append_left hid]; exact h, fun id hid _ _ _ _ _ _ _ _ h => by rw [List.getElem?_append_left hid] at h; exact ⟨_, _, h⟩⟩
 ·rw [List.getElem?_append_left h.1] at he
  exact h.2 ro t' l n' ver' he
 ·have : id < H.length := by
   rcases Nat.lt_or_ge id H.length with h2 | h2
   ·exact h2
   ·rw [List.getElem?_eq_none h2] at he; cases he
  rw [List.getElem?_append_left this]
  exact he
theorem BC.set {H : AS} {id : Nat} {e e' : Bw} (he : H[id]? = some e) (hr : e.ro = false)
  (hb : ∀ ro t l n ver, e' = .buf ro t l n ver → ∃ ro0 l0 n0 ver0, e = .buf ro0 t l0 n0 ver0 ∧ (ver0 < ver ∨ (ver0 = ver ∧ n0 = n)))
  (hl : ∀ ro F n env ps a b s, e' = .lp ro F n env ps a b s → ∃ ro0 s0, e = .lp ro0 F n env ps a b s0 := by intro _ _ _ _ _ _ _ _ h; cases h) : BC H (H.set id e') := by
 have hid : id < H.length := by
  rcases Nat.lt_or_ge id H.length with h2 | h2
  ·exact h2
  ·rw [List.getElem?_eq_none h2] at he; cases he
 refine ⟨by simp, fun j ver t n h => ⟨by simpa using h.1, fun ro t' l n' ver' hj => ?_⟩, fun j e0 hj h0 => ?_, fun j hj h t l n ver hq => ?_, fun j hj _ _ _ _ _ _ _ _ hq => ?_⟩
 ·by_cases hji : j = id
  ·subst hji
   rw [List.getElem?_set_self hid] at hj
   injection hj with hj
   obtain ⟨ro0, l0, n0, ver0, q1, q2⟩ := hb _ _ _ _ _ hj
   subst q1
   obtain ⟨p1, p2⟩ := h.2 _ _ _ _ _ he
   rcases q2 with q2 | ⟨rfl, rfl⟩
   ·exact ⟨by omega, fun e => by omega⟩
   ·exact ⟨p1, p2⟩
  ·rw [List.getElem?_set_ne (fun e => hji e.symm)] at hj
   exact h.2 _ _ _ _ _ hj
 ·have hji : j ≠ id := by
   rintro rfl
   rw [he] at hj
   injection hj with hj
   subst hj
   rw [hr] at h0
   cases h0
  rw [List.getElem?_set_ne (fun e => hji e.symm)]
  exact hj
 ·by_cases hji : j = id
  ·subst hji
   rw [List.getElem?_set_self hid] at hq
   injection hq with hq
   obtain ⟨ro0, l0, n0, ver0, q1, _⟩ := hb _ _ _ _ _ hq
   subst q1
   have : ro0 = false := hr
   subst this
   exact h _ _ _ _ he
  ·rw [List.getElem?_set_ne (fun e => hji e.symm)] at hq
   exact h _ _ _ _ hq
 ·by_cases hji : j = id
  ·subst hji
   rw [List.getElem?_set_self hid] at hq
   injection hq with hq
   obtain ⟨ro0, s0, q⟩ := hl _ _ _ _ _ _ _ _ hq
   exact ⟨ro0, s0, by rw [he, q]⟩
  ·rw [List.getElem?_set_ne (fun e => hji e.symm)] at hq
   exact ⟨_, _, hq⟩
theorem LJ {H : AS} {e : Bw} (h : ∀ x ∈ H, x.ok H) (he : e.ok (H ++ [e])) : ∀ x ∈ H ++ [e], x.ok (H ++ [e]) := by
 intro x hx
 rcases List.mem_append.1 hx with hx | hx
 ·exact (BC.push H e).ent (h x hx)
 ·simp at hx
  subst hx
  exact he
theorem Oa {H : AS} {id : Nat} {e' : Bw} (hs : BC H (H.set id e')) (h : ∀ x ∈ H, x.ok H) (he : e'.ok (H.set id e')) : ∀ x ∈ H.set id e', x.ok (H.set id e') := by
 intro x hx
 rcases List.mem_or_eq_of_mem_set hx with hx | rfl
 ·exact hs.ent (h x hx)
 ·exact he
def Frame (F : List Nat) (H H' : AS) : Prop := ∀ j, j < H.length → j ∉ F → H'[j]? = H[j]?
theorem Frame.refl (F : List Nat) (H : AS) : Frame F H H := fun _ _ _ => rfl
theorem Frame.push (F : List Nat) (H : AS) (e : Bw) : Frame F H (H ++ [e]) := fun _ hj _ => List.getElem?_append_left hj
theorem Frame.set {F : List Nat} {H : AS} {id : Nat} {e : Bw} (h : id ∈ F) : Frame F H (H.set id e) := fun j _ hn => List.getElem?_set_ne fun q : id = j => hn (by rw [← q]; exact h)
def iZ : TV → List Nat
 | .c (.raw a) => YU a
 | .c (.own id _ _ _) => [id]
 | .aptr id .. => [id]
 | .bptr id .. => [id]
 | _ => []
theorem ia (v : TV) : YU v.enc = iZ v := by
 cases v with
 | c x =>
  cases x with
  | ar n t a => rfl
  | _ => rfl
 | _ => rfl
theorem Mw (H : AS) (e : Bw) : Ah (H ++ [e]) = Ah H ++ [e.enc] := by simp [Ah]
theorem Kn (H : AS) (id : Nat) (e : Bw) : Ah (H.set id e) = (Ah H).set id e.enc := by simp [Ah, List.map_set]
theorem BH (H : AS) : (Ah H).length = H.length := List.length_map _
end Go.Ab
namespace Go.Ab
section
variable {R : Type}
def storeT (P : Program) (H : AS) (t : TypeId) (p v : TV) (k : TV → AS → Option R) : Option R :=
 match v.words, tI P t with
 | some ws, some (_, n) =>
  match Nat.beq (iB ws) n with
  | false => none
  | true =>
   match p with
   | .c (.raw (.ptr id 0 off)) =>
    match H[id]? with
    | some (.live false cs) => match fm cs off ws n with | some cs' => k Ox (H.set id (.live false cs')) | none => none
    | _ => none
   | .aptr id base m te i off =>
    match H[id]? with
    | some (.live false cs) =>
     match OV cs base with
     | some (pre, .ar m' te' a :: post) =>
      if h : (Ty.arr m' te').beq (Ty.arr m te) = true then
       (aget (n := m + 1) (Ty.cast h a) i).bind fun e =>
        match fm (te.lvs e) off ws n with
        | some ls => match te.all ls with | some e' => k Ox (H.set id (.live false (pre ++ (.ar m te (X0 (n := m + 1) (Ty.cast h a) i e') :: post)))) | none => none
        | none => none
      else none
     | _ => none
    | _ => none
   | .bptr id ver te _ i off =>
    match H[id]? with
    | some (.buf false te' l n' ver') =>
     match Nat.beq ver ver' with
     | true =>
      if h : (Ty.list te').beq (Ty.list te) = true then
       (ix (α := te.D) (Ty.cast h l) i).bind fun e =>
        match fm (te.lvs e) off ws n with
        | some ls => match te.all ls with | some e' => k Ox (H.set id (.buf false te (Ej (α := te.D) (Ty.cast h l) i e') n' ver')) | none => none
        | none => none
      else none
     | false => none
    | _ => none
   | _ => none
 | _, _ => none
theorem dQ {a x b vs : List AG} {off : Nat} (h : off + vs.length ≤ x.length) : Pn (a ++ x ++ b) (a.length + off) vs = a ++ Pn x off vs ++ b := by
 unfold Pn
 have e1 : (a ++ x ++ b).take (a.length + off) = a ++ x.take off := by
  rw [List.append_assoc, List.take_append, List.take_of_length_le (by omega), Nat.add_sub_cancel_left, List.take_append_of_le_length (by omega)]
 have e2 : (a ++ x ++ b).drop (a.length + off + vs.length) = x.drop (off + vs.length) ++ b := by
  rw [List.append_assoc, Nat.add_assoc, ← List.drop_drop, List.drop_left, List.drop_append_of_le_length h]
 rw [e1, e2]
 simp
theorem Nr.set_less {x y : Cx} {H H1 H2 : AU} {id g : Nat} {cs cs' : List AG} (hid : id < H.length) (h1 : H1 = H.set id (.live g cs)) (h2 : H2 = H.set id (.live g cs')) (hl : Bc cs cs') (lat : x.Later y) : Nr x y H1 H2 := by
 subst h1 h2
 refine ⟨by simp, fun j e' hj => ?_⟩
 have self : ∀ c c' : Nat, True := fun _ _ => trivial
 by_cases hji : j = id
 ·subst hji
  rw [List.getElem?_set_self hid] at hj
  injection hj with hj
  subst hj
  refine .inr (.inl ⟨g, cs, cs', by rw [List.getElem?_set_self hid], rfl, hl.1, fun i v' hi => ?_⟩)
  obtain ⟨v, q1, q2⟩ := hl.2 i v' hi
  exact ⟨v, q1, fun c r => q2 _ _ (r.later lat)⟩
 ·rw [List.getElem?_set_ne (fun e => hji e.symm)] at hj
  cases e' with
  | live g0 c0 => exact .inr (.inl ⟨g0, c0, c0, by rw [List.getElem?_set_ne (fun e => hji e.symm)]; exact hj, rfl, rfl, fun i v' hi => ⟨v', hi, fun c r => r.later lat⟩⟩)
  | _ => exact .inr (.inr ⟨by rw [List.getElem?_set_ne (fun e => hji e.symm)]; exact hj, by simp⟩)
theorem VR {X : Nat → Prop} {h : Gh} {H H2 : AU} {w : World} (hl : H2.length = H.length) (hd : ∀ (j : Nat) (e : Dt), H2[j]? = some e → e ≠ .dead → ∃ e0, H[j]? = some e0 ∧ e0 ≠ .dead) : (cx X h H w).Later (cx X h H2 w) :=
 { size := Nat.le_refl _, keep := fun _ _ _ _ => rfl, gen := fun _ _ => Nat.le_refl _, same := fun _ _ _ => ⟨rfl, rfl⟩, n := by simp [cx, hl], own := fun B _ ho => ho.imp _root_.id (fun ⟨j, e, hj, hne, hio⟩ => by
   obtain ⟨e0, h1, h2⟩ := hd j e hj hne
   exact ⟨j, e0, h1, h2, hio⟩) }
theorem Dg.set_less {P : Program} {N : Nat} {o : Oper} {env : Env} {H : AU} {v : AG} {id g : Nat} {cs cs' : List AG} (hid : id < H.length) (h : Dg P N o env H (Bj v (H.set id (.live g cs)))) (hl : Bc cs cs') : Dg P N o env H (Bj v (H.set id (.live g cs'))) := by
 refine Dg.after h fun X g0 w _ => ?_
 have lat : (cx X g0 (H.set id (.live g cs)) w).Later (cx X g0 (H.set id (.live g cs')) w) := by
  refine VR (by simp) fun j e hj hne => ?_
  by_cases hji : j = id
  ·subst hji
   exact ⟨_, List.getElem?_set_self hid, by simp⟩
  ·rw [List.getElem?_set_ne (fun e => hji e.symm)] at hj ⊢
   exact ⟨e, hj, hne⟩
 exact ⟨Nr.set_less hid rfl rfl hl lat, fun c r => r.later lat⟩
theorem Cq {α : Type} {l : List α} {i : Nat} {x : α} (h : l[i]? = some x) : i < l.length := by
 rcases Nat.lt_or_ge i l.length with h2 | h2
 ·exact h2
 ·rw [List.getElem?_eq_none h2] at h; cases h
variable {P : Program} {N : Nat} {o : Oper} {env : As} {H : AS} {k : TV → AS → Option R} {r : R}
def ag (P : Program) (N : Nat) (o : Oper) (env : As) (H : AS) (F : List Nat) (k : TV → AS → Option R) (r : R) : Prop :=
 ∃ v H', Dg P N o (BW env) (Ah H) (Bj v.enc (Ah H')) ∧ k v H' = some r ∧ v.ok H' ∧ (∀ e ∈ H', e.ok H') ∧ BC H H' ∧ Frame F H H'
theorem cI {t : TypeId} {x y : Operand} (ok : Lo env H) (ho : o.op = .store t x y) (h : storeT P H t (GX env x) (GX env y) k = some r) : ag P N o env H (iZ (GX env x)) k r := by
 have en := JR env
 have hvo : (GX env y).ok H := Ur ok.env y
 have hpo : (GX env x).ok H := Ur ok.env x
 unfold storeT at h
 split at h
 ·rename_i ws b n hw ht
  obtain ⟨w1, w2, w3⟩ := Qr hw
  split at h
  ·cases h
  ·rename_i hn
   have hn' : (lvs ws).length = n := by rw [UF]; exact Nat.eq_of_beq_eq_true hn
   have ht' : tI P t = some (b, (GX env y).enc.cells.length) := by rw [w2, hn', ht]
   split at h
   ·rename_i id off hp
    split at h
    ·rename_i cs he
     split at h
     ·rename_i cs' hs
      obtain ⟨s1, s2, s3⟩ := XD hs hn'
      have he' : (Ah H)[id]? = some (.live 0 (lvs cs)) := by rw [De, he]; rfl
      have hst : BC H (H.set id (.live false cs')) := BC.set he rfl fun _ _ _ _ _ h => by cases h
      refine ⟨Ox, _, ?_, h, XF, Oa hst ok.heap (hst.lok (s3 H (ok.heap _ (List.mem_of_getElem? he)) (w3 H hvo))), hst, Frame.set (by rw [hp]; exact List.mem_singleton.2 rfl)⟩
      refine Dg.store ho (id := id) (g := 0) (off := off) (v := (GX env y).enc) (by rw [en, hp]; rfl) (en y) w1 he' ht' (by rw [w2, hn']; exact s2) ⟨rfl, ?_⟩
      rw [Kn, w2, ← s1]
      rfl
     ·cases h
    ·cases h
   ·rename_i id base m te i off hp
    split at h
    ·rename_i cs he
     split at h
     ·rename_i pre m' te' a post hs
      split at h
      ·rename_i hb
       have hty := Ty.beq_eq _ _ hb
       injection hty with hm hte
       subst hm hte
       obtain ⟨e, hg, h⟩ := Option.bind_eq_some_iff.1 h
       split at h
       ·rename_i ls hls
        split at h
        ·rename_i e' hall
         obtain ⟨hcs, hpre⟩ := KD hs
         obtain ⟨s1, s2, _⟩ := XD hls hn'
         have hless := Ty.all_spec hall
         have hcast : (Ty.cast hb a : MN (m' + 1) te'.D) = a := rfl
         rw [hcast] at hg h
         obtain ⟨h0, kk, rfl, rfl⟩ := Yd hg
         obtain ⟨c1, c2, q1, q2, q3⟩ := Zp te'.E a kk
         have he' : (Ah H)[id]? = some (.live 0 (lvs pre ++ c1 ++ (te'.enc (a kk)).cells ++ (c2 ++ lvs post))) := by
          rw [De, he, hcs]
          show some (Dt.live 0 (lvs (pre ++ (.ar m' te' a :: post)))) = _
          rw [DN, Df, Su, q1]
          simp only [List.append_assoc]
          rfl
         have hst : BC H (H.set id (.live false (pre ++ (.ar m' te' (X0 (n := m' + 1) a (kk.val : Int) e') :: post)))) := BC.set he rfl fun _ _ _ _ _ h => by cases h
         have hok : lok H cs := ok.heap _ (List.mem_of_getElem? he)
         rw [hcs] at hok
         obtain ⟨o1, o2⟩ := Dj.1 hok
         refine ⟨Ox, _, ?_, h, XF, Oa hst ok.heap (hst.lok (Dj.2 ⟨o1, fun z hz => ?_⟩)), hst, Frame.set (by rw [hp]; exact List.mem_singleton.2 rfl)⟩
         ·have hsz : off + (lvs ws).length ≤ (te'.enc (a kk)).cells.length := by rw [hn', ← te'.lvs_enc]; exact s2
          have st := Dg.store (P := P) (N := N) (K := Bj .any ((Ah H).set id (.live 0 (Pn (lvs pre ++ c1 ++ (te'.enc (a kk)).cells ++ (c2 ++ lvs post)) (base + (kk.val : Int).toNat * te'.sz + off) (GX env y).enc.cells)))) ho (id := id) (g := 0)
           (off := base + (kk.val : Int).toNat * te'.sz + off) (v := (GX env y).enc) (by rw [en, hp]; rfl) (en y) w1 he' ht' (by
            rw [w2, hn']
            simp only [List.length_append, q2, hpre]
            have : te'.E.sz = te'.sz := rfl
            rw [hn'] at hsz
            simp only [Int.toNat_natCast, this]
            omega) ⟨rfl, rfl⟩
          have ea : base + (kk.val : Int).toNat * te'.sz + off = (lvs pre ++ c1).length + off := by
           rw [List.length_append, hpre, q2, Int.toNat_natCast]
           rfl
          rw [w2, ea, dQ hsz] at st
          have fin := Dg.set_less (cs' := lvs (pre ++ (.ar m' te' (X0 (n := m' + 1) a (kk.val : Int) e') :: post))) (by rw [BH]; exact Cq he) st (by
           rw [DN, Df, Su, q3 e']
           simp only [List.append_assoc]
           refine (Bc.refl _).append ((Bc.refl _).append (Bc.append ?_ (Bc.refl _)))
           rw [← te'.lvs_enc, ← s1]
           exact hless)
          rw [Kn]
          exact fin
         ·rcases List.mem_cons.1 hz with rfl | hz
          ·trivial
          ·exact o2 z (by simp [hz])
        ·cases h
       ·cases h
      ·cases h
     ·cases h
    ·cases h
   ·rename_i id ver te nn i off hp
    split at h
    ·rename_i te' l n' ver' he
     split at h
     ·rename_i hv
      have hv' := Nat.eq_of_beq_eq_true hv
      subst hv'
      split at h
      ·rename_i hb
       have hty := Ty.beq_eq _ _ hb
       injection hty with hte
       subst hte
       obtain ⟨e, hg, h⟩ := Option.bind_eq_some_iff.1 h
       split at h
       ·rename_i ls hls
        split at h
        ·rename_i e' hall
         obtain ⟨s1, s2, _⟩ := XD hls hn'
         have hless := Ty.all_spec hall
         have hcast : (Ty.cast hb l : List te'.D) = l := rfl
         rw [hcast] at hg h
         obtain ⟨c1, c2, q1, q2, q3, q4, _, q5⟩ := Zu te'.E hg
         have hr : OK H id ver te' nn := by
          rw [hp] at hpo
          exact hpo (.own id ver te' nn) (by simp [TV.refs])
         obtain ⟨_, hr2⟩ := hr.2 _ _ _ _ _ he
         obtain ⟨_, rfl⟩ := hr2 rfl
         have hnl : n' = l.length := ok.heap _ (List.mem_of_getElem? he)
         have he' : (Ah H)[id]? = some (.live n' (c1 ++ (te'.enc e).cells ++ c2)) := by
          rw [De, he]
          show some (Dt.live n' (te'.E.cl l)) = _
          rw [q1]
          rfl
         have hst : BC H (H.set id (.buf false te' (Ej l i e') n' ver)) := BC.set he rfl fun _ _ _ _ _ h => by
          cases h
          exact ⟨_, _, _, _, rfl, .inr ⟨rfl, rfl⟩⟩
         refine ⟨Ox, _, ?_, h, XF, Oa hst ok.heap ((LI hnl.symm).symm), hst, Frame.set (by rw [hp]; exact List.mem_singleton.2 rfl)⟩
         have hsz : off + (lvs ws).length ≤ (te'.enc e).cells.length := by rw [hn', ← te'.lvs_enc]; exact s2
         have st := Dg.store (P := P) (N := N) (K := Bj .any ((Ah H).set id (.live n' (Pn (c1 ++ (te'.enc e).cells ++ c2) (i.toNat * te'.sz + off) (GX env y).enc.cells)))) ho (id := id) (g := n')
          (off := i.toNat * te'.sz + off) (v := (GX env y).enc) (by rw [en, hp]; rfl) (en y) w1 he' ht' (by
           rw [w2, hn']
           simp only [List.length_append, q2]
           have : te'.E.sz = te'.sz := rfl
           rw [hn'] at hsz
           rw [this]
           omega) ⟨rfl, rfl⟩
         have ea : i.toNat * te'.sz + off = c1.length + off := by rw [q2]; rfl
         rw [w2, ea, dQ hsz] at st
         have fin := Dg.set_less (cs' := te'.E.cl (Ej l i e')) (by rw [BH]; exact Cq he) st (by
          unfold Ej
          rw [q5 e']
          refine Bc.append (Bc.append (Bc.refl _) ?_) (Bc.refl _)
          rw [← te'.lvs_enc, ← s1]
          exact hless)
         rw [Kn]
         exact fin
        ·cases h
       ·cases h
      ·cases h
     ·cases h
    ·cases h
   ·cases h
 ·cases h
end
end Go.Ab
namespace Go.Ab
section
variable {R : Type}
def db (P : Program) (H : AS) (t : TypeId) (k : TV → AS → Option R) : Option R :=
 match af P t with
 | some z => k (.c (.raw (.ptr H.length 0 0))) (H ++ [.live false z])
 | none => none
def iN (H : AS) (v : TV) (k : TV → AS → Option R) : Option R :=
 match v.words with
 | some ws => k (.c (.raw (.ptr H.length 0 0))) (H ++ [.live false ws])
 | none => none
def XU (t : Ty) : List TV → Option (List t.D)
 | [] => some []
 | v :: r => match t.data v, XU t r with | some x, some xs => some (x :: xs) | _, _ => none
def iV (P : Program) (t : TypeId) : Option Ty :=
 match eI P t with
 | some (none, e, sz) =>
  match fu P 1000 e with
  | some te => if sz = te.sz ∧ PC P e = true then some te else none
  | none => none
 | _ => none
def VV (len : Nat) (te : Ty) (parts : Array (Nat × Operand)) (vs : List TV) : Bool :=
 decide (parts.toList.map (·.1) = List.range len) && (vs.all fun v => match v.words with | some ws => Nat.beq (iB ws) te.sz | none => false) && Nat.ble len 4096 && Nat.ble te.sz 4096
def Ra (P : Program) (env : As) (H : AS) (t : TypeId) (len : Nat) (parts : Array (Nat × Operand)) (k : TV → AS → Option R) : Option R :=
 match iV P t with
 | some te =>
  match VV len te parts (parts.toList.map fun p => GX env p.2) with
  | true => match XU te (parts.toList.map fun p => GX env p.2) with | some xs => k (.c (.own H.length 0 te xs.length)) (H ++ [.buf false te xs xs.length 0]) | none => none
  | false => none
 | none => none
def ZD (P : Program) (env : As) (t : TypeId) (len : Nat) (parts : Array (Nat × Operand)) (k : TV → Option R) : Option R :=
 match iV P t with
 | some te =>
  match VV len te parts (parts.toList.map fun p => GX env p.2) with
  | true => match XU te (parts.toList.map fun p => GX env p.2) with | some xs => k (.c (.ls te xs)) | none => none
  | false => none
 | none => none
def VS (P : Program) (H : AS) (t : TypeId) (x y : TV) (k : TV → AS → Option R) : Option R :=
 match eI P t, x, y with
 | some (none, e, _), .c (.it _ l), .c (.it _ c) =>
  match iV P t, af P e with
  | some te, some z => match te.all z with | some zd => (mk zd l c).bind fun r => k (.c (.own H.length 0 te r.length)) (H ++ [.buf false te r r.length 0]) | none => none
  | _, _ => none
 | _, _, _ => none
def aa (P : Program) (H : AS) (src dst : TypeId) (x : TV) (k : TV → AS → Option R) : Option R :=
 match P.underlying src, P.underlying dst, x with
 | some _, some (.slice e), .c (.st s) =>
  match P.underlying e with
  | some (.int .u8) => k (.c (.own H.length 0 (.int .u8) (MW s).length)) (H ++ [.buf false (.int .u8) (MW s) (MW s).length 0])
  | _ => none
 | _, _, _ => none
def gz (H : AS) (te : Ty) (v : TV) : Option (List te.D) :=
 match v with
 | .c (.ls te' l) => if h : (Ty.list te').beq (Ty.list te) = true then some (Ty.cast h l) else none
 | .c (.own id ver te' _) => if h : (Ty.list te').beq (Ty.list te) = true then (match WE H id ver te' with | some l => some (Ty.cast (t := .list te') (t' := .list te) h l) | none => none) else none
 | .c .nil => some []
 | _ => none
def Zd (P : Program) (H : AS) (t : TypeId) (s x : TV) (k : TV → AS → Option R) : Option R :=
 match iV P t with
 | some te =>
  match gz H te x with
  | some xs =>
   match s with
   | .c .nil => (app [] xs).bind fun r => k (.c (.own H.length 0 te r.length)) (H ++ [.buf false te r r.length 0])
   | .c (.own id ver te' _) =>
    match H[id]? with
    | some (.buf false t2 l _ ver') =>
     match Nat.beq ver ver' with
     | true =>
      if h : (Ty.list t2).beq (Ty.list te) = true ∧ (Ty.list te').beq (Ty.list te) = true then
       (app (α := te.D) (Ty.cast h.1 l) xs).bind fun r => k (.c (.own id (ver + 1) te r.length)) (H.set id (.buf false te r r.length (ver + 1)))
      else none
     | false => none
    | _ => none
   | _ => none
  | none => none
 | none => none
variable {P : Program} {N : Nat} {o : Oper} {env : As} {H : AS} {k : TV → AS → Option R} {r : R}
theorem aQ {H : AS} {t : Ty} {l : List t.D} {ver : Nat} {ro : Bool} : (TV.c (.own H.length ver t l.length)).ok (H ++ [.buf ro t l l.length ver]) := by
 refine Gd ⟨by simp, fun ro' t' l' n' ver' he => ?_⟩
 rw [List.getElem?_append_right (Nat.le_refl _), Nat.sub_self] at he
 simp only [List.getElem?_cons_zero, Option.some.injEq, Bw.buf.injEq] at he
 obtain ⟨_, rfl, _, rfl, rfl⟩ := he
 exact ⟨Nat.le_refl _, fun _ => ⟨rfl, rfl⟩⟩
theorem Zi (H : AS) (te : Ty) (n ver : Nat) : (TV.c (.own H.length ver te n)).enc = .sl (Ah H).length n te.sz 0 n := by
 rw [BH]; rfl
theorem bf {t : TypeId} (ok : Lo env H) (ho : o.op = .alloc t) (h : db P H t k = some r) : ag P N o env H [] k r := by
 unfold db at h
 split at h
 ·rename_i z hz
  obtain ⟨z1, z2⟩ := Qt hz
  refine ⟨_, _, ?_, h, Gd trivial, LJ ok.heap (z2 _), BC.push _ _, Frame.push _ _ _⟩
  have e1 : (TV.c (.raw (.ptr H.length 0 0))).enc = .ptr (Ah H).length 0 0 := by rw [BH]; rfl
  rw [e1, Mw]
  exact Dg.alloc ho z1 ⟨rfl, rfl⟩
 ·cases h
theorem dh {t : TypeId} {x : Operand} (ok : Lo env H) (ho : o.op = .box t x) (h : iN H (GX env x) k = some r) : ag P N o env H [] k r := by
 unfold iN at h
 split at h
 ·rename_i ws hw
  obtain ⟨w1, w2, w3⟩ := Qr hw
  refine ⟨_, _, ?_, h, Gd trivial, LJ ok.heap ((BC.push _ _).lok (w3 H (Ur ok.env x))), BC.push _ _, Frame.push _ _ _⟩
  have e1 : (TV.c (.raw (.ptr H.length 0 0))).enc = .ptr (Ah H).length 0 0 := by rw [BH]; rfl
  rw [e1, Mw]
  exact Dg.box ho (JR env x) w1 ⟨rfl, by rw [w2]; rfl⟩
 ·cases h
theorem Xl {t : Ty} : ∀ {vs : List TV} {xs : List t.D}, XU t vs = some xs → Bc (vs.map TV.enc) (xs.map t.enc)
 | [], xs, h => by simp only [XU, Option.some.injEq] at h; subst h; exact Bc.refl _
 | v :: r, xs, h => by
  simp only [XU] at h
  split at h
  ·rename_i x ys hx hy
   injection h with h
   subst h
   have := Xl hy
   exact (Bc.one (Ty.data_spec hx)).append this
  ·cases h
theorem WT {t : Ty} : ∀ {vs : List TV} {xs : List t.D}, XU t vs = some xs → Bc ((vs.map TV.enc).flatMap AG.cells) (t.E.cl xs)
 | [], xs, h => by simp only [XU, Option.some.injEq] at h; subst h; exact Bc.refl _
 | v :: r, xs, h => by
  simp only [XU] at h
  split at h
  ·rename_i x ys hx hy
   injection h with h
   subst h
   have ih := WT hy
   have e1 : t.E.cl (x :: ys) = (t.enc x).cells ++ t.E.cl ys := by simp only [Ln.cl, List.map_cons, List.flatMap_cons]; rfl
   rw [List.map_cons, List.flatMap_cons, e1]
   refine Bc.append ?_ ih
   unfold Ty.data at hx
   split at hx
   ·rename_i y
    split at hx
    ·cases hx
    ·rename_i hb
     simp only [Bool.or_eq_false_iff, Bool.not_eq_false'] at hb
     have h2 := Ty.all_spec hx
     rw [Df, Ar.scalar_enc hb.2, ← Ar.scalar_cells hb.2] at h2
     have e3 : lvs ([] : List Ar) = [] := rfl
     rw [e3, List.append_nil] at h2
     exact h2
   ·rename_i cs
    split at hx
    ·exact Ty.all_spec hx
    ·cases hx
   ·cases hx
  ·cases h
theorem WV {t : TypeId} {te : Ty} (h : iV P t = some te) : ∃ e, eI P t = some (none, e, te.sz) ∧ PC P e = true := by
 unfold iV at h
 split at h
 ·rename_i e sz he
  split at h
  ·rename_i te' _
   split at h
   ·rename_i hc
    injection h with h
    subst h
    exact ⟨e, by rw [he, hc.1], hc.2⟩
   ·cases h
  ·cases h
 ·cases h
theorem aR {t : TypeId} {te : Ty} {len : Nat} {parts : Array (Nat × Operand)} (h : iV P t = some te) (hp : VV len te parts (parts.toList.map fun p => GX env p.2) = true) :
  NN P (BW env) t len parts = some (te.sz, (parts.toList.map fun p => GX env p.2).map TV.enc) := by
 obtain ⟨e, he, hs⟩ := WV h
 unfold VV at hp
 simp only [Bool.and_eq_true, decide_eq_true_eq] at hp
 obtain ⟨⟨⟨h1, h2⟩, h3⟩, h4⟩ := hp
 have e1 : (parts.toList.map fun p => Al (BW env) p.2) = (parts.toList.map fun p => GX env p.2).map TV.enc := by
  rw [List.map_map]
  exact List.map_congr_left fun p _ => JR env p.2
 unfold NN
 simp only [he, e1]
 refine if_pos ⟨te.sz_pos, hs, h1, ?_, Nat.le_of_ble_eq_true h3, Nat.le_of_ble_eq_true h4⟩
 rw [List.all_eq_true]
 intro v hv
 obtain ⟨u, hu, rfl⟩ := List.mem_map.1 hv
 have := List.all_eq_true.1 h2 u hu
 split at this
 ·rename_i ws hw
  obtain ⟨w1, w2, _⟩ := Qr hw
  simp only [w1, w2, UF, Bool.true_and, decide_eq_true_eq]
  exact Nat.eq_of_beq_eq_true this
 ·cases this
theorem fQ {t : Ty} {vs : List TV} {xs : List t.D} (h : XU t vs = some xs) : xs.length = vs.length := by
 have := (Xl h).1
 simpa using this
theorem Nr.push_less {x y : Cx} {H : AU} {g : Nat} {cs cs' : List AG} (hl : Bc cs cs') (lat : x.Later y) : Nr x y (H ++ [.live g cs]) (H ++ [.live g cs']) := by
 refine ⟨by simp, fun j e' hj => ?_⟩
 rcases Nat.lt_or_ge j H.length with hjl | hjl
 ·rw [List.getElem?_append_left hjl] at hj
  cases e' with
  | live g0 c0 => exact .inr (.inl ⟨g0, c0, c0, by rw [List.getElem?_append_left hjl]; exact hj, rfl, rfl, fun i v' hi => ⟨v', hi, fun c r => r.later lat⟩⟩)
  | _ => exact .inr (.inr ⟨by rw [List.getElem?_append_left hjl]; exact hj, by simp⟩)
 ·have hj2 := Cq hj
  simp at hj2
  have hj3 : j = H.length := by omega
  subst hj3
  rw [List.getElem?_append_right (Nat.le_refl _), Nat.sub_self] at hj
  simp at hj
  subst hj
  refine .inr (.inl ⟨g, cs, cs', by simp, rfl, hl.1, fun i v' hi => ?_⟩)
  obtain ⟨v, q1, q2⟩ := hl.2 i v' hi
  exact ⟨v, q1, fun c r => q2 _ _ (r.later lat)⟩
theorem Dg.push_less {E : Env} {A : AU} {v : AG} {g : Nat} {cs cs' : List AG} (h : Dg P N o E A (Bj v (A ++ [.live g cs]))) (hl : Bc cs cs') : Dg P N o E A (Bj v (A ++ [.live g cs'])) := by
 refine Dg.after h fun X g0 w _ => ?_
 have lat : (cx X g0 (A ++ [.live g cs]) w).Later (cx X g0 (A ++ [.live g cs']) w) := by
  refine VR (by simp) fun j e hj hne => ?_
  rcases Nat.lt_or_ge j A.length with hjl | hjl
  ·rw [List.getElem?_append_left hjl] at hj ⊢
   exact ⟨e, hj, hne⟩
  ·have := Cq hj
   simp at this
   have : j = A.length := by omega
   subst this
   exact ⟨.live g cs, by simp, by simp⟩
 exact ⟨Nr.push_less hl lat, fun c r => r.later lat⟩
theorem X3 {t : TypeId} {len : Nat} {parts : Array (Nat × Operand)} (ok : Lo env H) (ho : o.op = .buildSlice t len parts) (h : Ra P env H t len parts k = some r) : ag P N o env H [] k r := by
 unfold Ra at h
 split at h
 ·rename_i te hte
  split at h
  ·rename_i hp
   split at h
   ·rename_i xs hxs
    have hb := aR hte hp
    have hlen := fQ hxs
    refine ⟨_, _, ?_, h, aQ, LJ ok.heap rfl, BC.push _ _, Frame.push _ _ _⟩
    rw [Zi, Mw]
    have := Dg.buildSlice_gen (N := N) (H := Ah H) (K := Bj _ _) ho hb ⟨rfl, rfl⟩
    rw [List.length_map, ← hlen] at this
    exact Dg.push_less this (WT hxs)
   ·cases h
  ·cases h
 ·cases h
theorem jC {te : Ty} {vs : List AG} {xs : List te.D} (h : Bc vs (xs.map te.enc)) (hl : Bc (vs.flatMap AG.cells) (te.E.cl xs)) (hv : ∀ v ∈ vs, v.cells.length = te.sz) : PO (.vs te.sz vs) (.vs te.sz (xs.map te.enc)) := by
 intro x c rr
 cases rr with
 | vs f hcap hsz hrow ha hvv =>
  have hn : (xs.map te.enc).length = vs.length := h.1
  rw [← hn]
  have key : ∀ (j : Nat) (e : AG) (i : Nat) (v : AG), (xs.map te.enc)[j]? = some e → e.cells[i]? = some v → ∃ e0 v0, vs[j]? = some e0 ∧ e0.cells[i]? = some v0 ∧ PO v0 v := by
   intro j e i v hj hi
   obtain ⟨e0, q1, _⟩ := h.2 j e hj
   have hrows : ∀ u ∈ xs.map te.enc, u.cells.length = te.sz := fun u hu => by
    obtain ⟨y, _, rfl⟩ := List.mem_map.1 hu
    exact te.enc_len y
   have f1 := YI hrows j e i v hj hi
   obtain ⟨v0, p1, p2⟩ := hl.2 _ v f1
   have hil : i < te.sz := by
    have := Cq hi
    rw [hrows e (List.mem_of_getElem? hj)] at this
    exact this
   have he0 := hv e0 (List.mem_of_getElem? q1)
   have hg : e0.cells[i]? = some (e0.cells[i]'(by omega)) := List.getElem?_eq_getElem (by omega)
   have f2 := YI hv j e0 i _ q1 hg
   rw [f2] at p1
   injection p1 with p1
   exact ⟨e0, v0, q1, by rw [hg, p1], p2⟩
  refine A1.vs f (by rw [hn]; exact hcap) hsz (fun j e hj => ?_) (fun hne => ?_) fun j e i v hj hi => ?_
  ·obtain ⟨y, _, rfl⟩ := List.mem_map.1 (List.mem_of_getElem? hj)
   exact te.enc_len y
  ·obtain ⟨B, off, q1, q2, q3, q4⟩ := ha (fun e => hne (List.eq_nil_of_length_eq_zero (by rw [hn, e]; rfl)))
   refine ⟨B, off, q1, q2, q3, fun j e i v hj hi => ?_⟩
   obtain ⟨e0, v0, p1, p2, _⟩ := key j e i v hj hi
   exact q4 j e0 i v0 p1 p2
  ·obtain ⟨e0, v0, p1, p2, p3⟩ := key j e i v hj hi
   exact p3 _ _ (hvv j e0 i v0 p1 p2)
theorem Y2 {t : TypeId} {x y : Operand} (ok : Lo env H) (ho : o.op = .makeSlice t x y) (h : VS P H t (GX env x) (GX env y) k = some r) : ag P N o env H [] k r := by
 have en := JR env
 unfold VS at h
 split at h
 ·rename_i e sz kl l kc c hE hx hy
  split at h
  ·rename_i te z hte hz
   split at h
   ·rename_i zd hzd
    obtain ⟨xs, hm, h⟩ := Option.bind_eq_some_iff.1 h
    obtain ⟨e', he, hs⟩ := WV hte
    rw [hE] at he
    simp only [Option.some.injEq, Prod.mk.injEq, true_and] at he
    obtain ⟨rfl, rfl⟩ := he
    obtain ⟨z1, z2⟩ := Qt hz
    have hless := Ty.all_spec hzd
    obtain ⟨⟨m1, m2, m3⟩, m4, m5⟩ := o_mk te.E zd hm
    refine ⟨_, _, ?_, h, aQ, LJ ok.heap rfl, BC.push _ _, Frame.push _ _ _⟩
    rw [Zi, Mw]
    have hzl : (lvs z).length = te.sz := by rw [← hless.1, te.enc_len]
    have := Dg.makeSlice (N := N) (H := Ah H) (K := Bj _ _) ho hE te.sz_pos hs z1 hzl (by rw [en, hx]; rfl) (by rw [en, hy]; rfl) m1 m2 m3 ⟨rfl, rfl⟩
    rw [m4] at this
    refine Dg.push_less this ?_
    rw [← m5, m4]
    clear this m5 m4 hm h
    induction xs.length with
    | zero => exact Bc.refl _
    | succ n ih =>
     rw [List.replicate_succ, List.replicate_succ, List.flatten_cons, List.flatten_cons]
     exact Bc.append hless ih
   ·cases h
  ·cases h
 ·cases h
theorem ab {src dst : TypeId} {x : Operand} (ok : Lo env H) (ho : o.op = .convert src dst x) (h : aa P H src dst (GX env x) k = some r) : ag P N o env H [] k r := by
 have en := JR env
 unfold aa at h
 split at h
 ·rename_i u e s hs hd hx
  split at h
  ·rename_i he
   refine ⟨_, _, ?_, h, aQ, LJ ok.heap rfl, BC.push _ _, Frame.push _ _ _⟩
   rw [Zi, Mw]
   obtain ⟨b1, b2⟩ := o_tob s
   have := Dg.toBytes (N := N) (H := Ah H) (K := Bj _ _) ho hs hd he (by rw [en, hx]; rfl) ⟨rfl, rfl⟩
   rw [b2, b1] at this
   exact this
  ·cases h
 ·cases h
theorem eE {te : Ty} {v : TV} {xs : List te.D} (hH : ∀ e ∈ H, e.ok H) (hv : v.ok H) (h : gz H te v = some xs) : Ki (Ah H) te.sz v.enc = some (xs.length, te.E.cl xs) := by
 unfold gz at h
 split at h
 ·rename_i te' l
  split at h
  ·rename_i hb
   have hty := Ty.beq_eq _ _ hb
   injection hty with hte
   subst hte
   injection h with h
   have h' : l = xs := h
   subst h'
   simp only [TV.enc, Ar.one, Ki, if_true, List.length_map]
   rfl
  ·cases h
 ·rename_i id ver te' n
  split at h
  ·rename_i hb
   have hty := Ty.beq_eq _ _ hb
   injection hty with hte
   subst hte
   split at h
   ·rename_i l hl
    injection h with h
    have h' : l = xs := h
    subst h'
    obtain ⟨b1, b2⟩ := X2 hH (hv (.own id ver te' n) (by simp [TV.refs])) hl
    have hc := te'.E.clen l
    have hsz : te'.E.sz = te'.sz := rfl
    rw [hsz] at hc
    simp only [TV.enc, Ar.one, Ki, b1]
    rw [if_pos ⟨trivial, trivial, by rw [hc, b2]; omega⟩, List.drop_zero, ← b2, ← hc, List.take_length]
   ·cases h
  ·cases h
 ·injection h with h
  subst h
  rfl
 ·cases h
theorem ah {t t' : TypeId} {sx xx : Operand} (ok : Lo env H) (ho : o.op = .call { callee := .builtin .append, args := #[sx, xx], argTypes := #[t, t'] }) (ht : t = t') (h : Zd P H t (GX env sx) (GX env xx) k = some r) : ag P N o env H (iZ (GX env sx)) k r := by
 subst ht
 have en := JR env
 unfold Zd at h
 split at h
 ·rename_i te hte
  obtain ⟨e, he, hs⟩ := WV hte
  split at h
  ·rename_i xs hxs
   have hrest := eE ok.heap (Ur ok.env xx) hxs
   rw [← en] at hrest
   split at h
   ·rename_i hsx
    obtain ⟨l, hl, hk⟩ := Option.bind_eq_some_iff.1 h
    obtain ⟨h1, hle⟩ := Xz hl
    rw [List.nil_append] at hle
    subst hle
    refine ⟨_, _, ?_, hk, aQ, LJ ok.heap rfl, BC.push _ _, Frame.push _ _ _⟩
    rw [Zi, Mw]
    have := Dg.append_nil_gen (N := N) (H := Ah H) (K := Bj _ _) ho he te.sz_pos hs (by rw [en, hsx]; rfl) hrest (by simpa using h1) ⟨rfl, rfl⟩
    exact this
   ·rename_i id ver te' n hsx
    split at h
    ·rename_i t2 l n' ver' hid
     split at h
     ·rename_i hv
      have hv' := Nat.eq_of_beq_eq_true hv
      subst hv'
      split at h
      ·rename_i hb
       have hty := Ty.beq_eq _ _ hb.1
       injection hty with hte2
       have hty2 := Ty.beq_eq _ _ hb.2
       injection hty2 with hte3
       subst hte3
       subst hte2
       obtain ⟨l2, hl, h⟩ := Option.bind_eq_some_iff.1 h
       have hcast : (Ty.cast hb.1 l : List t2.D) = l := rfl
       rw [hcast] at hl
       obtain ⟨h1, rfl⟩ := Xz hl
       have hr : OK H id ver t2 n := by
        have := Ur ok.env sx
        rw [hsx] at this
        exact this (.own id ver t2 n) (by simp [TV.refs])
       obtain ⟨_, hr2⟩ := hr.2 _ _ _ _ _ hid
       obtain ⟨_, rfl⟩ := hr2 rfl
       have hnl : n' = l.length := ok.heap _ (List.mem_of_getElem? hid)
       have hid' : (Ah H)[id]? = some (.live n' (t2.E.cl l)) := by rw [De, hid]; rfl
       have hst : BC H (H.set id (.buf false t2 (l ++ xs) (l ++ xs).length (ver + 1))) := BC.set hid rfl fun _ _ _ _ _ h => by
        cases h
        exact ⟨_, _, _, _, rfl, .inl (Nat.lt_succ_self _)⟩
       refine ⟨_, _, ?_, h, Gd ⟨by simpa using Cq hid, fun ro' t' l' n2 ver2 hg => ?_⟩, Oa hst ok.heap rfl, hst, Frame.set (by rw [hsx]; exact List.mem_singleton.2 rfl)⟩
       ·have hc := t2.E.clen l
        have hsz : t2.E.sz = t2.sz := rfl
        rw [hsz] at hc
        have := Dg.append_gen (N := N) (H := Ah H) (g' := n' + xs.length) (K := Bj _ _) ho he t2.sz_pos hs (by rw [en, hsx]; rfl) hid' (by rw [hc, hnl]) hrest (by rw [hnl]; exact h1) (by
         rcases Nat.eq_zero_or_pos xs.length with h0 | h0
         ·exact .inr ⟨by omega, h0⟩
         ·exact .inl (by omega)) ⟨rfl, rfl⟩
        rw [Kn]
        have e1 : (l ++ xs).length = n' + xs.length := by rw [List.length_append, hnl]
        have e2 : t2.E.cl (l ++ xs) = t2.E.cl l ++ t2.E.cl xs := by simp [Ln.cl]
        simp only [TV.enc, Ar.one, Bw.enc]
        rw [e1, e2]
        exact this
       ·rw [List.getElem?_set_self (Cq hid)] at hg
        simp only [Option.some.injEq, Bw.buf.injEq] at hg
        obtain ⟨_, rfl, _, rfl, rfl⟩ := hg
        exact ⟨Nat.le_refl _, fun _ => ⟨rfl, rfl⟩⟩
      ·cases h
     ·cases h
    ·cases h
   ·cases h
  ·cases h
 ·cases h
end
end Go.Ab
namespace Go.Ab
def JS (id ver : Nat) (t : Ty) (l : List t.D) : Ar → Ar
 | .own id' ver' t' n => match Nat.beq id id' && Nat.beq ver ver' with | true => .ls t l | false => .own id' ver' t' n
 | x => x
mutual
def YL (id ver : Nat) (t : Ty) (l : List t.D) : TV → TV
 | .c x => .c (JS id ver t l x)
 | .g cs => .g (cs.map (JS id ver t l))
 | .tup vs => .tup (Uu id ver t l vs)
 | .aptr a b n te i o => .aptr a b n te i o
 | .bptr a v te n i o => .bptr a v te n i o
 | .vptr cs post => .vptr cs post
def Uu (id ver : Nat) (t : Ty) (l : List t.D) : List TV → List TV
 | [] => []
 | v :: r => YL id ver t l v :: Uu id ver t l r
end
def LC (id ver : Nat) (t : Ty) (l : List t.D) : Bw → Bw
 | .live false cs => .live false (cs.map (JS id ver t l))
 | e => e
def frz (id : Nat) (env : As) (H : AS) : Option (As × AS) :=
 match H[id]? with
 | some (.buf false t l _ ver) => some (env.map fun p => (p.1, YL id ver t l p.2), (H.map (LC id ver t l)).set id .dead)
 | _ => none
def Mi (x y : Cx) (a b : List AG) : Prop := b.length = a.length ∧ ∀ (i : Nat) (v' : AG), b[i]? = some v' → ∃ v, a[i]? = some v ∧ Conv x y v v'
theorem Mi.append {x y : Cx} {a a' b b' : List AG} (h1 : Mi x y a a') (h2 : Mi x y b b') : Mi x y (a ++ b) (a' ++ b') := by
 refine ⟨by simp [h1.1, h2.1], fun i v' h => ?_⟩
 rcases Nat.lt_or_ge i a'.length with hi | hi
 ·rw [List.getElem?_append_left hi] at h
  obtain ⟨v, q1, q2⟩ := h1.2 i v' h
  exact ⟨v, by rw [List.getElem?_append_left (by rw [← h1.1]; exact hi)]; exact q1, q2⟩
 ·rw [List.getElem?_append_right hi] at h
  obtain ⟨v, q1, q2⟩ := h2.2 _ v' h
  exact ⟨v, by rw [List.getElem?_append_right (by rw [← h1.1]; exact hi), ← h1.1]; exact q1, q2⟩
theorem Mi.later {x y : Cx} (l : x.Later y) (a : List AG) : Mi x y a a := ⟨rfl, fun _ v h => ⟨v, h, fun _ r => r.later l⟩⟩
theorem Mi.one {x y : Cx} {v v' : AG} (h : Conv x y v v') : Mi x y [v] [v'] := ⟨rfl, fun i u hi => by
 match i, hi with
 | 0, hi => simp at hi; subst hi; exact ⟨v, rfl, h⟩
 | i + 1, hi => simp at hi⟩
theorem Mi.agg {x y : Cx} {cs cs' : List AG} (h : Mi x y cs cs') : Conv x y (.agg cs) (.agg cs') := by
 intro c r
 cases r with
 | agg hs h1 hr =>
  refine .agg (by rw [hs, h.1]) h1 fun j v' d hj hd => ?_
  obtain ⟨v, q1, q2⟩ := h.2 j v' hj
  exact q2 _ (hr j v d q1 hd)
theorem Mi.tup {x y : Cx} {cs cs' : List AG} (h : Mi x y cs cs') : Conv x y (.tup cs) (.tup cs') := by
 intro c r
 cases r with
 | tup hs hr =>
  refine .tup (by rw [hs, h.1]) fun j v' d hj hd => ?_
  obtain ⟨v, q1, q2⟩ := h.2 j v' hj
  exact q2 _ (hr j v d q1 hd)
section
variable {x y : Cx} {H : AS} {id n ver : Nat} {t : Ty} {l : List t.D} (lat : x.Later y) (hid : H[id]? = some (.buf false t l n ver)) (hc : Conv x y (.sl id n t.sz 0 n) (.vs t.sz (l.map t.enc)))
include lat hid hc
theorem YJ {z : Ar} (hz : z.ok H) : Mi x y z.enc (JS id ver t l z).enc ∧ Conv x y z.one (JS id ver t l z).one := by
 have same : ∀ w : Ar, Mi x y w.enc w.enc ∧ Conv x y w.one w.one := fun w => ⟨.later lat _, fun _ r => r.later lat⟩
 cases z with
 | own id' ver' t' n' =>
  simp only [JS]
  split
  ·rename_i hb
   simp only [Bool.and_eq_true] at hb
   have e1 := Nat.eq_of_beq_eq_true hb.1
   have e2 := Nat.eq_of_beq_eq_true hb.2
   subst e1 e2
   obtain ⟨_, q⟩ := hz.2 _ _ _ _ _ hid
   obtain ⟨rfl, rfl⟩ := q rfl
   exact ⟨.one hc, hc⟩
  ·exact same _
 | _ => exact same _
theorem Yt : ∀ {cs : List Ar}, lok H cs → Mi x y (lvs cs) (lvs (cs.map (JS id ver t l)))
 | [], _ => .later lat _
 | z :: r, h => by
  rw [List.map_cons, Df, Df]
  exact (YJ lat hid hc (h z (by simp))).1.append (Yt fun w hw => h w (by simp [hw]))
mutual
theorem Z9 : ∀ {v : TV}, v.ok H → Conv x y v.enc (YL id ver t l v).enc
 | .c z, h => (YJ lat hid hc (h z (by simp [TV.refs]))).2
 | .g cs, h => (Yt lat hid hc h).agg
 | .tup vs, h => Mi.tup (ZL (vs := vs) h)
 | .aptr .., _ => fun _ r => r.later lat
 | .bptr .., _ => fun _ r => r.later lat
 | .vptr .., _ => fun _ r => r.later lat
theorem ZL : ∀ {vs : List TV}, (TV.tup vs).ok H → Mi x y (TV.encL vs) (TV.encL (Uu id ver t l vs))
 | [], _ => .later lat _
 | v :: r, h => by
  simp only [TV.encL, Uu]
  have h1 : v.ok H := Y5 h (by simp)
  have h2 : (TV.tup r).ok H := NG fun w hw => Y5 h (by simp [hw])
  exact (Mi.one (Z9 h1)).append (ZL h2)
end
end
theorem Z8 {H H' : AS} {id ver : Nat} {t : Ty} {l : List t.D} (hs : BC H H') {z : Ar} (hz : z.ok H) : (JS id ver t l z).ok H' := by
 cases z with
 | own id' ver' t' n' =>
  simp only [JS]
  split
  ·trivial
  ·exact hs.leaf hz
 | _ => exact hs.leaf hz
theorem ed {H H' : AS} {id ver : Nat} {t : Ty} {l : List t.D} (hs : BC H H') {cs : List Ar} (h : lok H cs) : lok H' (cs.map (JS id ver t l)) := fun z hz => by
 obtain ⟨w, hw, rfl⟩ := List.mem_map.1 hz
 exact Z8 hs (h w hw)
mutual
theorem cq {H H' : AS} {id ver : Nat} {t : Ty} {l : List t.D} (hs : BC H H') : ∀ {v : TV}, v.ok H → (YL id ver t l v).ok H'
 | .c z, h => Gd (Z8 hs (h z (by simp [TV.refs])))
 | .g cs, h => ed hs h
 | .tup vs, h => bG hs h
 | .aptr .., h => hs.lok h
 | .bptr .., h => hs.lok h
 | .vptr .., h => hs.lok h
theorem bG {H H' : AS} {id ver : Nat} {t : Ty} {l : List t.D} (hs : BC H H') : ∀ {vs : List TV}, (TV.tup vs).ok H → (TV.tup (Uu id ver t l vs)).ok H'
 | [], _ => fun z hz => by simp [Uu, TV.refs, TV.refsL] at hz
 | v :: r, h => by
  have h1 : v.ok H := Y5 h (by simp)
  have h2 : (TV.tup r).ok H := NG fun w hw => Y5 h (by simp [hw])
  refine NG fun w hw => ?_
  simp only [Uu] at hw
  rcases List.mem_cons.1 hw with rfl | hw
  ·exact cq hs h1
  ·exact Y5 (bG hs h2) hw
end
theorem gc {H : AS} {id n ver : Nat} {t : Ty} {l : List t.D} (hid : H[id]? = some (.buf false t l n ver)) : BC H ((H.map (LC id ver t l)).set id .dead) := by
 have hidl := Cq hid
 refine ⟨by simp, fun j v2 t2 n2 h => ⟨by simpa using h.1, fun ro t' l' n' ver' hj => ?_⟩, fun j e hj hr => ?_, fun j hjl h t2 l2 n2 v2 hq => ?_, fun j hjl _ _ _ _ _ _ _ _ hq => ?_⟩
 ·by_cases hji : j = id
  ·subst hji
   rw [List.getElem?_set_self (by simpa using hidl)] at hj
   cases hj
  ·rw [List.getElem?_set_ne (fun e => hji e.symm), List.getElem?_map] at hj
   cases hq : H[j]? with
   | none => rw [hq] at hj; cases hj
   | some e =>
    rw [hq] at hj
    simp only [Option.map_some, Option.some.injEq] at hj
    cases e with
    | live b cs => cases b <;> simp [LC] at hj
    | dead => cases hj
    | lp => cases hj
    | buf b t3 l3 n3 v3 =>
     simp only [LC] at hj
     exact h.2 _ _ _ _ _ (by rw [hq, hj])
 ·have hji : j ≠ id := by
   rintro rfl
   rw [hid] at hj
   injection hj with hj
   subst hj
   cases hr
  rw [List.getElem?_set_ne (fun e => hji e.symm), List.getElem?_map, hj]
  cases e with
  | live b cs => cases b with | true => rfl | false => cases hr
  | dead => cases hr
  | buf b t3 l3 n3 v3 => rfl
  | lp => rfl
 ·by_cases hji : j = id
  ·subst hji
   rw [List.getElem?_set_self (by simpa using hidl)] at hq
   cases hq
  ·rw [List.getElem?_set_ne (fun e => hji e.symm), List.getElem?_map] at hq
   cases hz : H[j]? with
   | none => rw [hz] at hq; cases hq
   | some e =>
    rw [hz] at hq
    simp only [Option.map_some, Option.some.injEq] at hq
    cases e with
    | live b cs => cases b <;> simp [LC] at hq
    | dead => cases hq
    | lp => cases hq
    | buf b t3 l3 n3 v3 =>
     simp only [LC] at hq
     exact h _ _ _ _ (by rw [hz, hq])
 ·by_cases hji : j = id
  ·subst hji
   rw [List.getElem?_set_self (by simpa using hidl)] at hq
   cases hq
  ·rw [List.getElem?_set_ne (fun e => hji e.symm), List.getElem?_map] at hq
   cases hz : H[j]? with
   | none => rw [hz] at hq; cases hq
   | some e =>
    rw [hz] at hq
    simp only [Option.map_some, Option.some.injEq] at hq
    cases e with
    | live b cs => cases b <;> simp [LC] at hq
    | dead => cases hq
    | buf b t3 l3 n3 v3 => cases hq
    | lp ro0 F0 n0 e0 p0 a0 b0 s0 =>
     injection hq with _ q2 q3 q4 q5 q6 q7 _
     subst q2 q3 q4 q5 q6 q7
     exact ⟨_, _, rfl⟩
theorem jg {id : Nat} {env env2 : As} {H H2 : AS} (ok : Lo env H) (h : frz id env H = some (env2, H2)) : Lo env2 H2 ∧ BC H H2 ∧ ∀ N, DP N (Ah H).length (BW env) (Ah H) (BW env2) (Ah H2) := by
 unfold frz at h
 split at h
 ·rename_i t l n ver hid
  simp only [Option.some.injEq, Prod.mk.injEq] at h
  obtain ⟨rfl, rfl⟩ := h
  have hidl := Cq hid
  have hst := gc hid
  have hn : n = l.length := ok.heap _ (List.mem_of_getElem? hid)
  refine ⟨⟨fun p hp => ?_, fun e he => ?_⟩, hst, fun N => ?_⟩
  ·obtain ⟨q, hq, rfl⟩ := List.mem_map.1 hp
   exact cq hst (ok.env q hq)
  ·rcases List.mem_or_eq_of_mem_set he with he | rfl
   ·obtain ⟨e0, he0, rfl⟩ := List.mem_map.1 he
    have h0 := ok.heap e0 he0
    cases e0 with
    | live b cs =>
     cases b with
     | true => exact hst.lok h0
     | false => exact ed hst h0
    | dead => trivial
    | buf b t3 l3 n3 v3 => exact h0
    | lp => exact h0
   ·trivial
  ·have hid' : (Ah H)[id]? = some (.live n (t.E.cl l)) := by rw [De, hid]; rfl
   refine DP.sem (by simp [Ah]) fun X g w s => ?_
   have hget : ∀ j, (Ah ((H.map (LC id ver t l)).set id .dead))[j]? = if j = id then some .dead else (H[j]?).map fun e => (LC id ver t l e).enc := by
    intro j
    rw [De]
    by_cases hji : j = id
    ·subst hji
     rw [if_pos rfl, List.getElem?_set_self (by simpa using hidl)]
     rfl
    ·rw [if_neg hji, List.getElem?_set_ne (fun e => hji e.symm), List.getElem?_map, Option.map_map]
     rfl
   have back : ∀ (j : Nat) (e : Dt), (Ah ((H.map (LC id ver t l)).set id .dead))[j]? = some e → e ≠ .dead → j ≠ id ∧ ∃ e0, (Ah H)[j]? = some e0 ∧ e0 ≠ .dead := by
    intro j e hj hne
    rw [hget] at hj
    split at hj
    ·injection hj with hj; exact (hne hj.symm).elim
    ·rename_i hji
     refine ⟨hji, ?_⟩
     cases hq : H[j]? with
     | none => rw [hq] at hj; cases hj
     | some e0 =>
      refine ⟨e0.enc, by rw [De, hq]; rfl, fun hd => hne ?_⟩
      rw [hq] at hj
      simp only [Option.map_some, Option.some.injEq] at hj
      cases e0 with
      | live b cs => simp [Bw.enc] at hd
      | dead => exact hj.symm
      | buf b t3 l3 n3 v3 => simp [Bw.enc] at hd
      | lp => simp [Bw.enc] at hd
   have lat : (cx X g (Ah H) w).Later (cx X g (Ah ((H.map (LC id ver t l)).set id .dead)) w) := VR (by simp [Ah]) fun j e hj hne => (back j e hj hne).2
   have hO : ∀ B, g.io id = some B → ¬ (cx X g (Ah ((H.map (LC id ver t l)).set id .dead)) w).O B := by
    rintro B hio (hX | ⟨j, e, hj, hne, hioj⟩)
    ·exact (s.out B hX).2 ⟨id, _, hid', by simp, hio⟩
    ·obtain ⟨hji, e0, h1, h2⟩ := back j e hj hne
     exact hji (s.inj j id _ _ B h1 hid' h2 (by simp) hioj hio)
   have hconv : Conv (cx X g (Ah H) w) (cx X g (Ah ((H.map (LC id ver t l)).set id .dead)) w) (.sl id n t.sz 0 n) (.vs t.sz (l.map t.enc)) := fun c r =>
    A1.froze s hid' (o_rows t.E l) (by rw [hn]; exact List.length_map _) lat rfl hO r
   refine ⟨⟨by simp [Ah], fun j e' hj => ?_⟩, fun tt v' m => ?_⟩
   ·rw [hget] at hj
    split at hj
    ·injection hj with hj; exact .inl hj.symm
    ·cases hq : H[j]? with
     | none => rw [hq] at hj; cases hj
     | some e0 =>
      rw [hq] at hj
      simp only [Option.map_some, Option.some.injEq] at hj
      have hq' : (Ah H)[j]? = some e0.enc := by rw [De, hq]; rfl
      cases e0 with
      | live b cs =>
       refine .inr (.inl ?_)
       cases b with
       | true =>
        simp only [LC, Bw.enc] at hj
        exact ⟨0, lvs cs, lvs cs, hq', hj.symm, rfl, (Mi.later lat _).2⟩
       | false =>
        simp only [LC, Bw.enc] at hj
        obtain ⟨c1, c2⟩ := Yt lat hid hconv (ok.heap _ (List.mem_of_getElem? hq))
        exact ⟨0, lvs cs, _, hq', hj.symm, c1, c2⟩
      | dead => exact .inl hj.symm
      | buf b t3 l3 n3 v3 =>
       simp only [LC, Bw.enc] at hj
       exact .inr (.inl ⟨n3, t3.E.cl l3, t3.E.cl l3, hq', hj.symm, rfl, (Mi.later lat _).2⟩)
      | lp =>
       subst hj
       exact .inr (.inr ⟨hq', fun _ _ h => by cases h⟩)
   ·simp only [BW, List.map_map, List.mem_map] at m
    obtain ⟨p, hp, e⟩ := m
    simp only [Function.comp, Prod.mk.injEq] at e
    obtain ⟨rfl, rfl⟩ := e
    exact ⟨p.2.enc, List.mem_map.2 ⟨p, hp, rfl⟩, Z9 lat hid hconv (ok.env p hp)⟩
 ·cases h
end Go.Ab
namespace Go.Ab
@[reducible] def DL : List Ty → Type
 | [] => Unit
 | [t] => t.D
 | t :: u :: r => t.D × DL (u :: r)
def fX : (ts : List Ty) → List TV → Option (DL ts)
 | [], [] => some ()
 | [t], [v] => t.data v
 | t :: u :: r, v :: vs =>
  match t.data v, fX (u :: r) vs with
  | some x, some y => some (x, y)
  | _, _ => none
 | _, _ => none
def cK : (ts : List Ty) → DL ts → List TV
 | [], _ => []
 | [t], x => [t.tv x]
 | t :: u :: r, x => t.tv x.1 :: cK (u :: r) x.2
def Xc : (ts : List Ty) → DL ts → List AG
 | [], _ => []
 | [t], x => [t.enc x]
 | t :: u :: r, x => t.enc x.1 :: Xc (u :: r) x.2
def one : List TV → TV
 | [v] => v
 | vs => .tup vs
def oneA : List AG → AG
 | [v] => v
 | vs => .tup vs
def Ho (bt : Ty) : (rs : List Ty) → DL (rs ++ [bt]) → DL rs × bt.D
 | [], y => ((), y)
 | [_], y => (y.1, y.2)
 | _ :: u :: r, y => ((y.1, (Ho bt (u :: r) y.2).1), (Ho bt (u :: r) y.2).2)
inductive A6 where
 | c2 (f : FuncId) (te : Ty) (ds rs : List Ty) (post : List AG) (g : List te.D → DL ds → Option (DL (rs ++ [.list te])))
 | cl (f : FuncId) (t : Ty)
 | c0 (f : FuncId) (ds rs : List Ty) (g : DL ds → Option (DL rs))
 | c1 (f : FuncId) (pos : Nat) (bt : Ty) (ds rs : List Ty) (g : bt.D → DL ds → Option (DL (rs ++ [bt])))
def A6.f : A6 → FuncId
 | .c0 f .. => f
 | .c1 f .. => f
 | .c2 f .. => f
 | .cl f _ => f
def fnB : AG → AG → Bool
 | .fn (.func F) [] [], .fn (.func G) [] [] => Nat.beq F G
 | _, _ => false
theorem je {v w : AG} (h : fnB v w = true) : v = w := by
 unfold fnB at h
 split at h
 ·rw [Nat.eq_of_beq_eq_true h]
 ·cases h
def bR : List TV → List AG → Bool
 | [], [] => true
 | .c (.raw v) :: r, w :: s => fnB v w && bR r s
 | _, _ => false
theorem dJ : ∀ {l : List TV} {p : List AG}, bR l p = true → l.map TV.enc = p
 | [], [], _ => rfl
 | [], _ :: _, h => by simp [bR] at h
 | v :: r, [], h => by cases v <;> simp [bR] at h
 | v :: r, w :: s, h => by
  unfold bR at h
  split at h
  ·rename_i e; cases e
  ·rename_i e1 e2
   injection e1 with a1 a2
   injection e2 with b1 b2
   subst a1 a2 b1 b2
   simp only [Bool.and_eq_true] at h
   rw [List.map_cons, dJ h.2]
   exact congrArg (· :: _) (je h.1)
  ·cases h
def OJ : Nat → AG → List AG → List AG
 | 0, v, l => v :: l
 | n + 1, v, x :: l => x :: OJ n v l
 | _ + 1, v, [] => [v]
def A6.Ok (P : Program) : A6 → Prop
 | .c2 f te ds rs post g => ∀ l x y, g l x = some y → (Ho (.list te) rs y).2.length = l.length → ∀ H id, H[id]? = some (.live l.length (te.E.cl l)) →
  Bz P f (.sl id l.length te.sz 0 l.length :: (Xc ds x ++ post)) H (Bj (oneA (Xc rs (Ho (.list te) rs y).1)) (H.set id (.live l.length (te.E.cl (Ho (.list te) rs y).2))))
 | .cl f t => ∀ (l : List t.D) (H : AS), (∀ e ∈ H, e.ok H) → (l = [] → Bz P f [.vs t.sz []] (Ah H) (Bj (.vs t.sz []) (Ah (H ++ [.dead])))) ∧
  ∀ r, l ≠ [] → app [] l = some r → Bz P f [.vs t.sz (l.map t.enc)] (Ah H) (Bj (.sl H.length r.length t.sz 0 r.length) (Ah (H ++ [.buf false t r r.length 0])))
 | .c0 f ds rs g => ∀ x y, g x = some y → ∀ H, Bz P f (Xc ds x) H (Bj (oneA (Xc rs y)) H)
 | .c1 f pos bt ds rs g => ∀ b x y, g b x = some y → ∀ H id, H[id]? = some (.live 0 (bt.enc b).cells) → Bz P f (OJ pos (.ptr id 0 0) (Xc ds x)) H (Bj (oneA (Xc rs (Ho bt rs y).1)) (H.set id (.live 0 (bt.enc (Ho bt rs y).2).cells)))
section
variable {R : Type}
def eT (c : A6) (vs : List TV) (H : AS) (k : TV → AS → Option R) : Option R :=
 match c with
 | .c0 _ ds rs g => match fX ds vs with | some x => (g x).bind fun y => k (one (cK rs y)) H | none => none
 | .c1 _ pos bt ds rs g =>
  match vs[pos]? with
  | some (.c (.raw (.ptr id 0 0))) =>
   match H[id]? with
   | some (.live false cs) =>
    match bt.all cs, fX ds (vs.take pos ++ vs.drop (pos + 1)) with
    | some b, some x => (g b x).bind fun y => k (one (cK rs (Ho bt rs y).1)) (H.set id (.live false (bt.lvs (Ho bt rs y).2)))
    | _, _ => none
   | _ => none
  | _ => none
 | .c2 _ te ds rs post g =>
  match vs with
  | .c (.own id ver _ _) :: r =>
   match H[id]? with
   | some (.buf false t l n' ver') =>
    match Nat.beq ver ver' with
    | true =>
     if h : (Ty.list t).beq (Ty.list te) = true then
      match fX ds (r.take ds.length), bR (r.drop ds.length) post with
      | some x, true => (g (Ty.cast h l) x).bind fun y =>
       cond (Nat.beq (Ho (.list te) rs y).2.length n') (k (one (cK rs (Ho (.list te) rs y).1)) (H.set id (.buf false te (Ho (.list te) rs y).2 n' ver'))) none
      | _, _ => none
     else none
    | false => none
   | _ => none
  | _ => none
 | .cl _ t =>
  match vs with
  | [.c (.ls te l)] =>
   if h : (Ty.list te).beq (Ty.list t) = true then
    cond (decide (((l.length : Nat) : Int) = 0)) (k (.c (.ls t [])) (H ++ [.dead])) ((app (α := t.D) [] (Ty.cast h l)).bind fun r => k (.c (.own H.length 0 t r.length)) (H ++ [.buf false t r r.length 0]))
   else none
  | [.c .nil] => k (.c (.ls t [])) (H ++ [.dead])
  | _ => none
theorem Rq : ∀ (ts : List Ty) (x : DL ts), (cK ts x).map TV.enc = Xc ts x
 | [], _ => rfl
 | [t], x => by simp only [cK, Xc, List.map_cons, List.map_nil, t.tv_enc]
 | t :: u :: r, x => by simp only [cK, Xc, List.map_cons, t.tv_enc, Rq (u :: r)]
theorem Xw {H : AS} : ∀ (ts : List Ty) (x : DL ts), ∀ v ∈ cK ts x, v.ok H
 | [], _, v, hv => by simp [cK] at hv
 | [t], x, v, hv => by simp only [cK, List.mem_singleton] at hv; subst hv; exact t.tv_ok x
 | t :: u :: r, x, v, hv => by
  simp only [cK, List.mem_cons] at hv
  rcases hv with rfl | hv
  ·exact t.tv_ok _
  ·exact Xw (u :: r) x.2 v hv
theorem Zh (vs : List TV) : (one vs).enc = oneA (vs.map TV.enc) := by
 match vs with
 | [] => rfl
 | [v] => rfl
 | v :: w :: r => simp only [one, oneA, TV.enc, Zz, List.map_cons]
theorem cC {H : AS} {vs : List TV} (h : ∀ v ∈ vs, v.ok H) : (one vs).ok H := by
 match vs, h with
 | [], h => exact NG h
 | [v], h => exact h v (by simp)
 | v :: w :: r, h => exact NG h
theorem Qm : ∀ {ts : List Ty} {vs : List TV} {x : DL ts}, fX ts vs = some x → Bc (vs.map TV.enc) (Xc ts x)
 | [], [], x, h => Bc.refl _
 | [t], [v], x, h => Bc.one (Ty.data_spec h)
 | t :: u :: r, v :: vs, x, h => by
  simp only [fX] at h
  split at h
  ·rename_i y z hy hz
   injection h with h
   subst h
   exact (Bc.one (Ty.data_spec hy)).append (Qm hz)
  ·cases h
 | [], _ :: _, x, h => by simp [fX] at h
 | [t], [], x, h => by simp [fX] at h
 | [t], _ :: _ :: _, x, h => by simp [fX] at h
 | _ :: _ :: _, [], x, h => by simp [fX] at h
theorem aD : ∀ {n : Nat} {vs : List AG} {v : AG} {ds : List AG}, vs[n]? = some v → Bc (vs.take n ++ vs.drop (n + 1)) ds → Bc vs (OJ n v ds)
 | 0, u :: vs, v, ds, h, hl => by
  simp at h
  subst h
  simp only [List.take_zero, List.nil_append, List.drop_succ_cons, List.drop_zero] at hl
  exact (Bc.one (PO.refl u)).append hl
 | n + 1, u :: vs, v, ds, h, hl => by
  simp only [List.getElem?_cons_succ] at h
  simp only [List.take_succ_cons, List.drop_succ_cons, List.cons_append] at hl
  cases ds with
  | nil => have := hl.1; simp at this
  | cons d ds =>
   have h0 : PO u d := by
    obtain ⟨w, q1, q2⟩ := hl.2 0 d rfl
    simp at q1
    subst q1
    exact q2
   have h1 : Bc (vs.take n ++ vs.drop (n + 1)) ds := ⟨by have := hl.1; simpa using this, fun i v' hi => hl.2 (i + 1) v' hi⟩
   exact (Bc.one h0).append (aD h h1)
 | 0, [], v, ds, h, _ => by simp at h
 | n + 1, [], v, ds, h, _ => by simp at h
def iR (c : A6) (vs : List TV) : List Nat :=
 match c with
 | .c0 .. => []
 | .c1 _ pos .. => match vs[pos]? with | some v => iZ v | none => []
 | .c2 .. => match vs[0]? with | some v => iZ v | none => []
 | .cl .. => []
def ctrD (c : A6) (vs : List TV) : List TV :=
 match c with
 | .c2 .. => vs.drop 1
 | _ => vs
theorem cS {P : Program} {c : A6} (hc : c.Ok P) {vs : List TV} {H : AS} {k : TV → AS → Option R} {r : R} (hv : ∀ v ∈ vs, v.ok H) (hH : ∀ e ∈ H, e.ok H) (h : eT c vs H k = some r) :
  ∃ v H', Bz P c.f (vs.map TV.enc) (Ah H) (Bj v.enc (Ah H')) ∧ k v H' = some r ∧ v.ok H' ∧ (∀ e ∈ H', e.ok H') ∧ BC H H' ∧ Frame (iR c vs) H H' := by
 unfold eT at h
 split at h
 ·rename_i f ds rs g
  split at h
  ·rename_i x hx
   obtain ⟨y, hy, h⟩ := Option.bind_eq_some_iff.1 h
   refine ⟨_, H, ?_, h, cC (Xw rs y), hH, BC.refl H, Frame.refl _ _⟩
   rw [Zh, Rq]
   have hl := Qm hx
   refine Bz.before (args2 := Xc ds x) (H2 := Ah H) hl.1 (fun X g0 w s => ⟨⟨rfl, fun j e' hj => ?_⟩, fun j v' hj => ?_⟩) (hc x y hy _)
   ·cases e' with
    | dead => exact .inl rfl
    | live g1 c1 => exact .inr (.inl ⟨g1, c1, c1, hj, rfl, rfl, fun i v hi => ⟨v, hi, fun _ r => r⟩⟩)
    | _ => exact .inr (.inr ⟨hj, by simp⟩)
   ·obtain ⟨v, q1, q2⟩ := hl.2 j v' hj
    exact ⟨v, q1, fun d rr => q2 _ _ rr⟩
  ·cases h
 ·rename_i f pos bt ds rs g
  split at h
  ·rename_i id hp
   split at h
   ·rename_i cs hid
    split at h
    ·rename_i b x hb hx
     obtain ⟨y, hy, h⟩ := Option.bind_eq_some_iff.1 h
     have hst : BC H (H.set id (.live false (bt.lvs (Ho bt rs y).2))) := BC.set hid rfl fun _ _ _ _ _ h => by cases h
     refine ⟨_, _, ?_, h, cC (Xw rs _), Oa hst hH (bt.lvs_ok _), hst, Frame.set (by simp only [iR, hp]; exact List.mem_singleton.2 rfl)⟩
     rw [Zh, Rq, Kn]
     have hidl : id < (Ah H).length := by rw [BH]; exact Cq hid
     have hl := Qm hx
     have hbl := Ty.all_spec hb
     have hargs : Bc (vs.map TV.enc) (OJ pos (.ptr id 0 0) (Xc ds x)) := by
      refine aD ?_ (by rw [← List.map_take, ← List.map_drop, ← List.map_append]; exact hl)
      rw [List.getElem?_map, hp]
      rfl
     have hcall := hc b x y hy ((Ah H).set id (.live 0 (bt.enc b).cells)) id (by rw [List.getElem?_set_self hidl])
     rw [List.set_set] at hcall
     have e1 : (Bw.live false (bt.lvs (Ho bt rs y).2)).enc = .live 0 (bt.enc (Ho bt rs y).2).cells := by simp only [Bw.enc, bt.lvs_enc]
     rw [e1]
     refine Bz.before hargs.1 (fun X g0 w s => ?_) hcall
     have hset : Ah H = (Ah H).set id (.live 0 (lvs cs)) := by
      have : (Ah H)[id]? = some (.live 0 (lvs cs)) := by rw [De, hid]; rfl
      apply List.ext_getElem?
      intro j
      by_cases hji : j = id
      ·subst hji; rw [List.getElem?_set_self hidl, this]
      ·rw [List.getElem?_set_ne (fun e => hji e.symm)]
     have lat : (cx X g0 (Ah H) w).Later (cx X g0 ((Ah H).set id (.live 0 (bt.enc b).cells)) w) := by
      refine VR (by simp) fun j e hj hne => ?_
      by_cases hji : j = id
      ·subst hji
       exact ⟨.live 0 (lvs cs), by rw [De, hid]; rfl, by simp⟩
      ·rw [List.getElem?_set_ne (fun e => hji e.symm)] at hj
       exact ⟨e, hj, hne⟩
     refine ⟨Nr.set_less hidl hset rfl hbl lat, fun j v' hj => ?_⟩
     obtain ⟨v, q1, q2⟩ := hargs.2 j v' hj
     exact ⟨v, q1, fun d rr => q2 _ _ (rr.later lat)⟩
    ·cases h
   ·cases h
  ·cases h
 ·rename_i f te ds rs post g
  split at h
  ·rename_i id ver t0 n0 r0
   split at h
   ·rename_i t l n' ver' hid
    split at h
    ·rename_i hb
     have hver := Nat.eq_of_beq_eq_true hb
     subst hver
     split at h
     ·rename_i hty
      have hty' := Ty.beq_eq _ _ hty
      injection hty' with hty'
      subst hty'
      split at h
      ·rename_i x hx hp
       obtain ⟨y, hy, h⟩ := Option.bind_eq_some_iff.1 h
       have hcast : (Ty.cast hty l : List t.D) = l := rfl
       rw [hcast] at hy
       have hn : n' = l.length := hH _ (List.mem_of_getElem? hid)
       have hr : OK H id ver t0 n0 := hv _ List.mem_cons_self (.own id ver t0 n0) (by simp [TV.refs])
       obtain ⟨_, q⟩ := hr.2 _ _ _ _ _ hid
       obtain ⟨rfl, rfl⟩ := q rfl
       cases hbq : Nat.beq (Ho (.list t) rs y).2.length n' with
       | false => rw [hbq] at h; cases h
       | true =>
        rw [hbq] at h
        have hlen : (Ho (.list t) rs y).2.length = n' := Nat.eq_of_beq_eq_true hbq
        have hst : BC H (H.set id (.buf false t (Ho (.list t) rs y).2 n' ver)) := BC.set hid rfl fun _ _ _ _ _ e => by
         cases e
         exact ⟨_, _, _, _, rfl, .inr ⟨rfl, rfl⟩⟩
        refine ⟨_, _, ?_, h, cC (Xw rs _), Oa hst hH hlen.symm, hst, Frame.set (by simp [iR, iZ])⟩
        rw [Zh, Rq, Kn]
        have hl := Qm hx
        have hpost := dJ hp
        have hargs : Bc ((TV.c (.own id ver t n') :: r0).map TV.enc) (.sl id l.length t.sz 0 l.length :: (Xc ds x ++ post)) := by
         rw [List.map_cons, ← List.take_append_drop ds.length r0, List.map_append, hpost]
         have e1 : (TV.c (.own id ver t n')).enc = .sl id l.length t.sz 0 l.length := by rw [← hn]; rfl
         rw [e1]
         rw [← List.singleton_append]
         rw [← List.singleton_append (l := Xc ds x ++ post)]
         exact (Bc.refl _).append (hl.append (Bc.refl _))
        have hcall := hc l x y hy (by rw [hlen, hn]) (Ah H) id (by rw [De, hid, ← hn]; rfl)
        have e2 : (Bw.buf false t (Ho (.list t) rs y).2 n' ver).enc = .live l.length (t.E.cl (Ho (.list t) rs y).2) := by rw [← hn]; rfl
        rw [e2]
        refine Bz.before hargs.1 (fun X g0 w s => ⟨⟨rfl, fun j e' hj => ?_⟩, fun j v' hj => ?_⟩) hcall
        ·cases e' with
         | dead => exact .inl rfl
         | live g1 c1 => exact .inr (.inl ⟨g1, c1, c1, hj, rfl, rfl, fun i v hi => ⟨v, hi, fun _ r => r⟩⟩)
         | _ => exact .inr (.inr ⟨hj, by simp⟩)
        ·obtain ⟨v, q1, q2⟩ := hargs.2 j v' hj
         exact ⟨v, q1, fun d rr => q2 _ _ rr⟩
      ·cases h
     ·cases h
    ·cases h
   ·cases h
  ·cases h
 ·rename_i f t
  have same : ∀ {args args2 : List AG} {Q : AG → AU → Prop}, Bc args args2 → Bz P f args2 (Ah H) Q → Bz P f args (Ah H) Q := fun hargs hcall => by
   refine Bz.before hargs.1 (fun X g0 w s => ⟨⟨rfl, fun j e' hj => ?_⟩, fun j v' hj => ?_⟩) hcall
   ·cases e' with
    | dead => exact .inl rfl
    | live g1 c1 => exact .inr (.inl ⟨g1, c1, c1, hj, rfl, rfl, fun i v hi => ⟨v, hi, fun _ r => r⟩⟩)
    | _ => exact .inr (.inr ⟨hj, by simp⟩)
   ·obtain ⟨v, q1, q2⟩ := hargs.2 j v' hj
    exact ⟨v, q1, fun d rr => q2 _ _ rr⟩
  split at h
  ·rename_i te l
   split at h
   ·rename_i hty
    have hty' := Ty.beq_eq _ _ hty
    injection hty' with hty'
    subst hty'
    have hcast : (Ty.cast hty l : List te.D) = l := rfl
    rw [hcast] at h
    cases hz : decide (((l.length : Nat) : Int) = 0) with
    | true =>
     rw [hz] at h
     have h0 : l = [] := by
      have : ((l.length : Nat) : Int) = 0 := by simpa using hz
      exact List.eq_nil_of_length_eq_zero (by omega)
     subst h0
     refine ⟨TV.c (Ar.ls te []), H ++ [Bw.dead], ?_, h, Gd trivial, LJ hH trivial, BC.push _ _, Frame.push _ _ _⟩
     exact (hc [] H hH).1 rfl
    | false =>
     rw [hz] at h
     have h0 : l ≠ [] := by
      rintro rfl
      simp at hz
     obtain ⟨r, hr, h⟩ := Option.bind_eq_some_iff.1 h
     have e : Bw.ok (H ++ [.buf false te r r.length 0]) (.buf false te r r.length 0) := rfl
     have q := (hc l H hH).2 r h0 hr
     refine ⟨TV.c (Ar.own H.length 0 te r.length), H ++ [Bw.buf false te r r.length 0], ?_, h, aQ, LJ hH e, BC.push _ _, Frame.push _ _ _⟩
     exact q
   ·cases h
  ·refine ⟨TV.c (Ar.ls t []), H ++ [Bw.dead], ?_, h, Gd trivial, LJ hH trivial, BC.push _ _, Frame.push _ _ _⟩
   exact same (Bc.one (PO.nil t.sz_pos)) ((hc [] H hH).1 rfl)
  ·cases h
end
end Go.Ab
namespace Go.Ab
section
variable {P : Program} {N : Nat} {o : Oper} {env : Env} {H : AU} {K : AG → AU → Prop}
theorem Dg.eqNil {t t2 e : TypeId} {x : Operand} {sz : Nat} {rows : List AG} (ho : o.op = .binOp .eql t x (.const (.slice none 0 0)) t2) (hu : P.underlying t = some (.slice e)) (hx : Al env x = .vs sz rows)
  (hk : ∀ b, (rows ≠ [] → b = false) → K (.bool b) H) : Dg P N o env H K := by
 refine Dg.of_wp (by rw [ho]; rfl) ?_
 intro X h a w s Q
 have rx := B5 s.env x
 rw [hx] at rx
 generalize hax : a.eval x = jE at rx
 cases rx with
 | @vs sz rows ad cap f hcap hsz hrow ha hv =>
  have hun := run_underlying hu w
  have hrun : (execOp a.eval o).run P w = .ok (.value (.bool ad.isNone)) w := by
   unfold execOp
   rw [ho]
   have e0 : a.eval (.const (.slice none 0 0)) = .slice none 0 0 := rfl
   have e1 : (eqGuard .eql t x (.const (.slice none 0 0)) (.slice ad rows.length cap) (.slice none 0 0)).run P w = .ok () w := by
    unfold eqGuard
    simp
   have e2 : (Op.equal t (.slice ad rows.length cap) (.slice none 0 0)).run P w = .ok ad.isNone w := by
    have e3 : ∃ d, Op.maxDepth = d + 1 := ⟨9999, rfl⟩
    obtain ⟨d, hd⟩ := e3
    unfold Op.equal
    rw [hd]
    cases ad <;> simp [Op.equalIn, hun]
   simp only [hax, e0, Sem.run_bind, e1, Result.andThen_ok, binOp, e2, Sem.run_pure]
  unfold Oper.wp
  rw [hrun, Oper.upon_value]
  refine ⟨_, _, h, H, rfl, hk ad.isNone (fun hne => ?_), .bool _, s.sim, FB.refl _ _ _⟩
  obtain ⟨B, off, q, _⟩ := ha hne
  rw [q]
  rfl
theorem Dg.clear {t e : TypeId} {x : Operand} {id g off n sz : Nat} {cs z : List AG} (ho : o.op = .call { callee := .builtin .clear, args := #[x], argTypes := #[t] }) (hd : o.dst = none) (he : eI P t = some (none, e, sz)) (hse : PC P e = true) (hz : UG P e = some z) (hzl : z.length = sz)
  (hx : Al env x = .sl id g sz off n) (hid : H[id]? = some (Dt.live g cs)) (hle : off + n * sz ≤ cs.length) (hk : K (.tup []) (H.set id (.live g (Pn cs off (List.replicate n z).flatten)))) : Dg P N o env H K := by
 refine Dg.of_wp (by rw [ho]; rfl) ?_
 intro X h a w s Q
 obtain ⟨hun, b, hi⟩ := LB he
 obtain ⟨i, zv, hinfo, hby, hzv, hzs⟩ := NI hse
 have hisz := XG hi hinfo
 obtain ⟨i', v', hi', hv', hrel⟩ := UH (cx X h H w) hz
 have : i' = i := by rw [hinfo] at hi'; exact (Option.some.inj hi').symm
 subst this
 have : v' = zv := by rw [hzv] at hv'; exact (Option.some.inj hv').symm
 subst this
 have hcs : v'.cells.size = sz := by rw [hzs, hisz]
 have rx := B5 s.env x
 rw [hx] at rx
 have hun' := run_underlying hun w
 have hfl : (List.replicate n z).flatten.length = n * sz := by simp [hzl]
 obtain ⟨hgen, hent⟩ := s.sim.live id g cs hid
 have hsl : ∃ ad cap, a.eval x = .slice ad n cap ∧ (n ≠ 0 → ∃ B, h.io id = some B ∧ ad = some ⟨B, off, none⟩) := by
  generalize a.eval x = c at rx
  cases rx with
  | sl h1 h2 h3 hc =>
   rcases hc hgen with ⟨_, q2, _, q4⟩ | ⟨B, cap, q1, _, _, q4⟩
   ·exact ⟨none, 0, by rw [q4, q2], fun hne => (hne q2).elim⟩
   ·exact ⟨_, cap, q4, fun _ => ⟨B, q1, rfl⟩⟩
 obtain ⟨ad, cap, hax, had⟩ := hsl
 have hidl : id < H.length := by
  rcases Nat.lt_or_ge id H.length with h2 | h2
  ·exact h2
  ·rw [List.getElem?_eq_none h2] at hid; cases hid
 by_cases hn : n = 0
 ·subst hn
  have hrun : (execOp a.eval o).run P w = .ok (.value (.tuple #[])) w := by
   unfold execOp
   rw [ho]
   simp only [resolve, invoke, builtin, Sem.run_bind, Sem.run_pure, Result.andThen_ok, List.map_toArray, List.map_cons, List.map_nil, hax, Builtin.clear_]
   simp [hun']
   cases ad <;> simp
  unfold Oper.wp
  rw [hrun, Oper.upon_value]
  have e1 : H.set id (.live g (Pn cs off (List.replicate 0 z).flatten)) = H := by
   have : Pn cs off (List.replicate 0 z).flatten = cs := by simp [Pn]
   rw [this]
   apply List.ext_getElem?
   intro j
   by_cases hji : j = id
   ·subst hji
    rw [List.getElem?_set_self hidl, hid]
   ·rw [List.getElem?_set_ne fun e => hji e.symm]
  rw [e1] at hk
  exact ⟨_, _, h, H, rfl, hk, .tup rfl fun _ _ _ h => by (cases h), s.sim, FB.refl _ _ _⟩
 ·obtain ⟨B, hio, rfl⟩ := had hn
  rcases hent with ⟨hnn, _⟩ | ⟨B', arr, T, fz, f, hio', hb, hcap, hle', hfz, hcells⟩
  ·rw [show (cx X h H w).io id = h.io id from rfl, hio] at hnn; cases hnn
  rw [show (cx X h H w).io id = h.io id from rfl, hio] at hio'
  injection hio' with e0
  subst e0
  have hzc : (Builtin.zeroCells v'.cells n).size = n * sz := by rw [Qs, hcs]
  have hzget : ∀ j, j < n * sz → ∃ d u, (Builtin.zeroCells v'.cells n)[j]? = some d ∧ (List.replicate n z).flatten[j]? = some u ∧ d.oneCell' = true ∧ A1 (cx X h H w) u d := by
   intro j hj
   have hsz : 0 < sz := by
    rcases Nat.eq_zero_or_pos sz with q | q
    ·subst q; simp at hj
    ·exact q
   have hm : j % sz < v'.cells.size := by rw [hcs]; exact Nat.mod_lt _ hsz
   have hcell : v'.cells[j % sz]? = some (v'.cells[j % sz]'hm) := Array.getElem?_eq_getElem hm
   have hget : ∀ (m j : Nat), j < m * sz → (List.replicate m z).flatten[j]? = z[j % sz]? := by
    intro m
    induction m with
    | zero => intro j hj; omega
    | succ m ih =>
     intro j hj
     rw [List.replicate_succ, List.flatten_cons]
     rcases Nat.lt_or_ge j sz with hlt | hge
     ·rw [List.getElem?_append_left (by omega), Nat.mod_eq_of_lt hlt]
     ·rw [List.getElem?_append_right (by omega), hzl, ih (j - sz) (by rw [Nat.add_mul] at hj; omega), ← Nat.mod_eq_sub_mod hge]
   have hzj : z[j % sz]? = some (z[j % sz]'(by rw [hzl]; exact Nat.mod_lt _ hsz)) := List.getElem?_eq_getElem _
   have hmade : (Builtin.zeroCells v'.cells n)[j]? = some (v'.cells[j % sz]'hm) := by
    unfold Builtin.zeroCells
    rw [Array.getElem?_map, Array.getElem?_range, if_pos (by rw [hcs]; exact hj)]
    have hm' : j % v'.cells.size < v'.cells.size := by rw [hcs]; rw [hcs] at hm; exact hm
    rw [Option.map_some, getElem!_pos v'.cells _ hm']
    simp only [hcs]
   cases hrel with
   | agg q1 q2 q3 => exact ⟨_, _, hmade, by rw [hget n j hj, hzj], q2 _ _ hcell, q3 _ _ _ hzj hcell⟩
  obtain ⟨w', arr', p1, p2, p3, p4, p5, p6, p7, p8, p9⟩ := Np (P := P) (off := off) (Builtin.zeroCells v'.cells n).toList 0 arr w hb (by simp [hzc]; omega) hfz (fun d hd => by
   obtain ⟨j, hj⟩ := List.getElem?_of_mem hd
   have hjl : j < n * sz := by
    rw [← hzc]
    have := (List.getElem?_eq_some_iff.1 hj).1
    simpa using this
   obtain ⟨d', u, q1, _, q3, _⟩ := hzget j hjl
   rw [Array.getElem?_toList] at hj
   rw [hj] at q1
   injection q1 with q1
   rw [q1]
   exact q3)
  have hrun : (execOp a.eval o).run P w = .ok (.value (.tuple #[])) w' := by
   unfold execOp
   rw [ho]
   simp only [resolve, invoke, builtin, Sem.run_bind, Sem.run_pure, Result.andThen_ok, List.map_toArray, List.map_cons, List.map_nil, hax, Builtin.clear_]
   have hn' : ∀ (α : Type) (p q : α), (match n with | 0 => p | _ + 1 => q) = q := by
    intro α p q
    cases n with
    | zero => exact (hn rfl).elim
    | succ m => rfl
   obtain ⟨m, rfl⟩ : ∃ m, n = m + 1 := ⟨n - 1, by omega⟩
   simp [hun', zeroValue, typeInfo, hinfo, hzv]
   rw [p1]
   rfl
  have hh : PD (cx X h H w) (Pn cs off (List.replicate n z).flatten) arr' fz := by
   refine ⟨fun j => if off ≤ j ∧ j < off + n * sz then (Builtin.zeroCells v'.cells n).getD (j - off) undef else f j, by rw [Wu (by rw [hfl]; exact hle)]; omega, by rw [p3]; exact hfz, fun j u hj => ?_⟩
   rw [aY (by rw [hfl]; exact hle), hfl] at hj
   rw [p4]
   simp only [Nat.add_zero, Array.length_toList, hzc, Array.getElem?_toList]
   split at hj
   ·rename_i hb'
    rw [if_pos hb', if_pos hb']
    obtain ⟨d, u', q1, q2, q3, q4⟩ := hzget (j - off) (by omega)
    rw [q2] at hj
    injection hj with hj
    subst hj
    have e : (Builtin.zeroCells v'.cells n).getD (j - off) undef = d := by rw [Array.getD_eq_getD_getElem?, q1]; rfl
    rw [e]
    exact ⟨q1, q3, q4⟩
   ·rename_i hb'
    rw [if_neg hb', if_neg hb']
    exact hcells j u hj
  obtain ⟨q1, q2⟩ := s.sim.upd (g' := g) (B := B) (arr := arr') (T := T) (fz := fz) (w' := w') hid (Nat.le_refl _) (fun _ => ⟨hio, by rw [p3]; exact hcap.symm⟩) (.inl hio) p2 (fun k _ hk => p5 k hk) p6 p7 p8 (by rw [p9]; exact Nat.le_refl _) hh
  unfold Oper.wp
  rw [hrun, Oper.upon_value]
  exact ⟨_, _, _, _, rfl, hk, .tup rfl fun _ _ _ h => by (cases h), q1, q2⟩
theorem Dg.clear0 {t e : TypeId} {x : Operand} {sz : Nat} (ho : o.op = .call { callee := .builtin .clear, args := #[x], argTypes := #[t] }) (hu : P.underlying t = some (.slice e))
  (hx : Al env x = .vs sz []) (hk : K (.tup []) H) : Dg P N o env H K := by
 refine Dg.of_wp (by rw [ho]; rfl) ?_
 intro X h a w s Q
 have rx := B5 s.env x
 rw [hx] at rx
 have hun' := run_underlying hu w
 have hsl : ∃ ad cap, a.eval x = .slice ad 0 cap := by
  generalize a.eval x = c at rx
  cases rx with
  | vs => exact ⟨_, _, rfl⟩
 obtain ⟨ad, cap, hax⟩ := hsl
 have hrun : (execOp a.eval o).run P w = .ok (.value (.tuple #[])) w := by
  unfold execOp
  rw [ho]
  simp only [resolve, invoke, builtin, Sem.run_bind, Sem.run_pure, Result.andThen_ok, List.map_toArray, List.map_cons, List.map_nil, hax, Builtin.clear_]
  simp [hun']
  cases ad <;> simp
 unfold Oper.wp
 rw [hrun, Oper.upon_value]
 exact ⟨_, _, h, H, rfl, hk, .tup rfl fun _ _ _ h => by (cases h), s.sim, FB.refl _ _ _⟩
end
end Go.Ab
namespace Go.Ab
def XZ (P : Program) (N : Nat) (ops : Array Oper) : List Oper → Env → AU → (Env → AU → Prop) → Prop
 | [], env, H, Q => ∃ env1 H1, DP N H.length env H env1 H1 ∧ Q env1 H1
 | o :: rest, env, H, Q => ∃ env1 H1, DP N H.length env H env1 H1 ∧
  Pv ops o.guard env1 (Dg P N o env1 H1 fun v H' => XZ P N ops rest (env1.putO o.dst v) H' Q) (XZ P N ops rest (env1.putO o.dst (.tup [])) H1 Q)
theorem XZ.weak {P : Program} {N : Nat} {ops : Array Oper} {Q : Env → AU → Prop} {env env1 : Env} {H H1 : AU} (w : DP N H.length env H env1 H1) : ∀ {os : List Oper}, XZ P N ops os env1 H1 Q → XZ P N ops os env H Q
 | [], h => by
  obtain ⟨e2, H2, w2, q⟩ := h
  exact ⟨e2, H2, w.trans (w2.of_le w.1), q⟩
 | o :: os, h => by
  obtain ⟨e2, H2, w2, q⟩ := h
  exact ⟨e2, H2, w.trans (w2.of_le w.1), q⟩
theorem XZ.wpOps {P : Program} {N : Nat} {r : Option Nat} {ops : Array Oper} {Q0 : Exit → Act → World → Prop} {Q : Env → AU → Prop} {X : Nat → Prop} :
  ∀ (l : List Nat) (os : List Oper), l.map (ops[·]?) = os.map some → ∀ (env : Env) (H : AU) (h : Gh) (a : Act) (w : World), WU N os = true → XZ P N ops os env H Q → St X h N env H a w →
   (∀ env' H' h' a' w', Q env' H' → St X h' N env' H' a' w' → FB h H w h' H' w' → a'.defers = a.defers → Q0 .normal a' w') → wpOpsIn (FR r) 0 P ops Q0 l a w := by
 intro l
 induction l with
 | nil =>
  intro os ho env H h a w _ hr s hq
  have : os = [] := by simpa using ho.symm
  subst this
  obtain ⟨env1, H1, hw1, hr⟩ := hr
  obtain ⟨g1, s1, hg, ho⟩ := hw1.2 X h a w s
  exact hq env1 H1 g1 a w hr s1 (DP.ext rfl hw1.1 hg ho (FB.refl h H w)) rfl
 | cons i l ih =>
  intro os ho env H h a w hd hr s hq
  match os, ho with
  | o :: os, ho =>
   simp only [List.map_cons, List.cons.injEq] at ho
   obtain ⟨h1, h2⟩ := ho
   simp only [wpOpsIn, h1]
   have hdst : ∀ t, o.dst = some t → t < a.tmps.size := by
    intro t ht
    simp only [WU, List.all_cons, Bool.and_eq_true, ht, decide_eq_true_eq] at hd
    rw [s.size]
    exact hd.1
   have hd' : WU N os = true := by
    simp only [WU, List.all_cons, Bool.and_eq_true] at hd
    exact hd.2
   simp only [XZ] at hr
   obtain ⟨env1, H1, hw1, hr⟩ := hr
   obtain ⟨g1, s1, hg, ho⟩ := hw1.2 X h a w s
   have x1 : FB h H w g1 H1 w := DP.ext rfl hw1.1 hg ho (FB.refl h H w)
   rcases cw s1.env hr with ⟨hw, hA⟩ | ⟨hw, hB⟩
   ·rw [if_pos hw]
    refine Oper.wpIn_mono ?_ (hA r X g1 a w s1 Q0)
    rintro a' w' ⟨c, v, h', H', rfl, k, hv, hs, hx⟩
    have hl := hx.later X
    refine ih os h2 _ H' h' _ w' hd' k ⟨hs, Je.putO (s1.env.later hl) hdst hv, (UB _ _ _).trans s1.size⟩ ?_
    intro env2 H2 h2 a2 w2 q2 s2 x2 e2
    exact hq env2 H2 h2 a2 w2 q2 s2 (x1.trans (hx.trans x2)) (e2.trans (by cases o.dst <;> rfl))
   ·rw [if_neg (by rw [hw]; simp)]
    refine ⟨fun _ _ => trivial, ih os h2 _ H1 g1 _ w hd' hB ⟨s1.sim, Je.putO s1.env hdst (.tup rfl fun _ _ _ h => by cases h), (UB _ _ _).trans s1.size⟩ ?_⟩
    intro env2 H2 h2 a2 w2 q2 s2 x2 e2
    exact hq env2 H2 h2 a2 w2 q2 s2 (x1.trans x2) (e2.trans (by cases o.dst <;> rfl))
theorem KE.region2 {P : Program} {N : Nat} {env : Env} {H : AU} {Q : Exit → Env → AU → Prop} {id : Nat} {ops : Array Oper} (hd : WU N ops.toList = true) (h : XZ P N ops ops.toList env H (Q .normal)) : KE P N (.region id ops false) env H Q := by
 intro r X g a w s _
 refine wpIn_region (XZ.wpOps (List.range ops.size) ops.toList ?_ env H g a w hd h s ?_)
 ·apply List.ext_getElem?
  intro i
  simp only [List.getElem?_map]
  by_cases hi : i < ops.size
  ·simp [hi]
  ·simp [hi]
 ·intro env' H' h' a' w' q s' x' e'
  exact ⟨h', env', H', q, s', x', .same e'⟩
end Go.Ab
