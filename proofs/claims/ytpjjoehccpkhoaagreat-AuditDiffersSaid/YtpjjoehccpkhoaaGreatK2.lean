/- A layer over the model in which values are trees: its laws, its evaluators and their soundness, part 2. -/
import Derived.Test.YtpjjoehccpkhoaaGreatK1
import Derived.Laws.MakeOwn
import Derived.RangeFuncNested

/- The abstract layer, 16: append. -/
namespace Go.Ab

section
variable {P : Program}

theorem zeroCells_size (z : Array Value) (n : Nat) : (Builtin.zeroCells z n).size = n * z.size := by simp [Builtin.zeroCells]

/-- It fits: the new cells go behind the old ones. -/
theorem append_fit {t ty e : TypeId} {i : TypeInfo} (hun : P.underlying t = some (.slice e)) (hi : P.info? e = some i) {base : Option Addr} {n cap m : Nat} {x : Value} {us : List Value} {w w' : World}
    (hlen : (Builtin.lenOf x).run P w = .ok m w) (hfc : (Builtin.firstCells i.size m x).run P w = .ok us.toArray w) (hfit : n + m ≤ cap)
    (hst : (match base with
      | some a => storeCells (a.add (n * i.size)) us
      | none => pure () : Sem Unit).run P w = .ok () w') :
    (Builtin.append_ #[t, t] ty #[.slice base n cap, x]).run P w = .ok (.slice base (n + m) cap) w' := by
  cases base <;> simp only at hst <;> simp [Builtin.append_, run_underlying hun, sizeOf, typeInfo, hi, hlen, hfc, hfit, hst]
  simp at hst
  exact hst

/-- It grows. -/
theorem append_grow {t ty e : TypeId} {i : TypeInfo} {z : Value} (hun : P.underlying t = some (.slice e)) (hi : P.info? e = some i) (hz : i.zero = some z) (hb : i.bytes ≤ 1048576) {base : Option Addr} {n cap m : Nat} {x : Value} {os us : List Value} {w : World}
    (hlen : (Builtin.lenOf x).run P w = .ok m w) (ho : (Builtin.firstCells i.size n (.slice base n cap)).run P w.drew = .ok os.toArray w.drew) (hn : (Builtin.firstCells i.size m x).run P w.drew = .ok us.toArray w.drew)
    (hgrow : cap < n + m) (hlim : n + m ≤ 16777216) :
    ∃ newCap, n + m ≤ newCap ∧ (Builtin.append_ #[t, t] ty #[.slice base n cap, x]).run P w =
      .ok (.slice (some ⟨w.heap.size, 0, none⟩) (n + m) newCap) { w.drew with heap := w.drew.heap.push (.cells (os.toArray ++ us.toArray ++ Builtin.zeroCells z.cells (newCap - (n + m))) e) } := by
  have hcap : ¬ (Builtin.nextslicecap (n + m) cap * i.bytes > 2 ^ 48) := by
    have h1 := nextcap_le (n + m) cap hgrow
    have h2 : Builtin.nextslicecap (n + m) cap * i.bytes ≤ 33556480 * 1048576 := Nat.mul_le_mul (by omega) hb
    omega
  refine ⟨(Question.appendCap (n + m) cap e).cut (w.tape w.drawn (.appendCap (n + m) cap e)), by simp [Question.cut], ?_⟩
  have e3 : IntKind.i64.max = 9223372036854775807 := by decide
  have hbig : ¬ ((9223372036854775807 : Int) < (n : Int) + (m : Int) ∧ i.bytes = 0) := by omega
  have hf : (Question.appendCap (n + m) cap e).forced = false := rfl
  simp [Builtin.append_, sizeOf, typeInfo, zeroValue, run_underlying hun, hi, hz, hlen, hcap, newRow, e3]
  rw [if_neg (by omega), if_neg hbig, if_neg (by rw [hf]; simp), ho]
  simp only [Result.andThen_ok]
  rw [hn]
  simp only [Result.andThen_ok, Result.ok.injEq]
  refine ⟨rfl, ?_⟩
  rw [← List.append_toArray, Array.append_assoc]
  rfl

end

section
variable {P : Program} {N : Nat} {o : Oper} {env : Env} {H : AHeap} {K : AVal → AHeap → Prop}

theorem resolve_append {ρ : Operand → Value} {sx xx : Operand} {t : TypeId} {w w' : World} {r : Value} {o : Oper} (ho : o.op = .call { callee := .builtin .append, args := #[sx, xx], argTypes := #[t, t] })
    (h : (Builtin.append_ #[t, t] o.type #[ρ sx, ρ xx]).run P w = .ok r w') : (execOp ρ o).run P w = .ok (.value r) w' := by
  unfold execOp
  rw [ho]
  simp only [resolve, invoke, builtin, Sem.run_bind, Sem.run_pure, Result.andThen_ok, List.map_toArray, List.map_cons, List.map_nil]
  rw [h]
  rfl

theorem Sim.drew {X : Nat → Prop} {h : Gh} {H : AHeap} {w : World} (s : Sim X h H w) : Sim X h H w.drew := s.grow rfl rfl rfl (Nat.le_refl _) fun _ _ => rfl
theorem Ext.drew {h : Gh} {H : AHeap} {w : World} : Ext h H w h H w.drew := Ext.grow rfl rfl rfl (Nat.le_refl _) fun _ _ => rfl

/-- What a new row holds: old cells, new cells, zeros behind. -/
theorem holds_row {x : Cx} {as bs : List AVal} {os us : List Value} {zs : Array Value} (ra : Rels x as os) (rb : Rels x bs us) (ha : ∀ u ∈ os, u.oneCell' = true) (hb : ∀ u ∈ us, u.oneCell' = true) :
    Holds x (as ++ bs) (os.toArray ++ us.toArray ++ zs) (0, 0) := by
  refine ⟨fun j => (os ++ us).getD j undef, ?_, fun i _ => by simp, fun j v hj => ?_⟩
  · simp [ra.1, rb.1]
  · have hl : j < (os ++ us).length := by
      rcases Nat.lt_or_ge j (as ++ bs).length with h2 | h2
      · simp [ra.1, rb.1] at *; omega
      · rw [List.getElem?_eq_none h2] at hj; cases hj
    have hg : (os ++ us)[j]? = some ((os ++ us)[j]) := List.getElem?_eq_getElem hl
    have e : (os ++ us).getD j undef = (os ++ us)[j] := by rw [List.getD_eq_getElem?_getD, hg]; rfl
    show _ = some ((os ++ us).getD j undef) ∧ ((os ++ us).getD j undef).oneCell' = true ∧ VRel x v ((os ++ us).getD j undef)
    rw [e]
    refine ⟨?_, ?_, ?_⟩
    · rw [Array.getElem?_append_left (by simpa using hl), List.append_toArray, List.getElem?_toArray]
      exact hg
    · have hm : (os ++ us)[j] ∈ os ++ us := List.getElem_mem hl
      rcases List.mem_append.1 hm with h | h
      · exact ha _ h
      · exact hb _ h
    · rcases Nat.lt_or_ge j as.length with h2 | h2
      · rw [List.getElem?_append_left h2] at hj
        rw [List.getElem?_append_left (by rw [ra.1]; exact h2)] at hg
        exact ra.2 j v _ hj hg
      · rw [List.getElem?_append_right h2] at hj
        rw [List.getElem?_append_right (by rw [ra.1]; exact h2), ra.1] at hg
        exact rb.2 _ v _ hj hg

theorem OpW.append_nil {sx xx : Operand} {t e : TypeId} {sz m : Nat} {news : List AVal} (ho : o.op = .call { callee := .builtin .append, args := #[sx, xx], argTypes := #[t, t] }) (he : eI P t = some (none, e, sz)) (hsz : 0 < sz) (hse : smallE P e = true)
    (hs : evalOp env sx = .nils) (hx : slCells H sz (evalOp env xx) = some (m, news)) (hlim : m ≤ 16777216) (hk : K (.sl H.length 0 sz 0 m) (H ++ [.live 0 news])) : OpW P N o env H K := by
  refine OpW.of_wp (by rw [ho]; rfl) ?_
  intro X h a w s Q
  obtain ⟨hun, b, hi⟩ := eI_slice he
  obtain ⟨i, z, hinfo, hby, hz, hzs⟩ := smallE_info hse
  have hisz := tI_size hi hinfo
  have rs := evalOp_rel s.env sx
  rw [hs] at rs
  have has : a.eval sx = .slice none 0 0 := by
    generalize a.eval sx = c at rs
    cases rs
    rfl
  have rx := evalOp_rel s.env xx
  unfold Oper.wp
  rcases Nat.eq_zero_or_pos m with hm | hm
  · subst hm
    obtain ⟨ax, capx, us, hax, hnl, hrel, hone, hlen, hfc⟩ := slCells_run (P := P) s.sim rx hsz hx
    have hnews : news = [] := List.eq_nil_of_length_eq_zero (by omega)
    subst hnews
    have hus : us = [] := List.eq_nil_of_length_eq_zero hrel.1
    subst hus
    have hrun := append_fit (ty := o.type) (base := none) (n := 0) (cap := 0) (w' := w) hun hinfo hlen (by rw [hisz]; exact hfc) (by omega) rfl
    rw [resolve_append ho (by rw [has]; exact hrun), Oper.upon_value]
    refine ⟨_, _, _, _, rfl, hk, ?_, s.sim.virt, Ext.virt⟩
    exact .sl (by simp [cx]) (by simp [cx, Gh.at_]) rfl fun _ => .inl ⟨by simp [cx, Gh.at_], rfl, rfl, rfl⟩
  · have sd := s.sim.drew
    obtain ⟨ax, capx, us, hax, hnl, hrel, hone, hlen, hfc⟩ := slCells_run (P := P) sd (rx.later (Ext.drew.later X)) hsz hx
    obtain ⟨_, _, _, _, _, _, _, hlen0, _⟩ := slCells_run (P := P) s.sim rx hsz hx
    obtain ⟨C, hC, hrun⟩ := append_grow (ty := o.type) (base := none) (n := 0) (cap := 0) (os := []) hun hinfo hz hby hlen0 (by rfl) (by rw [hisz]; exact hfc) (by omega) (by omega)
    rw [resolve_append ho (by rw [has]; exact hrun), Oper.upon_value]
    have hh : Holds (cx X h H w.drew) news (#[] ++ us.toArray ++ Builtin.zeroCells z.cells (C - (0 + m))) (0, 0) :=
      holds_row (as := []) (os := []) ⟨rfl, fun _ _ _ h => by cases h⟩ hrel (fun _ h => by cases h) hone
    refine ⟨_, _, _, _, rfl, hk, ?_, sd.push _ e (0, 0) news hh, Ext.drew.trans (Ext.push _ _ _)⟩
    rw [Nat.zero_add]
    refine .sl (by simp [cx]) (by simp [cx, Gh.at_]) rfl fun _ => .inr ⟨w.heap.size, C, by simp [cx, Gh.at_], by omega, ?_, rfl⟩
    have e1 : us.length = m * sz := by rw [hrel.1, hnl]
    simp only [cx, Gh.at_, if_true, Array.size_append, List.size_toArray, zeroCells_size, hzs, hisz, e1]
    have : (C - (0 + m)) * sz + m * sz = C * sz := by rw [← Nat.add_mul]; congr 1; omega
    simp only [Nat.zero_add] at this
    simp
    omega

theorem OpW.append_own {sx xx : Operand} {t e : TypeId} {id g n sz m : Nat} {cs news : List AVal} (ho : o.op = .call { callee := .builtin .append, args := #[sx, xx], argTypes := #[t, t] }) (he : eI P t = some (none, e, sz)) (hsz : 0 < sz) (hse : smallE P e = true)
    (hs : evalOp env sx = .sl id g sz 0 n) (hid : H[id]? = some (Ent.live g cs)) (hn : cs.length = n * sz) (hx : slCells H sz (evalOp env xx) = some (m, news)) (hlim : n + m ≤ 16777216)
    (hk : K (.sl id (g + 1) sz 0 (n + m)) (H.set id (.live (g + 1) (cs ++ news)))) : OpW P N o env H K := by
  refine OpW.of_wp (by rw [ho]; rfl) ?_
  intro X h a w s Q
  obtain ⟨hun, b, hi⟩ := eI_slice he
  obtain ⟨i, z, hinfo, hby, hz, hzs⟩ := smallE_info hse
  have hisz := tI_size hi hinfo
  have rs := evalOp_rel s.env sx
  rw [hs] at rs
  have rx := evalOp_rel s.env xx
  obtain ⟨hgen, hent⟩ := s.sim.live id g cs hid
  have hgen' : h.gen id = g := hgen
  have hidl : id < H.length := by
    rcases Nat.lt_or_ge id H.length with h2 | h2
    · exact h2
    · rw [List.getElem?_eq_none h2] at hid; cases hid
  have hself : slCells H sz (.sl id g sz 0 n) = some (n, cs) := by
    simp only [slCells, hid]
    rw [if_pos ⟨trivial, trivial, by omega⟩]
    simp [← hn]
  unfold Oper.wp
  have hc0 : (h.io id = none ∧ n = 0 ∧ a.eval sx = .slice none 0 0) ∨ ∃ B cap, h.io id = some B ∧ n ≤ cap ∧ cap * sz ≤ h.cap id ∧ a.eval sx = .slice (some ⟨B, 0, none⟩) n cap := by
    generalize a.eval sx = c at rs
    cases rs with
    | sl p q r hc =>
      rcases hc hgen with ⟨h1, h2, _, h3⟩ | ⟨B, cap, h1, h2, h3, h4⟩
      · exact .inl ⟨h1, h2, h3⟩
      · exact .inr ⟨B, cap, h1, h2, by simpa [cx] using h3, h4⟩
  -- it grows
  have grow : ∀ (base : Option Addr) (cap : Nat), a.eval sx = .slice base n cap → cap < n + m →
      Oper.upon P o a (fun a' w' => ∃ c v h' H', a' = a.put o.dst c ∧ K v H' ∧ VRel (cx X h' H' w') v c ∧ Sim X h' H' w' ∧ Ext h H w h' H' w') Q ((execOp a.eval o).run P w) := by
    intro base cap has hgrow
    have sd := s.sim.drew
    obtain ⟨ax, capx, us, hax, hnl, hrel, hone, _, hfc⟩ := slCells_run (P := P) sd (rx.later (Ext.drew.later X)) hsz hx
    obtain ⟨_, _, _, _, _, _, _, hlen0, _⟩ := slCells_run (P := P) s.sim rx hsz hx
    obtain ⟨_, _, os, _, _, hrelo, honeo, _, hfo⟩ := slCells_run (P := P) sd (rs.later (Ext.drew.later X)) hsz hself
    obtain ⟨C, hC, hrun⟩ := append_grow (ty := o.type) (base := base) (n := n) (cap := cap) (os := os) hun hinfo hz hby hlen0 (by rw [hisz, ← has]; exact hfo) (by rw [hisz]; exact hfc) hgrow hlim
    rw [resolve_append ho (by rw [has]; exact hrun), Oper.upon_value]
    have hh : Holds (cx X h H w.drew) (cs ++ news) (os.toArray ++ us.toArray ++ Builtin.zeroCells z.cells (C - (n + m))) (0, 0) := holds_row hrelo hrel honeo hone
    obtain ⟨q1, q2⟩ := sd.upd (g' := g + 1) (B := w.heap.size) (T := e) (fz := (0, 0)) (w' := { w.drew with heap := w.drew.heap.push (.cells (os.toArray ++ us.toArray ++ Builtin.zeroCells z.cells (C - (n + m))) e) }) hid (by omega) (fun hne => by omega)
      (.inr (Nat.le_refl _)) (by show (w.heap.push _)[w.heap.size]? = _; simp) (fun k hk hne => by show (w.heap.push _)[k]? = w.heap[k]?; rw [Array.getElem?_push, if_neg hne]) rfl rfl rfl (by show w.heap.size ≤ (w.heap.push _).size; simp) hh
    refine ⟨_, _, _, _, rfl, hk, ?_, q1, Ext.drew.trans q2⟩
    refine .sl (by simpa [cx] using hidl) (by simp [cx, Gh.at_]) rfl fun _ => .inr ⟨w.heap.size, C, by simp [cx, Gh.at_], hC, ?_, rfl⟩
    have e1 : us.length = m * sz := by rw [hrel.1, hnl]
    have e2 : os.length = n * sz := by rw [hrelo.1, hn]
    simp only [cx, Gh.at_, if_true, Array.size_append, List.size_toArray, zeroCells_size, hzs, hisz, e1, e2]
    have : (C - (n + m)) * sz + (n * sz + m * sz) = C * sz := by rw [← Nat.add_mul, ← Nat.add_mul]; congr 1; omega
    omega
  rcases hc0 with ⟨hio, rfl, has⟩ | ⟨B, cap, hio, hcap, hcap2, has⟩
  · rcases Nat.eq_zero_or_pos m with hm | hm
    · subst hm
      obtain ⟨ax, capx, us, hax, hnl, hrel, hone, hlen, hfc⟩ := slCells_run (P := P) s.sim rx hsz hx
      have hnews : news = [] := List.eq_nil_of_length_eq_zero (by omega)
      subst hnews
      have hcs : cs = [] := List.eq_nil_of_length_eq_zero (by omega)
      subst hcs
      have hus : us = [] := List.eq_nil_of_length_eq_zero hrel.1
      subst hus
      have hrun := append_fit (ty := o.type) (base := none) (n := 0) (cap := 0) (w' := w) hun hinfo hlen (by rw [hisz]; exact hfc) (by omega) rfl
      rw [resolve_append ho (by rw [has]; exact hrun), Oper.upon_value]
      obtain ⟨q1, q2⟩ := s.sim.bump hid hio
      refine ⟨_, _, _, _, rfl, hk, ?_, q1, q2⟩
      exact .sl (by simpa [cx] using hidl) (by simp [cx, Gh.at_]) rfl fun _ => .inl ⟨by simp [cx, Gh.at_], rfl, rfl, rfl⟩
    · exact grow none 0 has (by omega)
  · rcases Nat.lt_or_ge cap (n + m) with hlt | hge
    · exact grow _ cap has hlt
    · obtain ⟨ax, capx, us, hax, hnl, hrel, hone, hlen, hfc⟩ := slCells_run (P := P) s.sim rx hsz hx
      rcases hent with ⟨hno, _⟩ | ⟨B', arr, T, fz, f, hio', hb, hcap', hle, hfz, hcells⟩
      · rw [show (cx X h H w).io id = h.io id from rfl, hio] at hno; cases hno
      · rw [show (cx X h H w).io id = h.io id from rfl, hio] at hio'
        injection hio' with e0
        subst e0
        have hcap'' : arr.size = h.cap id := hcap'
        have e1 : us.length = m * sz := by rw [hrel.1, hnl]
        have hroom : n * sz + m * sz ≤ arr.size := by
          rw [← Nat.add_mul, hcap'']
          exact Nat.le_trans (Nat.mul_le_mul_right _ hge) hcap2
        obtain ⟨w', arr', p1, p2, p3, p4, p5, p6, p7, p8, p9⟩ := storeCells_run (P := P) (off := n * sz) us 0 arr w hb (by omega) hfz hone
        have hrun := append_fit (ty := o.type) (base := some ⟨B, 0, none⟩) (n := n) (cap := cap) (w' := w') hun hinfo hlen (by rw [hisz]; exact hfc) hge (by rw [hisz]; simp only [add_off, Nat.zero_add]; exact p1)
        rw [resolve_append ho (by rw [has]; exact hrun), Oper.upon_value]
        have hh : Holds (cx X h H w) (cs ++ news) arr' fz := by
          refine ⟨fun j => if n * sz ≤ j ∧ j < n * sz + m * sz then us.getD (j - n * sz) undef else f j, by simp [hn, hnl]; omega, by rw [p3]; exact hfz, fun j v hj => ?_⟩
          rw [p4]
          simp only [Nat.add_zero, e1]
          rcases Nat.lt_or_ge j cs.length with h2 | h2
          · rw [List.getElem?_append_left h2] at hj
            rw [if_neg (by omega), if_neg (by omega)]
            exact hcells j v hj
          · rw [List.getElem?_append_right h2] at hj
            have hjl : j - cs.length < news.length := by
              rcases Nat.lt_or_ge (j - cs.length) news.length with h3 | h3
              · exact h3
              · rw [List.getElem?_eq_none h3] at hj; cases hj
            rw [if_pos (by omega), if_pos (by omega)]
            have hg : us[j - n * sz]? = some (us[j - n * sz]'(by omega)) := List.getElem?_eq_getElem (by omega)
            have eg : us.getD (j - n * sz) undef = us[j - n * sz]'(by omega) := by rw [List.getD_eq_getElem?_getD, hg]; rfl
            rw [eg]
            refine ⟨hg, hone _ (List.getElem_mem _), hrel.2 _ v _ hj ?_⟩
            rw [hn]
            exact hg
        obtain ⟨q1, q2⟩ := s.sim.upd (g' := g + 1) (B := B) (arr := arr') (T := T) (fz := fz) (w' := w') hid (by omega) (fun hne => by omega) (.inl hio) p2 (fun k _ hk => p5 k hk) p6 p7 p8 (by rw [p9]; exact Nat.le_refl _) hh
        refine ⟨_, _, _, _, rfl, hk, ?_, q1, q2⟩
        refine .sl (by simpa [cx] using hidl) (by simp [cx, Gh.at_]) rfl fun _ => .inr ⟨B, cap, by simp [cx, Gh.at_], hge, ?_, rfl⟩
        simp only [cx, Gh.at_, if_true, p3, Nat.zero_add, hcap'']
        exact hcap2

end
end Go.Ab

/- The abstract layer, 17: the same state in other words: less of the frame, a nil slice that will grow, a slice that will not be written any more, fewer blocks. -/
namespace Go.Ab

section
variable {X : Nat → Prop} {h : Gh} {H : AHeap} {w : World} {N : Nat} {env env2 : Env}

theorem Weak.trans {n0 : Nat} {e1 e2 e3 : Env} {H1 H2 H3 : AHeap} (a : Weak N n0 e1 H1 e2 H2) (b : Weak N n0 e2 H2 e3 H3) : Weak N n0 e1 H1 e3 H3 :=
  ⟨b.1, fun X h act w s => by
    obtain ⟨h2, s2, g2, o2⟩ := a.2 X h act w s
    obtain ⟨h3, s3, g3, o3⟩ := b.2 X h2 act w s2
    exact ⟨h3, s3, fun id hid => ⟨(g3 id hid).1.trans (g2 id hid).1, (g3 id hid).2.1.trans (g2 id hid).2.1, (g3 id hid).2.2.trans (g2 id hid).2.2⟩, fun B hB => o2 B (o3 B hB)⟩⟩

theorem Weak.of_le {n0 n1 : Nat} {e1 e2 : Env} {H1 H2 : AHeap} (a : Weak N n1 e1 H1 e2 H2) (h : n0 ≤ n1) : Weak N n0 e1 H1 e2 H2 :=
  ⟨Nat.le_trans h a.1, fun X g act w s => by
    obtain ⟨h2, s2, g2, o2⟩ := a.2 X g act w s
    exact ⟨h2, s2, fun id hid => g2 id (Nat.lt_of_lt_of_le hid h), o2⟩⟩

/-- Every word of the second frame stands in the first, or says nothing. -/
def sub (env env2 : Env) : Prop := ∀ t v, (t, v) ∈ env2 → v = .any ∨ env.get t = v

theorem envRel_sub {x : Cx} {a : Act} (hs : ∀ t v, (t, v) ∈ env2 → t < N) (hsz : a.tmps.size = N) (r : EnvRel x env a) (h : sub env env2) : EnvRel x env2 a := by
  intro t v m
  refine ⟨by rw [hsz]; exact hs t v m, ?_⟩
  rcases h t v m with rfl | rfl
  · exact .any _
  · exact env_get_rel r t

theorem Weak.forget (hs : ∀ t v, (t, v) ∈ env2 → t < N) (h : sub env env2) : Weak N H.length env H env2 H :=
  ⟨Nat.le_refl _, fun _ g _ _ s => ⟨g, ⟨s.sim, envRel_sub hs s.size s.env h, s.size⟩, fun _ _ => ⟨rfl, rfl, rfl⟩, fun _ h => h⟩⟩

/-- A nil slice gets a number: it will grow. -/
theorem Weak.virt {t sz : Nat} (ht : env.get t = .nils) : Weak N H.length env H (env.put t (.sl H.length 0 sz 0 0)) (H ++ [.live 0 []]) := by
  refine ⟨by simp, fun X g act w s => ⟨g.at_ H.length none 0 0, ⟨s.sim.virt, ?_, s.size⟩, fun id hid => by simp [Gh.at_, Nat.ne_of_lt hid], fun B ho => ?_⟩⟩
  · have hm : (t, AVal.nils) ∈ env := by
      rcases Env.get_mem (env := env) (t := t) with e | m
      · rw [ht] at e; cases e
      · rw [ht] at m; exact m
    have hx := Ext.virt (h := g) (H := H) (w := w)
    have he := s.env.later (hx.later X)
    intro u v m
    unfold Env.put at m
    rcases List.mem_cons.1 m with e | m
    · injection e with e1 e2
      subst e1 e2
      obtain ⟨h1, h2⟩ := s.env _ _ hm
      refine ⟨h1, ?_⟩
      generalize act.tmps.getD u undef = c at h2
      cases h2
      exact .sl (by simp [cx]) (by simp [cx, Gh.at_]) rfl fun _ => .inl ⟨by simp [cx, Gh.at_], rfl, rfl, rfl⟩
    · exact he u v (List.mem_filter.1 m).1
  · rcases (Ext.virt (h := g) (H := H) (w := w)).fresh B ho with h | h
    · exact h
    · obtain ⟨id, e, he, hne, hio⟩ := ho
      rcases push_key he with ⟨hlt, he⟩ | ⟨rfl, rfl⟩
      · exact ⟨id, e, he, hne, by simpa [Gh.at_, Nat.ne_of_lt hlt] using hio⟩
      · simp [Gh.at_] at hio
end

/-- A list of cells cut into rows. -/
def RowsAre (sz : Nat) (cs : List AVal) (rows : List AVal) : Prop := 0 < sz ∧ (∀ e ∈ rows, e.cells.length = sz) ∧ rows.flatMap AVal.cells = cs

theorem flat_at {sz : Nat} : ∀ {rows : List AVal}, (∀ e ∈ rows, e.cells.length = sz) → ∀ (j : Nat) (e : AVal) (i : Nat) (v : AVal), rows[j]? = some e → e.cells[i]? = some v → (rows.flatMap AVal.cells)[j * sz + i]? = some v
  | [], _, j, e, i, v, hj, _ => by simp at hj
  | e0 :: r, h, j, e, i, v, hj, hi => by
    have h0 := h e0 (by simp)
    simp only [List.flatMap_cons]
    cases j with
    | zero =>
      simp at hj
      subst hj
      rw [Nat.zero_mul, Nat.zero_add, List.getElem?_append_left (by
        rcases Nat.lt_or_ge i e0.cells.length with h2 | h2
        · exact h2
        · rw [List.getElem?_eq_none h2] at hi; cases hi)]
      exact hi
    | succ j =>
      rw [List.getElem?_append_right (by rw [h0, Nat.add_mul]; omega), h0, show (j + 1) * sz + i - sz = j * sz + i from by rw [Nat.add_mul]; omega]
      exact flat_at (fun e he => h e (List.mem_cons_of_mem _ he)) j e i v (by simpa using hj) hi

/-- A slice over a block that is given up: it reads as a list from now on. -/
theorem VRel.froze {X : Nat → Prop} {h : Gh} {H : AHeap} {w : World} {id g sz n : Nat} {cs rows : List AVal} {c : Value} {y : Cx} (s : Sim X h H w) (he : H[id]? = some (Ent.live g cs)) (hr : RowsAre sz cs rows) (hn : rows.length = n)
    (hl : (cx X h H w).Later y) (hw : y.w = w) (hO : ∀ B, h.io id = some B → ¬ y.O B) (r : VRel (cx X h H w) (.sl id g sz 0 n) c) : VRel y (.vs sz rows) c := by
  obtain ⟨hsz, hrow, rfl⟩ := hr
  obtain ⟨hgen, hent⟩ := s.live id g _ he
  cases r with
  | sl p q r0 hc =>
    rcases hc hgen with ⟨hio, hn0, _, rfl⟩ | ⟨B, cap, hio, hcap, hcap2, rfl⟩
    · have : rows = [] := List.eq_nil_of_length_eq_zero (by omega)
      subst this
      exact VRel.vs (rows := []) (cap := 0) (fun _ _ => undef) (Nat.le_refl _) hsz (fun _ _ h => by simp at h) (fun h => (h rfl).elim) fun _ _ _ _ h => by simp at h
    · rcases hent with ⟨hno, _⟩ | ⟨B', arr, T, fz, f, hio', hb, hcap', hle, hfz, hcells⟩
      · rw [hno] at hio; cases hio
      · have : B' = B := by rw [hio] at hio'; injection hio' with e; exact e.symm
        subst this
        subst hn
        refine .vs (fun j i => f (j * sz + i)) hcap hsz (fun j e hj => hrow e (List.mem_of_getElem? hj)) (fun hne => ⟨B', 0, rfl, hO B' hio, ?_, fun j e i v hj hi => ?_⟩) fun j e i v hj hi => ?_
        · rw [hw]; exact block_lt hb
        · obtain ⟨h1, h2, _⟩ := hcells _ v (flat_at hrow j e i v hj hi)
          rw [Nat.zero_add, hw, cell_of_cells (w := w) hb]
          exact ⟨h1, h2⟩
        · exact (hcells _ v (flat_at hrow j e i v hj hi)).2.2.later hl

/-- The first words, some blocks given up, stand for the second words. -/
inductive Frz (H : AHeap) (n0 : Nat) : AVal → AVal → Prop where
  | refl (v : AVal) : Frz H n0 v v
  | nils {sz : Nat} (h : 0 < sz) : Frz H n0 .nils (.vs sz [])
  | sl {id g sz n : Nat} {cs rows : List AVal} (hid : n0 ≤ id) (he : H[id]? = some (Ent.live g cs)) (hr : RowsAre sz cs rows) (hn : rows.length = n) : Frz H n0 (.sl id g sz 0 n) (.vs sz rows)
  | agg {as bs : List AVal} (hl : as.length = bs.length) (h : ∀ (j : Nat) (a b : AVal), as[j]? = some a → bs[j]? = some b → Frz H n0 a b) : Frz H n0 (.agg as) (.agg bs)
  | tup {as bs : List AVal} (hl : as.length = bs.length) (h : ∀ (j : Nat) (a b : AVal), as[j]? = some a → bs[j]? = some b → Frz H n0 a b) : Frz H n0 (.tup as) (.tup bs)
  | any (v : AVal) : Frz H n0 v .any

section
variable {X : Nat → Prop} {h : Gh} {H : AHeap} {w : World}

theorem take_get {n0 id : Nat} {e : Ent} (he : (H.take n0)[id]? = some e) : id < n0 ∧ H[id]? = some e := by
  rw [List.getElem?_take] at he
  split at he
  · exact ⟨by assumption, he⟩
  · cases he

theorem owned_take {n0 B : Nat} (ho : owned h (H.take n0) B) : owned h H B := by
  obtain ⟨id, e, he, hne, hio⟩ := ho
  exact ⟨id, e, (take_get he).2, hne, hio⟩

/-- On the ground with fewer blocks. -/
theorem VRel.trunc {n0 : Nat} (hn : n0 ≤ H.length) {v : AVal} {c : Value} (r : VRel (cx X h H w) v c) (hv : (v.idsAll fun id => decide (id < n0)) = true) : VRel (cx X h (H.take n0) w) v c := by
  have := VRel.ren (x := cx X h H w) (y := cx X h (H.take n0) w) (ρ := fun i => i) (p := fun id => decide (id < n0)) (fun i hi _ => ⟨by simp [cx] at *; omega, rfl, rfl, rfl⟩) rfl (fun B hB => by
    rcases hB with hB | hB
    · exact .inl hB
    · exact .inr (owned_take hB)) r hv
  rwa [ren_id (p := fun id => decide (id < n0)) (fun _ _ => rfl) v hv] at this

theorem Sim.trunc {n0 : Nat} (s : Sim X h H w) (hn : n0 ≤ H.length) (hb : ∀ e ∈ H.take n0, (e.idsAll fun id => decide (id < n0)) = true) : Sim X h (H.take n0) w := by
  refine ⟨fun B hB => ⟨(s.out B hB).1, fun ho => (s.out B hB).2 (owned_take ho)⟩, fun id g cs he => ?_, fun id L he => ?_, fun id id' e e' B h1 h2 => s.inj id id' e e' B (take_get h1).2 (take_get h2).2, s.bldKeep fun id e he _ => ⟨(take_get he).2, rfl, rfl, fun _ _ _ _ _ => rfl⟩⟩
  · obtain ⟨hg, hent⟩ := s.live id g cs (take_get he).2
    refine ⟨hg, ?_⟩
    rcases hent with ⟨hno, rfl⟩ | ⟨B, arr, T, fz, f, hio, hblk, hcap, hle, hfz, hcells⟩
    · exact .inl ⟨hno, rfl⟩
    · refine .inr ⟨B, arr, T, fz, f, hio, hblk, hcap, hle, hfz, fun j v hj => ?_⟩
      obtain ⟨h1, h2, h3⟩ := hcells j v hj
      refine ⟨h1, h2, h3.trunc hn ?_⟩
      exact idsAllL_get (by simpa [Ent.idsAll] using hb _ (List.mem_of_getElem? he)) hj
  · obtain ⟨hg, B, r, hio, hblk, h1, h2, h3, h4, h5, h6, h7⟩ := s.lp id L (take_get he).2
    refine ⟨hg, B, r, hio, hblk, h1, h2, h3, h4, h5, h6, fun t v m => ⟨(h7 t v m).1, (h7 t v m).2.trunc hn ?_⟩⟩
    have h8 := hb _ (List.mem_of_getElem? he)
    simp only [Ent.idsAll] at h8
    exact List.all_eq_true.1 h8 (t, v) m

theorem idsAll_get {p : Nat → Bool} {bs : List AVal} (h : AVal.idsAllL p bs = true) {j : Nat} {b : AVal} (hj : bs[j]? = some b) : b.idsAll p = true := idsAllL_get h hj

theorem VRel.frz {n0 : Nat} (s : Sim X h H w) (hn : n0 ≤ H.length) {v v2 : AVal} (f : Frz H n0 v v2) : ∀ {c : Value}, VRel (cx X h H w) v c → (v2.idsAll fun id => decide (id < n0)) = true → VRel (cx X h (H.take n0) w) v2 c := by
  induction f with
  | refl v => exact fun r hv => r.trunc hn hv
  | nils hs =>
    intro c r _
    cases r
    exact VRel.vs (rows := []) (cap := 0) (fun _ _ => undef) (Nat.le_refl _) hs (fun _ _ h => by simp at h) (fun h => (h rfl).elim) fun _ _ _ _ h => by simp at h
  | @sl id g sz n cs rows hid he hr hn' =>
    intro c r hv
    have h1 : VRel ⟨w, H.length, h.io, h.gen, h.cap, fun B => X B ∨ owned h (H.take n0) B⟩ (.vs sz rows) c := by
      refine VRel.froze s he hr hn' ⟨Nat.le_refl _, fun _ _ _ _ => rfl, fun B _ hO => ?_, Nat.le_refl _, fun _ _ => Nat.le_refl _, fun _ _ _ => ⟨rfl, rfl⟩⟩ rfl (fun B hio hO => ?_) r
      · rcases hO with hO | hO
        · exact .inl hO
        · exact .inr (owned_take hO)
      · rcases hO with hO | ⟨i, e', h1, hne, h2⟩
        · exact (s.out B hO).2 ⟨id, _, he, by simp, hio⟩
        · obtain ⟨hlt, h1'⟩ := take_get h1
          have := s.inj i id e' _ B h1' he hne (by simp) h2 hio
          omega
    have := VRel.ren (x := ⟨w, H.length, h.io, h.gen, h.cap, fun B => X B ∨ owned h (H.take n0) B⟩) (y := cx X h (H.take n0) w) (ρ := fun i => i) (p := fun id => decide (id < n0)) (fun i hi _ => ⟨by simp [cx] at *; omega, rfl, rfl, rfl⟩) rfl (fun B hB => hB) h1 hv
    rwa [ren_id (p := fun id => decide (id < n0)) (fun _ _ => rfl) _ hv] at this
  | @agg as bs hl _ ih =>
    intro c r hv
    cases r with
    | @agg as cs' hs h1 hvv =>
      refine .agg (by omega) h1 fun j b d hj hd => ?_
      have hjl : j < as.length := by
        rcases Nat.lt_or_ge j bs.length with h2 | h2
        · omega
        · rw [List.getElem?_eq_none h2] at hj; cases hj
      have ha : as[j]? = some (as[j]) := List.getElem?_eq_getElem hjl
      exact ih j _ b ha hj (hvv j _ d ha hd) (idsAllL_get (by simpa [AVal.idsAll] using hv) hj)
  | @tup as bs hl _ ih =>
    intro c r hv
    cases r with
    | @tup as cs' hs hvv =>
      refine .tup (by omega) fun j b d hj hd => ?_
      have hjl : j < as.length := by
        rcases Nat.lt_or_ge j bs.length with h2 | h2
        · omega
        · rw [List.getElem?_eq_none h2] at hj; cases hj
      have ha : as[j]? = some (as[j]) := List.getElem?_eq_getElem hjl
      exact ih j _ b ha hj (hvv j _ d ha hd) (idsAllL_get (by simpa [AVal.idsAll] using hv) hj)
  | any v => exact fun _ _ => .any _

/-- At a function's end: what is handed back as trees, the function's own blocks given up. -/
theorem RetWeak.frz {n0 : Nat} {v v2 : AVal} (hn : n0 ≤ H.length) (f : Frz H n0 v v2) (hv : (v2.idsAll fun id => decide (id < n0)) = true) (hb : ∀ e ∈ H.take n0, (e.idsAll fun id => decide (id < n0)) = true) : RetWeak n0 v H v2 (H.take n0) :=
  ⟨by simp; omega, fun X h w c s r => ⟨h, s.trunc hn hb, VRel.frz s hn f r hv, fun _ _ => ⟨rfl, rfl, rfl⟩, fun B hB => owned_take hB⟩⟩

/-- At a loop's head: fewer words, fewer blocks. -/
theorem Weak.trunc {N n0 : Nat} {env env2 : Env} (hn : n0 ≤ H.length) (hs : ∀ t v, (t, v) ∈ env2 → t < N) (h : sub env env2) (hv : ∀ t v, (t, v) ∈ env2 → (v.idsAll fun id => decide (id < n0)) = true)
    (hb : ∀ e ∈ H.take n0, (e.idsAll fun id => decide (id < n0)) = true) : Weak N n0 env H env2 (H.take n0) :=
  ⟨by simp; omega, fun X g act w s => ⟨g, ⟨s.sim.trunc hn hb, fun t v m => ⟨(envRel_sub hs s.size s.env h t v m).1, (envRel_sub hs s.size s.env h t v m).2.trunc hn (hv t v m)⟩, s.size⟩, fun _ _ => ⟨rfl, rfl, rfl⟩, fun B hB => owned_take hB⟩⟩
end

end Go.Ab

/- The abstract layer, 18: a region that draws its order. -/
namespace Go.Ab

def masks : List Oper → List Nat → List Nat
  | [], acc => acc
  | o :: r, acc => masks r (acc ++ [o.after.toList.foldl (fun s e => if Region.binds .any e = true then s ||| 2 ^ e.on ||| acc.getD e.on 0 else s) 0])

def ordM (m : List Nat) (i j : Nat) : Bool := (m.getD j 0).testBit i

theorem fold_bits {acc : List Nat} {i : Nat} : ∀ (l : List Edge) (s : Nat), (l.foldl (fun s e => if Region.binds .any e = true then s ||| 2 ^ e.on ||| acc.getD e.on 0 else s) s).testBit i = true →
    s.testBit i = true ∨ ∃ e ∈ l, Region.binds .any e = true ∧ (e.on = i ∨ (acc.getD e.on 0).testBit i = true)
  | [], s, h => .inl h
  | e :: l, s, h => by
    simp only [List.foldl_cons] at h
    rcases fold_bits l _ h with h1 | ⟨e', he', hb, h2⟩
    · split at h1
      · rename_i hb
        simp only [Nat.testBit_or, Bool.or_eq_true, Nat.testBit_two_pow] at h1
        rcases h1 with (h1 | h1) | h1
        · exact .inl h1
        · exact .inr ⟨e, by simp, hb, .inl (by simpa using h1)⟩
        · exact .inr ⟨e, by simp, hb, .inr h1⟩
      · exact .inl h1
    · exact .inr ⟨e', List.mem_cons_of_mem _ he', hb, h2⟩

theorem masks_get : ∀ (l : List Oper) (acc : List Nat), (∀ k, k < acc.length → (masks l acc)[k]? = acc[k]?) ∧
    ∀ (p i : Nat) (o : Oper), l[p]? = some o → ordM (masks l acc) i (acc.length + p) = true → ∃ e ∈ o.after.toList, Region.binds .any e = true ∧ (e.on = i ∨ (e.on < acc.length + p ∧ ordM (masks l acc) i e.on = true))
  | [], acc => ⟨fun _ _ => rfl, fun p i o h => by simp at h⟩
  | o :: l, acc => by
    simp only [masks]
    generalize hx : o.after.toList.foldl (fun s e => if Region.binds .any e = true then s ||| 2 ^ e.on ||| acc.getD e.on 0 else s) 0 = x
    obtain ⟨h1, h2⟩ := masks_get l (acc ++ [x])
    refine ⟨fun k hk => ?_, fun p i o' ho hm => ?_⟩
    · rw [h1 k (by simp; omega), List.getElem?_append_left hk]
    · cases p with
      | zero =>
        simp at ho
        subst ho
        have hg : (masks l (acc ++ [x])).getD acc.length 0 = x := by
          rw [List.getD_eq_getElem?_getD, h1 acc.length (by simp), List.getElem?_append_right (Nat.le_refl _)]
          simp
        simp only [ordM, Nat.add_zero] at hm
        rw [hg, ← hx] at hm
        rcases fold_bits _ _ hm with h3 | ⟨e, he, hb, h3⟩
        · simp at h3
        · refine ⟨e, he, hb, h3.imp id fun h3 => ?_⟩
          have hlt : e.on < acc.length := by
            rcases Nat.lt_or_ge e.on acc.length with h4 | h4
            · exact h4
            · rw [List.getD_eq_getElem?_getD, List.getElem?_eq_none h4] at h3; simp at h3
          refine ⟨by omega, ?_⟩
          simp only [ordM]
          rw [List.getD_eq_getElem?_getD, h1 e.on (by simp; omega), List.getElem?_append_left hlt]
          rw [List.getD_eq_getElem?_getD] at h3
          exact h3
      | succ p =>
        have := h2 p i o' (by simpa using ho) (by rw [show (acc ++ [x]).length + p = acc.length + (p + 1) from by simp; omega]; exact hm)
        rw [show (acc ++ [x]).length + p = acc.length + (p + 1) from by simp; omega] at this
        exact this

section
variable {ops : Array Oper}

def Closed (ops : Array Oper) (L : Array Bool) : Prop := ∀ (j : Nat) (o : Oper), ops[j]? = some o → L.getD j false = true → ∀ e ∈ o.after, Region.binds .any e = true → L.getD e.on false = true

/-- What is ordered ahead of an operation whose next forerunners are all done is done. -/
theorem ord_done {L : Array Bool} (hc : Closed ops L) {i : Nat} : ∀ (n j : Nat) (o : Oper), j < n → ops[j]? = some o → (∀ e ∈ o.after, Region.binds .any e = true → L.getD e.on false = true) → ordM (masks ops.toList []) i j = true → L.getD i false = true
  | 0, _, _, h, _, _, _ => by omega
  | n + 1, j, o, hj, ho, hp, hm => by
    obtain ⟨e, he, hb, h⟩ := (masks_get ops.toList []).2 j i o (by simpa using ho) (by simpa using hm)
    have hdone := hp e (by simpa using he) hb
    rcases h with rfl | ⟨hlt, hm'⟩
    · exact hdone
    · have hlt' : e.on < j := by simpa using hlt
      cases ho' : ops[e.on]? with
      | none =>
        have : ordM (masks ops.toList []) i e.on = true := hm'
        obtain ⟨hjj, _⟩ := Array.getElem?_eq_some_iff.1 ho
        rw [Array.getElem?_eq_none_iff] at ho'
        omega
      | some o' => exact ord_done hc n e.on o' (by omega) ho' (fun e' he' hb' => hc e.on o' ho' hdone e' he' hb') hm'

def tmpsOf (o : Oper) : List Nat := o.op.operands.toList.filterMap fun | .tmp t => some t | _ => none

/-- An operation that only reads, as it may be carried out now or later. -/
def Quiet (P : Program) (N : Nat) (o : Oper) (env : Env) (H : AHeap) (rd : List Nat) (v : AVal) : Prop :=
  ∀ (env' : Env) (H' : AHeap), (∀ t ∈ tmpsOf o, env'.get t = env.get t) → (∀ id ∈ rd, H'[id]? = H[id]?) → OpW P N o env' H' fun u H'' => u = v ∧ H'' = H'

/-- An operation that changes no more than some blocks. -/
def Eff (P : Program) (N : Nat) (o : Oper) (env : Env) (H : AHeap) (F : List Nat) (K : AVal → AHeap → Prop) : Prop :=
  (∀ env' : Env, (∀ t ∈ tmpsOf o, env'.get t = env.get t) → OpW P N o env' H K) ∧ ∀ v H', K v H' → ∀ id, id < H.length → id ∉ F → H'[id]? = H[id]?

def isAlloc (ops : Array Oper) (j : Nat) : Bool :=
  match ops[j]? with
  | some o => match o.op with | .alloc _ => true | _ => false
  | none => false

/-- A region in an order of ours: all quiet operations ahead of every other that need not come first; new variables as late as can be. 'pend': the quiet ones so far, and which blocks they read. -/
def RA (P : Program) (N : Nat) (ops : Array Oper) : List Nat → List (Nat × List Nat) → Env → AHeap → (Env → AHeap → Prop) → Prop
  | [], _, env, H, Q => Q env H
  | i :: r, pend, env, H, Q =>
    match ops[i]? with
    | none => False
    | some o =>
      GuardW ops o.guard env
        ((isAlloc ops i = false ∧ ∃ v rd, Quiet P N o env H rd v ∧ (∀ id ∈ rd, id < H.length) ∧ RA P N ops r ((i, rd) :: pend) (env.putO o.dst v) H Q) ∨
          (isAlloc ops i = false ∧ ∃ F, (∀ j ∈ r, ordM (masks ops.toList []) i j = true ∨ isAlloc ops j = true) ∧ (∀ p ∈ pend, ordM (masks ops.toList []) p.1 i = true ∨ ∀ id ∈ p.2, id ∉ F) ∧
            ∃ K, Eff P N o env H F K ∧ (∀ v H', K v H' → H.length ≤ H'.length) ∧ ∀ v H', K v H' → RA P N ops r pend (env.putO o.dst v) H' Q) ∨
          ∃ t z, o.op = .alloc t ∧ zeroA P t = some z ∧ (∀ j ∈ r, ordM (masks ops.toList []) i j = true ∨ isAlloc ops j = true) ∧ RA P N ops r pend (env.putO o.dst (.ptr H.length 0 0)) (H ++ [.live 0 z]) Q)
        (isAlloc ops i = false ∧ RA P N ops r ((i, []) :: pend) (env.putO o.dst (.tup [])) H Q)

/-- New variables have plain zeros, and no guard. -/
def allocOk (P : Program) (ops : Array Oper) : Bool := ops.toList.all fun o => match o.op with | .alloc t => (zeroA P t).isSome && o.guard.isNone | _ => true

def dstOf (ops : Array Oper) (i : Nat) : Option Nat := (ops[i]?).bind (·.dst)

/-- What is asked of the region's text, and of our order. -/
def regOk (ops : Array Oper) (N : Nat) (l : List Nat) : Bool :=
  let m := masks ops.toList []
  let n := ops.size
  dstsIn N ops.toList &&
  (decide l.Nodup && ((List.range n).all fun i => l.contains i) && l.all (fun i => decide (i < n))) &&
  ((List.range n).all fun i => match ops[i]? with
    | some o => (o.after.toList.all fun e => !Region.binds .any e || decide (e.on < i)) &&
        (match o.guard with | some (j, _) => ordM m j i && decide (j < n) && (dstOf ops j).isSome | none => true) &&
        (match o.dst with
          | some d => (List.range n).all fun j => decide (j = i) || (match ops[j]? with
              | some o' => !decide (o'.dst = some d) && (!(tmpsOf o').contains d || ordM m i j || ordM m j i)
              | none => true)
          | none => true)
    | none => true) &&
  (l.zipIdx.all fun (i, p) => l.zipIdx.all fun (j, q) => !decide (p < q) || !ordM m j i)

theorem get_put (env : Env) (t u : Nat) (v : AVal) : (env.put t v).get u = if u = t then v else env.get u := by
  unfold Env.put
  simp only [Env.get]
  by_cases h : t = u
  · subst h; simp
  · rw [if_neg h, if_neg (fun e => h e.symm)]
    induction env with
    | nil => rfl
    | cons p r ih =>
      obtain ⟨k, w⟩ := p
      by_cases hk : k = t
      · subst hk
        simp only [List.filter_cons, ne_eq, not_true_eq_false, decide_false, Bool.false_eq_true, if_false, Env.get, if_neg h]
        exact ih
      · simp only [List.filter_cons, ne_eq, hk, not_false_eq_true, decide_true, if_true, Env.get]
        split
        · rfl
        · exact ih

/-- The frame's words are one to a slot. -/
def KN (env : Env) : Prop := ∀ t v, (t, v) ∈ env → env.get t = v

theorem KN.put {env : Env} (h : KN env) (t : Nat) (v : AVal) : KN (env.put t v) := by
  intro u x m
  rw [get_put]
  unfold Env.put at m
  rcases List.mem_cons.1 m with e | m
  · injection e with e1 e2
    subst e1 e2
    simp
  · obtain ⟨m1, m2⟩ := List.mem_filter.1 m
    have : u ≠ t := by simpa using m2
    rw [if_neg this]
    exact h u x m1

theorem KN.putO {env : Env} (h : KN env) (t : Option Nat) (v : AVal) : KN (env.putO t v) := by
  cases t with
  | none => exact h
  | some t => exact h.put t v

theorem KN.of_nodup : ∀ {env : Env}, (env.map (·.1)).Nodup → KN env
  | [], _ => fun _ _ h => by cases h
  | (k, w) :: r, h => by
    simp only [List.map_cons, List.nodup_cons] at h
    intro t v m
    simp only [Env.get]
    rcases List.mem_cons.1 m with e | m
    · injection e with e1 e2
      subst e1 e2
      simp
    · have : k ≠ t := by
        rintro rfl
        exact h.1 (List.mem_map.2 ⟨_, m, rfl⟩)
      rw [if_neg this]
      exact KN.of_nodup h.2 t v m

end
end Go.Ab

/- The abstract layer, 19: a region that draws its order comes to one end. -/
namespace Go.Ab

structure RegOk (ops : Array Oper) (N : Nat) (l : List Nat) : Prop where
  dsts : dstsIn N ops.toList = true
  nodup : l.Nodup
  all : ∀ i, i < ops.size → i ∈ l
  lt : ∀ i ∈ l, i < ops.size
  back : ∀ (i : Nat) (o : Oper), ops[i]? = some o → ∀ e ∈ o.after, Region.binds .any e = true → e.on < i
  guard : ∀ (i : Nat) (o : Oper) (j : Nat) (b : Bool), ops[i]? = some o → o.guard = some (j, b) → ordM (masks ops.toList []) j i = true ∧ j < ops.size ∧ ∃ d, dstOf ops j = some d
  uniq : ∀ (i j d : Nat), dstOf ops i = some d → dstOf ops j = some d → i = j
  haz : ∀ (i j d : Nat) (o : Oper), dstOf ops i = some d → ops[j]? = some o → d ∈ tmpsOf o → i ≠ j → ordM (masks ops.toList []) i j = true ∨ ordM (masks ops.toList []) j i = true
  ord : ∀ (l1 l2 : List Nat), l = l1 ++ l2 → ∀ i ∈ l1, ∀ j ∈ l2, ordM (masks ops.toList []) j i = false

theorem dstOf_lt {ops : Array Oper} {i d : Nat} (h : dstOf ops i = some d) : ∃ o, ops[i]? = some o ∧ o.dst = some d := by
  unfold dstOf at h
  cases ho : ops[i]? with
  | none => rw [ho] at h; cases h
  | some o => rw [ho] at h; exact ⟨o, rfl, h⟩

theorem get_lt {ops : Array Oper} {i : Nat} {o : Oper} (h : ops[i]? = some o) : i < ops.size := (Array.getElem?_eq_some_iff.1 h).1

theorem regOk_spec {ops : Array Oper} {N : Nat} {l : List Nat} (h : regOk ops N l = true) : RegOk ops N l := by
  unfold regOk at h
  simp only [Bool.and_eq_true] at h
  obtain ⟨⟨⟨h1, ⟨h2, h3⟩, h4⟩, h5⟩, h6⟩ := h
  have row : ∀ (i : Nat) (o : Oper), ops[i]? = some o → _ := fun i o ho => by
    have := List.all_eq_true.1 h5 i (List.mem_range.2 (get_lt ho))
    rw [ho] at this
    simp only [Bool.and_eq_true] at this
    exact this
  refine ⟨h1, by simpa using h2, fun i hi => ?_, fun i hi => by simpa using List.all_eq_true.1 h4 i hi, fun i o ho e he hb => ?_, fun i o j b ho hg => ?_, fun i j d hi hj => ?_, fun i j d o hi hj hd hne => ?_, fun l1 l2 hl i hi j hj => ?_⟩
  · have := List.all_eq_true.1 h3 i (List.mem_range.2 hi)
    simpa using this
  · have := List.all_eq_true.1 (row i o ho).1.1 e (by simpa using he)
    simpa [hb] using this
  · have := (row i o ho).1.2
    rw [hg] at this
    simp only [Bool.and_eq_true, decide_eq_true_eq] at this
    exact ⟨this.1.1, this.1.2, Option.isSome_iff_exists.1 this.2⟩
  · obtain ⟨o, ho, hd⟩ := dstOf_lt hi
    obtain ⟨o', ho', hd'⟩ := dstOf_lt hj
    have := (row i o ho).2
    rw [hd] at this
    have := List.all_eq_true.1 this j (List.mem_range.2 (get_lt ho'))
    rw [ho'] at this
    simp only [hd', decide_true, Bool.not_true, Bool.false_and, Bool.or_false, decide_eq_true_eq] at this
    exact this.symm
  · obtain ⟨o1, ho1, hd1⟩ := dstOf_lt hi
    have := (row i o1 ho1).2
    rw [hd1] at this
    have := List.all_eq_true.1 this j (List.mem_range.2 (get_lt hj))
    rw [hj] at this
    have hc : (tmpsOf o).contains d = true := by simpa using hd
    simp only [hc, Bool.not_true, Bool.false_or, Bool.or_eq_true, decide_eq_true_eq, Bool.and_eq_true] at this
    rcases this with h | ⟨_, h⟩
    · exact (hne h.symm).elim
    · exact h
  · obtain ⟨p, hp⟩ := List.getElem?_of_mem hi
    obtain ⟨q, hq⟩ := List.getElem?_of_mem hj
    have hpl : p < l1.length := by
      rcases Nat.lt_or_ge p l1.length with h | h
      · exact h
      · rw [List.getElem?_eq_none h] at hp; cases hp
    have m1 : (i, p) ∈ l.zipIdx := by
      rw [List.mem_zipIdx_iff_getElem?]
      rw [hl, List.getElem?_append_left hpl]
      exact hp
    have m2 : (j, l1.length + q) ∈ l.zipIdx := by
      rw [List.mem_zipIdx_iff_getElem?]
      rw [hl, List.getElem?_append_right (by omega)]
      simpa using hq
    have := List.all_eq_true.1 (List.all_eq_true.1 h6 _ m1) _ m2
    have hlt : p < l1.length + q := by omega
    simpa [hlt] using this

section
variable {P : Program} {N : Nat} {ops : Array Oper} {l : List Nat} {Q : Env → AHeap → Prop} {env0 : Env} {X : Nat → Prop} {h0 : Gh} {H0 : AHeap} {w0 : World} {ds0 : List Deferred}

/-- What stands in an operation's operand slots when its turn comes. -/
def Opd (ops : Array Oper) (env0 : Env) (v : Nat → AVal) (i : Nat) (o : Oper) (ei : Env) : Prop :=
  ∀ t ∈ tmpsOf o, (∀ k, k ≠ i → dstOf ops k = some t → ordM (masks ops.toList []) k i = true → ei.get t = v k) ∧
    ((∀ k, k ≠ i → dstOf ops k = some t → ordM (masks ops.toList []) k i = false) → ei.get t = env0.get t)

/-- Is the operation carried out? As the values say. -/
def Wants (v : Nat → AVal) (o : Oper) (r : Bool) : Prop :=
  match o.guard with
  | none => r = true
  | some (j, want) => (∃ b, v j = .bool b ∧ r = (b == want)) ∨ (v j = .tup [] ∧ r = false)

/-- What nobody may touch: the new variables that are made already, too. -/
def XR (X : Nat → Prop) (early : Nat → Option Nat) (B : Nat) : Prop := X B ∨ ∃ i, early i = some B

structure Inv (P : Program) (N : Nat) (ops : Array Oper) (l : List Nat) (Q : Env → AHeap → Prop) (env0 : Env) (X : Nat → Prop) (h0 : Gh) (H0 : AHeap) (w0 : World) (ds0 : List Deferred)
    (l1 l2 : List Nat) (v : Nat → AVal) (pend : List (Nat × List Nat)) (env : Env) (H : AHeap) (h : Gh) (early : Nat → Option Nat) (L : Array Bool) (a : Act) (w : World) : Prop where
  split : l = l1 ++ l2
  ra : RA P N ops l2 pend env H Q
  kn : KN env
  keys : ∀ t u, (t, u) ∈ env → t < N
  env1 : ∀ k ∈ l1, ∀ t, dstOf ops k = some t → env.get t = v k
  env2 : ∀ t, (∀ k ∈ l1, dstOf ops k ≠ some t) → env.get t = env0.get t
  sim : Sim (XR X early) h H w
  nodefer : a.defers = ds0
  size : a.tmps.size = N
  slot1 : ∀ k t, L.getD k false = true → early k = none → dstOf ops k = some t → VRel (cx (XR X early) h H w) (v k) (a.tmps.getD t undef)
  slot2 : ∀ t, (∀ k, L.getD k false = true → dstOf ops k ≠ some t) → VRel (cx (XR X early) h H w) (env0.get t) (a.tmps.getD t undef)
  sub : ∀ i, L.getD i false = true → early i = none → i ∈ l1
  lsz : L.size = ops.size
  closed : Closed ops L
  pendq : ∀ i ∈ l1, L.getD i false = false → ∃ o, ops[i]? = some o ∧ isAlloc ops i = false ∧ ((Wants v o false ∧ v i = .tup []) ∨
    (Wants v o true ∧ ∃ rd ei, (i, rd) ∈ pend ∧ (∀ id ∈ rd, id < H.length) ∧ KN ei ∧ (∀ t u, (t, u) ∈ ei → t < N) ∧ Opd ops env0 v i o ei ∧ Quiet P N o ei H rd (v i)))
  ext : Ext h0 H0 w0 h H w
  early1 : ∀ i B, early i = some B → i ∈ l2 ∧ L.getD i false = true ∧ w0.heap.size ≤ B ∧ B < w.heap.size ∧ ∃ (o : Oper) (t : TypeId) (z : List AVal) (arr : Array Value), ops[i]? = some o ∧ o.op = .alloc t ∧ zeroA P t = some z ∧
    w.heap[B]? = some (.cells arr t (0, 0)) ∧ VRel (cx (XR X early) h H w) (.agg z) (.agg arr) ∧ ∀ d, o.dst = some d → a.tmps.getD d undef = .pointer (some ⟨B, 0, none⟩)
  early2 : ∀ i j B, early i = some B → early j = some B → i = j

/-- The frame that an operation looks at. -/
def look (o : Oper) (ei : Env) : Env := ei.filter fun p => (tmpsOf o).contains p.1

theorem look_get (o : Oper) (ei : Env) : ∀ t ∈ tmpsOf o, (look o ei).get t = ei.get t := by
  intro t ht
  unfold look
  induction ei with
  | nil => rfl
  | cons p r ih =>
    obtain ⟨k, u⟩ := p
    by_cases hk : (tmpsOf o).contains k = true
    · simp only [List.filter_cons, hk, if_true, Env.get]
      split
      · rfl
      · exact ih
    · simp only [List.filter_cons, hk, Bool.false_eq_true, if_false, Env.get]
      rw [if_neg (by rintro rfl; exact hk (by simpa using ht))]
      exact ih

variable {l1 l2 : List Nat} {v : Nat → AVal} {pend : List (Nat × List Nat)} {env : Env} {H : AHeap} {h : Gh} {early : Nat → Option Nat} {L : Array Bool} {a : Act} {w : World}

/-- Ahead of its turn, in our order: what its operands are. -/
theorem Inv.opd (ok : RegOk ops N l) (I : Inv P N ops l Q env0 X h0 H0 w0 ds0 l1 l2 v pend env H h early L a w) {i : Nat} {r : List Nat} (hl : l2 = i :: r) {o : Oper} (ho : ops[i]? = some o) : Opd ops env0 v i o env := by
  intro t ht
  have hil : i ∉ l1 := by
    intro hm
    have := ok.nodup
    rw [I.split, hl] at this
    exact (List.nodup_append.1 this).2.2 i hm i (by simp) rfl
  refine ⟨fun k hk hd hord => ?_, fun hno => ?_⟩
  · refine I.env1 k ?_ t hd
    obtain ⟨ok', hok', _⟩ := dstOf_lt hd
    have hm := ok.all k (get_lt hok')
    rw [I.split, List.mem_append] at hm
    rcases hm with hm | hm
    · exact hm
    · rw [hl] at hm
      rcases List.mem_cons.1 hm with e | hm
      · exact (hk e).elim
      · have := ok.ord (l1 ++ [i]) r (by rw [I.split, hl]; simp) i (by simp) k hm
        rw [hord] at this; cases this
  · refine I.env2 t fun k hm hd => ?_
    have hki : k ≠ i := fun e => hil (e ▸ hm)
    rcases ok.haz k i t o hd ho ht hki with h1 | h1
    · rw [hno k hki hd] at h1; cases h1
    · have := ok.ord l1 l2 I.split k hm i (by rw [hl]; simp)
      rw [h1] at this; cases this

/-- Its operand slots as they are, when it is ready. -/
theorem Inv.look (ok : RegOk ops N l) (I : Inv P N ops l Q env0 X h0 H0 w0 ds0 l1 l2 v pend env H h early L a w) {i : Nat} {o : Oper} (ho : ops[i]? = some o) (hun : L.getD i false = false)
    (hp : ∀ e ∈ o.after, Region.binds .any e = true → L.getD e.on false = true) (hne : ∀ k, ordM (masks ops.toList []) k i = true → early k = none) {ei : Env} (kn : KN ei) (hk : ∀ t u, (t, u) ∈ ei → t < N) (hopd : Opd ops env0 v i o ei) : EnvRel (cx (XR X early) h H w) (look o ei) a := by
  intro t u m
  obtain ⟨m1, m2⟩ := List.mem_filter.1 m
  have ht : t ∈ tmpsOf o := by simpa using m2
  refine ⟨by rw [I.size]; exact hk t u m1, ?_⟩
  rw [← kn t u m1]
  obtain ⟨c1, c2⟩ := hopd t ht
  by_cases hw : ∃ k, k ≠ i ∧ dstOf ops k = some t ∧ ordM (masks ops.toList []) k i = true
  · obtain ⟨k, hki, hd, hord⟩ := hw
    rw [c1 k hki hd hord]
    exact I.slot1 k t (ord_done I.closed (i + 1) i o (by omega) ho hp hord) (hne k hord) hd
  · have hno : ∀ k, k ≠ i → dstOf ops k = some t → ordM (masks ops.toList []) k i = false := by
      intro k hki hd
      cases hb : ordM (masks ops.toList []) k i with
      | false => rfl
      | true => exact (hw ⟨k, hki, hd, hb⟩).elim
    rw [c2 hno]
    refine I.slot2 t fun k hlk hd => ?_
    by_cases hki : k = i
    · subst hki; rw [hun] at hlk; cases hlk
    · rcases ok.haz k i t o hd ho ht hki with h1 | h1
      · rw [hno k hki hd] at h1; cases h1
      · obtain ⟨o', ho', _⟩ := dstOf_lt hd
        have := ord_done I.closed (k + 1) k o' (by omega) ho' (fun e he hb => I.closed k o' ho' hlk e he hb) h1
        rw [hun] at this; cases this

theorem Inv.wanted (ok : RegOk ops N l) (I : Inv P N ops l Q env0 X h0 H0 w0 ds0 l1 l2 v pend env H h early L a w) {i : Nat} {o : Oper} (ho : ops[i]? = some o) (hne : ∀ k, ordM (masks ops.toList []) k i = true → early k = none)
    (hp : ∀ e ∈ o.after, Region.binds .any e = true → L.getD e.on false = true) {r : Bool} (hw : Wants v o r) : Region.wanted o (yielded ops a.tmps) = r := by
  unfold Wants at hw
  unfold Region.wanted
  cases hg : o.guard with
  | none => rw [hg] at hw; exact hw.symm
  | some p =>
    obtain ⟨j, want⟩ := p
    rw [hg] at hw
    obtain ⟨hord, hj, d, hd⟩ := ok.guard i o j want ho hg
    have hlj := ord_done I.closed (i + 1) i o (by omega) ho hp hord
    have hr := I.slot1 j d hlj (hne j hord) hd
    have hdn : d < a.tmps.size := by
      obtain ⟨oj, hoj, hdj⟩ := dstOf_lt hd
      have := List.all_eq_true.1 ok.dsts oj (by rw [Array.mem_toList_iff]; exact Array.mem_of_getElem? hoj)
      rw [hdj] at this
      rw [I.size]
      simpa using this
    rcases hw with ⟨b, hv, rfl⟩ | ⟨hv, rfl⟩
    case inr =>
      rw [hv] at hr
      obtain ⟨vs', hval⟩ : ∃ vs', a.tmps.getD d undef = .tuple vs' := by
        generalize a.tmps.getD d undef = c at hr
        cases hr
        exact ⟨_, rfl⟩
      have hy : yielded ops a.tmps j = none := by
        unfold yielded
        rw [show (ops[j]?).bind (·.dst) = some d from hd]
        simp only [Option.bind_some]
        have : a.tmps[d]? = some (.tuple vs') := by
          rw [Array.getElem?_eq_getElem hdn]
          rw [Array.getD_eq_getD_getElem?, Array.getElem?_eq_getElem hdn] at hval
          simpa using hval
        rw [this]
      simp only [hy]
      cases want <;> rfl
    rw [hv] at hr
    have hval : a.tmps.getD d undef = .bool b := by
      generalize a.tmps.getD d undef = c at hr
      cases hr
      rfl
    have hy : yielded ops a.tmps j = some b := by
      unfold yielded
      rw [show (ops[j]?).bind (·.dst) = some d from hd]
      simp only [Option.bind_some]
      have : a.tmps[d]? = some (.bool b) := by
        rw [Array.getElem?_eq_getElem hdn]
        rw [Array.getD_eq_getD_getElem?, Array.getElem?_eq_getElem hdn] at hval
        simpa using hval
      rw [this]
    simp only [hy]
    cases b <;> cases want <;> rfl

/-- What is ordered ahead of a thing that our order has come to is no new variable made ahead of its turn. -/
theorem Inv.noEarly (ok : RegOk ops N l) (I : Inv P N ops l Q env0 X h0 H0 w0 ds0 l1 l2 v pend env H h early L a w) {i : Nat} (hi : i ∈ l1 ∨ ∃ r, l2 = i :: r) : ∀ k, ordM (masks ops.toList []) k i = true → k ≠ i → early k = none := by
  intro k hord hki
  cases he : early k with
  | none => rfl
  | some B =>
    have hk2 := (I.early1 k B he).1
    rcases hi with hi | ⟨r, rfl⟩
    · have := ok.ord l1 l2 I.split i hi k hk2
      rw [hord] at this; cases this
    · rcases List.mem_cons.1 hk2 with e | hk2
      · exact (hki e).elim
      · have := ok.ord (l1 ++ [i]) r (by rw [I.split]; simp) i (by simp) k hk2
        rw [hord] at this; cases this

theorem getD_set {L : Array Bool} {i : Nat} (hi : i < L.size) (j : Nat) : (L.setIfInBounds i true).getD j false = if j = i then true else L.getD j false := by
  rw [Array.getD_eq_getD_getElem?, Array.getD_eq_getD_getElem?]
  by_cases h : j = i
  · subst h
    rw [Array.getElem?_setIfInBounds_self_of_lt hi]
    simp
  · rw [Array.getElem?_setIfInBounds_ne (fun e => h e.symm), if_neg h]

theorem put_getD {a : Act} {d : Option Nat} {c : Value} (hd : ∀ t, d = some t → t < a.tmps.size) (t : Nat) : (a.put d c).tmps.getD t undef = if d = some t then c else a.tmps.getD t undef := by
  cases d with
  | none => simp [Act.put]
  | some d =>
    simp only [Act.put, Option.some.injEq]
    rw [Array.getD_eq_getD_getElem?, Array.getD_eq_getD_getElem?]
    by_cases h : d = t
    · subst h
      rw [Array.getElem?_setIfInBounds_self_of_lt (hd d rfl)]
      simp
    · rw [Array.getElem?_setIfInBounds_ne h, if_neg h]

theorem closed_set {L : Array Bool} (hc : Closed ops L) {i : Nat} {o : Oper} (hi : i < L.size) (ho : ops[i]? = some o) (hp : ∀ e ∈ o.after, Region.binds .any e = true → L.getD e.on false = true) : Closed ops (L.setIfInBounds i true) := by
  intro j o' ho' hj e he hb
  rw [getD_set hi] at hj ⊢
  by_cases hji : j = i
  · subst hji
    rw [ho] at ho'
    injection ho' with e'
    subst e'
    rw [hp e he hb]
    simp
  · rw [if_neg hji] at hj
    rw [hc j o' ho' hj e he hb]
    simp

end
end Go.Ab

/- The abstract layer, 20: the rule for a region that draws its order. -/
namespace Go.Ab

section
variable {P : Program} {N : Nat} {ops : Array Oper} {l : List Nat} {Q : Env → AHeap → Prop} {env0 : Env} {X : Nat → Prop} {h0 : Gh} {H0 : AHeap} {w0 : World} {ds0 : List Deferred}
variable {l1 l2 : List Nat} {v : Nat → AVal} {pend : List (Nat × List Nat)} {env : Env} {H : AHeap} {h : Gh} {early : Nat → Option Nat} {L : Array Bool} {a : Act} {w : World}

theorem dst_lt (ok : RegOk ops N l) {i : Nat} {o : Oper} (ho : ops[i]? = some o) : ∀ t, o.dst = some t → t < N := by
  intro t ht
  have := List.all_eq_true.1 ok.dsts o (by rw [Array.mem_toList_iff]; exact Array.mem_of_getElem? ho)
  rw [ht] at this
  simpa using this

theorem dstOf_eq {i : Nat} {o : Oper} (ho : ops[i]? = some o) : dstOf ops i = o.dst := by
  unfold dstOf; rw [ho]; rfl

/-- An operation whose value stands already is carried out: the state behind it. -/
theorem Inv.done (ok : RegOk ops N l) (I : Inv P N ops l Q env0 X h0 H0 w0 ds0 l1 l2 v pend env H h early L a w) {i : Nat} {o : Oper} (ho : ops[i]? = some o) (hi1 : i ∈ l1) (hun : L.getD i false = false)
    (hp : ∀ e ∈ o.after, Region.binds .any e = true → L.getD e.on false = true) {c : Value} {h' : Gh} {w' : World} (sim : Sim (XR X early) h' H w') (x : Ext h H w h' H w') (hv : VRel (cx (XR X early) h' H w') (v i) c) :
    Inv P N ops l Q env0 X h0 H0 w0 ds0 l1 l2 v pend env H h' early (L.setIfInBounds i true) (a.put o.dst c) w' := by
  have hi : i < L.size := by rw [I.lsz]; exact get_lt ho
  have hd : ∀ t, o.dst = some t → t < a.tmps.size := fun t ht => by rw [I.size]; exact dst_lt ok ho t ht
  have hl := x.later (XR X early)
  have hil2 : i ∉ l2 := by
    intro hm
    have := ok.nodup
    rw [I.split] at this
    exact (List.nodup_append.1 this).2.2 i hi1 i hm rfl
  refine { split := I.split, ra := I.ra, kn := I.kn, keys := I.keys, env1 := I.env1, env2 := I.env2, sim := sim, nodefer := ?_, size := (put_size _ _ _).trans I.size, slot1 := fun k t hk hke hdk => ?_, slot2 := fun t hno => ?_,
           sub := fun j hj hje => ?_, lsz := by rw [Array.size_setIfInBounds]; exact I.lsz, closed := closed_set I.closed hi ho hp, pendq := fun k hk1 hku => ?_, ext := I.ext.trans x, early1 := fun k B hk => ?_, early2 := I.early2 }
  · rw [show (a.put o.dst c).defers = a.defers by cases o.dst <;> rfl]; exact I.nodefer
  · rw [put_getD hd]
    rw [getD_set hi] at hk
    by_cases hki : k = i
    · subst hki
      rw [dstOf_eq ho] at hdk
      rw [if_pos hdk]
      exact hv
    · rw [if_neg hki] at hk
      rw [if_neg (fun e => hki (ok.uniq k i t hdk (by rw [dstOf_eq ho]; exact e)))]
      exact (I.slot1 k t hk hke hdk).later hl
  · rw [put_getD hd]
    have hne : o.dst ≠ some t := by
      have := hno i (by rw [getD_set hi, if_pos rfl])
      rwa [dstOf_eq ho] at this
    rw [if_neg hne]
    refine (I.slot2 t fun k hk => hno k ?_).later hl
    rw [getD_set hi]
    split
    · rfl
    · exact hk
  · rw [getD_set hi] at hj
    by_cases hji : j = i
    · subst hji; exact hi1
    · rw [if_neg hji] at hj; exact I.sub j hj hje
  · rw [getD_set hi] at hku
    by_cases hki : k = i
    · subst hki; simp at hku
    · rw [if_neg hki] at hku
      exact I.pendq k hk1 hku
  · obtain ⟨e1, e2, e3, e4, o', t, z, arr, e5, e6, e7, e8, e9, e10⟩ := I.early1 k B hk
    have hki : k ≠ i := fun e => hil2 (e ▸ e1)
    refine ⟨e1, by rw [getD_set hi, if_neg hki]; exact e2, e3, Nat.lt_of_lt_of_le e4 x.size, o', t, z, arr, e5, e6, e7, ?_, e9.later hl, fun d hd' => ?_⟩
    · exact (x.keep B e4 (I.sim.out B (.inr ⟨k, hk⟩)).2).trans e8
    · rw [put_getD hd, if_neg (fun e => hki (ok.uniq k i d (by rw [dstOf_eq e5]; exact hd') (by rw [dstOf_eq ho]; exact e)))]
      exact e10 d hd'

/-- Our order goes one operation on, which is not carried out yet. -/
theorem Inv.next (ok : RegOk ops N l) (I : Inv P N ops l Q env0 X h0 H0 w0 ds0 l1 l2 v pend env H h early L a w) {i : Nat} {r : List Nat} (hl : l2 = i :: r) {o : Oper} (ho : ops[i]? = some o) {u : AVal} {pend' : List (Nat × List Nat)}
    (hal : isAlloc ops i = false) (hra : RA P N ops r pend' (env.putO o.dst u) H Q) (hpe : ∀ p ∈ pend, p ∈ pend')
    (hq : (Wants v o false ∧ u = .tup []) ∨ (Wants v o true ∧ ∃ rd, (i, rd) ∈ pend' ∧ (∀ id ∈ rd, id < H.length) ∧ Quiet P N o env H rd u)) :
    ∃ v', Inv P N ops l Q env0 X h0 H0 w0 ds0 (l1 ++ [i]) r v' pend' (env.putO o.dst u) H h early L a w := by
  have hopd := I.opd ok hl ho
  have hnd := ok.nodup
  rw [I.split, hl] at hnd
  have hil : i ∉ l1 := fun hm => (List.nodup_append.1 hnd).2.2 i hm i (by simp) rfl
  have hei : early i = none := by
    cases he : early i with
    | none => rfl
    | some B =>
      obtain ⟨_, _, _, _, o', t, z, arr, e5, e6, _⟩ := I.early1 i B he
      unfold isAlloc at hal
      rw [e5] at hal
      simp only [e6] at hal
      cases hal
  have hun : L.getD i false = false := by
    cases hb : L.getD i false with
    | false => rfl
    | true => exact (hil (I.sub i hb hei)).elim
  let v' : Nat → AVal := fun k => if k = i then u else v k
  have hv' : ∀ k, k ≠ i → v' k = v k := fun k hk => by simp [v', hk]
  have hvi : v' i = u := by simp [v']
  have hget : ∀ t, (env.putO o.dst u).get t = if o.dst = some t then u else env.get t := by
    intro t
    cases o.dst with
    | none => simp [Env.putO]
    | some d =>
      simp only [Env.putO, get_put, Option.some.injEq]
      by_cases h : d = t
      · subst h; simp
      · rw [if_neg h, if_neg (fun e => h e.symm)]
  have hord0 : ordM (masks ops.toList []) i i = true → False := by
    intro hb
    obtain ⟨e, he, hbi, h1⟩ := (masks_get ops.toList []).2 i i o (by simpa using ho) (by simpa using hb)
    -- a way from i to i would go down
    have down : ∀ (n j k : Nat), j < n → ordM (masks ops.toList []) k j = true → k < j := by
      intro n
      induction n with
      | zero => intro j k h; omega
      | succ n ih =>
        intro j k hj hb
        cases hoj : ops[j]? with
        | none =>
          have hsz : ops.size ≤ j := Array.getElem?_eq_none_iff.1 hoj
          have hlen : ∀ (l : List Oper) (acc : List Nat), (masks l acc).length = acc.length + l.length := by
            intro l
            induction l with
            | nil => intro acc; rfl
            | cons o l ih => intro acc; simp only [masks, ih]; simp; omega
          have : (masks ops.toList []).getD j 0 = 0 := by
            rw [List.getD_eq_getElem?_getD, List.getElem?_eq_none (by rw [hlen]; simpa using hsz)]
            rfl
          unfold ordM at hb
          rw [this] at hb
          simp at hb
        | some oj =>
          obtain ⟨e, he, hbe, h2⟩ := (masks_get ops.toList []).2 j k oj (by simpa using hoj) (by simpa using hb)
          have hlt := ok.back j oj hoj e (by simpa using he) hbe
          rcases h2 with h2 | ⟨h2, h3⟩
          · omega
          · have := ih e.on k (by omega) h3; omega
    have := down (i + 1) i i (by omega) hb
    omega
  have opd' : ∀ {k : Nat} {ok' : Oper} {ei : Env}, k ∈ l1 → ops[k]? = some ok' → Opd ops env0 v k ok' ei → Opd ops env0 v' k ok' ei := by
    intro k ok' ei hk1 hok hop t ht
    obtain ⟨c1, c2⟩ := hop t ht
    refine ⟨fun q hq hd hord => ?_, c2⟩
    rw [c1 q hq hd hord, hv']
    rintro rfl
    have := ok.ord l1 l2 I.split k hk1 q (by rw [hl]; simp)
    rw [hord] at this; cases this
  have wants' : ∀ {o' : Oper} {b : Bool}, (∀ j want, o'.guard = some (j, want) → j ≠ i) → Wants v o' b → Wants v' o' b := by
    intro o' b hne hw
    unfold Wants at hw ⊢
    cases hg : o'.guard with
    | none => rw [hg] at hw; exact hw
    | some p =>
      obtain ⟨j, want⟩ := p
      rw [hg] at hw
      simp only at hw ⊢
      rw [hv' j (hne j want hg)]
      exact hw
  refine ⟨v', { split := by rw [I.split, hl]; simp, ra := hra, kn := I.kn.putO _ _, keys := fun t x m => ?_, env1 := fun k hk t hd => ?_, env2 := fun t hno => ?_, sim := I.sim, nodefer := I.nodefer, size := I.size, slot1 := fun k t hk hke hd => ?_, slot2 := I.slot2, sub := fun j hj hje => List.mem_append_left _ (I.sub j hj hje), lsz := I.lsz, closed := I.closed, pendq := fun k hk hku => ?_, ext := I.ext, early1 := fun k B hk => ?_, early2 := I.early2 }⟩
  · cases hdst : o.dst with
    | none => rw [hdst] at m; exact I.keys t x m
    | some d =>
      rw [hdst] at m
      simp only [Env.putO, Env.put] at m
      rcases List.mem_cons.1 m with e | m
      · injection e with e1 _
        subst e1
        exact dst_lt ok ho t hdst
      · exact I.keys t x (List.mem_filter.1 m).1
  · rw [hget]
    rcases List.mem_append.1 hk with hk | hk
    · have hki : k ≠ i := fun e => hil (e ▸ hk)
      rw [hv' k hki, if_neg (fun e => hki (ok.uniq k i t hd (by rw [dstOf_eq ho]; exact e)))]
      exact I.env1 k hk t hd
    · have : k = i := by simpa using hk
      subst this
      rw [dstOf_eq ho] at hd
      rw [if_pos hd, hvi]
  · rw [hget]
    have h1 : o.dst ≠ some t := by
      have := hno i (by simp)
      rwa [dstOf_eq ho] at this
    rw [if_neg h1]
    exact I.env2 t fun k hk => hno k (List.mem_append_left _ hk)
  · have hki : k ≠ i := by rintro rfl; rw [hun] at hk; cases hk
    rw [hv' k hki]
    exact I.slot1 k t hk hke hd
  · rcases List.mem_append.1 hk with hkl | hkl
    · have hki : k ≠ i := fun e => hil (e ▸ hkl)
      obtain ⟨ok', hok, hka, hcase⟩ := I.pendq k hkl hku
      have hgne : ∀ j want, ok'.guard = some (j, want) → j ≠ i := by
        rintro j want hg rfl
        have := (ok.guard k ok' j want hok hg).1
        have h2 := ok.ord l1 l2 I.split k hkl j (by rw [hl]; simp)
        rw [this] at h2; cases h2
      refine ⟨ok', hok, hka, ?_⟩
      rw [hv' k hki]
      rcases hcase with ⟨h1, h2⟩ | ⟨h1, rd, ei, h2, h3, h4, h5, h6, h7⟩
      · exact .inl ⟨wants' hgne h1, h2⟩
      · exact .inr ⟨wants' hgne h1, rd, ei, hpe _ h2, h3, h4, h5, opd' hkl hok h6, h7⟩
    · have : k = i := by simpa using hkl
      subst this
      have hgne : ∀ j want, o.guard = some (j, want) → j ≠ k := by
        rintro j want hg rfl
        exact hord0 (ok.guard j o j want ho hg).1
      refine ⟨o, ho, hal, ?_⟩
      rw [hvi]
      rcases hq with ⟨h1, h2⟩ | ⟨h1, rd, h2, h3, h4⟩
      · exact .inl ⟨wants' hgne h1, h2⟩
      · refine .inr ⟨wants' hgne h1, rd, env, h2, h3, I.kn, I.keys, fun t ht => ?_, h4⟩
        obtain ⟨c1, c2⟩ := hopd t ht
        exact ⟨fun q hq hd hord => by rw [c1 q hq hd hord, hv' q hq], c2⟩
  · obtain ⟨e1, e2⟩ := I.early1 k B hk
    rw [hl] at e1
    rcases List.mem_cons.1 e1 with e | e1
    · rw [e, hei] at hk; cases hk
    · exact ⟨e1, e2⟩

/-- What the guard says, our order's values taken. -/
theorem Inv.guardW (ok : RegOk ops N l) (I : Inv P N ops l Q env0 X h0 H0 w0 ds0 l1 l2 v pend env H h early L a w) {i : Nat} {r : List Nat} (hl : l2 = i :: r) {o : Oper} (ho : ops[i]? = some o) {A B : Prop} (hg : GuardW ops o.guard env A B) :
    (Wants v o true ∧ A) ∨ (Wants v o false ∧ B) := by
  unfold GuardW at hg
  unfold Wants
  cases hgd : o.guard with
  | none => rw [hgd] at hg; exact .inl ⟨rfl, hg⟩
  | some p =>
    obtain ⟨j, want⟩ := p
    rw [hgd] at hg
    simp only at hg ⊢
    obtain ⟨hord, hj, d, hd⟩ := ok.guard i o j want ho hgd
    have hjl : j ∈ l1 := by
      have hm := ok.all j hj
      rw [I.split, List.mem_append] at hm
      rcases hm with hm | hm
      · exact hm
      · rw [hl] at hm
        rcases List.mem_cons.1 hm with e | hm
        · subst e
          have hlt := ok.back
          exfalso
          have h2 := I.opd ok hl ho
          -- i ordered ahead of itself: not in a region
          obtain ⟨e, he, hbi, h1⟩ := (masks_get ops.toList []).2 j j o (by simpa using ho) (by simpa using hord)
          have down : ∀ (n q k : Nat), q < n → q ≤ j → ordM (masks ops.toList []) k q = true → k < q := by
            intro n
            induction n with
            | zero => intro q k h; omega
            | succ n ih =>
              intro q k hq hqj hb
              have hql : q < ops.size := by have := get_lt ho; omega
              obtain ⟨e, he, hbe, h2⟩ := (masks_get ops.toList []).2 q k ops[q] (by simp [hql]) (by simpa using hb)
              have hlt := ok.back q ops[q] (by simp [hql]) e (by simpa using he) hbe
              rcases h2 with h2 | ⟨h2, h3⟩
              · omega
              · have := ih e.on k (by omega) (by omega) h3; omega
          have := down (j + 1) j j (by omega) (Nat.le_refl _) hord
          omega
        · have := ok.ord (l1 ++ [i]) r (by rw [I.split, hl]; simp) i (by simp) j hm
          rw [hord] at this; cases this
    have hval : guardVal ops env j = v j := by
      unfold guardVal
      rw [show (ops[j]?).bind (·.dst) = some d from hd]
      exact I.env1 j hjl d hd
    rw [hval] at hg
    split at hg
    · rename_i b hb
      by_cases hbw : b = want
      · exact .inl ⟨.inl ⟨b, hb, by simp [hbw]⟩, hg.1 hbw⟩
      · exact .inr ⟨.inl ⟨b, hb, by simp [hbw]⟩, hg.2 (by cases b <;> cases want <;> simp_all)⟩
    · rename_i hb
      exact .inr ⟨.inr ⟨hb, trivial⟩, hg⟩
    · exact hg.elim

end
end Go.Ab

/- The abstract layer, 21: the rule for a region that draws its order: its end. -/
namespace Go.Ab

section
variable {P : Program} {N : Nat} {ops : Array Oper} {l : List Nat} {Q : Env → AHeap → Prop} {env0 : Env} {X : Nat → Prop} {h0 : Gh} {H0 : AHeap} {w0 : World} {ds0 : List Deferred}

theorem isAlloc_iff {i : Nat} {o : Oper} (ho : ops[i]? = some o) : isAlloc ops i = true ↔ ∃ t, o.op = .alloc t := by
  unfold isAlloc
  rw [ho]
  simp only
  constructor
  · intro h
    split at h
    · rename_i t ht; exact ⟨t, ht⟩
    · cases h
  · rintro ⟨t, ht⟩
    rw [ht]

theorem allocOk_spec (h : allocOk P ops = true) {i : Nat} {o : Oper} {t : TypeId} (ho : ops[i]? = some o) (hop : o.op = .alloc t) : (∃ z, zeroA P t = some z) ∧ o.guard = none := by
  have := List.all_eq_true.1 h o (by rw [Array.mem_toList_iff]; exact Array.mem_of_getElem? ho)
  rw [hop] at this
  simp only [Bool.and_eq_true] at this
  exact ⟨Option.isSome_iff_exists.1 this.1, by simpa using this.2⟩

/-- A new variable that is made already takes its place in our order. -/
theorem Inv.adopt (ok : RegOk ops N l) (ha : allocOk P ops = true) (hX : ∀ B, X B → B < w0.heap.size) {l1 : List Nat} {v : Nat → AVal} {pend : List (Nat × List Nat)} {env : Env} {H : AHeap} {h : Gh} {early : Nat → Option Nat} {L : Array Bool} {a : Act} {w : World}
    {i : Nat} {r : List Nat} (I : Inv P N ops l Q env0 X h0 H0 w0 ds0 l1 (i :: r) v pend env H h early L a w) {B : Nat} (hB : early i = some B) :
    ∃ v' env' H' h' early', Inv P N ops l Q env0 X h0 H0 w0 ds0 (l1 ++ [i]) r v' pend env' H' h' early' L a w := by
  obtain ⟨e1, e2, e3, e4, o, t, z, arr, ho, hop, hz, hblk, hrel, hslot⟩ := I.early1 i B hB
  have hal : isAlloc ops i = true := (isAlloc_iff ho).2 ⟨t, hop⟩
  have hg := (allocOk_spec ha ho hop).2
  have hra := I.ra
  simp only [RA, ho, hg, GuardW, hal, Bool.true_eq_false, false_and, false_or] at hra
  obtain ⟨t', z', hop', hz', _, hra⟩ := hra
  rw [hop] at hop'
  injection hop' with et
  subst et
  rw [hz] at hz'
  injection hz' with ez
  subst ez
  have hnd := ok.nodup
  rw [I.split] at hnd
  have hil : i ∉ l1 := fun hm => (List.nodup_append.1 hnd).2.2 i hm i (by simp) rfl
  let u : AVal := .ptr H.length 0 0
  let v' : Nat → AVal := fun k => if k = i then u else v k
  have hv' : ∀ k, k ≠ i → v' k = v k := fun k hk => by simp [v', hk]
  have hvi : v' i = u := by simp [v']
  let early' : Nat → Option Nat := fun k => if k = i then none else early k
  have he' : ∀ k B', early' k = some B' → k ≠ i ∧ early k = some B' := by
    intro k B' hk
    simp only [early'] at hk
    split at hk
    · cases hk
    · exact ⟨by assumption, hk⟩
  have hget : ∀ t, (env.putO o.dst u).get t = if o.dst = some t then u else env.get t := by
    intro t
    cases o.dst with
    | none => simp [Env.putO]
    | some d =>
      simp only [Env.putO, get_put, Option.some.injEq]
      by_cases h : d = t
      · subst h; simp
      · rw [if_neg h, if_neg (fun e => h e.symm)]
  have opd' : ∀ {k : Nat} {ok' : Oper} {ei : Env}, k ∈ l1 → ops[k]? = some ok' → Opd ops env0 v k ok' ei → Opd ops env0 v' k ok' ei := by
    intro k ok' ei hk1 hok hop t ht
    obtain ⟨c1, c2⟩ := hop t ht
    refine ⟨fun q hq hd hord => ?_, c2⟩
    rw [c1 q hq hd hord, hv']
    rintro rfl
    have := ok.ord l1 (q :: r) I.split k hk1 q (by simp)
    rw [hord] at this; cases this
  have wants' : ∀ {o' : Oper} {b : Bool}, (∀ j want, o'.guard = some (j, want) → j ≠ i) → Wants v o' b → Wants v' o' b := by
    intro o' b hne hw
    unfold Wants at hw ⊢
    cases hg : o'.guard with
    | none => rw [hg] at hw; exact hw
    | some p =>
      obtain ⟨j, want⟩ := p
      rw [hg] at hw
      simp only at hw ⊢
      rw [hv' j (hne j want hg)]
      exact hw
  -- the ground with the new block
  have hown : ∀ B', owned (h.at_ H.length (some B) 0 arr.size) (H ++ [.live 0 z]) B' → owned h H B' ∨ B' = B := by
    rintro B' ⟨id, e, he, hne, hio⟩
    rcases push_key he with ⟨hlt, he⟩ | ⟨rfl, rfl⟩
    · exact .inl ⟨id, e, he, hne, by simpa [Gh.at_, Nat.ne_of_lt hlt] using hio⟩
    · simp [Gh.at_] at hio
      exact .inr hio.symm
  have hl : (cx (XR X early) h H w).Later (cx (XR X early') (h.at_ H.length (some B) 0 arr.size) (H ++ [.live 0 z]) w) := by
    refine ⟨Nat.le_refl _, fun _ _ _ _ => rfl, fun B' _ hO => ?_, by simp [cx], fun id hid => by simp only [cx] at hid; simp [cx, Gh.at_, Nat.ne_of_lt hid], fun id hid _ => by simp only [cx] at hid; simp [cx, Gh.at_, Nat.ne_of_lt hid]⟩
    rcases hO with (hO | ⟨k, hk⟩) | hO
    · exact .inl (.inl hO)
    · exact .inl (.inr ⟨k, (he' k B' hk).2⟩)
    · rcases hown B' hO with hO | rfl
      · exact .inr hO
      · exact .inl (.inr ⟨i, hB⟩)
  have hnB : ¬ owned h H B := (I.sim.out B (.inr ⟨i, hB⟩)).2
  have hsim : Sim (XR X early') (h.at_ H.length (some B) 0 arr.size) (H ++ [.live 0 z]) w := by
    refine ⟨fun B' hB' => ?_, fun id g cs he => ?_, fun id L' he => ?_, fun id id' e e' B' h1 h2 hn1 hn2 h3 h4 => ?_, I.sim.bldKeep fun id e he hB => ?_⟩
    · have hxr : XR X early B' := by
        rcases hB' with hB' | ⟨k, hk⟩
        · exact .inl hB'
        · exact .inr ⟨k, (he' k B' hk).2⟩
      refine ⟨(I.sim.out B' hxr).1, fun ho => ?_⟩
      rcases hown B' ho with ho | rfl
      · exact (I.sim.out B' hxr).2 ho
      · rcases hB' with hB' | ⟨k, hk⟩
        · have := hX B' hB'; omega
        · obtain ⟨k1, k2⟩ := he' k B' hk
          exact k1 (I.early2 k i B' k2 hB)
    · rcases push_key he with ⟨hlt, he2⟩ | ⟨rfl, e⟩
      · obtain ⟨hg, hent⟩ := I.sim.live id g cs he2
        refine ⟨by simpa [cx, Gh.at_, Nat.ne_of_lt hlt] using hg, ?_⟩
        rcases hent with ⟨hn, rfl⟩ | ⟨B1, arr', T', fz', f, hio, hb, hcap, hle, hfz, hcells⟩
        · exact .inl ⟨by simpa [cx, Gh.at_, Nat.ne_of_lt hlt] using hn, rfl⟩
        · refine .inr ⟨B1, arr', T', fz', f, by simpa [cx, Gh.at_, Nat.ne_of_lt hlt] using hio, hb, by simpa [cx, Gh.at_, Nat.ne_of_lt hlt] using hcap, hle, hfz, fun j v hj => ?_⟩
          obtain ⟨p1, p2, p3⟩ := hcells j v hj
          exact ⟨p1, p2, p3.later hl⟩
      · injection e with e1 e2
        subst e1 e2
        obtain ⟨f, hle, hfz, hcells⟩ := Holds.of_agg (hrel.later hl)
        exact ⟨by simp [cx, Gh.at_], .inr ⟨B, arr, t, (0, 0), f, by simp [cx, Gh.at_], hblk, by simp [cx, Gh.at_], hle, hfz, hcells⟩⟩
    · rcases push_key he with ⟨hlt, he2⟩ | ⟨rfl, e⟩
      · obtain ⟨hg, B1, r1, hio, hb, p1, p2, p3, p4, p5, p6, p7⟩ := I.sim.lp id L' he2
        exact ⟨by simpa [cx, Gh.at_, Nat.ne_of_lt hlt] using hg, B1, r1, by simpa [cx, Gh.at_, Nat.ne_of_lt hlt] using hio, hb, p1, p2, p3, p4, p5, p6, fun t v m => ⟨(p7 t v m).1, (p7 t v m).2.later hl⟩⟩
      · cases e
    · rcases push_key h1 with ⟨l1', e1'⟩ | ⟨rfl, _⟩ <;> rcases push_key h2 with ⟨l2', e2'⟩ | ⟨rfl, _⟩
      · exact I.sim.inj _ _ _ _ B' e1' e2' hn1 hn2 (by simpa [Gh.at_, Nat.ne_of_lt l1'] using h3) (by simpa [Gh.at_, Nat.ne_of_lt l2'] using h4)
      · simp [Gh.at_] at h4
        subst h4
        exact (hnB ⟨id, e, e1', hn1, by simpa [Gh.at_, Nat.ne_of_lt l1'] using h3⟩).elim
      · simp [Gh.at_] at h3
        subst h3
        exact (hnB ⟨id', e', e2', hn2, by simpa [Gh.at_, Nat.ne_of_lt l2'] using h4⟩).elim
      · rfl
    · rcases push_key he with ⟨hlt, he2⟩ | ⟨rfl, e⟩
      · exact ⟨he2, by simp [Gh.at_, Nat.ne_of_lt hlt], by simp [Gh.at_, Nat.ne_of_lt hlt], fun _ _ _ _ _ => rfl⟩
      · subst e; cases hB
  have hext : Ext h0 H0 w0 (h.at_ H.length (some B) 0 arr.size) (H ++ [.live 0 z]) w := by
    have x := I.ext
    refine ⟨x.os, x.tape, x.output, x.size, x.keep, by have := x.n; simp; omega, fun id hid => ?_, fun id hid e => ?_, fun B' ho => ?_, x.loops⟩
    · have hlt : id < H.length := Nat.lt_of_lt_of_le hid x.n
      simpa [Gh.at_, Nat.ne_of_lt hlt] using x.gen id hid
    · have hlt : id < H.length := Nat.lt_of_lt_of_le hid x.n
      have := x.same id hid (by simpa [Gh.at_, Nat.ne_of_lt hlt] using e)
      simpa [Gh.at_, Nat.ne_of_lt hlt] using this
    · rcases hown B' ho with ho | rfl
      · exact x.fresh B' ho
      · exact .inr e3
  refine ⟨v', env.putO o.dst u, H ++ [.live 0 z], h.at_ H.length (some B) 0 arr.size, early', ?_⟩
  refine { split := by rw [I.split]; simp, ra := hra, kn := I.kn.putO _ _, keys := fun t' y m => ?_, env1 := fun k hk' t' hdk => ?_, env2 := fun t' hno => ?_, sim := hsim, nodefer := I.nodefer, size := I.size, slot1 := fun k t' hk' hke hdk => ?_, slot2 := fun t' hno => (I.slot2 t' hno).later hl,
           sub := fun j hj hje => ?_, lsz := I.lsz, closed := I.closed, pendq := fun k hk1 hku => ?_, ext := hext, early1 := fun k B' hk => ?_, early2 := fun k j B' h1 h2 => I.early2 k j B' (he' k B' h1).2 (he' j B' h2).2 }
  · cases hdst : o.dst with
    | none => rw [hdst] at m; exact I.keys t' y m
    | some d =>
      rw [hdst] at m
      simp only [Env.putO, Env.put] at m
      rcases List.mem_cons.1 m with e | m
      · injection e with e1 _
        subst e1
        exact dst_lt ok ho t' hdst
      · exact I.keys t' y (List.mem_filter.1 m).1
  · rw [hget]
    rcases List.mem_append.1 hk' with hk' | hk'
    · have hki : k ≠ i := fun e => hil (e ▸ hk')
      rw [hv' k hki, if_neg (fun e => hki (ok.uniq k i t' hdk (by rw [dstOf_eq ho]; exact e)))]
      exact I.env1 k hk' t' hdk
    · have : k = i := by simpa using hk'
      subst this
      rw [dstOf_eq ho] at hdk
      rw [if_pos hdk, hvi]
  · rw [hget]
    have h1 : o.dst ≠ some t' := by
      have := hno i (by simp)
      rwa [dstOf_eq ho] at this
    rw [if_neg h1]
    exact I.env2 t' fun k hk => hno k (List.mem_append_left _ hk)
  · by_cases hki : k = i
    · subst hki
      rw [dstOf_eq ho] at hdk
      rw [hvi, hslot t' hdk]
      exact .ptr (by simp [cx]) (by simp [cx, Gh.at_]) rfl fun _ => ⟨B, by simp [cx, Gh.at_], rfl⟩
    · rw [hv' k hki]
      exact (I.slot1 k t' hk' (by simpa [early', hki] using hke) hdk).later hl
  · by_cases hji : j = i
    · subst hji; simp
    · exact List.mem_append_left _ (I.sub j hj (by simpa [early', hji] using hje))
  · rcases List.mem_append.1 hk1 with hkl | hkl
    · have hki : k ≠ i := fun e => hil (e ▸ hkl)
      obtain ⟨ok', hok, hka, hcase⟩ := I.pendq k hkl hku
      have hgne : ∀ j want, ok'.guard = some (j, want) → j ≠ i := by
        rintro j want hg rfl
        have := (ok.guard k ok' j want hok hg).1
        have h2 := ok.ord l1 (j :: r) I.split k hkl j (by simp)
        rw [this] at h2; cases h2
      refine ⟨ok', hok, hka, ?_⟩
      rw [hv' k hki]
      rcases hcase with ⟨h1, h2⟩ | ⟨h1, rd, ei, h2, h3, h4, h5, h6, h7⟩
      · exact .inl ⟨wants' hgne h1, h2⟩
      · refine .inr ⟨wants' hgne h1, rd, ei, h2, fun id hid => by have := h3 id hid; simp; omega, h4, h5, opd' hkl hok h6, fun env' H'' he hh => h7 env' H'' he fun id hid => ?_⟩
        rw [hh id hid, List.getElem?_append_left (h3 id hid)]
    · have : k = i := by simpa using hkl
      subst this
      rw [e2] at hku; cases hku
  · obtain ⟨k1, k2⟩ := he' k B' hk
    obtain ⟨f1, f2, f3, f4, o', t', z', arr', f5, f6, f7, f8, f9, f10⟩ := I.early1 k B' k2
    rcases List.mem_cons.1 f1 with e | f1
    · exact (k1 e).elim
    · exact ⟨f1, f2, f3, f4, o', t', z', arr', f5, f6, f7, f8, f9.later hl, f10⟩

/-- A state in the middle of the region. -/
def Mid (P : Program) (N : Nat) (ops : Array Oper) (l : List Nat) (Q : Env → AHeap → Prop) (env0 : Env) (X : Nat → Prop) (h0 : Gh) (H0 : AHeap) (w0 : World) (ds0 : List Deferred) (L : Array Bool) (a : Act) (w : World) : Prop :=
  ∃ l1 l2 v pend env H h early, Inv P N ops l Q env0 X h0 H0 w0 ds0 l1 l2 v pend env H h early L a w

/-- A ready operation is one whose value stands, or one that stands next in our order and changes something. -/
theorem Inv.reach (ok : RegOk ops N l) (ha : allocOk P ops = true) (hX : ∀ B, X B → B < w0.heap.size) {L : Array Bool} {a : Act} {w : World} {i : Nat} {o : Oper} (ho : ops[i]? = some o) (hia : isAlloc ops i = false) (hp : ∀ e ∈ o.after, Region.binds .any e = true → L.getD e.on false = true) :
    ∀ (l2 l1 : List Nat) (v : Nat → AVal) (pend : List (Nat × List Nat)) (env : Env) (H : AHeap) (h : Gh) (early : Nat → Option Nat), Inv P N ops l Q env0 X h0 H0 w0 ds0 l1 l2 v pend env H h early L a w →
      ∃ l1 l2 v pend env H h early, Inv P N ops l Q env0 X h0 H0 w0 ds0 l1 l2 v pend env H h early L a w ∧ (i ∈ l1 ∨ ∃ r, l2 = i :: r ∧ Wants v o true ∧
        ∃ F, (∀ j ∈ r, ordM (masks ops.toList []) i j = true ∨ isAlloc ops j = true) ∧ (∀ p ∈ pend, ordM (masks ops.toList []) p.1 i = true ∨ ∀ id ∈ p.2, id ∉ F) ∧
          ∃ K, Eff P N o env H F K ∧ (∀ v H', K v H' → H.length ≤ H'.length) ∧ ∀ v H', K v H' → RA P N ops r pend (env.putO o.dst v) H' Q)
  | [], l1, v, pend, env, H, h, early, I => by
    have hm := ok.all i (get_lt ho)
    rw [I.split, List.append_nil] at hm
    exact ⟨l1, [], v, pend, env, H, h, early, I, .inl hm⟩
  | q :: r, l1, v, pend, env, H, h, early, I => by
    by_cases hi1 : i ∈ l1
    · exact ⟨l1, q :: r, v, pend, env, H, h, early, I, .inl hi1⟩
    · cases heq : early q with
      | some B =>
        obtain ⟨v', env', H', h', early', I'⟩ := I.adopt ok ha hX heq
        exact Inv.reach ok ha hX ho hia hp r _ v' _ _ H' h' early' I'
      | none =>
        have hra := I.ra
        have hql : q < ops.size := ok.lt q (by rw [I.split]; simp)
        have hoq : ops[q]? = some (ops[q]) := by simp [hql]
        generalize hoqv : ops[q] = oq at hoq
        have stop : (∀ j ∈ r, ordM (masks ops.toList []) q j = true ∨ isAlloc ops j = true) → i = q := by
          intro hF1
          have hm := ok.all i (get_lt ho)
          rw [I.split, List.mem_append] at hm
          rcases hm with hm | hm
          · exact (hi1 hm).elim
          · rcases List.mem_cons.1 hm with e | hm
            · exact e
            · rcases hF1 i hm with h1 | h1
              · have hd := ord_done I.closed (i + 1) i o (by omega) ho hp h1
                have hq1 := I.sub q hd heq
                have hnd := ok.nodup
                rw [I.split] at hnd
                exact ((List.nodup_append.1 hnd).2.2 q hq1 q (by simp) rfl).elim
              · rw [hia] at h1; cases h1
        simp only [RA, hoq] at hra
        rcases I.guardW ok rfl hoq hra with ⟨hw, (⟨hal, u, rd, hQ, hrd, hra'⟩ | ⟨hal, F, hF1, hF2, K, hK1, hK2, hK3⟩ | ⟨t, z, hop, hz, hF1, hra'⟩)⟩ | ⟨hw, hal, hra'⟩
        · obtain ⟨v', I'⟩ := I.next ok rfl hoq (pend' := (q, rd) :: pend) hal hra' (fun p hp => List.mem_cons_of_mem _ hp) (.inr ⟨hw, rd, by simp, hrd, hQ⟩)
          exact Inv.reach ok ha hX ho hia hp r _ v' _ _ H h early I'
        · have hiq := stop hF1
          subst hiq
          rw [ho] at hoq
          injection hoq with e
          subst e
          exact ⟨l1, i :: r, v, pend, env, H, h, early, I, .inr ⟨r, rfl, hw, F, hF1, hF2, K, hK1, hK2, hK3⟩⟩
        · have hiq := stop hF1
          subst hiq
          have := (isAlloc_iff hoq).2 ⟨t, hop⟩
          rw [hia] at this; cases this
        · obtain ⟨v', I'⟩ := I.next ok rfl hoq (pend' := (q, []) :: pend) hal hra' (fun p hp => List.mem_cons_of_mem _ hp) (.inl ⟨hw, rfl⟩)
          exact Inv.reach ok ha hX ho hia hp r _ v' _ _ H h early I'

theorem opwp_mono {o : Oper} {a : Act} {w : World} {K K' : Act → World → Prop} {Q0 : Exit → Act → World → Prop} {r : Option Nat} (h : Oper.wpIn (FR r) 0 P o a w K Q0) (hk : ∀ a w, K a w → K' a w) : Oper.wpIn (FR r) 0 P o a w K' Q0 := Oper.wpIn_mono hk h

/-- A new variable is made, ahead of its turn in our order. -/
theorem Inv.make (ok : RegOk ops N l) (ha : allocOk P ops = true) {l1 l2 : List Nat} {v : Nat → AVal} {pend : List (Nat × List Nat)} {env : Env} {H : AHeap} {h : Gh} {early : Nat → Option Nat} {L : Array Bool} {a : Act} {w : World} {Q0 : Exit → Act → World → Prop} {ro : Option Nat}
    (I : Inv P N ops l Q env0 X h0 H0 w0 ds0 l1 l2 v pend env H h early L a w) {i : Nat} {o : Oper} {t : TypeId} (ho : ops[i]? = some o) (hop : o.op = .alloc t) (hun : L.getD i false = false)
    (hp : ∀ e ∈ o.after, Region.binds .any e = true → L.getD e.on false = true) :
    Oper.wpIn (FR ro) 0 P o a w (fun a' w' => ∃ early', Inv P N ops l Q env0 X h0 H0 w0 ds0 l1 l2 v pend env H h early' (L.setIfInBounds i true) a' w') Q0 := by
  obtain ⟨⟨z, hz⟩, hg⟩ := allocOk_spec ha ho hop
  have hal : isAlloc ops i = true := (isAlloc_iff ho).2 ⟨t, hop⟩
  obtain ⟨inf, zv, hi, hzv, rz⟩ := zeroA_rel (cx (XR X early) h H w) hz
  have hrun : (execOp a.eval o).run P w = .ok (.value (.pointer (some ⟨w.heap.size, 0, none⟩))) { w with heap := w.heap.push (.cells zv.cells t) } := by
    unfold execOp
    rw [hop]
    simp [Instr.alloc, zeroValue, typeInfo, hi, hzv, newVar, newRow]
  refine ⟨fun _ _ => trivial, ?_⟩
  rw [Oper.semAt_eq _ _ _ (fun c hc => by rw [hop] at hc; cases hc), hrun, Oper.uponIn_value]
  let early' : Nat → Option Nat := fun k => if k = i then some w.heap.size else early k
  generalize hw' : ({ w with heap := w.heap.push (.cells zv.cells t) } : World) = w'
  have hsz : w'.heap.size = w.heap.size + 1 := by rw [← hw']; simp
  have hkp : ∀ k, k < w.heap.size → w'.heap[k]? = w.heap[k]? := fun k hk => by rw [← hw']; simp [Array.getElem?_push, Nat.ne_of_lt hk]
  have hnw : w'.heap[w.heap.size]? = some (.cells zv.cells t) := by rw [← hw']; simp
  have hos : w'.os = w.os := by rw [← hw']
  have htp : w'.tape = w.tape := by rw [← hw']
  have hout : w'.output = w.output := by rw [← hw']
  have hi1 : i ∉ l1 := by
    intro hm
    obtain ⟨o', ho', hia, _⟩ := I.pendq i hm hun
    rw [hal] at hia; cases hia
  have hi2 : i ∈ l2 := by
    have := ok.all i (get_lt ho)
    rw [I.split, List.mem_append] at this
    exact this.resolve_left hi1
  have hen : early i = none := by
    cases he : early i with
    | none => rfl
    | some B => have := (I.early1 i B he).2.1; rw [hun] at this; cases this
  have sim1 := I.sim.grow hos htp hout (by omega) hkp
  have hl1 := (Ext.grow (h := h) (H := H) hos htp hout (by omega) hkp).later (XR X early)
  have hno : ∀ B, owned h H B → B < w.heap.size := by
    rintro B ⟨id, e, he, hne, hio⟩
    exact I.sim.io_at he hne hio
  have hxr : ∀ B, XR X early' B → XR X early B ∨ B = w.heap.size := by
    rintro B (hB | ⟨k, hk⟩)
    · exact .inl (.inl hB)
    · simp only [early'] at hk
      split at hk
      · injection hk with e; exact .inr e.symm
      · exact .inl (.inr ⟨k, hk⟩)
  have hl : (cx (XR X early) h H w).Later (cx (XR X early') h H w') := by
    refine ⟨by simp only [cx]; omega, fun B hB _ => cell_of_block (hkp B hB), fun B hB hO => ?_, Nat.le_refl _, fun _ _ => Nat.le_refl _, fun _ _ _ => ⟨rfl, rfl⟩⟩
    rcases hO with hO | hO
    · rcases hxr B hO with h1 | rfl
      · exact .inl h1
      · simp only [cx] at hB; omega
    · exact .inr hO
  have hsim : Sim (XR X early') h H w' := by
    refine ⟨fun B hB => ?_, fun id g cs he => ?_, fun id L' he => ?_, I.sim.inj, I.sim.bldKeep fun id e he _ => ⟨he, rfl, rfl, fun B o _ hb _ => hkp B (block_lt hb)⟩⟩
    · rcases hxr B hB with h1 | rfl
      · exact sim1.out B h1
      · exact ⟨by omega, fun ho => by have := hno _ ho; omega⟩
    · obtain ⟨hg, hent⟩ := I.sim.live id g cs he
      refine ⟨hg, ?_⟩
      rcases hent with ⟨hn, rfl⟩ | ⟨B, arr, T, fz, f, hio, hb, hcap, hle, hfz, hcells⟩
      · exact .inl ⟨hn, rfl⟩
      · refine .inr ⟨B, arr, T, fz, f, hio, (hkp B (block_lt hb)).trans hb, hcap, hle, hfz, fun j v hj => ?_⟩
        obtain ⟨p1, p2, p3⟩ := hcells j v hj
        exact ⟨p1, p2, p3.later hl⟩
    · obtain ⟨hg, B1, r1, hio, hb, p1, p2, p3, p4, p5, p6, p7⟩ := I.sim.lp id L' he
      exact ⟨hg, B1, r1, hio, (hkp B1 (block_lt hb)).trans hb, p1, p2, p3, p4, p5, p6, fun t v m => ⟨(p7 t v m).1, (p7 t v m).2.later hl⟩⟩
  have hiL : i < L.size := by rw [I.lsz]; exact get_lt ho
  have hd : ∀ t, o.dst = some t → t < a.tmps.size := fun t ht => by rw [I.size]; exact dst_lt ok ho t ht
  refine ⟨early', ?_⟩
  refine { split := I.split, ra := I.ra, kn := I.kn, keys := I.keys, env1 := I.env1, env2 := I.env2, sim := hsim, nodefer := ?_, size := (put_size _ _ _).trans I.size, slot1 := fun k t hk hke hdk => ?_, slot2 := fun t hno => ?_,
           sub := fun j hj hje => ?_, lsz := by rw [Array.size_setIfInBounds]; exact I.lsz, closed := closed_set I.closed hiL ho hp, pendq := fun k hk1 hku => ?_, ext := I.ext.trans (Ext.grow hos htp hout (by omega) hkp), early1 := fun k B hk => ?_, early2 := fun j k B h1 h2 => ?_ }
  · rw [show (a.put o.dst _).defers = a.defers by cases o.dst <;> rfl]; exact I.nodefer
  · have hki : k ≠ i := by rintro rfl; simp [early'] at hke
    rw [getD_set hiL, if_neg hki] at hk
    rw [put_getD hd, if_neg (fun e => hki (ok.uniq k i t hdk (by rw [dstOf_eq ho]; exact e)))]
    exact (I.slot1 k t hk (by simpa [early', hki] using hke) hdk).later hl
  · rw [put_getD hd]
    have hne : o.dst ≠ some t := by
      have := hno i (by rw [getD_set hiL, if_pos rfl])
      rwa [dstOf_eq ho] at this
    rw [if_neg hne]
    refine (I.slot2 t fun k hk => hno k ?_).later hl
    rw [getD_set hiL]
    split
    · rfl
    · exact hk
  · have hji : j ≠ i := by rintro rfl; simp [early'] at hje
    rw [getD_set hiL, if_neg hji] at hj
    exact I.sub j hj (by simpa [early', hji] using hje)
  · have hki : k ≠ i := fun e => hi1 (e ▸ hk1)
    rw [getD_set hiL, if_neg hki] at hku
    exact I.pendq k hk1 hku
  · by_cases hki : k = i
    · subst hki
      simp only [early', if_true] at hk
      injection hk with e
      subst e
      refine ⟨hi2, by rw [getD_set hiL, if_pos rfl], I.ext.size, by omega, o, t, z, zv.cells, ho, hop, hz, hnw, rz.later hl, fun d hd' => ?_⟩
      rw [put_getD hd, if_pos hd']
    · simp only [early', if_neg hki] at hk
      obtain ⟨e1, e2, e3, e4, o', t', z', arr, e5, e6, e7, e8, e9, e10⟩ := I.early1 k B hk
      refine ⟨e1, by rw [getD_set hiL, if_neg hki]; exact e2, e3, by omega, o', t', z', arr, e5, e6, e7, (hkp B e4).trans e8, e9.later hl, fun d hd' => ?_⟩
      rw [put_getD hd, if_neg (fun e => hki (ok.uniq k i d (by rw [dstOf_eq e5]; exact hd') (by rw [dstOf_eq ho]; exact e)))]
      exact e10 d hd'
  · simp only [early'] at h1 h2
    split at h1 <;> split at h2
    · simp_all
    · injection h1 with e
      have := (I.early1 k B h2).2.2.2.1
      omega
    · injection h2 with e
      have := (I.early1 j B h1).2.2.2.1
      omega
    · exact I.early2 j k B h1 h2

/-- One ready operation, carried out. -/
theorem Mid.step (ok : RegOk ops N l) (ha : allocOk P ops = true) (hX : ∀ B, X B → B < w0.heap.size) {L : Array Bool} {a : Act} {w : World} {Q0 : Exit → Act → World → Prop} {ro : Option Nat} (M : Mid P N ops l Q env0 X h0 H0 w0 ds0 L a w) {i : Nat} {o : Oper} (ho : ops[i]? = some o) (hun : L.getD i false = false)
    (hp : ∀ e ∈ o.after, Region.binds .any e = true → L.getD e.on false = true) : wpOpIn (FR ro) 0 P ops Q0 i (Mid P N ops l Q env0 X h0 H0 w0 ds0 (L.setIfInBounds i true)) a w := by
  cases hia : isAlloc ops i with
  | true =>
    obtain ⟨t, hop⟩ := (isAlloc_iff ho).1 hia
    have hg := (allocOk_spec ha ho hop).2
    obtain ⟨l1, l2, v, pend, env, H, h, early, I⟩ := M
    unfold wpOpIn
    rw [ho]
    simp only
    have hw : Region.wanted o (yielded ops a.tmps) = true := by unfold Region.wanted; rw [hg]
    rw [hw]
    simp only [if_true]
    refine (opwp_mono (I.make ok ha ho hop hun hp) ?_)
    rintro a' w' ⟨early', I'⟩
    exact ⟨l1, l2, v, pend, env, H, h, early', I'⟩
  | false =>
  obtain ⟨l1, l2, v, pend, env, H, h, early, I⟩ := M
  obtain ⟨l1, l2, v, pend, env, H, h, early, I, hcase⟩ := Inv.reach ok ha hX ho hia hp l2 l1 v pend env H h early I
  have hne : ∀ k, ordM (masks ops.toList []) k i = true → early k = none := by
    intro k hord
    by_cases hki : k = i
    · subst hki
      cases he : early k with
      | none => rfl
      | some B => have := (I.early1 k B he).2.1; rw [hun] at this; cases this
    · refine I.noEarly ok ?_ k hord hki
      rcases hcase with h1 | ⟨r, h1, _⟩
      · exact .inl h1
      · exact .inr ⟨r, h1⟩
  unfold wpOpIn
  rw [ho]
  simp only
  rcases hcase with hi1 | ⟨r, rfl, hw, F, hF1, hF2, K, hK1, hK2, hK3⟩
  · obtain ⟨o', ho', _, hpq⟩ := I.pendq i hi1 hun
    rw [ho] at ho'
    injection ho' with e
    subst e
    rcases hpq with ⟨hw, hvi⟩ | ⟨hw, rd, ei, _, _, kn, hk, hopd, hQ⟩
    · rw [I.wanted ok ho hne hp hw]
      simp only [Bool.false_eq_true, if_false]
      exact ⟨fun _ _ => trivial, l1, l2, v, pend, env, H, h, early, I.done ok ho hi1 hun hp I.sim (Ext.refl _ _ _) (by rw [hvi]; exact .tup rfl fun _ _ _ h => by cases h)⟩
    · rw [I.wanted ok ho hne hp hw]
      simp only [if_true]
      refine (opwp_mono (hQ (look o ei) H (look_get o ei) (fun _ _ => rfl) ro (XR X early) h a w ⟨I.sim, I.look ok ho hun hp hne kn hk hopd, I.size⟩ Q0) ?_)
      rintro a' w' ⟨c, u, h', H', rfl, ⟨rfl, rfl⟩, hv, sim, x⟩
      exact ⟨l1, l2, v, pend, env, _, h', early, I.done ok ho hi1 hun hp sim x hv⟩
  · rw [I.wanted ok ho hne hp hw]
    simp only [if_true]
    have hopd := I.opd ok rfl ho
    refine (opwp_mono (hK1.1 (look o env) (look_get o env) ro (XR X early) h a w ⟨I.sim, I.look ok ho hun hp hne I.kn I.keys hopd, I.size⟩ Q0) ?_)
    rintro a' w' ⟨c, u, h', H', rfl, hk, hv, sim, x⟩
    have hnd := ok.nodup
    rw [I.split] at hnd
    have hil : i ∉ l1 := fun hm => (List.nodup_append.1 hnd).2.2 i hm i (by simp) rfl
    -- the value is taken into our order first, over the new blocks
    have hi : i < L.size := by rw [I.lsz]; exact get_lt ho
    have hl := x.later (XR X early)
    let v' : Nat → AVal := fun k => if k = i then u else v k
    have hv' : ∀ k, k ≠ i → v' k = v k := fun k hk => by simp [v', hk]
    have hvi : v' i = u := by simp [v']
    have hd : ∀ t, o.dst = some t → t < a.tmps.size := fun t ht => by rw [I.size]; exact dst_lt ok ho t ht
    have hget : ∀ t, (env.putO o.dst u).get t = if o.dst = some t then u else env.get t := by
      intro t
      cases o.dst with
      | none => simp [Env.putO]
      | some d =>
        simp only [Env.putO, get_put, Option.some.injEq]
        by_cases h : d = t
        · subst h; simp
        · rw [if_neg h, if_neg (fun e => h e.symm)]
    refine ⟨l1 ++ [i], r, v', pend, env.putO o.dst u, H', h', early, ?_⟩
    refine { split := by rw [I.split]; simp, ra := hK3 u H' hk, kn := I.kn.putO _ _, keys := fun t y m => ?_, env1 := fun k hk' t hdk => ?_, env2 := fun t hno => ?_, sim := sim, nodefer := ?_, size := (put_size _ _ _).trans I.size, slot1 := fun k t hk' hke hdk => ?_, slot2 := fun t hno => ?_,
             sub := fun j hj hje => ?_, lsz := by rw [Array.size_setIfInBounds]; exact I.lsz, closed := closed_set I.closed hi ho hp, pendq := fun k hk1 hku => ?_, ext := I.ext.trans x, early1 := fun k B hk' => ?_, early2 := I.early2 }
    · cases hdst : o.dst with
      | none => rw [hdst] at m; exact I.keys t y m
      | some d =>
        rw [hdst] at m
        simp only [Env.putO, Env.put] at m
        rcases List.mem_cons.1 m with e | m
        · injection e with e1 _
          subst e1
          exact dst_lt ok ho t hdst
        · exact I.keys t y (List.mem_filter.1 m).1
    · rw [hget]
      rcases List.mem_append.1 hk' with hk' | hk'
      · have hki : k ≠ i := fun e => hil (e ▸ hk')
        rw [hv' k hki, if_neg (fun e => hki (ok.uniq k i t hdk (by rw [dstOf_eq ho]; exact e)))]
        exact I.env1 k hk' t hdk
      · have : k = i := by simpa using hk'
        subst this
        rw [dstOf_eq ho] at hdk
        rw [if_pos hdk, hvi]
    · rw [hget]
      have h1 : o.dst ≠ some t := by
        have := hno i (by simp)
        rwa [dstOf_eq ho] at this
      rw [if_neg h1]
      exact I.env2 t fun k hk => hno k (List.mem_append_left _ hk)
    · rw [show (a.put o.dst c).defers = a.defers by cases o.dst <;> rfl]; exact I.nodefer
    · rw [put_getD hd]
      rw [getD_set hi] at hk'
      by_cases hki : k = i
      · subst hki
        rw [dstOf_eq ho] at hdk
        rw [if_pos hdk, hvi]
        exact hv
      · rw [if_neg hki] at hk'
        rw [if_neg (fun e => hki (ok.uniq k i t hdk (by rw [dstOf_eq ho]; exact e))), hv' k hki]
        exact (I.slot1 k t hk' hke hdk).later hl
    · rw [put_getD hd]
      have hne : o.dst ≠ some t := by
        have := hno i (by rw [getD_set hi, if_pos rfl])
        rwa [dstOf_eq ho] at this
      rw [if_neg hne]
      refine (I.slot2 t fun k hk => hno k ?_).later hl
      rw [getD_set hi]
      split
      · rfl
      · exact hk
    · rw [getD_set hi] at hj
      by_cases hji : j = i
      · subst hji; simp
      · rw [if_neg hji] at hj; exact List.mem_append_left _ (I.sub j hj hje)
    · rw [getD_set hi] at hku
      by_cases hki : k = i
      · subst hki; simp at hku
      · rw [if_neg hki] at hku
        have hkl : k ∈ l1 := by
          rcases List.mem_append.1 hk1 with h | h
          · exact h
          · exact (hki (by simpa using h)).elim
        obtain ⟨ok', hok, hka, hcase⟩ := I.pendq k hkl hku
        have hnot : ordM (masks ops.toList []) i k = false := ok.ord l1 (i :: r) I.split k hkl i (by simp)
        have wants' : ∀ {b : Bool}, Wants v ok' b → Wants v' ok' b := by
          intro b hw
          unfold Wants at hw ⊢
          cases hg : ok'.guard with
          | none => rw [hg] at hw; exact hw
          | some p =>
            obtain ⟨j, want⟩ := p
            rw [hg] at hw
            simp only at hw ⊢
            have : j ≠ i := by
              rintro rfl
              have := (ok.guard k ok' j want hok hg).1
              rw [hnot] at this; cases this
            rw [hv' j this]
            exact hw
        refine ⟨ok', hok, hka, ?_⟩
        rw [hv' k hki]
        rcases hcase with ⟨q1, q2⟩ | ⟨q1, rd, ei, q2, q3, q4, q5, q6, q7⟩
        · exact .inl ⟨wants' q1, q2⟩
        · refine .inr ⟨wants' q1, rd, ei, q2, fun id hid => Nat.lt_of_lt_of_le (q3 id hid) (hK2 u H' hk), q4, q5, fun t ht => ?_, fun env' H'' he hh => q7 env' H'' he fun id hid => ?_⟩
          · obtain ⟨c1, c2⟩ := q6 t ht
            refine ⟨fun q hq hdq hord => ?_, c2⟩
            rw [c1 q hq hdq hord, hv']
            rintro rfl
            rw [hnot] at hord; cases hord
          · rw [hh id hid]
            refine hK1.2 u H' hk id (q3 id hid) ?_
            rcases hF2 (k, rd) q2 with h1 | h1
            · have := ord_done I.closed (i + 1) i o (by omega) ho hp h1
              simp only at this
              rw [hku] at this; cases this
            · exact h1 id hid
    · obtain ⟨e1, e2, e3, e4, o', t, z, arr, e5, e6, e7, e8, e9, e10⟩ := I.early1 k B hk'
      have hki : k ≠ i := by rintro rfl; rw [hun] at e2; cases e2
      refine ⟨(List.mem_cons.1 e1).resolve_left hki, by rw [getD_set hi, if_neg hki]; exact e2, e3, Nat.lt_of_lt_of_le e4 x.size, o', t, z, arr, e5, e6, e7, ?_, e9.later hl, fun d hd' => ?_⟩
      · exact (x.keep B e4 (I.sim.out B (.inr ⟨k, hk'⟩)).2).trans e8
      · rw [put_getD hd, if_neg (fun e => hki (ok.uniq k i d (by rw [dstOf_eq e5]; exact hd') (by rw [dstOf_eq ho]; exact e)))]
        exact e10 d hd'

theorem Inv.end_ (ok : RegOk ops N l) (ha : allocOk P ops = true) (hX : ∀ B, X B → B < w0.heap.size) {L : Array Bool} {a : Act} {w : World} (hall : ∀ i, i < ops.size → L.getD i false = true) :
    ∀ (l2 l1 : List Nat) (v : Nat → AVal) (pend : List (Nat × List Nat)) (env : Env) (H : AHeap) (h : Gh) (early : Nat → Option Nat), Inv P N ops l Q env0 X h0 H0 w0 ds0 l1 l2 v pend env H h early L a w →
    ∃ h' env' H', Q env' H' ∧ St X h' N env' H' a w ∧ Ext h0 H0 w0 h' H' w ∧ a.defers = ds0
  | q :: r, l1, v, pend, env, H, h, early, I => by
    cases heq : early q with
    | some B =>
      obtain ⟨v', env', H', h', early', I'⟩ := I.adopt ok ha hX heq
      exact Inv.end_ ok ha hX hall r _ v' _ _ H' h' early' I'
    | none =>
      have hm := I.sub q (hall q (ok.lt q (by rw [I.split]; simp))) heq
      have hnd := ok.nodup
      rw [I.split] at hnd
      exact ((List.nodup_append.1 hnd).2.2 q hm q (by simp) rfl).elim
  | [], l1, v, pend, env, H, h, early, I => by
    have hen : ∀ k, early k = none := by
      intro k
      cases he : early k with
      | none => rfl
      | some B => have := (I.early1 k B he).1; cases this
    have hxe : XR X early = X := by
      funext B
      apply propext
      constructor
      · rintro (hB | ⟨k, hk⟩)
        · exact hB
        · rw [hen] at hk; cases hk
      · exact .inl
    have hsim := I.sim
    rw [hxe] at hsim
    refine ⟨h, env, H, I.ra, ⟨hsim, fun t u m => ⟨by rw [I.size]; exact I.keys t u m, ?_⟩, I.size⟩, I.ext, I.nodefer⟩
    rw [← hxe, ← I.kn t u m]
    by_cases hw : ∃ k ∈ l1, dstOf ops k = some t
    · obtain ⟨k, hk, hd⟩ := hw
      rw [I.env1 k hk t hd]
      obtain ⟨o, ho, _⟩ := dstOf_lt hd
      exact I.slot1 k t (hall k (get_lt ho)) (hen k) hd
    · rw [I.env2 t fun k hk hd => hw ⟨k, hk, hd⟩]
      refine I.slot2 t fun k hk hd => hw ⟨k, I.sub k hk (hen k), hd⟩

/-- Nothing ready: all is done. -/
theorem Mid.end_ (ok : RegOk ops N l) (ha : allocOk P ops = true) (hX : ∀ B, X B → B < w0.heap.size) {L : Array Bool} {a : Act} {w : World} (M : Mid P N ops l Q env0 X h0 H0 w0 ds0 L a w) (hr : Region.ready .any ops L = []) :
    ∃ h' env' H', Q env' H' ∧ St X h' N env' H' a w ∧ Ext h0 H0 w0 h' H' w ∧ a.defers = ds0 := by
  obtain ⟨l1, l2, v, pend, env, H, h, early, I⟩ := M
  have hall : ∀ (n i : Nat), i < n → i < ops.size → L.getD i false = true := by
    intro n
    induction n with
    | zero => intro i h; omega
    | succ n ih =>
      intro i hi hio
      cases hb : L.getD i false with
      | true => rfl
      | false =>
        have hlt : i < L.size := by rw [I.lsz]; exact hio
        have hb' : L.getD i true = false := by
          rw [Array.getD_eq_getD_getElem?, Array.getElem?_eq_getElem hlt] at hb ⊢
          simpa using hb
        have ho : ops[i]? = some (ops[i]) := by simp [hio]
        have hm : i ∈ Region.ready .any ops L := by
          rw [mem_ready]
          refine ⟨hb', _, ho, fun e he hbi => ?_⟩
          have hlt' := ok.back i _ ho e he hbi
          exact ih e.on (by omega) (by omega)
        rw [hr] at hm
        cases hm
  exact Inv.end_ ok ha hX (fun i hi => hall (i + 1) i (by omega) hi) l2 l1 v pend env H h early I

theorem filter_le {p q : Nat → Bool} (h : ∀ j, q j = true → p j = true) : ∀ l : List Nat, (l.filter q).length ≤ (l.filter p).length
  | [] => by simp
  | y :: r => by
    have ih := filter_le h r
    simp only [List.filter_cons]
    cases hq : q y with
    | false =>
      cases hp : p y with
      | false => simpa using ih
      | true => simp only [Bool.false_eq_true, if_false, if_true, List.length_cons]; omega
    | true =>
      rw [h y hq]
      simp only [if_true, List.length_cons]
      omega

theorem filter_lt {p : Nat → Bool} {i : Nat} {q : Nat → Bool} (hq : ∀ j, q j = (p j && !decide (j = i))) : ∀ (l : List Nat), i ∈ l → p i = true → (l.filter q).length < (l.filter p).length
  | [], h, _ => by cases h
  | x :: r, h, hp => by
    have hle := filter_le (p := p) (q := q) (fun j hj => by rw [hq] at hj; simp at hj; exact hj.1) r
    have hqi : q i = false := by rw [hq]; simp
    simp only [List.filter_cons]
    by_cases hx : x = i
    · subst hx
      rw [hqi, hp]
      simp only [Bool.false_eq_true, if_false, if_true, List.length_cons]
      omega
    · have hi : i ∈ r := by
        rcases List.mem_cons.1 h with e | h
        · exact (hx e.symm).elim
        · exact h
      have ih := filter_lt hq r hi hp
      have e : q x = p x := by rw [hq]; simp [hx]
      rw [e]
      cases p x with
      | false => simpa using ih
      | true => simp only [if_true, List.length_cons]; omega

theorem Mid.any (ok : RegOk ops N l) (ha : allocOk P ops = true) (hX : ∀ B, X B → B < w0.heap.size) {Q0 : Exit → Act → World → Prop} {ro : Option Nat} (hq : ∀ L a w, Mid P N ops l Q env0 X h0 H0 w0 ds0 L a w → Region.ready .any ops L = [] → Q0 .normal a w) :
    ∀ (fuel : Nat) (L : Array Bool) (a : Act) (w : World), ((List.range ops.size).filter fun i => !L.getD i false).length ≤ fuel → Mid P N ops l Q env0 X h0 H0 w0 ds0 L a w → wpAnyIn (FR ro) 0 P .any ops Q0 fuel L a w
  | 0, L, a, w, hf, M => by
    have hr : Region.ready .any ops L = [] := by
      cases hrr : Region.ready .any ops L with
      | nil => rfl
      | cons i r =>
        have hm : i ∈ Region.ready .any ops L := by rw [hrr]; simp
        rw [mem_ready] at hm
        obtain ⟨hu, o, ho, _⟩ := hm
        obtain ⟨_, _, _, _, _, _, _, _, I⟩ := M
        have hlt : i < L.size := by rw [I.lsz]; exact get_lt ho
        have hu' : L.getD i false = false := by
          rw [Array.getD_eq_getD_getElem?, Array.getElem?_eq_getElem hlt] at hu ⊢
          simpa using hu
        have : i ∈ (List.range ops.size).filter fun i => !L.getD i false := by
          rw [List.mem_filter]
          exact ⟨List.mem_range.2 (get_lt ho), by simp [hu']⟩
        have := List.length_pos_of_mem this
        omega
    exact ⟨hr, hq L a w M hr⟩
  | fuel + 1, L, a, w, hf, M => by
    refine ⟨fun hr => hq L a w M hr, fun i hm => ?_⟩
    rw [mem_ready] at hm
    obtain ⟨hu, o, ho, hp⟩ := hm
    have hlt : i < L.size := by obtain ⟨_, _, _, _, _, _, _, _, I⟩ := M; rw [I.lsz]; exact get_lt ho
    have hu' : L.getD i false = false := by
      rw [Array.getD_eq_getD_getElem?, Array.getElem?_eq_getElem hlt] at hu ⊢
      simpa using hu
    refine wpOpIn_mono (fun a' w' M' => Mid.any ok ha hX hq fuel _ a' w' ?_ M') (Mid.step ok ha hX M ho hu' hp)
    have := filter_lt (p := fun i => !L.getD i false) (i := i) (q := fun j => !(L.setIfInBounds i true).getD j false) (fun j => by
      rw [getD_set hlt]
      by_cases h : j = i <;> simp [h]) (List.range ops.size) (List.mem_range.2 (get_lt ho)) (by simp [hu'])
    omega

/-- The rule: a region that draws its order is carried out in an order of ours. -/
theorem AWp.region_draw {id : Nat} {env : Env} {H : AHeap} {K : Exit → Env → AHeap → Prop} (hm : P.follows .mixedOrders = true) (l : List Nat) (hok : regOk ops N l = true) (ha : allocOk P ops = true) (hkn : (env.map (·.1)).Nodup)
    (h : RA P N ops l [] env H (K .normal)) : AWp P N (.region id ops true) env H K := by
  intro ro X g a w s _
  have ok := regOk_spec hok
  have hfalse : ∀ i, (Array.replicate ops.size false).getD i false = false := by
    intro i
    rw [Array.getD_eq_getD_getElem?]
    by_cases hi : i < ops.size
    · simp [hi]
    · simp [hi]
  have hw : ({ w with drawn := w.drawn + 1 } : World) = w.drew := rfl
  refine wpIn_region_any hm ?_
  rw [hw]
  refine Mid.any (Q := K .normal) (env0 := env) (X := X) (h0 := g) (H0 := H) (w0 := w) (ds0 := a.defers) ok ha (fun B hB => (s.sim.out B hB).1) (fun L a' w' M hr => ?_) ops.size _ a w.drew ?_ ?_
  · obtain ⟨h', env', H', hq, s', x', e'⟩ := M.end_ ok ha (fun B hB => (s.sim.out B hB).1) hr
    exact ⟨h', env', H', hq, s', x', .same e'⟩
  · exact Nat.le_trans (List.length_filter_le _ _) (by simp)
  · have hx := Ext.drew (h := g) (H := H) (w := w)
    have hxe : XR X (fun _ => none) = X := by
      funext B
      apply propext
      constructor
      · rintro (hB | ⟨k, hk⟩)
        · exact hB
        · cases hk
      · exact .inl
    refine ⟨[], l, fun _ => .any, [], env, H, g, fun _ => none, ?_⟩
    refine { split := rfl, ra := h, kn := KN.of_nodup hkn, keys := (fun t u m => by have := (s.env t u m).1; rw [s.size] at this; exact this), env1 := (fun k hk => by cases hk), env2 := fun t _ => rfl, sim := (by rw [hxe]; exact s.sim.drew), nodefer := rfl, size := s.size,
             slot1 := (fun k t hk _ => by rw [hfalse] at hk; cases hk), slot2 := fun t _ => (by rw [hxe]; exact (env_get_rel s.env t).later (hx.later X)), sub := (fun i hi => by rw [hfalse] at hi; cases hi), lsz := (by simp), closed := (fun j o ho hj => by rw [hfalse] at hj; cases hj),
             pendq := (fun i hi => by cases hi), ext := hx, early1 := (fun i B hB => by cases hB), early2 := (fun i j B hB => by cases hB) }

end
end Go.Ab

/- The abstract layer, 22: quiet operations in a region that draws its order. -/
namespace Go.Ab

def idOf : AVal → List Nat
  | .ptr id _ _ => [id]
  | .sl id _ _ _ _ => [id]
  | _ => []

def rdOf (env : Env) (op : Op) : List Nat := op.operands.toList.flatMap fun x => idOf (evalOp env x)

theorem evalOp_congr {o : Oper} {env env' : Env} (h : ∀ t ∈ tmpsOf o, env'.get t = env.get t) : ∀ x ∈ o.op.operands, evalOp env' x = evalOp env x := by
  intro x hx
  cases x with
  | tmp t =>
    refine h t ?_
    unfold tmpsOf
    rw [List.mem_filterMap]
    exact ⟨.tmp t, by simpa using hx, rfl⟩
  | _ => rfl

theorem map_evalOp {env env' : Env} {l : List Operand} (h : ∀ x ∈ l, evalOp env' x = evalOp env x) : l.map (evalOp env') = l.map (evalOp env) := List.map_congr_left h

theorem qeval_env {P : Program} {env env' : Env} {H : AHeap} {op : Op} (h : ∀ x ∈ op.operands, evalOp env' x = evalOp env x) : qeval P env' H op = qeval P env H op := by
  cases op with
  | move x => simp only [qeval, h x (by simp [Op.operands])]
  | assign x => simp only [qeval, h x (by simp [Op.operands])]
  | pick c a b => simp only [qeval, h c (by simp [Op.operands]), h a (by simp [Op.operands]), h b (by simp [Op.operands])]
  | load t a => simp only [qeval, h a (by simp [Op.operands])]
  | nilCheck x => simp only [qeval, h x (by simp [Op.operands])]
  | binOp op t x y yt => simp only [qeval, h x (by simp [Op.operands]), h y (by simp [Op.operands])]
  | unOp op t x => simp only [qeval, h x (by simp [Op.operands])]
  | convert s d x => simp only [qeval, h x (by simp [Op.operands])]
  | fieldAddr s x f => simp only [qeval, h x (by simp [Op.operands])]
  | field s x f => simp only [qeval, h x (by simp [Op.operands])]
  | indexAddr t x i => simp only [qeval, h x (by simp [Op.operands]), h i (by simp [Op.operands])]
  | index t x i => simp only [qeval, h x (by simp [Op.operands]), h i (by simp [Op.operands])]
  | extract x i => simp only [qeval, h x (by simp [Op.operands])]
  | slice t x lo hi mx =>
    have hl : lo.map (evalOp env') = lo.map (evalOp env) := by cases lo with | none => rfl | some y => simp [h y (by simp [Op.operands])]
    have hh : hi.map (evalOp env') = hi.map (evalOp env) := by cases hi with | none => rfl | some y => simp [h y (by simp [Op.operands])]
    have hm : mx.map (evalOp env') = mx.map (evalOp env) := by cases mx with | none => rfl | some y => simp [h y (by simp [Op.operands])]
    simp only [qeval, h x (by simp [Op.operands]), hl, hh, hm]
  | makeFunc f a b =>
    simp only [qeval]
    rw [map_evalOp fun x hx => h x (by simp only [Op.operands]; exact Array.mem_append_left _ (by simpa using hx)), map_evalOp fun x hx => h x (by simp only [Op.operands]; exact Array.mem_append_right _ (by simpa using hx))]
  | build t parts =>
    simp only [qeval]
    have : (parts.toList.map fun p => (p.1, evalOp env' p.2)) = parts.toList.map fun p => (p.1, evalOp env p.2) := List.map_congr_left fun p hp => by
      rw [h p.2 (by simp only [Op.operands, List.mem_toArray, List.mem_map]; exact ⟨p, hp, rfl⟩)]
    rw [this]
  | call c =>
    obtain ⟨cal, args, ats⟩ := c
    simp only [Op.operands, Call.operands] at h
    cases cal with
    | value f => simp [qeval]
    | invoke r m => simp [qeval]
    | builtin b =>
      obtain ⟨args⟩ := args
      obtain ⟨ats⟩ := ats
      match args with
      | [] => simp [qeval]
      | [x] =>
        have hx := h x (by simp)
        cases b <;> simp [qeval]
        match ats with
        | [] => rfl
        | [t] => simp [hx]
        | _ :: _ :: _ => rfl
      | [x, y] =>
        have hx := h x (by simp)
        have hy := h y (by simp)
        cases b <;> simp [qeval, hx, hy]
      | [x, y, z] =>
        have hx := h x (by simp)
        have hy := h y (by simp)
        have hz := h z (by simp)
        cases b <;> simp [qeval, hx, hy, hz]
      | _ :: _ :: _ :: _ :: _ => cases b <;> rfl
  | _ => rfl

section
variable {P : Program} {H H' : AHeap}

theorem ptrCur_heap {id g : Nat} (h : H'[id]? = H[id]?) : ptrCur H' id g = ptrCur H id g := by unfold ptrCur; rw [h]

theorem readAt_heap {v : AVal} {n : Nat} (h : ∀ id ∈ idOf v, H'[id]? = H[id]?) : readAt H' v n = readAt H v n := by
  cases v <;> simp only [readAt]
  rw [h _ (by simp [idOf])]

theorem shift_heap {v : AVal} {n : Nat} (h : ∀ id ∈ idOf v, H'[id]? = H[id]?) : shift H' n v = shift H n v := by
  cases v <;> simp only [shift]
  rw [ptrCur_heap (h _ (by simp [idOf]))]

theorem lenV_heap {t : TypeId} {v : AVal} (h : ∀ id ∈ idOf v, H'[id]? = H[id]?) : lenV P H' t v = lenV P H t v := by
  unfold lenV
  cases P.underlying t with
  | none => rfl
  | some d =>
    cases v with
    | sl id g sz off len =>
      have e := ptrCur_heap (H := H) (H' := H') (g := g) (h id (by simp [idOf]))
      cases d <;> first | rfl | (simp only [e])
    | _ => cases d <;> rfl

theorem qeval_heap {env : Env} {op : Op} (h : ∀ id ∈ rdOf env op, H'[id]? = H[id]?) : qeval P env H' op = qeval P env H op := by
  have hx : ∀ x ∈ op.operands, ∀ id ∈ idOf (evalOp env x), H'[id]? = H[id]? := fun x hx id hid => h id (by
    unfold rdOf
    rw [List.mem_flatMap]
    exact ⟨x, by simpa using hx, hid⟩)
  cases op with
  | load t a =>
    have ha := hx a (by simp [Op.operands])
    simp only [qeval, loadV]
    split <;> simp only [readAt_heap ha]
  | nilCheck x =>
    have ha := hx x (by simp [Op.operands])
    simp only [qeval]
    split
    · rename_i id g off he
      rw [ptrCur_heap (ha id (by rw [he]; simp [idOf]))]
    · rfl
    · rfl
    · rfl
  | convert s d x =>
    have ha := hx x (by simp [Op.operands])
    have hr : rowsOf H' (evalOp env x) = rowsOf H (evalOp env x) := by
      generalize evalOp env x = v at ha
      cases v <;> simp only [rowsOf]
      rw [ha _ (by simp [idOf])]
    simp only [qeval, convV]
    generalize evalOp env x = v at hr
    split <;> first | rfl | (rw [hr])
  | fieldAddr s x f =>
    have ha := hx x (by simp [Op.operands])
    simp only [qeval, fieldAddrV]
    split
    · split
      · rfl
      · exact shift_heap ha
    · rfl
  | indexAddr t x i =>
    have ha := hx x (by simp [Op.operands])
    simp only [qeval, indexAddrV]
    split
    · split
      · exact shift_heap ha
      · rfl
    · split
      · rfl
      · rename_i id g sz' off len he
        rw [ptrCur_heap (ha id (by rw [he]; simp [idOf]))]
      · rfl
    · rfl
  | slice t x lo hi mx =>
    have ha := hx x (by simp [Op.operands])
    simp only [qeval]
    generalize evalOp env x = v at ha
    cases v <;> simp only [sliceV]
    rw [ptrCur_heap (ha _ (by simp [idOf]))]
  | call c =>
    obtain ⟨cal, args, ats⟩ := c
    simp only [Op.operands, Call.operands] at hx
    cases cal with
    | value f => simp [qeval]
    | invoke r m => simp [qeval]
    | builtin b =>
      obtain ⟨args⟩ := args
      obtain ⟨ats⟩ := ats
      match args with
      | [] => simp [qeval]
      | [x] =>
        have ha := hx x (by simp)
        cases b <;> simp only [qeval]
        match ats with
        | [] => rfl
        | [t] =>
          simp only
          exact lenV_heap ha
        | _ :: _ :: _ => rfl
      | [x, y] => cases b <;> simp [qeval]
      | [x, y, z] => cases b <;> simp [qeval]
      | _ :: _ :: _ :: _ :: _ => cases b <;> rfl
  | _ => simp only [qeval]

theorem Quiet.of_qeval {N : Nat} {o : Oper} {env : Env} {v : AVal} (hv : qeval P env H o.op = some v) : Quiet P N o env H (rdOf env o.op) v := by
  intro env' H'' he hh
  refine OpW.quiet (v := v) ?_ ⟨rfl, rfl⟩
  rw [qeval_env (evalOp_congr he), qeval_heap hh]
  exact hv
end

end Go.Ab

/- The abstract layer, 23: a call that sees all blocks; a slice written out as a block of the call's own; what is left of the blocks at a function's end. -/
namespace Go.Ab

section
variable {P : Program} {N : Nat} {o : Oper} {env : Env} {H : AHeap} {K : AVal → AHeap → Prop}

theorem OpW.callAll {c : Call} {f : Operand} {first caps : List AVal} {F : FuncId}
    (ho : o.op = .call c) (hcal : c.callee = .value f) (hf : evalOp env f = .fn (.func F) first caps) (hE : Enters P F = true)
    (hc : ACalls P F (callArgs env c first caps) H K) : OpW P N o env H K := by
  refine OpW.of_wp (by rw [ho]; rfl) ?_
  intro X h a w s Q
  have hrf := evalOp_rel s.env f
  rw [hf] at hrf
  obtain ⟨first', caps', hev, h1, h2, hv1, hv2⟩ : ∃ first' caps', a.eval f = .func (.func F) first' caps' ∧ first'.size = first.length ∧ caps'.size = caps.length ∧
      (∀ (j : Nat) (v : AVal) (c : Value), first[j]? = some v → first'[j]? = some c → VRel (cx X h H w) v c) ∧ (∀ (j : Nat) (v : AVal) (c : Value), caps[j]? = some v → caps'[j]? = some c → VRel (cx X h H w) v c) := by
    generalize a.eval f = cf at hrf
    cases hrf with
    | fn h1 h2 hv1 hv2 => exact ⟨_, _, rfl, h1, h2, hv1, hv2⟩
  have hrun : (execOp a.eval o).run P w = .ok (.enter F (first' ++ c.args.map a.eval ++ caps')) w := by
    unfold execOp
    rw [ho]
    simp only [resolve, hcal, hev, Deferred.ofValue, Sem.run_bind, Sem.run_pure, Result.andThen_ok, invoke, run_callFunc hE]
  unfold Oper.wp
  rw [hrun]
  simp only [Oper.upon_enter]
  have hargs : ∀ (j : Nat) (v : AVal) (d : Value), (callArgs env c first caps)[j]? = some v → (first' ++ c.args.map a.eval ++ caps')[j]? = some d → VRel (cx X h H w) v d := by
    intro j v d hj hd
    unfold callArgs at hj
    rcases Nat.lt_or_ge j (first.length + c.args.size) with hlt1 | hge1
    · rw [List.getElem?_append_left (by simp; omega)] at hj
      rw [Array.getElem?_append_left (by simp; omega)] at hd
      rcases Nat.lt_or_ge j first.length with hlt2 | hge2
      · rw [List.getElem?_append_left hlt2] at hj
        rw [Array.getElem?_append_left (by omega)] at hd
        exact hv1 j v d hj hd
      · rw [List.getElem?_append_right hge2, List.getElem?_map] at hj
        rw [Array.getElem?_append_right (by omega), Array.getElem?_map, h1] at hd
        cases hx : c.args[j - first.length]? with
        | none => rw [hx] at hd; cases hd
        | some x =>
          rw [hx] at hd
          rw [Array.getElem?_toList, hx] at hj
          simp only [Option.map_some, Option.some.injEq] at hj hd
          subst hj hd
          exact evalOp_rel s.env x
    · rw [List.getElem?_append_right (by simp; omega)] at hj
      rw [Array.getElem?_append_right (by simp; omega)] at hd
      refine hv2 _ v d ?_ hd
      simpa [h1] using hj
  refine (hc X h w _ s.sim ?_ hargs).mono ?_
  · simp [callArgs, h1, h2]
  · rintro e w' ⟨d, v, h', H', rfl, q, sc, rv, x⟩
    exact ⟨d, v, h', H', rfl, q, rv, sc, x⟩

/-- What a slice's parts are, as the evaluator has them. -/
def bsParts (P : Program) (env : Env) (t : TypeId) (len : Nat) (parts : Array (Nat × Operand)) : Option (Nat × List AVal) :=
  match eI P t with
  | some (none, e, sz) =>
    let vs := parts.toList.map fun p => evalOp env p.2
    if 0 < sz ∧ smallE P e = true ∧ parts.toList.map (·.1) = List.range len ∧ (vs.all fun v => v.solid && decide (v.cells.length = sz)) = true ∧ len ≤ 4096 ∧ sz ≤ 4096 then some (sz, vs) else none
  | _ => none

theorem OpW.buildSlice_v {t : TypeId} {len sz : Nat} {parts : Array (Nat × Operand)} {vs : List AVal} (ho : o.op = .buildSlice t len parts) (hp : bsParts P env t len parts = some (sz, vs)) (hk : K (.vs sz vs) H) : OpW P N o env H K := by
  unfold bsParts at hp
  split at hp
  · rename_i e sz' he
    simp only at hp
    split at hp
    · rename_i hc
      obtain ⟨h1, h2, h3, h4, h5, h6⟩ := hc
      simp only [Option.some.injEq, Prod.mk.injEq] at hp
      obtain ⟨rfl, rfl⟩ := hp
      refine OpW.buildSlice ho he h1 h2 h3 rfl (fun v hv => ?_) ⟨h5, h6⟩ hk
      have := List.all_eq_true.1 h4 v hv
      simpa using this
    · cases hp
  · cases hp

theorem OpW.buildSlice_own {t : TypeId} {len sz : Nat} {parts : Array (Nat × Operand)} {vs : List AVal} (ho : o.op = .buildSlice t len parts) (hp : bsParts P env t len parts = some (sz, vs))
    (hk : K (.sl H.length 0 sz 0 vs.length) (H ++ [.live 0 (vs.flatMap AVal.cells)])) : OpW P N o env H K := by
  unfold bsParts at hp
  split at hp
  case h_2 => cases hp
  rename_i e sz' he
  simp only at hp
  split at hp
  case isFalse => cases hp
  rename_i hc
  obtain ⟨hsz, hse, hidx, hall, hlen⟩ := hc
  simp only [Option.some.injEq, Prod.mk.injEq] at hp
  obtain ⟨rfl, hvs⟩ := hp
  have hsol : ∀ v ∈ vs, v.solid = true ∧ v.cells.length = sz' := fun v hv => by
    rw [hvs] at hall
    have := List.all_eq_true.1 hall v hv
    simpa using this
  refine OpW.of_wp (by rw [ho]; rfl) ?_
  intro X h a w s Q
  obtain ⟨hun, b, hi⟩ := eI_slice he
  obtain ⟨i, z, hinfo, _, hz, hzs⟩ := smallE_info hse
  have hisz := tI_size hi hinfo
  have hl : vs.length = len := by
    have h1 := congrArg List.length hidx
    have h2 := congrArg List.length hvs
    simp at h1 h2
    omega
  let cs : List Value := parts.toList.map fun p => a.eval p.2
  have hcs : cs.length = len := by
    have h1 := congrArg List.length hidx
    simp at h1
    simp [cs, h1]
  have hrel : ∀ (j : Nat) (v : AVal) (c : Value), vs[j]? = some v → cs[j]? = some c → VRel (cx X h H w) (.agg v.cells) (.agg c.cells) ∧ v.cells.length = sz' := by
    intro j v c hv hc
    have hm := hsol v (List.mem_of_getElem? hv)
    refine ⟨?_, hm.2⟩
    subst hvs
    simp only [cs, List.getElem?_map] at hv hc
    cases hp : parts.toList[j]? with
    | none => rw [hp] at hv; cases hv
    | some p =>
      rw [hp] at hv hc
      simp only [Option.map_some, Option.some.injEq] at hv hc
      subst hv hc
      exact solid_cells (evalOp_rel s.env p.2) hm.1
  have hsize : ∀ c ∈ cs, c.cells.size = sz' := by
    intro c hc
    obtain ⟨j, hj⟩ := List.getElem?_of_mem hc
    have hjl : j < vs.length := by
      rcases Nat.lt_or_ge j cs.length with h2 | h2
      · omega
      · rw [List.getElem?_eq_none h2] at hj; cases hj
    obtain ⟨h1, h2⟩ := hrel j _ c (List.getElem?_eq_getElem hjl) hj
    cases h1 with
    | agg hs _ _ => rw [hs, h2]
  have hzip : (parts.map fun (q : Nat × Operand) => (q.1, a.eval q.2)).toList = (cs.zipIdx 0).map fun x => (x.2, x.1) := by
    apply List.ext_getElem?
    intro j
    simp only [Array.toList_map, List.getElem?_map, List.getElem?_zipIdx, Nat.zero_add, cs]
    cases hp : parts.toList[j]? with
    | none => rfl
    | some p =>
      have h1 : (parts.toList.map (·.1))[j]? = some p.1 := by rw [List.getElem?_map, hp]; rfl
      rw [hidx] at h1
      have hjl : j < len := by
        rcases Nat.lt_or_ge j len with h2 | h2
        · exact h2
        · rw [List.getElem?_eq_none (by simpa using h2)] at h1; cases h1
      rw [List.getElem?_range hjl] at h1
      simp only [Option.some.injEq] at h1
      simp [h1]
  have hflatlen : ∀ l : List Value, (∀ c ∈ l, c.cells.size = sz') → (l.flatMap fun c => c.cells.toList).length = l.length * sz' := by
    intro l
    induction l with
    | nil => simp
    | cons c l ih =>
      intro hl
      simp only [List.flatMap_cons, List.length_append, Array.length_toList, hl c (by simp), ih (fun d hd => hl d (List.mem_cons_of_mem _ hd)), List.length_cons, Nat.add_mul]
      omega
  have hflat : (cs.flatMap fun c => c.cells.toList).length = len * sz' := by rw [hflatlen cs hsize, hcs]
  have hrun : ∃ arr : Array Value, (execOp a.eval o).run P w = .ok (.value (.slice (some ⟨w.heap.size, 0, none⟩) len len)) { w with heap := w.heap.push (.cells arr e) } ∧ arr.toList = cs.flatMap fun c => c.cells.toList := by
    unfold execOp
    rw [ho]
    by_cases h0 : len = 0
    · subst h0
      have : cs = [] := List.eq_nil_of_length_eq_zero hcs
      refine ⟨#[], ?_, by rw [this]; rfl⟩
      have hp : parts = #[] := by
        have h1 := congrArg List.length hidx
        simp at h1
        exact h1
      simp [Instr.buildSlice, run_underlying hun, run_size hi, hp, Instr.fill, newRow, show Array.range 0 = #[] from rfl]
    · refine ⟨(cs.flatMap fun c => c.cells.toList).toArray, ?_, rfl⟩
      have hpos : ¬ len * i.size = 0 := by rw [hisz]; exact Nat.mul_ne_zero h0 (by omega)
      have hsm : ¬ len * i.size > 2 ^ 24 := by
        rw [hisz]
        have := Nat.mul_le_mul hlen.1 hlen.2
        omega
      have hf := Go.Great.fill_whole (s := sz') hsz cs ((Array.range (len * i.size)).map (z.cells[· % z.cells.size]!)) hsize (by simp [hcs, hisz])
      have := run_buildSlice (P := P) w t e len (parts.map fun (q : Nat × Operand) => (q.1, a.eval q.2)) _ i z hun hinfo hz hsm hpos (by rw [hzip, hisz] at *; exact hf)
      simp only [Sem.run_bind]
      rw [show (parts.map fun x => match x with | (i, x) => (i, a.eval x)) = (parts.map fun (q : Nat × Operand) => (q.1, a.eval q.2)) from rfl, this]
      rfl
  obtain ⟨arr, hrun, harr⟩ := hrun
  unfold Oper.wp
  rw [hrun, Oper.upon_value]
  have harel : ∀ (l : List AVal) (m : List Value), m.length = l.length → (∀ (j : Nat) (v : AVal) (c : Value), l[j]? = some v → m[j]? = some c → VRel (cx X h H w) (.agg v.cells) (.agg c.cells)) →
      VRel (cx X h H w) (.agg (l.flatMap AVal.cells)) (.agg (m.flatMap fun c => c.cells.toList).toArray) := by
    intro l
    induction l with
    | nil =>
      intro m hm _
      have : m = [] := List.eq_nil_of_length_eq_zero (by simpa using hm)
      subst this
      exact .agg rfl (fun j c hj => by simp at hj) fun j v c hj => by simp at hj
    | cons v l ih =>
      intro m hm hr
      cases m with
      | nil => simp at hm
      | cons c m =>
        have r0 := hr 0 v c rfl rfl
        have r1 := ih m (by simpa using hm) fun j v' c' h1 h2 => hr (j + 1) v' c' (by simpa using h1) (by simpa using h2)
        cases r0 with
        | agg hs1 ho1 hv1 =>
          cases r1 with
          | agg hs2 ho2 hv2 =>
            have e2 : (m.flatMap fun c => c.cells.toList).length = (l.flatMap AVal.cells).length := by simpa using hs2
            refine .agg (by simp [e2, hs1]) (fun j d hj => ?_) fun j u d hj hd => ?_
            · simp only [List.flatMap_cons, List.getElem?_toArray] at hj
              rcases Nat.lt_or_ge j c.cells.size with h2 | h2
              · rw [List.getElem?_append_left (by simpa using h2)] at hj
                exact ho1 j d (by simpa using hj)
              · rw [List.getElem?_append_right (by simpa using h2)] at hj
                exact ho2 _ d (by simpa using hj)
            · simp only [List.flatMap_cons, List.getElem?_toArray] at hj hd
              rcases Nat.lt_or_ge j c.cells.size with h2 | h2
              · rw [List.getElem?_append_left (by simpa using h2)] at hd
                rw [List.getElem?_append_left (by omega)] at hj
                exact hv1 j u d hj (by simpa using hd)
              · rw [List.getElem?_append_right (by simpa using h2)] at hd
                rw [List.getElem?_append_right (by omega)] at hj
                rw [Array.length_toList, hs1] at hd
                exact hv2 _ u d hj (by simpa using hd)
  have hag := harel vs cs (by omega) fun j v c h1 h2 => (hrel j v c h1 h2).1
  have harr' : arr = (cs.flatMap fun c => c.cells.toList).toArray := by rw [← harr]
  have hh := Holds.of_agg hag
  rw [← harr'] at hh
  refine ⟨_, _, _, _, rfl, hk, ?_, s.sim.push arr e (0, 0) _ hh, Ext.push _ _ _⟩
  refine .sl (by simp [cx]) (by simp [cx, Gh.at_]) rfl fun _ => .inr ⟨w.heap.size, len, by simp [cx, Gh.at_], by omega, ?_, by rw [hl]⟩
  simp only [cx, Gh.at_, if_true, harr', List.size_toArray, hflat]
  omega

theorem Sim.less {X Y : Nat → Prop} {h : Gh} {H : AHeap} {w : World} (s : Sim Y h H w) (hxy : ∀ B, X B → Y B) : Sim X h H w := by
  have hl : (cx Y h H w).Later (cx X h H w) := ⟨Nat.le_refl _, fun _ _ _ _ => rfl, fun B _ hO => hO.imp (hxy B) id, Nat.le_refl _, fun _ _ => Nat.le_refl _, fun _ _ _ => ⟨rfl, rfl⟩⟩
  refine ⟨fun B hB => s.out B (hxy B hB), fun id g cs he => ?_, fun id L he => ?_, s.inj, s.bld⟩
  · obtain ⟨hg, hent⟩ := s.live id g cs he
    refine ⟨hg, ?_⟩
    rcases hent with ⟨hn, rfl⟩ | ⟨B, arr, T, fz, f, hio, hb, hcap, hle, hfz, hcells⟩
    · exact .inl ⟨hn, rfl⟩
    · refine .inr ⟨B, arr, T, fz, f, hio, hb, hcap, hle, hfz, fun j v hj => ?_⟩
      obtain ⟨p1, p2, p3⟩ := hcells j v hj
      exact ⟨p1, p2, p3.later hl⟩
  · obtain ⟨hg, B, r, hio, hb, h1, h2, h3, h4, h5, h6, h7⟩ := s.lp id L he
    exact ⟨hg, B, r, hio, hb, h1, h2, h3, h4, h5, h6, fun t v m => ⟨(h7 t v m).1, (h7 t v m).2.later hl⟩⟩

/-- At a function's end: only some of the blocks are kept. -/
theorem RetWeak.sub {n0 : Nat} {v : AVal} (bs : List Nat) (hnd : bs.Nodup) (hn : n0 ≤ bs.length) (h0 : ∀ i, i < n0 → bs[i]? = some i) (hb : ∀ b ∈ bs, ((H.getD b .dead).idsAll fun id => decide (id ∈ bs)) = true)
    (hv : (v.idsAll fun id => decide (id ∈ bs)) = true) : RetWeak n0 v H (v.ren (bs.idxOf ·)) (subH H bs) := by
  refine ⟨by simpa [subH] using hn, fun X h w c s r => ⟨subG h bs, (s.sub hnd hb).less fun B hB => .inl hB, ?_, fun id hid => ?_, fun B ho => ?_⟩⟩
  · have hl : (cx (Xs X h H bs) (subG h bs) (subH H bs) w).Later (cx X (subG h bs) (subH H bs) w) :=
      ⟨Nat.le_refl _, fun _ _ _ _ => rfl, fun B _ hO => hO.imp (fun hB => .inl hB) id, Nat.le_refl _, fun _ _ => Nat.le_refl _, fun _ _ _ => ⟨rfl, rfl⟩⟩
    exact (VRel.ren (p := fun id => decide (id ∈ bs)) (fun id => sub_rho id) rfl sub_O r hv).later hl
  · simp [subG, h0 id hid]
  · obtain ⟨b, e, _, h1, h0, h2⟩ := owned_sub ho
    exact ⟨b, e, h1, h0, h2⟩


theorem OpW.makeSlice0 {t e : TypeId} {x y : Operand} {kl kc : IntKind} {l c : Int} {sz : Nat} {z : List AVal} (ho : o.op = .makeSlice t x y) (he : eI P t = some (none, e, sz)) (hsz : 0 < sz) (hse : smallE P e = true) (hz : zeroA P e = some z) (hzl : z.length = sz)
    (hx : evalOp env x = .int kl l) (hy : evalOp env y = .int kc c) (h0 : 0 ≤ l) (h1 : l ≤ c) (h2 : c ≤ 16777216) (hk : K (.sl H.length 0 sz 0 l.toNat) (H ++ [.live 0 (List.replicate l.toNat z).flatten])) : OpW P N o env H K := by
  refine OpW.of_wp (by rw [ho]; rfl) ?_
  intro X h a w s Q
  obtain ⟨hun, b, hi⟩ := eI_slice he
  obtain ⟨i, zv, hinfo, hby, hzv, hzs⟩ := smallE_info hse
  have hisz := tI_size hi hinfo
  obtain ⟨i', v', hi', hv', hrel⟩ := zeroA_rel (cx X h H w) hz
  have : i' = i := by rw [hinfo] at hi'; exact (Option.some.inj hi').symm
  subst this
  have : v' = zv := by rw [hzv] at hv'; exact (Option.some.inj hv').symm
  subst this
  have rx := evalOp_rel s.env x
  have ry := evalOp_rel s.env y
  rw [hx] at rx
  rw [hy] at ry
  have ex : a.eval x = .int kl l := by generalize a.eval x = q at rx; cases rx; rfl
  have ey : a.eval y = .int kc c := by generalize a.eval y = q at ry; cases ry; rfl
  have hbb : (i'.bytes : Int) * c ≤ 281474976710656 := by
    have : (i'.bytes : Int) * c ≤ 1048576 * 16777216 := Int.mul_le_mul (by omega) h2 (by omega) (by omega)
    omega
  have hrun := run_make (P := P) w t e i' v' hun hinfo hzv kl kc l c h0 h1 hbb (by omega)
  have hex : (execOp a.eval o).run P w = .ok (.value (.slice (some ⟨w.heap.size, 0, none⟩) l.toNat c.toNat)) (w.alloc (.cells (madeCells v'.cells (c.toNat * i'.size)) e)) := by
    unfold execOp
    rw [ho]
    simp only [ex, ey, Sem.run_bind, hrun, Result.andThen_ok, Sem.run_pure]
  unfold Oper.wp
  rw [hex, Oper.upon_value]
  have hcs : v'.cells.size = sz := by rw [hzs, hisz]
  have hh : Holds (cx X h H w) (List.replicate l.toNat z).flatten (madeCells v'.cells (c.toNat * i'.size)) (0, 0) := by
    have hfl : (List.replicate l.toNat z).flatten.length = l.toNat * sz := by simp [hzl]
    have hcl : l.toNat * sz ≤ c.toNat * i'.size := by rw [hisz]; exact Nat.mul_le_mul_right _ (by omega)
    have hget : ∀ (m j : Nat), j < m * sz → (List.replicate m z).flatten[j]? = z[j % sz]? := by
      intro m
      induction m with
      | zero => intro j hj; omega
      | succ m ih =>
        intro j hj
        rw [List.replicate_succ, List.flatten_cons]
        rcases Nat.lt_or_ge j sz with hlt | hge
        · rw [List.getElem?_append_left (by omega), Nat.mod_eq_of_lt hlt]
        · rw [List.getElem?_append_right (by omega), hzl, ih (j - sz) (by rw [Nat.add_mul] at hj; omega), ← Nat.mod_eq_sub_mod hge]
    refine ⟨fun j => v'.cells.getD (j % sz) undef, by rw [hfl, size_madeCells]; exact hcl, fun _ _ => by simp, fun j v hj => ?_⟩
    have hjl : j < l.toNat * sz := by
      rcases Nat.lt_or_ge j (l.toNat * sz) with h3 | h3
      · exact h3
      · rw [List.getElem?_eq_none (by rw [hfl]; exact h3)] at hj; cases hj
    rw [hget _ _ hjl] at hj
    have hm : j % sz < v'.cells.size := by rw [hcs]; exact Nat.mod_lt _ hsz
    have hcell : v'.cells[j % sz]? = some (v'.cells[j % sz]'hm) := Array.getElem?_eq_getElem hm
    have hgd : v'.cells.getD (j % sz) undef = v'.cells[j % sz]'hm := by rw [Array.getD_eq_getD_getElem?, hcell]; rfl
    have hmade : (madeCells v'.cells (c.toNat * i'.size))[j]? = some (v'.cells[j % sz]'hm) := by
      unfold madeCells
      rw [Array.getElem?_map, Array.getElem?_range, if_pos (Nat.lt_of_lt_of_le hjl hcl)]
      have hm' : j % v'.cells.size < v'.cells.size := by rw [hcs]; rw [hcs] at hm; exact hm
      rw [Option.map_some, getElem!_pos v'.cells _ hm']
      simp only [hcs]
    simp only [hgd]
    cases hrel with
    | agg q1 q2 q3 => exact ⟨hmade, q2 _ _ hcell, q3 _ _ _ hj hcell⟩
  refine ⟨_, _, _, _, rfl, hk, ?_, s.sim.push _ e (0, 0) _ hh, Ext.push _ _ _⟩
  refine .sl (by simp [cx]) (by simp [cx, Gh.at_]) rfl fun _ => .inr ⟨w.heap.size, c.toNat, by simp [cx, Gh.at_], by omega, ?_, rfl⟩
  simp [cx, Gh.at_, size_madeCells, hisz]
end
end Go.Ab

/- The abstract layer, 24: loops over functions: the statement, and a call of its yield. -/
namespace Go.Ab

section
variable {X : Nat → Prop} {h : Gh} {H : AHeap} {w : World}

/-- A loop's record gets another state. -/
theorem Sim.loopSet (s : Sim X h H w) {id B : Nat} {L : ALoop} {r : Loop} (he : H[id]? = some (.lp L)) (hio : h.io id = some B) (hb : w.heap[B]? = some (.loop r)) (st : LoopState) (p : Option Code) :
    Sim X h (H.set id (.lp { L with state := st, pending := p })) (w.putObj B (.loop { r with state := st, pending := p })) ∧
      Ext h H w h (H.set id (.lp { L with state := st, pending := p })) (w.putObj B (.loop { r with state := st, pending := p })) := by
  have hid : id < H.length := by
    rcases Nat.lt_or_ge id H.length with h2 | h2
    · exact h2
    · rw [List.getElem?_eq_none h2] at he; cases he
  have hx : Ext h H w h (H.set id (.lp { L with state := st, pending := p })) (w.putObj B (.loop { r with state := st, pending := p })) := by
    refine ⟨rfl, rfl, rfl, by simp, fun k hk' hn => ?_, by simp, fun _ _ => Nat.le_refl _, fun _ _ _ => ⟨rfl, rfl⟩, fun k ho => ?_, fun k y hy => ?_⟩
    · refine World.putObj_heap_other fun e => ?_
      subst e
      exact hn ⟨id, _, he, by simp, hio⟩
    · obtain ⟨i, e, h1, hne, h2⟩ := ho
      rcases set_key hid h1 with ⟨hi, h1'⟩ | ⟨rfl, _⟩
      · exact .inl ⟨i, e, h1', hne, h2⟩
      · exact .inl ⟨i, _, he, by simp, h2⟩
    · by_cases e : k = B
      · subst e
        exact ⟨_, World.putObj_heap_same (heap_lt hb)⟩
      · exact ⟨y, by rw [World.putObj_heap_other e, hy]⟩
  refine ⟨s.of_ext hx (fun i e h1 hne => ?_) (fun i i' e1 e2 k h1 h2 hn1 hn2 h3 h4 => ?_), hx⟩
  · rcases set_key hid h1 with ⟨hi, h1'⟩ | ⟨rfl, rfl⟩
    · refine .inl ⟨h1', rfl, rfl, rfl, fun B' hio' => World.putObj_heap_other fun e => ?_⟩
      subst e
      exact hi (s.inj i id _ _ B' h1' he hne (by simp) hio' hio)
    · obtain ⟨hg, B', r', hio', hb', h1, h2, h3, h4, h5, h6, h7⟩ := s.lp i L he
      rw [show (cx X h H w).io i = h.io i from rfl, hio] at hio'
      injection hio' with e
      subst e
      rw [show (cx X h H w).w.heap = w.heap from rfl, hb] at hb'
      injection hb' with e
      injection e with e
      subst e
      refine .inr (.inr ⟨_, rfl, hg, B, _, hio, World.putObj_heap_same (heap_lt hb), rfl, rfl, h3, h4, h5, h6, fun t v m => ⟨(h7 t v m).1, (h7 t v m).2.later (hx.later X)⟩⟩)
  · rcases set_key hid h1 with ⟨i1, e1⟩ | ⟨rfl, _⟩ <;> rcases set_key hid h2 with ⟨i2, e2⟩ | ⟨rfl, _⟩
    · exact s.inj _ _ _ _ k e1 e2 hn1 hn2 h3 h4
    · exact s.inj _ _ _ _ k e1 he hn1 (by simp) h3 h4
    · exact s.inj _ _ _ _ k he e2 (by simp) hn2 h3 h4
    · rfl

/-- An entry is given up. -/
theorem Sim.kill (s : Sim X h H w) {id : Nat} (hid : id < H.length) : Sim X h (H.set id .dead) w ∧ Ext h H w h (H.set id .dead) w := by
  have hx : Ext h H w h (H.set id .dead) w := by
    refine ⟨rfl, rfl, rfl, Nat.le_refl _, fun k hk' hn => rfl, by simp, fun _ _ => Nat.le_refl _, fun _ _ _ => ⟨rfl, rfl⟩, fun k ho => ?_, fun k y hy => ⟨y, hy⟩⟩
    obtain ⟨i, e, h1, hne, h2⟩ := ho
    rcases set_key hid h1 with ⟨hi, h1'⟩ | ⟨rfl, rfl⟩
    · exact .inl ⟨i, e, h1', hne, h2⟩
    · exact (hne rfl).elim
  refine ⟨s.of_ext hx (fun i e h1 hne => ?_) (fun i i' e1 e2 k h1 h2 hn1 hn2 h3 h4 => ?_), hx⟩
  · rcases set_key hid h1 with ⟨hi, h1'⟩ | ⟨rfl, rfl⟩
    · exact .inl ⟨h1', rfl, rfl, rfl, fun B' _ => rfl⟩
    · exact (hne rfl).elim
  · rcases set_key hid h1 with ⟨i1, e1⟩ | ⟨rfl, rfl⟩
    · rcases set_key hid h2 with ⟨i2, e2⟩ | ⟨rfl, rfl⟩
      · exact s.inj _ _ _ _ k e1 e2 hn1 hn2 h3 h4
      · exact (hn2 rfl).elim
    · exact (hn1 rfl).elim
end

/-- Yield's arguments in the loop's parameters. -/
def setParams : Env → List Tmp → List AVal → Env
  | env, t :: ts, v :: vs => setParams (env.put t v) ts vs
  | env, _, _ => env

theorem setParams_rel {x : Cx} : ∀ (ts : List Tmp) (vs : List AVal) (cs : List Value) (env : Env) (a : Act), (∀ t ∈ ts, t < a.tmps.size) → cs.length = vs.length →
    (∀ (j : Nat) (v : AVal) (c : Value), vs[j]? = some v → cs[j]? = some c → VRel x v c) → EnvRel x env a →
    EnvRel x (setParams env ts vs) { a with tmps := (ts.zip cs).foldl (fun (tmps : Array Value) (q : Tmp × Value) => tmps.setIfInBounds q.1 q.2) a.tmps }
  | [], vs, cs, env, a, _, _, _, h => by simpa [setParams] using h
  | t :: ts, [], cs, env, a, _, hl, _, h => by
    have : cs = [] := List.eq_nil_of_length_eq_zero (by simpa using hl)
    subst this
    simpa [setParams] using h
  | t :: ts, v :: vs, [], env, a, _, hl, _, h => by simp at hl
  | t :: ts, v :: vs, c :: cs, env, a, ht, hl, hr, h => by
    simp only [setParams, List.zip_cons_cons, List.foldl_cons]
    have h1 : EnvRel x (env.put t v) (a.put (some t) c) := h.put (ht t (by simp)) (hr 0 v c rfl rfl)
    exact setParams_rel ts vs cs (env.put t v) (a.put (some t) c) (fun u hu => by rw [put_size]; exact ht u (List.mem_cons_of_mem _ hu)) (by simpa using hl)
      (fun j v' c' h1 h2 => hr (j + 1) v' c' (by simpa using h1) (by simpa using h2)) h1

theorem foldl_set_size : ∀ (l : List (Tmp × Value)) (a : Array Value), (l.foldl (fun (tmps : Array Value) (q : Tmp × Value) => tmps.setIfInBounds q.1 q.2) a).size = a.size
  | [], a => rfl
  | q :: l, a => by rw [List.foldl_cons, foldl_set_size l]; simp

/-- What is asked at a round's end. -/
def roundQ (id : Nat) (K : AVal → AHeap → Prop) : Exit → Env → AHeap → Prop
  | .normal, _, H => ∃ L, H[id]? = some (.lp L) ∧ K (.bool true) (H.set id (.lp { L with state := .ready, pending := none }))
  | .ret, _, H => ∃ L, H[id]? = some (.lp L) ∧ K (.bool false) (H.set id (.lp { L with state := .done, pending := some .ret }))
  | .exit k, _, H => ∃ L, H[id]? = some (.lp L) ∧ K (.bool false) (H.set id (.lp { L with state := .done, pending := some (.exit k) }))
  | _, _, _ => False

section
variable {P : Program} {N : Nat} {o : Oper} {env : Env} {H : AHeap} {K : AVal → AHeap → Prop}

theorem OpW.yield {c : Call} {f : Operand} {id : Nat} {L : ALoop} (ho : o.op = .call c) (hcal : c.callee = .value f) (hf : evalOp env f = .yf id) (he : H[id]? = some (.lp L))
    (hn : c.args.size = L.params.size) (hps : (L.params.toList.all fun t => decide (t < L.n)) = true)
    (hw : AWp P L.n L.assign (setParams L.env L.params.toList (c.args.toList.map (evalOp env))) H fun e env1 H1 => e = .normal ∧ ∃ L1, H1[id]? = some (.lp L1) ∧ L1.state = .ready ∧ AWp P L.n L.body env1 (H1.set id (.lp { L1 with state := .busy })) (roundQ id K)) : OpW P N o env H K := by
  intro ro X h a w s Q
  obtain ⟨hg, B, r, hio, hb, h1, h2, h3, h4, h5, h6, h7⟩ := s.sim.lp id L he
  have hio : h.io id = some B := hio
  have hb : w.heap[B]? = some (.loop r) := hb
  have hrf := evalOp_rel s.env f
  rw [hf] at hrf
  have hev : a.eval f = .func (.yield B) #[] #[] := by
    generalize a.eval f = cf at hrf
    cases hrf with
    | yf hid h1 hc =>
      obtain ⟨B', hB', rfl⟩ := hc hg
      rw [show (cx X h H w).io id = h.io id from rfl, hio] at hB'
      injection hB' with e
      rw [e]
  have hrun : (execOp a.eval o).run P w = .ok (.round B r.fn ((r.params.zip (c.args.map a.eval)).foldl (fun tmps (t, a) => tmps.setIfInBounds t a) r.tmps) r.assign r.body) w := by
    unfold execOp
    rw [ho]
    simp only [resolve, hcal, hev, Deferred.ofValue, Sem.run_bind, Sem.run_pure, Result.andThen_ok, invoke]
    rw [show (#[] ++ c.args.map a.eval : Array Value) = c.args.map a.eval by simp]
    exact run_yield hb (by rw [Array.size_map, hn, h3])
  refine ⟨fun _ _ => trivial, ?_⟩
  rw [Oper.semAt_eq _ _ _ (fun c hc => by rw [ho] at hc; cases hc), hrun, Oper.uponIn_round]
  refine ⟨(fun h => by cases h), ?_⟩
  let R : Ending → World → Prop := fun e w' => ∃ c v h' H', e = .returned c ∧ K v H' ∧ VRel (cx X h' H' w') v c ∧ Sim X h' H' w' ∧ Ext h H w h' H' w'
  refine RoundIn.mono (R := R) ?_ (by
    rintro e w' ⟨c', v, h', H', rfl, k, hv, hs, hx⟩
    exact ⟨c', v, h', H', rfl, k, hv, hs, hx⟩)
  refine roundIn_of_wpIn trivial ?_
  have htm : ((r.params.zip (c.args.map a.eval)).foldl (fun tmps (t, a) => tmps.setIfInBounds t a) r.tmps) = ((L.params.toList.zip (c.args.toList.map a.eval)).foldl (fun (tmps : Array Value) (q : Tmp × Value) => tmps.setIfInBounds q.1 q.2) r.tmps) := by
    rw [h3, ← Array.foldl_toList, Array.toList_zip, Array.toList_map]
  rw [htm, h4, h5]
  have hst0 : St X h L.n (setParams L.env L.params.toList (c.args.toList.map (evalOp env))) H { tmps := (L.params.toList.zip (c.args.toList.map a.eval)).foldl (fun (tmps : Array Value) (q : Tmp × Value) => tmps.setIfInBounds q.1 q.2) r.tmps, defers := [] } w := by
    refine ⟨s.sim, ?_, by rw [foldl_set_size, h6]⟩
    refine setParams_rel (x := cx X h H w) L.params.toList (c.args.toList.map (evalOp env)) (c.args.toList.map a.eval) L.env { tmps := r.tmps, defers := [] } (fun t ht => ?_) (by simp) (fun j v d hj hd => ?_) (fun t v m => ⟨by rw [h6]; exact (h7 t v m).1, (h7 t v m).2⟩)
    · rw [h6]
      simpa using List.all_eq_true.1 hps t ht
    · rw [List.getElem?_map] at hj hd
      cases hx : c.args.toList[j]? with
      | none => rw [hx] at hj; cases hj
      | some x =>
        rw [hx] at hj hd
        simp only [Option.map_some, Option.some.injEq] at hj hd
        subst hj hd
        exact evalOp_rel s.env x
  refine wpIn_mono (hw (some B) X h _ w hst0 fun l e => by injection e with e; subst e; exact ⟨r, hb⟩) ?_
  rintro e a1 w1 ⟨h', env1, H1, ⟨rfl, L1, he1, hst, hbody⟩, s1, x1, _⟩
  obtain ⟨hg1, B1, r1, hio1, hb1, q1, q2, q3, q4, q5, q6, q7⟩ := s1.sim.lp id L1 he1
  have hio1 : h'.io id = some B1 := hio1
  have hb1 : w1.heap[B1]? = some (.loop r1) := hb1
  have hid : id < H.length := by
    rcases Nat.lt_or_ge id H.length with h2 | h2
    · exact h2
    · rw [List.getElem?_eq_none h2] at he; cases he
  have eB : B1 = B := by
    have := (x1.same id hid (by rw [show h'.gen id = 0 from hg1, show h.gen id = 0 from hg])).1
    rw [hio1, hio] at this
    injection this
  subst eB
  obtain ⟨hs2, hx2⟩ := s1.sim.loopSet he1 hio1 hb1 .busy L1.pending
  have hr1 : ({ r1 with state := .busy } : Loop) = { r1 with state := .busy, pending := L1.pending } := by rw [← q2]
  refine ⟨_, run_beginRound hb1 (by rw [q1, hst]), ?_⟩
  rw [hr1]
  refine wpIn_mono (hbody (some B1) X h' a1 _ ⟨hs2, s1.env.later (hx2.later X), s1.size⟩ fun l e => by injection e with e; subst e; exact ⟨_, World.putObj_heap_same (heap_lt hb1)⟩) ?_
  rintro e a2 w2 ⟨h2', env2, H2, q, s2, x2, _⟩
  have fin : ∀ (jump : Option Code) (L2 : ALoop), H2[id]? = some (.lp L2) → K (.bool jump.isNone) (H2.set id (.lp { L2 with state := if jump.isNone then .ready else .done, pending := jump })) →
      ∃ v w', (Instr.endRound B1 jump).run P w2 = .ok v w' ∧ R (.returned v) w' := by
    intro jump L2 he2 hk
    obtain ⟨hg2, B2, r2, hio2, hb2, p1, p2, p3, p4, p5, p6, p7⟩ := s2.sim.lp id L2 he2
    have hio2 : h2'.io id = some B2 := hio2
    have hb2 : w2.heap[B2]? = some (.loop r2) := hb2
    have hlt1 : id < H1.length := Nat.lt_of_lt_of_le hid x1.n
    have eB : B2 = B1 := by
      have := (x2.same id (by simpa using hlt1) (by rw [show h2'.gen id = 0 from hg2, show h'.gen id = 0 from hg1])).1
      rw [hio2, hio1] at this
      injection this
    subst eB
    obtain ⟨hs3, hx3⟩ := s2.sim.loopSet he2 hio2 hb2 (if jump.isNone then .ready else .done) jump
    exact ⟨_, _, run_endRound jump hb2, _, _, h2', _, rfl, hk, .bool _, hs3, ((x1.trans hx2).trans x2).trans hx3⟩
  cases e with
  | normal => obtain ⟨L2, q1, q2⟩ := q; exact fin none L2 q1 q2
  | ret => obtain ⟨L2, q1, q2⟩ := q; exact fin (some .ret) L2 q1 q2
  | exit k => obtain ⟨L2, q1, q2⟩ := q; exact fin (some (.exit k)) L2 q1 q2
  | _ => exact q.elim
end

end Go.Ab

/- The abstract layer, 25: the statement that ranges over a function. -/
namespace Go.Ab

section
variable {P : Program} {N : Nat} {env : Env} {H : AHeap} {Q : Exit → Env → AHeap → Prop}

/-- What is asked behind the loop. -/
def rangeQ (P : Program) (N : Nat) (env : Env) (id : Nat) (Q : Exit → Env → AHeap → Prop) (H : AHeap) : Prop :=
  ∃ L, H[id]? = some (.lp L) ∧ L.state ≠ .busy ∧ (match L.pending with
    | none => Q .normal env (H.set id .dead)
    | some c => AWp P N c env (H.set id .dead) Q)

theorem callsIn_FR {r : Option Nat} {n : Nat} {f : FuncId} {args : Array Value} {w : World} {R : Ending → World → Prop} (h : Calls P f args w R) : CallsIn (FR r) n P f args w R := by
  have h1 : CallsIn Fence.wide n P f args w R := callsIn_wide.2 h
  cases r with
  | none => exact h1
  | some l => exact h1

theorem AWp.rangeFunc {f : Operand} {ps : Array Tmp} {assign body : Code} {first caps : List AVal} {G : FuncId} (hf : evalOp env f = .fn (.func G) first caps) (hE : Enters P G = true)
    (hcall : ACalls P G (first ++ [.yf H.length] ++ caps) (H ++ [.lp ⟨N, env, ps, assign, body, .ready, none⟩]) fun _ H' => rangeQ P N env H.length Q H') : AWp P N (.rangeFunc f ps assign body) env H Q := by
  intro r X h a w s k
  have hrf := evalOp_rel s.env f
  rw [hf] at hrf
  obtain ⟨first', caps', hev, n1, n2, hv1, hv2⟩ : ∃ first' caps', a.eval f = .func (.func G) first' caps' ∧ first'.size = first.length ∧ caps'.size = caps.length ∧
      (∀ (j : Nat) (v : AVal) (c : Value), first[j]? = some v → first'[j]? = some c → VRel (cx X h H w) v c) ∧ (∀ (j : Nat) (v : AVal) (c : Value), caps[j]? = some v → caps'[j]? = some c → VRel (cx X h H w) v c) := by
    generalize a.eval f = cf at hrf
    cases hrf with
    | fn h1 h2 hv1 hv2 => exact ⟨_, _, rfl, h1, h2, hv1, hv2⟩
  have main : ∀ (W0 : World) (rc : Loop) (mark : List Deferred), Sim X h H W0 → Ext h H w h H W0 → rc.state = .ready → rc.pending = none → rc.tmps = a.tmps → rc.params = ps → rc.assign = assign → rc.body = body → mark.Nodup →
      (∀ d ∈ mark, ∃ D, d = { target := .collected D, args := #[] } ∧ w.heap.size ≤ D ∧ W0.heap[D]? = some (.deferred (some []))) →
      CallsIn (FR r) (0 - 1) P G (first' ++ #[.func (.yield W0.heap.size) #[] #[]] ++ caps') (W0.alloc (.loop rc))
        (rangePost (FR r) 0 P W0.heap.size (fun e a' w' => ∃ h' env' H', Q e env' H' ∧ St X h' N env' H' a' w' ∧ Ext h H w h' H' w' ∧ DefExt a w a' w') { a with defers := mark ++ a.defers }) := by
    intro W0 rc mark s0 x0 e1 e2 e3 e4 e5 e6 hnd hmark
    have xp := Ext.push (h := h) (H := H) (w := W0) (.loop rc) 0 (.lp ⟨N, env, ps, assign, body, .ready, none⟩)
    have sp := s0.push_any (.loop rc) 0 (.lp ⟨N, env, ps, assign, body, .ready, none⟩) fun _ => .inr ⟨_, rfl, by simp [cx, Gh.at_], W0.heap.size, rc, by simp [cx, Gh.at_], by show (W0.heap.push (.loop rc))[W0.heap.size]? = _; simp, e1, e2, e4, e5, e6, by rw [e3]; exact s.size, fun t v m => by
      obtain ⟨m1, m2⟩ := s.env t v m
      refine ⟨by rw [← s.size]; exact m1, ?_⟩
      rw [e3]
      exact m2.later ((x0.trans xp).later X)⟩
    have ea : W0.alloc (.loop rc) = { W0 with heap := W0.heap.push (.loop rc) } := rfl
    rw [ea]
    generalize hW1 : ({ W0 with heap := W0.heap.push (.loop rc) } : World) = W1 at xp sp
    generalize hg1 : h.at_ H.length (some W0.heap.size) 0 0 = g1 at xp sp
    have gat : g1.gen H.length = 0 ∧ g1.io H.length = some W0.heap.size := by rw [← hg1]; simp [Gh.at_]
    have hl := (x0.trans xp).later X
    have hsz : (first' ++ #[Value.func (.yield W0.heap.size) #[] #[]] ++ caps').size = (first ++ [AVal.yf H.length] ++ caps).length := by
      simp [n1, n2]
      omega
    have hargs : ∀ (j : Nat) (v : AVal) (c : Value), (first ++ [AVal.yf H.length] ++ caps)[j]? = some v → (first' ++ #[Value.func (.yield W0.heap.size) #[] #[]] ++ caps')[j]? = some c → VRel (cx X g1 (H ++ [.lp ⟨N, env, ps, assign, body, .ready, none⟩]) W1) v c := by
      intro j v c hj hc
      rcases Nat.lt_or_ge j (first.length + 1) with hlt1 | hge1
      · rw [List.getElem?_append_left (by simp; omega)] at hj
        rw [Array.getElem?_append_left (by simp; omega)] at hc
        rcases Nat.lt_or_ge j first.length with hlt2 | hge2
        · rw [List.getElem?_append_left hlt2] at hj
          rw [Array.getElem?_append_left (by omega)] at hc
          exact (hv1 j v c hj hc).later hl
        · have : j = first.length := by omega
          subst this
          rw [List.getElem?_append_right (Nat.le_refl _), Nat.sub_self] at hj
          rw [Array.getElem?_append_right (by omega), n1, Nat.sub_self] at hc
          simp at hj hc
          subst hj hc
          exact .yf (by simp [cx]) rfl fun _ => ⟨W0.heap.size, gat.2, rfl⟩
      · rw [List.getElem?_append_right (by simp; omega)] at hj
        rw [Array.getElem?_append_right (by simp; omega)] at hc
        refine (hv2 _ v c ?_ hc).later hl
        simpa [n1] using hj
    have hC := hcall X g1 W1 _ sp hsz hargs
    refine (callsIn_FR hC).mono ?_
    · rintro e w' ⟨c, v, h', H', rfl, ⟨L, hL, hbusy, hQ⟩, sc, rv, x⟩
      obtain ⟨hg, B, rr, hio, hb, q1, q2, q3, q4, q5, q6, q7⟩ := sc.lp H.length L hL
      have hio : h'.io H.length = some B := hio
      have hb : w'.heap[B]? = some (.loop rr) := hb
      have eB : B = W0.heap.size := by
        have := (x.same H.length (by simp) (by rw [show h'.gen H.length = 0 from hg, gat.1])).1
        rw [hio, gat.2] at this
        injection this
      subst eB
      obtain ⟨s2, x2⟩ := sc.loopSet hL hio hb .exhausted rr.pending
      have hlen : H.length < (H'.set H.length (.lp { L with state := .exhausted, pending := rr.pending })).length := by
        have := x.n
        simp at this ⊢
        omega
      obtain ⟨s3, x3⟩ := s2.kill hlen
      rw [List.set_set] at s3 x3
      have xe := ((xp.trans x).trans x2).trans x3
      have st : St X h' N env (H'.set H.length .dead) { a with defers := mark ++ a.defers } (w'.putObj W0.heap.size (.loop { rr with state := .exhausted, pending := rr.pending })) :=
        ⟨s3, fun t v m => ⟨(s.env t v m).1, (s.env t v m).2.later ((x0.trans xe).later X)⟩, s.size⟩
      have df : DefExt a w { a with defers := mark ++ a.defers } (w'.putObj W0.heap.size (.loop { rr with state := .exhausted, pending := rr.pending })) := by
        refine ⟨mark, rfl, hnd, fun d hd => ?_⟩
        obtain ⟨D, h1, h2, h3⟩ := hmark d hd
        exact ⟨D, h1, h2, xe.defs s0 h3⟩
      refine ⟨rr.pending, _, run_endLoop hb (by rw [q1]; exact hbusy), ?_⟩
      rw [q2] at *
      cases hp : L.pending with
      | none =>
        rw [hp] at hQ st df xe
        exact ⟨h', env, _, hQ, st, x0.trans xe, df⟩
      | some cd =>
        rw [hp] at hQ st df xe s3
        refine wpIn_mono (hQ r X h' _ _ st (k.later (x0.trans xe))) ?_
        rintro e' a' w'' ⟨h2, env2, H2, q, s', x', d'⟩
        exact ⟨h2, env2, H2, q, s', (x0.trans xe).trans x', df.trans s3 (x0.trans xe) x' d'⟩
  have hres : ∀ (l : Nat) (W : World), (resolve a.eval (rangeCall f l) 0).run P W = .ok { target := .fn (.func G) caps', args := first' ++ #[.func (.yield l) #[] #[]] } W := by
    intro l W
    have hc : a.eval (.const (.func (.yield l) #[] #[])) = .func (.yield l) #[] #[] := rfl
    simp [resolve, hev, hc, Deferred.ofValue]
  refine wpIn_rangeFunc fun fn _ => ?_
  cases r with
  | none =>
    have x0 : Ext h H w h H (w.alloc (.deferred (some []))) := Ext.grow rfl rfl rfl (by show _ ≤ (w.heap.push _).size; simp) fun k hk => by
      show (w.heap.push _)[k]? = _
      rw [Array.getElem?_push, if_neg (by omega)]
    have s0 : Sim X h H (w.alloc (.deferred (some []))) := s.sim.grow rfl rfl rfl (by show _ ≤ (w.heap.push _).size; simp) fun k hk => by
      show (w.heap.push _)[k]? = _
      rw [Array.getElem?_push, if_neg (by omega)]
    have hm := main (w.alloc (.deferred (some []))) { state := .ready, pending := none, fn, tmps := a.tmps, params := ps, assign, body, defers := w.heap.size } [{ target := .collected w.heap.size, args := #[] }] s0 x0 rfl rfl rfl rfl rfl rfl (by simp) fun d hd => by
      simp only [List.mem_singleton] at hd
      exact ⟨w.heap.size, hd, Nat.le_refl _, World.alloc_heap_new w _⟩
    rw [World.size_alloc] at hm
    exact ⟨_, _, _, _, _, _, _, _, run_enterLoop_outer fn a.tmps ps assign body, hres _ _, fun _ _ => trivial, by simp only [invoke]; exact run_callFunc hE _ _, (fun h => by cases h), hm⟩
  | some l =>
    obtain ⟨x, hx⟩ := k l rfl
    have hm := main w { state := .ready, pending := none, fn, tmps := a.tmps, params := ps, assign, body, defers := x.defers } [] s.sim (Ext.refl _ _ _) rfl rfl rfl rfl rfl rfl (by simp) fun d hd => by cases hd
    exact ⟨_, _, _, _, _, _, _, _, run_enterLoop_inner hx fn a.tmps ps assign body, hres _ _, fun _ _ => trivial, by simp only [invoke]; exact run_callFunc hE _ _, (fun h => by cases h), hm⟩
end
end Go.Ab

/- The abstract layer, 26: an evaluator. -/
namespace Go.Ab

mutual
/-- The small numbers that a value names. -/
def AVal.ids : AVal → List Nat → List Nat
  | .ptr id _ _, acc => if acc.contains id then acc else id :: acc
  | .sl id _ _ _ _, acc => if acc.contains id then acc else id :: acc
  | .yf id, acc => if acc.contains id then acc else id :: acc
  | .vptr cs, acc => AVal.idsL cs acc
  | .vs _ rows, acc => AVal.idsL rows acc
  | .fn _ a b, acc => AVal.idsL b (AVal.idsL a acc)
  | .agg cs, acc => AVal.idsL cs acc
  | .tup cs, acc => AVal.idsL cs acc
  | .bool _, acc | .int _ _, acc | .str _, acc | .nilp, acc | .nils, acc | .nilf, acc | .any, acc => acc
def AVal.idsL : List AVal → List Nat → List Nat
  | [], acc => acc
  | v :: r, acc => AVal.idsL r (AVal.ids v acc)
end

def Ent.ids : Ent → List Nat
  | .dead => []
  | .live _ cs => AVal.idsL cs []
  | .lp L => L.env.foldl (fun acc p => p.2.ids acc) []
  | .bld _ _ row _ => [row]
  | .brow o => [o]

def reachL (H : AHeap) : Nat → List Nat → List Nat → List Nat
  | 0, _, seen => seen
  | _ + 1, [], seen => seen
  | n + 1, id :: r, seen => if seen.contains id then reachL H n r seen else reachL H n ((H.getD id .dead).ids ++ r) (id :: seen)

/-- At a function's end: what nobody names any more is given up. -/
def compact (n0 : Nat) (v : AVal) (H : AHeap) : AVal × AHeap :=
  if H.length = n0 then (v, H)
  else if v.idsAll (fun id => decide (id < n0)) && (H.take n0).all (·.idsAll fun id => decide (id < n0)) && decide (n0 ≤ H.length) then (v, H.take n0)
  else
    let new := (reachL H 100000 (v.ids [] ++ (H.take n0).flatMap Ent.ids) []).filter fun id => decide (n0 ≤ id)
    let bs := List.range n0 ++ new.reverse
    if bs.Nodup ∧ (bs.all fun b => (H.getD b .dead).idsAll fun id => decide (id ∈ bs)) = true ∧ (v.idsAll fun id => decide (id ∈ bs)) = true then (v.ren (bs.idxOf ·), subH H bs) else (v, H)

def isQ : Op → Bool
  | .move _ | .assign _ | .pick .. | .load .. | .nilCheck _ | .binOp .. | .unOp .. | .convert .. | .fieldAddr .. | .field .. | .indexAddr .. | .index .. | .slice .. | .extract .. | .makeFunc .. | .build .. => true
  | .call c => match c.callee with | .builtin .len => true | .builtin .max => true | .builtin .min => true | _ => false
  | _ => false

abbrev CallE := FuncId → List AVal → AHeap → Option (AVal × AHeap)
abbrev CodeE := Nat → Code → Env → AHeap → Option (Exit × Env × AHeap)

def appE (P : Program) (ρ : Operand → AVal) (H : AHeap) (sx xx : Operand) (t : TypeId) : Option (AVal × AHeap × List Nat) :=
  match eI P t with
  | some (none, e, sz) =>
    if 0 < sz ∧ smallE P e = true then
      match slCells H sz (ρ xx) with
      | some (m, news) =>
        match ρ sx with
        | .nils => if m ≤ 16777216 then some (.sl H.length 0 sz 0 m, H ++ [.live 0 news], []) else none
        | .sl id g sz' off n =>
          if off = 0 ∧ sz' = sz then
            match H[id]? with
            | some (.live g' cs) => if g = g' ∧ cs.length = n * sz ∧ n + m ≤ 16777216 then some (.sl id (g + 1) sz 0 (n + m), H.set id (.live (g + 1) (cs ++ news)), [id]) else none
            | _ => none
          else none
        | _ => none
      | none => none
    else none
  | _ => none

def storeE (P : Program) (H : AHeap) (t : TypeId) (p v : AVal) : Option (AVal × AHeap × List Nat) :=
  match p with
  | .ptr id g off =>
    match H[id]?, tI P t with
    | some (.live g' cs), some (_, n) => if v.solid = true ∧ g = g' ∧ n = v.cells.length ∧ off + v.cells.length ≤ cs.length then some (.any, H.set id (.live g (setR cs off v.cells)), [id]) else none
    | _, _ => none
  | _ => none

/-- A call of a function: it sees all blocks, or no more than its arguments name. -/
def fnE (P : Program) (call : CallE) (fr : Bool) (H : AHeap) (F : FuncId) (vs : List AVal) : Option (AVal × AHeap × List Nat) :=
  if Enters P F then
    if fr then
      let bs := reachL H 100000 (AVal.idsL vs []) []
      if bs.Nodup ∧ (bs.all fun b => decide (b < H.length)) = true ∧ (bs.all fun b => (H.getD b .dead).idsAll fun id => decide (id ∈ bs)) = true ∧ AVal.idsAllL (fun id => decide (id ∈ bs)) vs = true then
        match call F (AVal.renL (bs.idxOf ·) vs) (subH H bs) with
        | some (v, Hc) => some (v.ren (backId H bs), mergeH H bs Hc, bs)
        | none => none
      else none
    else
      match call F vs H with
      | some (v, H') => some (v, H', List.range H.length)
      | none => none
  else none

def yieldE (code : CodeE) (H : AHeap) (id : Nat) (vs : List AVal) : Option (AVal × AHeap × List Nat) :=
  match H[id]? with
  | some (.lp L) =>
    if vs.length = L.params.size ∧ (L.params.toList.all fun t => decide (t < L.n)) = true ∧ (L.env.map (·.1)).Nodup then
      match code L.n L.assign (setParams L.env L.params.toList vs) H with
      | some (.normal, env1, H1) =>
        match H1[id]? with
        | some (.lp L1) =>
          if L1.state = .ready then
            match code L.n L.body env1 (H1.set id (.lp { L1 with state := .busy })) with
            | some (e, _, H2) =>
              match H2[id]? with
              | some (.lp L2) =>
                match e with
                | .normal => some (.bool true, H2.set id (.lp { L2 with state := .ready, pending := none }), List.range H.length)
                | .ret => some (.bool false, H2.set id (.lp { L2 with state := .done, pending := some .ret }), List.range H.length)
                | .exit k => some (.bool false, H2.set id (.lp { L2 with state := .done, pending := some (.exit k) }), List.range H.length)
                | _ => none
              | _ => none
            | none => none
          else none
        | _ => none
      | _ => none
    else none
  | _ => none

/-- Operations that change something. -/
def effE (P : Program) (call : CallE) (code : CodeE) (fr : Bool) (ρ : Operand → AVal) (H : AHeap) (op : Op) : Option (AVal × AHeap × List Nat) :=
  match op with
  | .box _ x => if (ρ x).solid then some (.ptr H.length 0 0, H ++ [.live 0 (ρ x).cells], []) else none
  | .store t x y => storeE P H t (ρ x) (ρ y)
  | .call c =>
    match c.callee with
    | .builtin .append =>
      match c.args.toList, c.argTypes.toList with
      | [sx, xx], [t, t'] => if t = t' then appE P ρ H sx xx t else none
      | _, _ => none
    | .value f =>
      match ρ f with
      | .fn (.func F) first caps => fnE P call fr H F (first ++ c.args.toList.map ρ ++ caps)
      | .yf id => yieldE code H id (c.args.toList.map ρ)
      | _ => none
    | _ => none
  | _ => none

def guardB (ops : Array Oper) (g : Option (Nat × Bool)) (env : Env) : Option Bool :=
  match g with
  | none => some true
  | some (j, want) =>
    match guardVal ops env j with
    | .bool b => some (b == want)
    | .tup [] => some false
    | _ => none

/-- Is this type strings.Builder? Then its bytes' type. -/
def bldT (P : Program) (t : TypeId) : Option TypeId :=
  match zeroA P t, P.underlying t with
  | some [.nilp, .nils], some (.struct fs) =>
    match fs.toList with
    | [f1, f2] =>
      if f1.name = "addr" ∧ f2.name = "buf" ∧ f1.pkgPath = "strings" then
        match P.underlying f2.type with
        | some (.slice e) => some e
        | _ => none
      else none
    | _ => none
  | _, _ => none

theorem bldT_zero {P : Program} {t e : TypeId} (h : bldT P t = some e) : zeroA P t = some [.nilp, .nils] := by
  unfold bldT at h
  split at h
  · assumption
  · cases h

/-- One operation of a region in the order of its text. -/
def opE (P : Program) (call : CallE) (code : CodeE) (env : Env) (H : AHeap) (op : Op) : Option (AVal × AHeap) :=
  match op with
  | .alloc t =>
    match bldT P t with
    | some e => some (.ptr H.length 0 0, H ++ [.bld t e (H.length + 1) none] ++ [.brow H.length])
    | none => match zeroA P t with | some z => some (.ptr H.length 0 0, H ++ [.live 0 z]) | none => none
  | .buildSlice t len parts => match bsParts P env t len parts with | some (sz, vs) => some (.sl H.length 0 sz 0 vs.length, H ++ [.live 0 (vs.flatMap AVal.cells)]) | none => none
  | .makeSlice t x y =>
    match eI P t with
    | some (none, e, sz) =>
      match zeroA P e, evalOp env x, evalOp env y with
      | some z, .int _ l, .int _ c => if 0 < sz ∧ smallE P e = true ∧ z.length = sz ∧ 0 ≤ l ∧ l ≤ c ∧ c ≤ 16777216 then some (.sl H.length 0 sz 0 l.toNat, H ++ [.live 0 (List.replicate l.toNat z).flatten]) else none
      | _, _, _ => none
    | _ => none
  | op =>
    if isQ op then (match qeval P env H op with | some v => some (v, H) | none => none)
    else match effE P call code false (evalOp env) H op with | some (v, H', _) => some (v, H') | none => none

def runSeq (P : Program) (call : CallE) (code : CodeE) (ops : Array Oper) : List Oper → Env → AHeap → Option (Env × AHeap)
  | [], env, H => some (env, H)
  | o :: r, env, H =>
    match guardB ops o.guard env with
    | some true => match opE P call code env H o.op with | some (v, H') => runSeq P call code ops r (env.putO o.dst v) H' | none => none
    | some false => runSeq P call code ops r (env.putO o.dst (.tup [])) H
    | none => none

def dquiet (P : Program) (env : Env) (H : AHeap) (op : Op) : Option AVal :=
  match op with
  | .buildSlice t len parts => match bsParts P env t len parts with | some (sz, vs) => some (.vs sz vs) | none => none
  | op => qeval P env H op

def dq (op : Op) : Bool := match op with | .buildSlice .. => true | op => isQ op

def runDraw (P : Program) (call : CallE) (code : CodeE) (ops : Array Oper) (m : List Nat) : List Nat → List (Nat × List Nat) → Env → AHeap → Option (Env × AHeap)
  | [], _, env, H => some (env, H)
  | i :: r, pend, env, H =>
    match ops[i]? with
    | none => none
    | some o =>
      match o.op with
      | .alloc t =>
        match zeroA P t with
        | some z => if o.guard.isNone && r.all (fun j => ordM m i j || isAlloc ops j) then runDraw P call code ops m r pend (env.putO o.dst (.ptr H.length 0 0)) (H ++ [.live 0 z]) else none
        | none => none
      | op =>
        match guardB ops o.guard env with
        | some false => runDraw P call code ops m r ((i, []) :: pend) (env.putO o.dst (.tup [])) H
        | some true =>
          if dq op then
            match dquiet P env H op with
            | some v => if (rdOf env op).all (fun id => decide (id < H.length)) then runDraw P call code ops m r ((i, rdOf env op) :: pend) (env.putO o.dst v) H else none
            | none => none
          else
            match effE P call code true (evalOp env) H op with
            | some (v, H', F) =>
              if r.all (fun j => ordM m i j || isAlloc ops j) && pend.all (fun p => ordM m p.1 i || p.2.all fun id => !F.contains id) && decide (H.length ≤ H'.length) then runDraw P call code ops m r pend (env.putO o.dst v) H' else none
            | none => none
        | none => none

def planGo (ops : Array Oper) (m : List Nat) : Nat → List Nat → List Nat
  | 0, _ => []
  | n + 1, left =>
    let rdy := left.filter fun i => left.all fun p => p == i || !ordM m p i
    let qs := rdy.filter fun i => match ops[i]? with | some o => dq o.op | none => false
    let last := fun i => left.all fun j => j == i || ordM m i j || isAlloc ops j
    let es := rdy.filter fun i => !isAlloc ops i && last i
    let as := rdy.filter fun i => isAlloc ops i && last i
    match qs, es, as with
    | i :: _, _, _ => i :: planGo ops m n (left.erase i)
    | [], i :: _, _ => i :: planGo ops m n (left.erase i)
    | [], [], i :: _ => i :: planGo ops m n (left.erase i)
    | [], [], [] => []

def planOf (ops : Array Oper) : List Nat := planGo ops (masks ops.toList []) ops.size (List.range ops.size)

def codeE1 (P : Program) (call : CallE) (rec : CodeE) (N : Nat) (c : Code) (env : Env) (H : AHeap) : Option (Exit × Env × AHeap) :=
  match c with
  | .skip => some (.normal, env, H)
  | .ret => some (.ret, env, H)
  | .exit id => some (.exit id, env, H)
  | .seq x y =>
    match rec N x env H with
    | some (.normal, env', H') => rec N y env' H'
    | r => r
  | .cond c x y =>
    match evalOp env c with
    | .bool true => rec N x env H
    | .bool false => rec N y env H
    | _ => none
  | .block id x =>
    match rec N x env H with
    | some (.exit id', env', H') => if id' = id then some (.normal, env', H') else some (.exit id', env', H')
    | r => r
  | .loop x =>
    match rec N x env H with
    | some (.normal, env', H') => if H.length ≤ H'.length then rec N (.loop x) env' H' else none
    | r => r
  | .region _ ops false =>
    if dstsIn N ops.toList then
      match runSeq P call rec ops ops.toList env H with
      | some (env', H') => some (.normal, env', H')
      | none => none
    else none
  | .region _ ops true =>
    if P.follows .mixedOrders && regOk ops N (planOf ops) && allocOk P ops then
      match runDraw P call rec ops (masks ops.toList []) (planOf ops) [] env H with
      | some (env', H') => some (.normal, env', H')
      | none => none
    else none
  | .rangeFunc f ps assign body =>
    match evalOp env f with
    | .fn (.func G) first caps =>
      if Enters P G then
        match call G (first ++ [.yf H.length] ++ caps) (H ++ [.lp ⟨N, env, ps, assign, body, .ready, none⟩]) with
        | some (_, H') =>
          match H'[H.length]? with
          | some (.lp L) =>
            if L.state = .busy then none
            else
              match L.pending with
              | none => some (.normal, env, H'.set H.length .dead)
              | some c => rec N c env (H'.set H.length .dead)
          | _ => none
        | none => none
      else none
    | _ => none
  | _ => none

abbrev Sums := FuncId → Option (List AVal → AHeap → Option (AVal × AHeap))

/-- A sum's word, where there is one. -/
def sumOf (S : Sums) (F : FuncId) (args : List AVal) (H : AHeap) : Option (AVal × AHeap) :=
  match S F with
  | some f => f args H
  | none => none

def callE1 (P : Program) (S : Sums) (rec : CodeE) : CallE := fun F args H =>
  match sumOf S F args H with
  | some r => some r
  | none =>
    match P.funcs[F]? with
    | some fn =>
      match fn.body with
      | some c =>
        if args.length ≤ fn.ntmps then
          match rec fn.ntmps c (env0 0 args) H with
          | some (e, env, H') =>
            match e with
            | .normal | .ret => match resOf P fn env H' with | some v => if H.length ≤ H'.length then some (compact H.length v H') else none | none => none
            | _ => none
          | none => none
        else none
      | none => none
    | none => none

def codeE (P : Program) (S : Sums) : Nat → CodeE
  | 0 => fun _ _ _ _ => none
  | n + 1 => codeE1 P (callE1 P S (codeE P S n)) (codeE P S n)

def callE (P : Program) (S : Sums) (n : Nat) : CallE := callE1 P S (codeE P S n)

end Go.Ab

/- The abstract layer, 27: what the evaluator says is so. -/
namespace Go.Ab

def CallOk (P : Program) (call : CallE) : Prop := ∀ F args H v H', call F args H = some (v, H') → ACalls P F args H fun u H'' => u = v ∧ H'' = H'

def CodeOk (P : Program) (code : CodeE) : Prop :=
  ∀ N c env H e env' H', (env.map (·.1)).Nodup → code N c env H = some (e, env', H') → AWp P N c env H (fun e1 env1 H1 => e1 = e ∧ env1 = env' ∧ H1 = H') ∧ (env'.map (·.1)).Nodup

theorem put_nodup {env : Env} (h : (env.map (·.1)).Nodup) (t : Nat) (v : AVal) : ((env.put t v).map (·.1)).Nodup := by
  unfold Env.put
  simp only [List.map_cons, List.nodup_cons]
  refine ⟨fun hm => ?_, (List.Sublist.map _ List.filter_sublist).nodup h⟩
  obtain ⟨p, hp, e⟩ := List.mem_map.1 hm
  have := (List.mem_filter.1 hp).2
  simp only [decide_eq_true_eq] at this
  exact this e

theorem putO_nodup {env : Env} (h : (env.map (·.1)).Nodup) (t : Option Nat) (v : AVal) : ((env.putO t v).map (·.1)).Nodup := by
  cases t with
  | none => exact h
  | some t => exact put_nodup h t v

theorem setParams_nodup : ∀ (ts : List Tmp) (vs : List AVal) (env : Env), (env.map (·.1)).Nodup → ((setParams env ts vs).map (·.1)).Nodup
  | [], vs, env, h => by cases vs <;> exact h
  | t :: ts, [], env, h => h
  | t :: ts, v :: vs, env, h => setParams_nodup ts vs _ (put_nodup h t v)

theorem env0_nodup : ∀ (i : Nat) (l : List AVal), ((env0 i l).map (·.1)).Nodup
  | i, [] => .nil
  | i, v :: r => by
    simp only [env0, List.map_cons, List.nodup_cons]
    refine ⟨fun hm => ?_, env0_nodup (i + 1) r⟩
    obtain ⟨p, hp, e⟩ := List.mem_map.1 hm
    have := (env0_mem (t := p.1) (v := p.2) hp).1
    omega

section
variable {P : Program} {N : Nat} {o : Oper} {env : Env} {H H' : AHeap} {v : AVal} {F : List Nat}

theorem appE_sound {sx xx : Operand} {t : TypeId} (ho : o.op = .call { callee := .builtin .append, args := #[sx, xx], argTypes := #[t, t] }) (h : appE P (evalOp env) H sx xx t = some (v, H', F)) :
    OpW P N o env H fun u H'' => u = v ∧ H'' = H' := by
  unfold appE at h
  split at h
  · rename_i e sz he
    split at h
    · rename_i hc
      split at h
      · rename_i m news hx
        split at h
        · rename_i hs
          split at h
          · rename_i hm
            simp only [Option.some.injEq, Prod.mk.injEq] at h
            obtain ⟨rfl, rfl, _⟩ := h
            exact OpW.append_nil ho he hc.1 hc.2 hs hx hm ⟨rfl, rfl⟩
          · cases h
        · rename_i id g sz' off n hs
          split at h
          · rename_i hoff
            obtain ⟨rfl, rfl⟩ := hoff
            split at h
            · rename_i g' cs hid
              split at h
              · rename_i hq
                obtain ⟨rfl, h2, h3⟩ := hq
                simp only [Option.some.injEq, Prod.mk.injEq] at h
                obtain ⟨rfl, rfl, _⟩ := h
                exact OpW.append_own ho he hc.1 hc.2 hs hid h2 hx h3 ⟨rfl, rfl⟩
              · cases h
            · cases h
          · cases h
        · cases h
      · cases h
    · cases h
  · cases h

theorem storeE_sound {t : TypeId} {x y : Operand} (ho : o.op = .store t x y) (h : storeE P H t (evalOp env x) (evalOp env y) = some (v, H', F)) : OpW P N o env H fun u H'' => u = v ∧ H'' = H' := by
  unfold storeE at h
  split at h
  · rename_i id g off hx
    split at h
    · rename_i g' cs b n hid ht
      split at h
      · rename_i hq
        obtain ⟨h1, rfl, rfl, h4⟩ := hq
        simp only [Option.some.injEq, Prod.mk.injEq] at h
        obtain ⟨rfl, rfl, _⟩ := h
        exact OpW.store ho hx rfl h1 hid ht h4 ⟨rfl, rfl⟩
      · cases h
    · cases h
  · cases h

theorem callArgs_eq (c : Call) (first caps : List AVal) : callArgs env c first caps = first ++ c.args.toList.map (evalOp env) ++ caps := rfl

theorem fnE_sound {call : CallE} (hcl : CallOk P call) {fr : Bool} {c : Call} {f : Operand} {first caps : List AVal} {G : FuncId} (ho : o.op = .call c) (hcal : c.callee = .value f) (hf : evalOp env f = .fn (.func G) first caps)
    (h : fnE P call fr H G (first ++ c.args.toList.map (evalOp env) ++ caps) = some (v, H', F)) : OpW P N o env H fun u H'' => u = v ∧ H'' = H' := by
  unfold fnE at h
  split at h
  · rename_i hE
    cases fr with
    | true =>
      simp only [if_true] at h
      split at h
      · rename_i hq
        obtain ⟨h1, h2, h3, h4⟩ := hq
        split at h
        · rename_i u Hc hc
          simp only [Option.some.injEq, Prod.mk.injEq] at h
          obtain ⟨rfl, rfl, _⟩ := h
          refine OpW.call (reachL H 100000 (AVal.idsL (first ++ c.args.toList.map (evalOp env) ++ caps) []) []) ho hcal hf hE h1 (fun b hb => by simpa using List.all_eq_true.1 h2 b hb) (fun b hb => List.all_eq_true.1 h3 b hb) h4 (hcl _ _ _ _ _ hc) ?_
          rintro _ _ ⟨rfl, rfl⟩
          exact ⟨rfl, rfl⟩
        · cases h
      · cases h
    | false =>
      simp only [Bool.false_eq_true, if_false] at h
      split at h
      · rename_i u Hc hc
        simp only [Option.some.injEq, Prod.mk.injEq] at h
        obtain ⟨rfl, rfl, _⟩ := h
        exact OpW.callAll ho hcal hf hE (hcl _ _ _ _ _ hc)
      · cases h
  · cases h

theorem yieldE_sound {code : CodeE} (hco : CodeOk P code) {c : Call} {f : Operand} {id : Nat} (ho : o.op = .call c) (hcal : c.callee = .value f) (hf : evalOp env f = .yf id)
    (h : yieldE code H id (c.args.toList.map (evalOp env)) = some (v, H', F)) : OpW P N o env H fun u H'' => u = v ∧ H'' = H' := by
  unfold yieldE at h
  split at h
  case h_2 => cases h
  rename_i L he
  split at h
  case isFalse => cases h
  rename_i hq
  obtain ⟨h1, h2, h3⟩ := hq
  split at h
  case h_2 => cases h
  rename_i env1 H1 hc1
  split at h
  case h_2 => cases h
  rename_i L1 he1
  split at h
  case isFalse => cases h
  rename_i hst
  split at h
  case h_2 => cases h
  rename_i e env2 H2 hc2
  split at h
  case h_2 => cases h
  rename_i L2 he2
  obtain ⟨w1, n1⟩ := hco _ _ _ _ _ _ _ (setParams_nodup _ _ _ h3) hc1
  obtain ⟨w2, _⟩ := hco _ _ _ _ _ _ _ n1 hc2
  refine OpW.yield ho hcal hf he (by simpa using h1) h2 (w1.mono ?_)
  rintro _ _ _ ⟨rfl, rfl, rfl⟩
  refine ⟨rfl, L1, he1, hst, w2.mono ?_⟩
  rintro ex _ _ ⟨rfl, rfl, rfl⟩
  cases ex with
  | normal =>
    simp only [Option.some.injEq, Prod.mk.injEq] at h
    obtain ⟨rfl, rfl, _⟩ := h
    exact ⟨L2, he2, rfl, rfl⟩
  | ret =>
    simp only [Option.some.injEq, Prod.mk.injEq] at h
    obtain ⟨rfl, rfl, _⟩ := h
    exact ⟨L2, he2, rfl, rfl⟩
  | exit k =>
    simp only [Option.some.injEq, Prod.mk.injEq] at h
    obtain ⟨rfl, rfl, _⟩ := h
    exact ⟨L2, he2, rfl, rfl⟩
  | _ => cases h

theorem effE_sound {call : CallE} (hcl : CallOk P call) {code : CodeE} (hco : CodeOk P code) {fr : Bool} (h : effE P call code fr (evalOp env) H o.op = some (v, H', F)) : OpW P N o env H fun u H'' => u = v ∧ H'' = H' := by
  unfold effE at h
  split at h
  · rename_i t x ho
    split at h
    · rename_i hs
      simp only [Option.some.injEq, Prod.mk.injEq] at h
      obtain ⟨rfl, rfl, _⟩ := h
      exact OpW.box ho rfl hs ⟨rfl, rfl⟩
    · cases h
  · rename_i t x y ho
    exact storeE_sound ho h
  · rename_i c ho
    obtain ⟨cal, ⟨args⟩, ⟨ats⟩⟩ := c
    split at h
    · rename_i hcal
      simp only at hcal
      subst hcal
      split at h
      · rename_i sx xx t t' ha ht
        simp only at ha ht
        subst ha ht
        split at h
        · rename_i e
          subst e
          exact appE_sound ho h
        · cases h
      · cases h
    · rename_i f hcal
      split at h
      · rename_i G first caps hf
        exact fnE_sound hcl ho hcal hf h
      · rename_i id hf
        exact yieldE_sound hco ho hcal hf h
      · cases h
    · cases h
  · cases h

theorem opE_sound {call : CallE} (hcl : CallOk P call) {code : CodeE} (hco : CodeOk P code) (h : opE P call code env H o.op = some (v, H')) : OpW P N o env H fun u H'' => u = v ∧ H'' = H' := by
  unfold opE at h
  split at h
  · rename_i t ho
    split at h
    · rename_i e hb
      simp only [Option.some.injEq, Prod.mk.injEq] at h
      obtain ⟨rfl, rfl⟩ := h
      exact OpW.alloc_bld e ho (bldT_zero hb) ⟨rfl, rfl⟩
    · split at h
      · rename_i z hz
        simp only [Option.some.injEq, Prod.mk.injEq] at h
        obtain ⟨rfl, rfl⟩ := h
        exact OpW.alloc ho hz ⟨rfl, rfl⟩
      · cases h
  · rename_i t len parts ho
    split at h
    · rename_i sz vs hp
      simp only [Option.some.injEq, Prod.mk.injEq] at h
      obtain ⟨rfl, rfl⟩ := h
      exact OpW.buildSlice_own ho hp ⟨rfl, rfl⟩
    · cases h
  · rename_i t x y ho
    split at h
    · rename_i e sz he
      split at h
      · rename_i z kl l kc c hz hx hy
        split at h
        · rename_i hc
          obtain ⟨c1, c2, c3, c4, c5, c6⟩ := hc
          simp only [Option.some.injEq, Prod.mk.injEq] at h
          obtain ⟨rfl, rfl⟩ := h
          exact OpW.makeSlice0 ho he c1 c2 hz c3 hx hy c4 c5 c6 ⟨rfl, rfl⟩
        · cases h
      · cases h
    · cases h
  · split at h
    · split at h
      · rename_i u hq
        simp only [Option.some.injEq, Prod.mk.injEq] at h
        obtain ⟨rfl, rfl⟩ := h
        exact OpW.quiet hq ⟨rfl, rfl⟩
      · cases h
    · split at h
      · rename_i u H1 F1 he
        simp only [Option.some.injEq, Prod.mk.injEq] at h
        obtain ⟨rfl, rfl⟩ := h
        exact effE_sound hcl hco he
      · cases h

theorem guardB_sound {ops : Array Oper} {g : Option (Nat × Bool)} {b : Bool} {A B : Prop} (h : guardB ops g env = some b) (ha : b = true → A) (hb : b = false → B) : GuardW ops g env A B := by
  unfold guardB at h
  unfold GuardW
  split at h
  · injection h with e
    exact ha e.symm
  · rename_i j want
    simp only
    split at h
    · rename_i c hc
      rw [hc]
      injection h with e
      subst e
      refine ⟨fun hcw => ha (by simp [hcw]), fun hcw => hb (by subst hcw; cases want <;> rfl)⟩
    · rename_i hc
      rw [hc]
      injection h with e
      exact hb e.symm
    · cases h

theorem runSeq_sound {call : CallE} (hcl : CallOk P call) {code : CodeE} (hco : CodeOk P code) {ops : Array Oper} : ∀ (os : List Oper) (env : Env) (H : AHeap) (env' : Env) (H' : AHeap), (env.map (·.1)).Nodup → runSeq P call code ops os env H = some (env', H') →
    RW P N ops os env H (fun e1 H1 => e1 = env' ∧ H1 = H') ∧ (env'.map (·.1)).Nodup
  | [], env, H, env', H', hn, h => by
    simp only [runSeq, Option.some.injEq, Prod.mk.injEq] at h
    obtain ⟨rfl, rfl⟩ := h
    exact ⟨⟨rfl, rfl⟩, hn⟩
  | o :: r, env, H, env', H', hn, h => by
    simp only [runSeq] at h
    split at h
    · rename_i hg
      split at h
      · rename_i v H1 ho
        obtain ⟨h1, h2⟩ := runSeq_sound hcl hco r _ _ _ _ (putO_nodup hn o.dst v) h
        refine ⟨guardB_sound hg (fun _ => (opE_sound hcl hco ho).mono ?_) (fun e => by cases e), h2⟩
        rintro _ _ ⟨rfl, rfl⟩
        exact h1
      · cases h
    · rename_i hg
      obtain ⟨h1, h2⟩ := runSeq_sound hcl hco r _ _ _ _ (putO_nodup hn o.dst _) h
      exact ⟨guardB_sound hg (fun e => by cases e) (fun _ => h1), h2⟩
    · cases h
end

end Go.Ab

/- The abstract layer, 28: what the evaluator says is so: regions that draw their order. -/
namespace Go.Ab

section
variable {P : Program} {call : CallE} {code : CodeE} {H H' : AHeap} {v : AVal} {F : List Nat}

theorem appE_congr {ρ ρ' : Operand → AVal} {sx xx : Operand} {t : TypeId} (h1 : ρ' sx = ρ sx) (h2 : ρ' xx = ρ xx) : appE P ρ' H sx xx t = appE P ρ H sx xx t := by
  unfold appE
  rw [h1, h2]

theorem effE_congr {fr : Bool} {ρ ρ' : Operand → AVal} {op : Op} (h : ∀ x ∈ op.operands, ρ' x = ρ x) : effE P call code fr ρ' H op = effE P call code fr ρ H op := by
  cases op with
  | box t x => simp only [effE, h x (by simp [Op.operands])]
  | store t x y => simp only [effE, h x (by simp [Op.operands]), h y (by simp [Op.operands])]
  | call c =>
    obtain ⟨cal, ⟨args⟩, ⟨ats⟩⟩ := c
    simp only [Op.operands, Call.operands] at h
    cases cal with
    | invoke r m => rfl
    | value f =>
      have hf := h f (by simp)
      have ha : args.map ρ' = args.map ρ := List.map_congr_left fun x hx => h x (by simp [hx])
      simp only [effE, hf, ha]
    | builtin b =>
      cases b <;> try rfl
      simp only [effE]
      match args, ats with
      | [sx, xx], [t, t'] => simp only [appE_congr (h sx (by simp)) (h xx (by simp))]
      | [], _ => rfl
      | [_], _ => rfl
      | _ :: _ :: _ :: _, _ => rfl
      | [_, _], [] => rfl
      | [_, _], [_] => rfl
      | [_, _], _ :: _ :: _ :: _ => rfl
  | _ => rfl

theorem set_frame {E : Ent} {id : Nat} : (H.set id E).length = H.length ∧ ∀ i, i < H.length → i ∉ [id] → (H.set id E)[i]? = H[i]? :=
  ⟨by simp, fun i _ hi => List.getElem?_set_ne (fun e => hi (by simp [e]))⟩

theorem push_frame {E : Ent} : ∀ i, i < H.length → (H ++ [E])[i]? = H[i]? := fun _ hi => List.getElem?_append_left hi


theorem appE_frame {ρ : Operand → AVal} {sx xx : Operand} {t : TypeId} (h : appE P ρ H sx xx t = some (v, H', F)) : H.length ≤ H'.length ∧ ∀ i, i < H.length → i ∉ F → H'[i]? = H[i]? := by
  unfold appE at h
  split at h
  · split at h
    · split at h
      · split at h
        · split at h
          · simp only [Option.some.injEq, Prod.mk.injEq] at h
            obtain ⟨_, rfl, rfl⟩ := h
            exact ⟨by simp, fun i hi _ => push_frame i hi⟩
          · cases h
        · split at h
          · split at h
            · split at h
              · simp only [Option.some.injEq, Prod.mk.injEq] at h
                obtain ⟨_, rfl, rfl⟩ := h
                exact ⟨by simp, fun i hi hn => set_frame.2 i hi hn⟩
              · cases h
            · cases h
          · cases h
        · cases h
      · cases h
    · cases h
  · cases h

theorem storeE_frame {t : TypeId} {p u : AVal} (h : storeE P H t p u = some (v, H', F)) : H.length ≤ H'.length ∧ ∀ i, i < H.length → i ∉ F → H'[i]? = H[i]? := by
  unfold storeE at h
  split at h
  · split at h
    · split at h
      · simp only [Option.some.injEq, Prod.mk.injEq] at h
        obtain ⟨_, rfl, rfl⟩ := h
        exact ⟨by simp, fun i hi hn => set_frame.2 i hi hn⟩
      · cases h
    · cases h
  · cases h

theorem fnE_frame {G : FuncId} {vs : List AVal} (h : fnE P call true H G vs = some (v, H', F)) : H.length ≤ H'.length ∧ ∀ i, i < H.length → i ∉ F → H'[i]? = H[i]? := by
  unfold fnE at h
  split at h
  · simp only [if_true] at h
    split at h
    · split at h
      · simp only [Option.some.injEq, Prod.mk.injEq] at h
        obtain ⟨_, rfl, rfl⟩ := h
        refine ⟨by rw [mergeH_length]; omega, fun i hi hn => ?_⟩
        unfold mergeH
        rw [List.getElem?_append_left (by rw [setAll_length]; exact hi), setAll_other _ _ _ _ hn]
      · cases h
    · cases h
  · cases h

theorem yieldE_frame {id : Nat} {vs : List AVal} (h : yieldE code H id vs = some (v, H', F)) : F = List.range H.length := by
  unfold yieldE at h
  split at h
  case h_2 => cases h
  split at h
  case isFalse => cases h
  split at h
  case h_2 => cases h
  split at h
  case h_2 => cases h
  split at h
  case isFalse => cases h
  split at h
  case h_2 => cases h
  split at h
  case h_2 => cases h
  split at h
  all_goals first
    | (simp only [Option.some.injEq, Prod.mk.injEq] at h; exact h.2.2.symm)
    | cases h

theorem effE_frame {ρ : Operand → AVal} {op : Op} (h : effE P call code true ρ H op = some (v, H', F)) : ∀ i, i < H.length → i ∉ F → H'[i]? = H[i]? := by
  unfold effE at h
  split at h
  · split at h
    · simp only [Option.some.injEq, Prod.mk.injEq] at h
      obtain ⟨_, rfl, rfl⟩ := h
      exact fun i hi _ => push_frame i hi
    · cases h
  · exact (storeE_frame h).2
  · split at h
    · split at h
      · split at h
        · exact (appE_frame h).2
        · cases h
      · cases h
    · split at h
      · exact (fnE_frame h).2
      · intro i hi hn
        rw [yieldE_frame h] at hn
        exact (hn (List.mem_range.2 hi)).elim
      · cases h
    · cases h
  · cases h

theorem Quiet.of_dquiet {N : Nat} {o : Oper} {env : Env} (hv : dquiet P env H o.op = some v) : Quiet P N o env H (rdOf env o.op) v := by
  unfold dquiet at hv
  split at hv
  · rename_i t len parts ho
    split at hv
    · rename_i sz vs hp
      injection hv with e
      subst e
      intro env' H'' he hh
      refine OpW.buildSlice_v ho (sz := sz) (vs := vs) ?_ ⟨rfl, rfl⟩
      rw [← hp]
      have h1 : ∀ x ∈ o.op.operands, evalOp env' x = evalOp env x := evalOp_congr he
      unfold bsParts
      have : (parts.toList.map fun p => evalOp env' p.2) = parts.toList.map fun p => evalOp env p.2 := List.map_congr_left fun p hp => by
        refine h1 p.2 ?_
        rw [ho]
        simp only [Op.operands, List.mem_toArray, List.mem_map]
        exact ⟨p, hp, rfl⟩
      rw [this]
    · cases hv
  · exact Quiet.of_qeval hv

theorem runDraw_sound {N : Nat} (hcl : CallOk P call) (hco : CodeOk P code) {ops : Array Oper} : ∀ (l : List Nat) (pend : List (Nat × List Nat)) (env : Env) (H : AHeap) (env' : Env) (H' : AHeap), (env.map (·.1)).Nodup →
    runDraw P call code ops (masks ops.toList []) l pend env H = some (env', H') → RA P N ops l pend env H (fun e1 H1 => e1 = env' ∧ H1 = H') ∧ (env'.map (·.1)).Nodup
  | [], pend, env, H, env', H', hn, h => by
    simp only [runDraw, Option.some.injEq, Prod.mk.injEq] at h
    obtain ⟨rfl, rfl⟩ := h
    exact ⟨⟨rfl, rfl⟩, hn⟩
  | i :: r, pend, env, H, env', H', hn, h => by
    simp only [runDraw] at h
    simp only [RA]
    cases ho : ops[i]? with
    | none => rw [ho] at h; cases h
    | some o =>
      rw [ho] at h
      simp only at h ⊢
      split at h
      · rename_i t hop
        split at h
        · rename_i z hz
          split at h
          · rename_i hc
            simp only [Bool.and_eq_true] at hc
            obtain ⟨h1, h2⟩ := runDraw_sound hcl hco r _ _ _ _ _ (putO_nodup hn o.dst _) h
            have hg : o.guard = none := by simpa using hc.1
            rw [hg]
            refine ⟨.inr (.inr ⟨t, z, hop, hz, fun j hj => ?_, h1⟩), h2⟩
            have := List.all_eq_true.1 hc.2 j hj
            simpa using this
          · cases h
        · cases h
      · rename_i hno
        have hal : isAlloc ops i = false := by
          cases hb : isAlloc ops i with
          | false => rfl
          | true =>
            obtain ⟨t, ht⟩ := (isAlloc_iff ho).1 hb
            exact (hno t ht).elim
        split at h
        · rename_i hg
          obtain ⟨h1, h2⟩ := runDraw_sound hcl hco r _ _ _ _ _ (putO_nodup hn o.dst _) h
          exact ⟨guardB_sound hg (fun e => by cases e) (fun _ => ⟨hal, h1⟩), h2⟩
        · rename_i hg
          split at h
          · split at h
            · rename_i u hq
              split at h
              · rename_i hrd
                obtain ⟨h1, h2⟩ := runDraw_sound hcl hco r _ _ _ _ _ (putO_nodup hn o.dst _) h
                refine ⟨guardB_sound hg (fun _ => .inl ⟨hal, u, rdOf env o.op, Quiet.of_dquiet hq, fun id hid => by simpa using List.all_eq_true.1 hrd id hid, h1⟩) (fun e => by cases e), h2⟩
              · cases h
            · cases h
          · split at h
            · rename_i u H1 F he
              split at h
              · rename_i hc
                simp only [Bool.and_eq_true] at hc
                obtain ⟨⟨hc1, hc2⟩, hc3⟩ := hc
                obtain ⟨h1, h2⟩ := runDraw_sound hcl hco r _ _ _ _ _ (putO_nodup hn o.dst _) h
                refine ⟨guardB_sound hg (fun _ => .inr (.inl ⟨hal, F, fun j hj => by simpa using List.all_eq_true.1 hc1 j hj, fun p hp => ?_, fun w H'' => w = u ∧ H'' = H1, ⟨fun env2 he2 => ?_, ?_⟩, ?_, ?_⟩)) (fun e => by cases e), h2⟩
                · have := List.all_eq_true.1 hc2 p hp
                  simp only [Bool.or_eq_true, List.all_eq_true, Bool.not_eq_true'] at this
                  exact this.imp id fun h3 id hid => by simpa using h3 id hid
                · refine effE_sound hcl hco (fr := true) (F := F) ?_
                  rw [effE_congr (evalOp_congr he2)]
                  exact he
                · rintro _ _ ⟨rfl, rfl⟩ id hid hF
                  exact effE_frame he id hid hF
                · rintro _ _ ⟨rfl, rfl⟩
                  simpa using hc3
                · rintro _ _ ⟨rfl, rfl⟩
                  exact h1
              · cases h
            · cases h
        · cases h
end
end Go.Ab

/- The abstract layer, 29: what the evaluator says is so: code and calls. -/
namespace Go.Ab

def SumsOk (P : Program) (S : Sums) : Prop := ∀ F f args H v H', S F = some f → f args H = some (v, H') → ACalls P F args H fun u H'' => u = v ∧ H'' = H'

section
variable {P : Program}

theorem compact_weak {n0 : Nat} {v : AVal} {H : AHeap} (hn : n0 ≤ H.length) : RetWeak n0 v H (compact n0 v H).1 (compact n0 v H).2 := by
  unfold compact
  split
  · exact RetWeak.refl _ _ hn
  · split
    · rename_i hc
      simp only [Bool.and_eq_true, List.all_eq_true] at hc
      exact RetWeak.frz hn (.refl v) hc.1.1 fun e he => hc.1.2 e he
    · simp only
      split
      · rename_i hc
        obtain ⟨h1, h2, h3⟩ := hc
        refine RetWeak.sub _ h1 (by simp) (fun i hi => ?_) (fun b hb => List.all_eq_true.1 h2 b hb) h3
        rw [List.getElem?_append_left (by simpa using hi), List.getElem?_range hi]
      · exact RetWeak.refl _ _ hn

theorem callE1_sound {S : Sums} (hS : SumsOk P S) {code : CodeE} (hco : CodeOk P code) : CallOk P (callE1 P S code) := by
  intro F args H v H' h
  unfold callE1 at h
  split at h
  · rename_i r hr
    injection h with h; subst h
    unfold sumOf at hr
    split at hr
    · rename_i f hf
      exact hS F f args H v H' hf hr
    · cases hr
  · split at h
    · rename_i fn hfn
      split at h
      · rename_i c hc
        split at h
        · rename_i hl
          split at h
          · rename_i e env H1 hr
            obtain ⟨hw, _⟩ := hco _ _ _ _ _ _ _ (env0_nodup 0 args) hr
            refine ACalls.of_body hfn hc hl (hw.mono ?_)
            rintro ex env H1 ⟨rfl, rfl, rfl⟩
            have fin : ∀ {u : AVal}, resOf P fn env H1 = some u → (if H.length ≤ H1.length then some (compact H.length u H1) else none) = some (v, H') →
                ∃ v1 v2 H2, resOf P fn env H1 = some v1 ∧ RetWeak H.length v1 H1 v2 H2 ∧ v2 = v ∧ H2 = H' := by
              intro u hu hh
              split at hh
              · rename_i hle
                injection hh with e
                refine ⟨u, (compact H.length u H1).1, (compact H.length u H1).2, hu, compact_weak hle, by rw [e], by rw [e]⟩
              · cases hh
            cases ex with
            | normal =>
              simp only at h
              split at h
              · rename_i u hu
                exact fin hu h
              · cases h
            | ret =>
              simp only at h
              split at h
              · rename_i u hu
                exact fin hu h
              · cases h
            | _ => cases h
          · cases h
        · cases h
      · cases h
    · cases h

theorem codeE1_sound {call : CallE} (hcl : CallOk P call) {rec : CodeE} (hco : CodeOk P rec) (N : Nat) (c : Code) (hnl : ∀ x, c ≠ .loop x) (env : Env) (H : AHeap) (e : Exit) (env' : Env) (H' : AHeap) (hn : (env.map (·.1)).Nodup)
    (h : codeE1 P call rec N c env H = some (e, env', H')) : AWp P N c env H (fun e1 env1 H1 => e1 = e ∧ env1 = env' ∧ H1 = H') ∧ (env'.map (·.1)).Nodup := by
  unfold codeE1 at h
  split at h
  · simp only [Option.some.injEq, Prod.mk.injEq] at h
    obtain ⟨rfl, rfl, rfl⟩ := h
    exact ⟨AWp.skip ⟨rfl, rfl, rfl⟩, hn⟩
  · simp only [Option.some.injEq, Prod.mk.injEq] at h
    obtain ⟨rfl, rfl, rfl⟩ := h
    exact ⟨AWp.ret ⟨rfl, rfl, rfl⟩, hn⟩
  · simp only [Option.some.injEq, Prod.mk.injEq] at h
    obtain ⟨rfl, rfl, rfl⟩ := h
    exact ⟨AWp.exit ⟨rfl, rfl, rfl⟩, hn⟩
  · rename_i x y
    cases hx : rec N x env H with
    | none => rw [hx] at h; cases h
    | some q =>
      obtain ⟨e1, env1, H1⟩ := q
      rw [hx] at h
      obtain ⟨w1, n1⟩ := hco _ _ _ _ _ _ _ hn hx
      cases e1 with
      | normal =>
        obtain ⟨w2, n2⟩ := hco _ _ _ _ _ _ _ n1 h
        refine ⟨AWp.seq (w1.mono ?_), n2⟩
        rintro _ _ _ ⟨rfl, rfl, rfl⟩
        exact w2
      | _ =>
        simp only [Option.some.injEq, Prod.mk.injEq] at h
        obtain ⟨rfl, rfl, rfl⟩ := h
        refine ⟨AWp.seq (w1.mono ?_), n1⟩
        rintro _ _ _ ⟨rfl, rfl, rfl⟩
        exact ⟨rfl, rfl, rfl⟩
  · rename_i c x y
    split at h
    · rename_i hc
      obtain ⟨w1, n1⟩ := hco _ _ _ _ _ _ _ hn h
      exact ⟨AWp.cond hc (fun _ => w1) (fun e => by cases e), n1⟩
    · rename_i hc
      obtain ⟨w1, n1⟩ := hco _ _ _ _ _ _ _ hn h
      exact ⟨AWp.cond hc (fun e => by cases e) (fun _ => w1), n1⟩
    · cases h
  · rename_i id x
    cases hx : rec N x env H with
    | none => rw [hx] at h; cases h
    | some q =>
      obtain ⟨e1, env1, H1⟩ := q
      rw [hx] at h
      obtain ⟨w1, n1⟩ := hco _ _ _ _ _ _ _ hn hx
      cases e1 with
      | exit id' =>
        simp only at h
        refine ⟨AWp.block (w1.mono ?_), ?_⟩
        · rintro _ _ _ ⟨rfl, rfl, rfl⟩
          simp only [blockQ]
          split at h
          · rename_i hid
            simp only [Option.some.injEq, Prod.mk.injEq] at h
            rw [if_pos hid]
            exact ⟨h.1, h.2.1, h.2.2⟩
          · rename_i hid
            simp only [Option.some.injEq, Prod.mk.injEq] at h
            rw [if_neg hid]
            exact ⟨h.1, h.2.1, h.2.2⟩
        · split at h <;> (simp only [Option.some.injEq, Prod.mk.injEq] at h; rw [← h.2.1]; exact n1)
      | _ =>
        simp only [Option.some.injEq, Prod.mk.injEq] at h
        obtain ⟨rfl, rfl, rfl⟩ := h
        refine ⟨AWp.block (w1.mono ?_), n1⟩
        rintro _ _ _ ⟨rfl, rfl, rfl⟩
        exact ⟨rfl, rfl, rfl⟩
  · exact (hnl _ rfl).elim
  · rename_i id ops
    split at h
    · rename_i hd
      split at h
      · rename_i env1 H1 hr
        simp only [Option.some.injEq, Prod.mk.injEq] at h
        obtain ⟨rfl, rfl, rfl⟩ := h
        obtain ⟨w1, n1⟩ := runSeq_sound (N := N) hcl hco _ _ _ _ _ hn hr
        exact ⟨AWp.region hd (by simpa using w1), n1⟩
      · cases h
    · cases h
  · rename_i id ops
    split at h
    · rename_i hd
      simp only [Bool.and_eq_true] at hd
      split at h
      · rename_i env1 H1 hr
        simp only [Option.some.injEq, Prod.mk.injEq] at h
        obtain ⟨rfl, rfl, rfl⟩ := h
        obtain ⟨w1, n1⟩ := runDraw_sound (N := N) hcl hco _ _ _ _ _ _ hn hr
        exact ⟨AWp.region_draw hd.1.1 _ hd.1.2 hd.2 hn (by simpa using w1), n1⟩
      · cases h
    · cases h
  · rename_i f ps assign body
    split at h
    · rename_i G first caps hf
      split at h
      · rename_i hE
        split at h
        · rename_i v H1 hc
          split at h
          · rename_i L hL
            split at h
            · cases h
            · rename_i hb
              split at h
              · rename_i hp
                simp only [Option.some.injEq, Prod.mk.injEq] at h
                obtain ⟨rfl, rfl, rfl⟩ := h
                refine ⟨AWp.rangeFunc hf hE ((hcl _ _ _ _ _ hc).mono ?_), hn⟩
                rintro _ _ ⟨rfl, rfl⟩
                exact ⟨L, hL, hb, by rw [hp]; exact ⟨rfl, rfl, rfl⟩⟩
              · rename_i cd hp
                obtain ⟨w1, n1⟩ := hco _ _ _ _ _ _ _ hn h
                refine ⟨AWp.rangeFunc hf hE ((hcl _ _ _ _ _ hc).mono ?_), n1⟩
                rintro _ _ ⟨rfl, rfl⟩
                exact ⟨L, hL, hb, by rw [hp]; exact w1⟩
          · cases h
        · cases h
      · cases h
    · cases h
  · cases h

theorem codeE_sound {S : Sums} (hS : SumsOk P S) : ∀ n, CodeOk P (codeE P S n) := by
  intro n
  induction n using Nat.strongRecOn with
  | _ n ih =>
    intro N c env H e env' H' hn h
    match n, ih, h with
    | 0, _, h => cases h
    | n + 1, ih, h =>
      by_cases hl : ∃ x, c = .loop x
      · obtain ⟨x, rfl⟩ := hl
        have inv : ∀ (m : Nat) (env1 : Env) (H1 : AHeap), m ≤ n + 1 → codeE P S m N (.loop x) env1 H1 = some (e, env', H') → ∃ k, m = k + 1 ∧ ∃ e2 env2 H2, codeE P S k N x env1 H1 = some (e2, env2, H2) ∧
            ((e2 = .normal ∧ H1.length ≤ H2.length ∧ codeE P S k N (.loop x) env2 H2 = some (e, env', H')) ∨ (e2 ≠ .normal ∧ (e2, env2, H2) = (e, env', H'))) := by
          intro m env1 H1 hm hr
          cases m with
          | zero => cases hr
          | succ k =>
            refine ⟨k, rfl, ?_⟩
            simp only [codeE, codeE1] at hr
            cases hx : codeE P S k N x env1 H1 with
            | none => rw [hx] at hr; cases hr
            | some q =>
              obtain ⟨e2, env2, H2⟩ := q
              rw [hx] at hr
              refine ⟨e2, env2, H2, rfl, ?_⟩
              cases e2 with
              | normal =>
                simp only at hr
                split at hr
                · rename_i hle; exact .inl ⟨rfl, hle, hr⟩
                · cases hr
              | _ => exact .inr ⟨by simp, by simpa using hr⟩
        have nd : ∀ (m : Nat) (env1 : Env) (H1 : AHeap), m ≤ n + 1 → (env1.map (·.1)).Nodup → codeE P S m N (.loop x) env1 H1 = some (e, env', H') → (env'.map (·.1)).Nodup := by
          intro m
          induction m with
          | zero => intro env1 H1 _ _ hr; cases hr
          | succ k ihk =>
            intro env1 H1 hm hn1 hr
            obtain ⟨k', hk, e2, env2, H2, hx, hc⟩ := inv _ env1 H1 hm hr
            injection hk with hk
            subst hk
            obtain ⟨_, n2⟩ := ih k (by omega) _ _ _ _ _ _ _ hn1 hx
            rcases hc with ⟨_, _, h3⟩ | ⟨_, h3⟩
            · exact ihk env2 H2 (by omega) n2 h3
            · simp only [Prod.mk.injEq] at h3
              rw [← h3.2.1]
              exact n2
        refine ⟨AWp.loop (fun m env1 H1 => m ≤ n + 1 ∧ (env1.map (·.1)).Nodup ∧ H.length ≤ H1.length ∧ codeE P S m N (.loop x) env1 H1 = some (e, env', H')) (n + 1) ⟨Nat.le_refl _, hn, Nat.le_refl _, h⟩ ?_, nd _ _ _ (Nat.le_refl _) hn h⟩
        rintro m env1 H1 ⟨hm, hn1, hle1, hr⟩
        obtain ⟨k, rfl, e2, env2, H2, hx, hc⟩ := inv m env1 H1 hm hr
        obtain ⟨w1, n2⟩ := ih k (by omega) _ _ _ _ _ _ _ hn1 hx
        refine w1.mono ?_
        rintro ex e3 H3 ⟨rfl, rfl, rfl⟩
        rcases hc with ⟨rfl, hle, h3⟩ | ⟨hne, h3⟩
        · exact ⟨k, _, _, by omega, (Weak.refl N _ _).of_le (Nat.le_trans hle1 hle), by omega, n2, Nat.le_trans hle1 hle, h3⟩
        · simp only [Prod.mk.injEq] at h3
          cases ex with
          | normal => exact (hne rfl).elim
          | _ => exact h3
      · exact codeE1_sound (callE1_sound hS (ih n (by omega))) (ih n (by omega)) N c (fun x hx => hl ⟨x, hx⟩) env H e env' H' hn h

theorem callE_sound {S : Sums} (hS : SumsOk P S) (n : Nat) : CallOk P (callE P S n) := callE1_sound hS (codeE_sound hS n)
end
end Go.Ab

/- The abstract layer, 30: what is left of a loop, as a statement of its own; one round more. -/
namespace Go.Ab

/-- From the head of a loop that has been entered. -/
def loopIn (F : Fence) (n0 : Nat) (P : Program) (c : Code) (K : Exit → Act → World → Prop) (a : Act) (w : World) : Prop :=
  ∀ (b : Frame) (k : List Item) (cs : List Frame), b.roundOf = F.round → F.fn b.fn → F.room (cs.length + 1 + n0) →
    ∃ e a' w', K e a' w' ∧ ArrivesIn (Machine.fenced P F) P (lone (b.atR a (.code c :: .inLoop c :: k)) cs w) b k cs e a' w'

section
variable {P : Program} {F : Fence} {n0 : Nat} {c : Code} {K : Exit → Act → World → Prop} {a : Act} {w : World}

theorem loopIn_loop (h : loopIn F n0 P c K a w) : (Code.loop c).wpIn F n0 P K a w := by
  intro b k cs hro hb hr
  obtain ⟨e, a', w', hq, harr⟩ := h b k cs hro hb hr
  exact ⟨e, a', w', hq, .of_steps (.one (fenced_calm hb hr rfl) stepR_loop) harr⟩

theorem loopIn_unroll (h : c.wpIn F n0 P (Exit.then (fun a' w' => loopIn F n0 P c K a' w') K) a w) : loopIn F n0 P c K a w := by
  intro b k cs hro hb hr
  obtain ⟨e, a₁, w₁, hq, harr⟩ := h b (.inLoop c :: k) cs hro hb hr
  cases e with
  | normal =>
    obtain ⟨e₂, a₂, w₂, hq₂, harr₂⟩ := hq b k cs hro hb hr
    exact ⟨e₂, a₂, w₂, hq₂, .of_steps (StepsIn.trans harr (.one (fenced_calm hb hr rfl) stepR_inLoop)) harr₂⟩
  | exit id => exact ⟨_, a₁, w₁, hq, .pass (x := .inLoop c) rfl (fun _ _ => .inl (by simp)) harr⟩
  | goto l => exact ⟨_, a₁, w₁, hq, .pass (x := .inLoop c) rfl (fun _ _ => .inl (by simp)) harr⟩
  | ret => exact ⟨_, a₁, w₁, hq, .pass (x := .inLoop c) rfl (fun _ _ => .inl (by simp)) harr⟩
  | panic ch => exact ⟨_, a₁, w₁, hq, .pass (x := .inLoop c) rfl (fun _ _ => .inl (by simp)) harr⟩
  | outgrown => exact ⟨_, a₁, w₁, hq, .pass (x := .inLoop c) rfl (fun _ _ => .inl (by simp)) harr⟩

theorem loopIn_mono {K' : Exit → Act → World → Prop} (h : loopIn F n0 P c K a w) (hk : ∀ e a w, K e a w → K' e a w) : loopIn F n0 P c K' a w := by
  intro b k cs hro hb hr
  obtain ⟨e, a', w', hq, harr⟩ := h b k cs hro hb hr
  exact ⟨e, a', w', hk _ _ _ hq, harr⟩
end

/-- What is left of a loop whose body is 'c', from its head. -/
def ALoopW (P : Program) (N : Nat) (c : Code) (env : Env) (H : AHeap) (Q : Exit → Env → AHeap → Prop) : Prop :=
  ∀ (r : Option Nat) (X : Nat → Prop) (h : Gh) (a : Act) (w : World), St X h N env H a w → RoundOk r w →
    loopIn (FR r) 0 P c (fun e a' w' => ∃ h' env' H', Q e env' H' ∧ St X h' N env' H' a' w' ∧ Ext h H w h' H' w' ∧ DefExt a w a' w') a w

section
variable {P : Program} {N : Nat} {env : Env} {H : AHeap} {Q : Exit → Env → AHeap → Prop}

theorem ALoopW.mono {c : Code} {Q' : Exit → Env → AHeap → Prop} (h : ALoopW P N c env H Q) (hq : ∀ e env' H', Q e env' H' → Q' e env' H') : ALoopW P N c env H Q' := by
  intro r X g a w s k
  refine loopIn_mono (h r X g a w s k) ?_
  rintro e a' w' ⟨h', env', H', q, rest⟩
  exact ⟨h', env', H', hq _ _ _ q, rest⟩

theorem AWp.of_loopW {c : Code} (h : ALoopW P N c env H Q) : AWp P N (.loop c) env H Q :=
  fun r X g a w s k => loopIn_loop (h r X g a w s k)

theorem ALoopW.unroll {c : Code} (h : AWp P N c env H (thenQ (fun env' H' => ∃ env2 H2, Weak N H.length env' H' env2 H2 ∧ ALoopW P N c env2 H2 Q) Q)) : ALoopW P N c env H Q := by
  intro r X g a w s k
  refine loopIn_unroll (wpIn_mono (h r X g a w s k) ?_)
  rintro e a2 w2 ⟨h2, env2, H2, q, s2, x2, d2⟩
  cases e with
  | normal =>
    obtain ⟨env3, H3, hw, hl⟩ := q
    obtain ⟨h3, s3, hg, ho⟩ := hw.2 X h2 a2 w2 s2
    have x3 : Ext g H w h3 H3 w2 := Weak.ext rfl hw.1 hg ho x2
    refine loopIn_mono (hl r X h3 a2 w2 s3 (k.later x3)) ?_
    rintro e a' w' ⟨h', env', H', q', s', x', d'⟩
    exact ⟨h', env', H', q', s', x3.trans x', d2.trans s3.sim x3 x' d'⟩
  | _ => exact ⟨h2, env2, H2, q, s2, x2, d2⟩

/-- A loop stands for what is left of it. -/
def AW2 (P : Program) (N : Nat) (c : Code) (env : Env) (H : AHeap) (Q : Exit → Env → AHeap → Prop) : Prop :=
  match c with
  | .loop x => ALoopW P N x env H Q
  | c => AWp P N c env H Q

theorem AW2.awp {c : Code} (h : AW2 P N c env H Q) : AWp P N c env H Q := by
  unfold AW2 at h
  split at h
  · exact .of_loopW h
  · exact h

theorem AW2.of_awp {c : Code} (hn : ∀ x, c ≠ .loop x) (h : AWp P N c env H Q) : AW2 P N c env H Q := by
  unfold AW2
  split
  · exact (hn _ rfl).elim
  · exact h

theorem AW2.mono {c : Code} {Q' : Exit → Env → AHeap → Prop} (h : AW2 P N c env H Q) (hq : ∀ e env' H', Q e env' H' → Q' e env' H') : AW2 P N c env H Q' := by
  cases c with
  | loop x => exact ALoopW.mono h hq
  | _ => exact AWp.mono h hq

theorem ALoopW.weak {c : Code} {env2 : Env} {H2 : AHeap} (hw : Weak N H.length env H env2 H2) (h : ALoopW P N c env2 H2 Q) : ALoopW P N c env H Q := by
  intro r X g a w s k
  obtain ⟨h2, s2, hg, ho⟩ := hw.2 X g a w s
  refine loopIn_mono (h r X h2 a w s2 k) ?_
  rintro e a' w' ⟨h', env', H', q, s', x', d'⟩
  exact ⟨h', env', H', q, s', (Weak.ext rfl hw.1 hg ho (Ext.refl g H w)).trans x', d'⟩

theorem AW2.weak {c : Code} {env2 : Env} {H2 : AHeap} (hw : Weak N H.length env H env2 H2) (h : AW2 P N c env2 H2 Q) : AW2 P N c env H Q := by
  cases c with
  | loop x => exact ALoopW.weak hw h
  | _ => exact AWp.weak hw h

/-- What a code has led to may be weakened, for all that was there before it. -/
theorem AWp.after {c : Code} (h : AWp P N c env H (fun e env' H' => ∃ env2 H2, Weak N H.length env' H' env2 H2 ∧ Q e env2 H2)) : AWp P N c env H Q := by
  intro r X g a w s k
  refine wpIn_mono (h r X g a w s k) ?_
  rintro e a' w' ⟨h', env', H', ⟨env2, H2, hw, q⟩, s', x', d'⟩
  obtain ⟨h2, s2, hg, ho⟩ := hw.2 X h' a' w' s'
  exact ⟨h2, env2, H2, q, s2, Weak.ext rfl hw.1 hg ho x', d'⟩

theorem ALoopW.after {c : Code} (h : ALoopW P N c env H (fun e env' H' => ∃ env2 H2, Weak N H.length env' H' env2 H2 ∧ Q e env2 H2)) : ALoopW P N c env H Q := by
  intro r X g a w s k
  refine loopIn_mono (h r X g a w s k) ?_
  rintro e a' w' ⟨h', env', H', ⟨env2, H2, hw, q⟩, s', x', d'⟩
  obtain ⟨h2, s2, hg, ho⟩ := hw.2 X h' a' w' s'
  exact ⟨h2, env2, H2, q, s2, Weak.ext rfl hw.1 hg ho x', d'⟩

theorem AW2.after {c : Code} (h : AW2 P N c env H (fun e env' H' => ∃ env2 H2, Weak N H.length env' H' env2 H2 ∧ Q e env2 H2)) : AW2 P N c env H Q := by
  cases c with
  | loop x => exact ALoopW.after h
  | _ => exact AWp.after h
end
end Go.Ab

/- The abstract layer, 31: evaluation along one way, with advice; what is asked of the data is gathered in one proposition. -/
namespace Go.Ab

/-- Weakenings. -/
inductive Adj where
  /-- keep these temporaries and this many blocks -/
  | keep (ts : List Nat) (n : Nat)
  /-- a nil slice in a temporary will grow -/
  | virt (t sz : Nat)
  /-- a nil slice in a cell of a block will grow -/
  | virtC (b i sz : Nat)
  /-- a grown slice grows no more: in these temporaries and these cells -/
  | frz (id sz : Nat) (rows : List AVal) (ts : List Nat) (ps : List (Nat × Nat))
  /-- a nil slice is one of no elements: in a temporary, in a cell of one -/
  | nilT (t sz : Nat)
  | nilA (t i sz : Nat)
  /-- in a cell of a block -/
  | nilC (b i sz : Nat)
  /-- the length of a grown slice is named otherwise: in these temporaries and these cells -/
  | relen (id n : Nat) (ts : List Nat) (ps : List (Nat × Nat))

inductive Adv where
  | b (t : Bool)
  | v (v : AVal)
  | idx (e : AVal)
  | room
  | app (cs : List AVal) (n : Nat)
  | appF (rows : List AVal)
  | call (v : AVal) (upd : List (Nat × Ent)) (app : List Ent)
  | op (v : AVal) (H : AHeap)
  | code (e : Exit) (env : Env) (H : AHeap)
  | adj (l : List Adj)
  | cut

structure PS where
  k : Nat
  adv : List (Nat × Adv)
  obl : Prop

def PS.take (s : PS) : Option Adv × PS :=
  match s.adv with
  | [] => (none, ⟨s.k + 1, [], s.obl⟩)
  | (j, a) :: r =>
    match Nat.beq j s.k with
    | true => (some a, ⟨s.k + 1, r, s.obl⟩)
    | false => (none, ⟨s.k + 1, (j, a) :: r, s.obl⟩)

def PS.add (s : PS) (p : Prop) : PS := ⟨s.k, s.adv, p ∧ s.obl⟩

def PS.addO (s : PS) (a : Option Adv) (p : Prop) : PS :=
  match a with
  | none => s
  | some _ => s.add p

theorem PS.addO_obl {s : PS} {a : Option Adv} {p : Prop} (h : (s.addO a p).obl) : s.obl := by
  cases a with
  | none => exact h
  | some a => exact h.2

theorem PS.addO_p {s : PS} {a : Option Adv} {p : Prop} (hp : a = none → p) (h : (s.addO a p).obl) : p := by
  cases a with
  | none => exact hp rfl
  | some a => exact h.1

theorem PS.take_obl (s : PS) : s.take.2.obl = s.obl := by
  unfold PS.take
  split
  · rfl
  · split <;> rfl

def exactly (v : AVal) (H : AHeap) : AVal → AHeap → Prop := fun u H' => u = v ∧ H' = H
def exactly3 (e : Exit) (env : Env) (H : AHeap) : Exit → Env → AHeap → Prop := fun e1 env1 H1 => e1 = e ∧ env1 = env ∧ H1 = H

def callT (ρ : Operand → AVal) : Op → Option (Sum (FuncId × List AVal) (Nat × List AVal))
  | .call c =>
    match c.callee with
    | .value f =>
      match ρ f with
      | .fn (.func F) first caps => some (.inl (F, first ++ c.args.toList.map ρ ++ caps))
      | .yf id => some (.inr (id, c.args.toList.map ρ))
      | _ => none
    | _ => none
  | _ => none

def updH (H : AHeap) : List (Nat × Ent) → AHeap
  | [] => H
  | (i, e) :: r => updH (H.set i e) r

/-- What an operation that changes nothing yields, by advice, and what is asked for it. -/
def advQ (P : Program) (env : Env) (H : AHeap) (op : Op) : Adv → Option (AVal × Prop)
  | .v v => some (v, qeval P env H op = some v)
  | .b t =>
    match qeval P env H op with
    | some (.bool b) => some (.bool t, b = t)
    | _ => none
  | .idx e =>
    match op with
    | .indexAddr t x i =>
      match eI P t, evalOp env x, evalOp env i with
      | some (none, _, sz), .vs sz' rows, .int _ i => if sz = sz' then some (.vptr e.cells, 0 ≤ i ∧ rows[i.toNat]? = some e) else none
      | _, _, _ => none
    | _ => none
  | _ => none

theorem advQ_sound {P : Program} {env : Env} {H : AHeap} {op : Op} {a : Adv} {v : AVal} {p : Prop} (h : advQ P env H op a = some (v, p)) (hp : p) : qeval P env H op = some v := by
  unfold advQ at h
  split at h
  · simp only [Option.some.injEq, Prod.mk.injEq] at h
    obtain ⟨rfl, rfl⟩ := h
    exact hp
  · split at h
    · rename_i b hq
      simp only [Option.some.injEq, Prod.mk.injEq] at h
      obtain ⟨rfl, rfl⟩ := h
      rw [hq, hp]
    · cases h
  · split at h
    · split at h
      · rename_i e t x i e' sz sz' rows k i' h1 h2 h3
        split at h
        · rename_i hs
          simp only [Option.some.injEq, Prod.mk.injEq] at h
          obtain ⟨rfl, rfl⟩ := h
          obtain ⟨hi, hr⟩ := hp
          simp only [qeval, indexAddrV, h1, h2, h3]
          rw [if_pos ⟨hi, hs⟩, hr]
          rfl
        · cases h
      · cases h
    · cases h
  · cases h

/-- A store or an append whose bounds are asked, not found. -/
def roomE (P : Program) (ρ : Operand → AVal) (H : AHeap) (op : Op) : Adv → Option (AVal × AHeap × List Nat × Prop)
  | .room =>
    match op with
    | .store t x y =>
      match ρ x with
      | .ptr id g off =>
        match H[id]?, tI P t with
        | some (.live g' cs), some (_, n) =>
          if (ρ y).solid = true ∧ n = (ρ y).cells.length then some (.any, H.set id (.live g (setR cs off (ρ y).cells)), [id], g = g' ∧ off + (ρ y).cells.length ≤ cs.length) else none
        | _, _ => none
      | _ => none
    | _ => none
  | .app cs1 n1 =>
    match op with
    | .store t x y =>
      match ρ x with
      | .ptr id g off =>
        match H[id]?, tI P t with
        | some (.live g' cs), some (_, n) =>
          if (ρ y).solid = true ∧ n = (ρ y).cells.length then some (.any, H.set id (.live n1 cs1), [id], (g = n1 ∧ g' = n1) ∧ off + (ρ y).cells.length ≤ cs.length ∧ setR cs off (ρ y).cells = cs1) else none
        | _, _ => none
      | _ => none
    | .call c =>
      match c.callee with
      | .builtin .append =>
        match c.args.toList, c.argTypes.toList with
        | [sx, xx], [t, t'] =>
          if t = t' then
            match eI P t with
            | some (none, e, sz) =>
              if 0 < sz ∧ smallE P e = true then
                match slCells H sz (ρ xx) with
                | some (m, news) =>
                  match ρ sx with
                  | .nils => some (.sl H.length n1 sz 0 n1, H ++ [.live n1 cs1], [], m = n1 ∧ news = cs1 ∧ m ≤ 16777216)
                  | .sl id g sz' off n =>
                    if off = 0 ∧ sz' = sz then
                      match H[id]? with
                      | some (.live g' cs) => some (.sl id n1 sz 0 n1, H.set id (.live n1 cs1), [id], (g = n ∧ g' = n ∧ cs.length = n * sz ∧ n + m ≤ 16777216) ∧ n + m = n1 ∧ cs ++ news = cs1)
                      | _ => none
                    else none
                  | _ => none
                | none => none
              else none
            | _ => none
          else none
        | _, _ => none
      | _ => none
    | _ => none
  | .appF rows =>
    match op with
    | .call c =>
      match c.callee with
      | .builtin .append =>
        match c.args.toList, c.argTypes.toList with
        | [sx, xx], [t, t'] =>
          if t = t' then
            match eI P t with
            | some (none, e, sz) =>
              if 0 < sz ∧ smallE P e = true then
                match slCells H sz (ρ xx) with
                | some (m, news) =>
                  match ρ sx with
                  | .nils => some (.vs sz rows, H ++ [.dead], [], m = rows.length ∧ RowsAre sz news rows ∧ m ≤ 16777216)
                  | .sl id g sz' off n =>
                    if off = 0 ∧ sz' = sz then
                      match H[id]? with
                      | some (.live g' cs) => some (.vs sz rows, H.set id .dead, [id], (g = n ∧ g' = n ∧ cs.length = n * sz ∧ n + m ≤ 16777216) ∧ n + m = rows.length ∧ RowsAre sz (cs ++ news) rows)
                      | _ => none
                    else none
                  | _ => none
                | none => none
              else none
            | _ => none
          else none
        | _, _ => none
      | _ => none
    | _ => none
  | _ => none
end Go.Ab

/- The abstract layer, 32: slices whose generation is their length; stores and appends by advice are sound. -/
namespace Go.Ab
section
variable {X : Nat → Prop} {h : Gh} {H : AHeap} {w : World}

/-- A block may be given a later generation. -/
theorem Sim.regen (s : Sim X h H w) {id g g' : Nat} {cs : List AVal} (he : H[id]? = some (Ent.live g cs)) (hg : g ≤ g') :
    Sim X (h.at_ id (h.io id) g' (h.cap id)) (H.set id (.live g' cs)) w ∧ Ext h H w (h.at_ id (h.io id) g' (h.cap id)) (H.set id (.live g' cs)) w := by
  obtain ⟨hgen, hent⟩ := s.live id g cs he
  have hgen' : h.gen id = g := hgen
  have hidl : id < H.length := by
    rcases Nat.lt_or_ge id H.length with h2 | h2
    · exact h2
    · rw [List.getElem?_eq_none h2] at he; cases he
  rcases hent with ⟨hno, hcs⟩ | ⟨B, arr, T, fz, f, hio, hb, hcap, hle, hfz, hcells⟩
  · have hno' : h.io id = none := hno
    rcases Nat.eq_or_lt_of_le hg with e | hlt
    · subst e
      have e1 : h.at_ id (h.io id) g (h.cap id) = h := by
        unfold Gh.at_
        cases h
        simp only [Gh.mk.injEq]
        refine ⟨funext fun i => ?_, funext fun i => ?_, funext fun i => ?_⟩
        · split <;> simp_all
        · split
          · rename_i hi; subst hi; exact hgen'.symm
          · rfl
        · split <;> simp_all
      have e2 : H.set id (.live g cs) = H := by
        apply List.ext_getElem?
        intro i
        rw [List.getElem?_set]
        split
        · rename_i hi; subst hi; exact he.symm
        · rfl
      rw [e1, e2]
      exact ⟨s, Ext.refl _ _ _⟩
    · subst hcs
      obtain ⟨m, rfl⟩ : ∃ m, g' = m + 1 := ⟨g' - 1, by omega⟩
      have key : ∀ (h0 : Gh) (H0 : AHeap) (k : Nat), h0 = h.at_ id none (g + k) (h.cap id) → H0 = H.set id (.live (g + k) []) → (Sim X h0 H0 w ∧ Ext h H w h0 H0 w) → (Sim X (h.at_ id none (g + (k + 1)) (h.cap id)) (H.set id (.live (g + (k + 1)) [])) w ∧ Ext h H w (h.at_ id none (g + (k + 1)) (h.cap id)) (H.set id (.live (g + (k + 1)) [])) w) := by
        intro h0 H0 k e1 e2 hs
        subst e1 e2
        obtain ⟨q1, q2⟩ := hs.1.bump (id := id) (g := g + k) (cs := []) (by simp [hidl]) (by simp [Gh.at_])
        have e3 : (h.at_ id none (g + k) (h.cap id)).at_ id none (g + k + 1) ((h.at_ id none (g + k) (h.cap id)).cap id) = h.at_ id none (g + (k + 1)) (h.cap id) := by
          unfold Gh.at_
          simp only [Gh.mk.injEq]
          refine ⟨funext fun i => ?_, funext fun i => ?_, funext fun i => ?_⟩ <;> by_cases hi : i = id <;> simp [hi, Nat.add_assoc]
        rw [e3, List.set_set] at q1 q2
        exact ⟨q1, hs.2.trans q2⟩
      have all : ∀ k, Sim X (h.at_ id none (g + (k + 1)) (h.cap id)) (H.set id (.live (g + (k + 1)) [])) w ∧ Ext h H w (h.at_ id none (g + (k + 1)) (h.cap id)) (H.set id (.live (g + (k + 1)) [])) w := by
        intro k
        induction k with
        | zero => exact s.bump he hno'
        | succ k ih => exact key _ _ (k + 1) rfl rfl ih
      have := all (m - g)
      rw [show g + (m - g + 1) = m + 1 by omega] at this
      rw [hno']
      exact this
  · have hio' : h.io id = some B := hio
    have hcap' : arr.size = h.cap id := hcap
    have := s.upd (g' := g') (B := B) (arr := arr) (T := T) (fz := fz) (w' := w) he hg (fun _ => ⟨hio', hcap'.symm⟩) (.inl hio') hb (fun _ _ _ => rfl) rfl rfl rfl (Nat.le_refl _) ⟨f, hle, hfz, hcells⟩
    rw [hcap'] at this
    rw [hio']
    exact this
end

section
variable {P : Program} {N : Nat} {o : Oper} {env : Env} {H : AHeap} {K : AVal → AHeap → Prop}

theorem VRel.regen {X : Nat → Prop} {h : Gh} {H : AHeap} {w : World} {id g g' sz off n : Nat} {c : Value} {e : Ent} (hgen : h.gen id = g) (r : VRel (cx X h H w) (.sl id g sz off n) c) :
    VRel (cx X (h.at_ id (h.io id) g' (h.cap id)) (H.set id e) w) (.sl id g' sz off n) c := by
  cases r with
  | sl hid hg1 h1 hc =>
    refine .sl (by simpa [cx] using hid) (by simp [cx, Gh.at_]) h1 fun _ => ?_
    have := hc hgen
    simpa [cx, Gh.at_] using this

/-- The generation of a slice that an operation yields may be a later one. -/
theorem OpW.regen {id g g' sz off n : Nat} {cs : List AVal} {H1 : AHeap} (hg : g ≤ g') (he : H1[id]? = some (Ent.live g cs)) (h : OpW P N o env H fun v H' => v = .sl id g sz off n ∧ H' = H1) (hk : K (.sl id g' sz off n) (H1.set id (.live g' cs))) : OpW P N o env H K := by
  intro r X h0 a w s Q
  refine opwp_mono (h r X h0 a w s Q) ?_
  rintro a' w' ⟨c, v, h', H', ha, ⟨rfl, rfl⟩, hv, hs, hx⟩
  obtain ⟨q1, q2⟩ := hs.regen (g' := g') he hg
  exact ⟨c, _, _, _, ha, hk, VRel.regen (hs.live id g cs he).1 hv, q1, hx.trans q2⟩

theorem OpW.append_gen {sx xx : Operand} {t e : TypeId} {id g g' n sz m : Nat} {cs news : List AVal} (ho : o.op = .call { callee := .builtin .append, args := #[sx, xx], argTypes := #[t, t] }) (he : eI P t = some (none, e, sz)) (hsz : 0 < sz) (hse : smallE P e = true)
    (hs : evalOp env sx = .sl id g sz 0 n) (hid : H[id]? = some (Ent.live g cs)) (hn : cs.length = n * sz) (hx : slCells H sz (evalOp env xx) = some (m, news)) (hlim : n + m ≤ 16777216)
    (hgg : g < g' ∨ (g' = g ∧ m = 0)) (hk : K (.sl id g' sz 0 (n + m)) (H.set id (.live g' (cs ++ news)))) : OpW P N o env H K := by
  refine OpW.of_wp (by rw [ho]; rfl) ?_
  intro X h a w s Q
  obtain ⟨hun, b, hi⟩ := eI_slice he
  obtain ⟨i, z, hinfo, hby, hz, hzs⟩ := smallE_info hse
  have hisz := tI_size hi hinfo
  have rs := evalOp_rel s.env sx
  rw [hs] at rs
  have rx := evalOp_rel s.env xx
  obtain ⟨hgen, hent⟩ := s.sim.live id g cs hid
  have hgen' : h.gen id = g := hgen
  have hidl : id < H.length := by
    rcases Nat.lt_or_ge id H.length with h2 | h2
    · exact h2
    · rw [List.getElem?_eq_none h2] at hid; cases hid
  have hself : slCells H sz (.sl id g sz 0 n) = some (n, cs) := by
    simp only [slCells, hid]
    rw [if_pos ⟨trivial, trivial, by omega⟩]
    simp [← hn]
  unfold Oper.wp
  have hc0 : (h.io id = none ∧ n = 0 ∧ a.eval sx = .slice none 0 0) ∨ ∃ B cap, h.io id = some B ∧ n ≤ cap ∧ cap * sz ≤ h.cap id ∧ a.eval sx = .slice (some ⟨B, 0, none⟩) n cap := by
    generalize a.eval sx = c at rs
    cases rs with
    | sl p q r hc =>
      rcases hc hgen with ⟨h1, h2, _, h3⟩ | ⟨B, cap, h1, h2, h3, h4⟩
      · exact .inl ⟨h1, h2, h3⟩
      · exact .inr ⟨B, cap, h1, h2, by simpa [cx] using h3, h4⟩
  -- it grows
  have grow : ∀ (base : Option Addr) (cap : Nat), a.eval sx = .slice base n cap → cap < n + m → 0 < m →
      Oper.upon P o a (fun a' w' => ∃ c v h' H', a' = a.put o.dst c ∧ K v H' ∧ VRel (cx X h' H' w') v c ∧ Sim X h' H' w' ∧ Ext h H w h' H' w') Q ((execOp a.eval o).run P w) := by
    intro base cap has hgrow hmpos
    have sd := s.sim.drew
    obtain ⟨ax, capx, us, hax, hnl, hrel, hone, _, hfc⟩ := slCells_run (P := P) sd (rx.later (Ext.drew.later X)) hsz hx
    obtain ⟨_, _, _, _, _, _, _, hlen0, _⟩ := slCells_run (P := P) s.sim rx hsz hx
    obtain ⟨_, _, os, _, _, hrelo, honeo, _, hfo⟩ := slCells_run (P := P) sd (rs.later (Ext.drew.later X)) hsz hself
    obtain ⟨C, hC, hrun⟩ := append_grow (ty := o.type) (base := base) (n := n) (cap := cap) (os := os) hun hinfo hz hby hlen0 (by rw [hisz, ← has]; exact hfo) (by rw [hisz]; exact hfc) hgrow hlim
    rw [resolve_append ho (by rw [has]; exact hrun), Oper.upon_value]
    have hh : Holds (cx X h H w.drew) (cs ++ news) (os.toArray ++ us.toArray ++ Builtin.zeroCells z.cells (C - (n + m))) (0, 0) := holds_row hrelo hrel honeo hone
    obtain ⟨q1, q2⟩ := sd.upd (g' := g') (B := w.heap.size) (T := e) (fz := (0, 0)) (w' := { w.drew with heap := w.drew.heap.push (.cells (os.toArray ++ us.toArray ++ Builtin.zeroCells z.cells (C - (n + m))) e) }) hid (by omega) (fun hne => by omega)
      (.inr (Nat.le_refl _)) (by show (w.heap.push _)[w.heap.size]? = _; simp) (fun k hk hne => by show (w.heap.push _)[k]? = w.heap[k]?; rw [Array.getElem?_push, if_neg hne]) rfl rfl rfl (by show w.heap.size ≤ (w.heap.push _).size; simp) hh
    refine ⟨_, _, _, _, rfl, hk, ?_, q1, Ext.drew.trans q2⟩
    refine .sl (by simpa [cx] using hidl) (by simp [cx, Gh.at_]) rfl fun _ => .inr ⟨w.heap.size, C, by simp [cx, Gh.at_], hC, ?_, rfl⟩
    have e1 : us.length = m * sz := by rw [hrel.1, hnl]
    have e2 : os.length = n * sz := by rw [hrelo.1, hn]
    simp only [cx, Gh.at_, if_true, Array.size_append, List.size_toArray, zeroCells_size, hzs, hisz, e1, e2]
    have : (C - (n + m)) * sz + (n * sz + m * sz) = C * sz := by rw [← Nat.add_mul, ← Nat.add_mul]; congr 1; omega
    omega
  rcases hc0 with ⟨hio, rfl, has⟩ | ⟨B, cap, hio, hcap, hcap2, has⟩
  · rcases Nat.eq_zero_or_pos m with hm | hm
    · subst hm
      obtain ⟨ax, capx, us, hax, hnl, hrel, hone, hlen, hfc⟩ := slCells_run (P := P) s.sim rx hsz hx
      have hnews : news = [] := List.eq_nil_of_length_eq_zero (by omega)
      subst hnews
      have hcs : cs = [] := List.eq_nil_of_length_eq_zero (by omega)
      subst hcs
      have hus : us = [] := List.eq_nil_of_length_eq_zero hrel.1
      subst hus
      have hrun := append_fit (ty := o.type) (base := none) (n := 0) (cap := 0) (w' := w) hun hinfo hlen (by rw [hisz]; exact hfc) (by omega) rfl
      rw [resolve_append ho (by rw [has]; exact hrun), Oper.upon_value]
      obtain ⟨q1, q2⟩ := s.sim.regen (g' := g') hid (by omega)
      rw [hio] at q1 q2
      rw [List.append_nil] at hk
      refine ⟨_, _, _, _, rfl, hk, ?_, q1, q2⟩
      exact .sl (by simpa [cx] using hidl) (by simp [cx, Gh.at_]) rfl fun _ => .inl ⟨by simp [cx, Gh.at_], rfl, rfl, rfl⟩
    · exact grow none 0 has (by omega) hm
  · rcases Nat.lt_or_ge cap (n + m) with hlt | hge
    · exact grow _ cap has hlt (by omega)
    · obtain ⟨ax, capx, us, hax, hnl, hrel, hone, hlen, hfc⟩ := slCells_run (P := P) s.sim rx hsz hx
      rcases hent with ⟨hno, _⟩ | ⟨B', arr, T, fz, f, hio', hb, hcap', hle, hfz, hcells⟩
      · rw [show (cx X h H w).io id = h.io id from rfl, hio] at hno; cases hno
      · rw [show (cx X h H w).io id = h.io id from rfl, hio] at hio'
        injection hio' with e0
        subst e0
        have hcap'' : arr.size = h.cap id := hcap'
        have e1 : us.length = m * sz := by rw [hrel.1, hnl]
        have hroom : n * sz + m * sz ≤ arr.size := by
          rw [← Nat.add_mul, hcap'']
          exact Nat.le_trans (Nat.mul_le_mul_right _ hge) hcap2
        obtain ⟨w', arr', p1, p2, p3, p4, p5, p6, p7, p8, p9⟩ := storeCells_run (P := P) (off := n * sz) us 0 arr w hb (by omega) hfz hone
        have hrun := append_fit (ty := o.type) (base := some ⟨B, 0, none⟩) (n := n) (cap := cap) (w' := w') hun hinfo hlen (by rw [hisz]; exact hfc) hge (by rw [hisz]; simp only [add_off, Nat.zero_add]; exact p1)
        rw [resolve_append ho (by rw [has]; exact hrun), Oper.upon_value]
        have hh : Holds (cx X h H w) (cs ++ news) arr' fz := by
          refine ⟨fun j => if n * sz ≤ j ∧ j < n * sz + m * sz then us.getD (j - n * sz) undef else f j, by simp [hn, hnl]; omega, by rw [p3]; exact hfz, fun j v hj => ?_⟩
          rw [p4]
          simp only [Nat.add_zero, e1]
          rcases Nat.lt_or_ge j cs.length with h2 | h2
          · rw [List.getElem?_append_left h2] at hj
            rw [if_neg (by omega), if_neg (by omega)]
            exact hcells j v hj
          · rw [List.getElem?_append_right h2] at hj
            have hjl : j - cs.length < news.length := by
              rcases Nat.lt_or_ge (j - cs.length) news.length with h3 | h3
              · exact h3
              · rw [List.getElem?_eq_none h3] at hj; cases hj
            rw [if_pos (by omega), if_pos (by omega)]
            have hg : us[j - n * sz]? = some (us[j - n * sz]'(by omega)) := List.getElem?_eq_getElem (by omega)
            have eg : us.getD (j - n * sz) undef = us[j - n * sz]'(by omega) := by rw [List.getD_eq_getElem?_getD, hg]; rfl
            rw [eg]
            refine ⟨hg, hone _ (List.getElem_mem _), hrel.2 _ v _ hj ?_⟩
            rw [hn]
            exact hg
        obtain ⟨q1, q2⟩ := s.sim.upd (g' := g') (B := B) (arr := arr') (T := T) (fz := fz) (w' := w') hid (by omega) (fun _ => ⟨hio, by rw [p3, hcap'']⟩) (.inl hio) p2 (fun k _ hk => p5 k hk) p6 p7 p8 (by rw [p9]; exact Nat.le_refl _) hh
        refine ⟨_, _, _, _, rfl, hk, ?_, q1, q2⟩
        refine .sl (by simpa [cx] using hidl) (by simp [cx, Gh.at_]) rfl fun _ => .inr ⟨B, cap, by simp [cx, Gh.at_], hge, ?_, rfl⟩
        simp only [cx, Gh.at_, if_true, p3, Nat.zero_add, hcap'']
        exact hcap2

theorem OpW.append_nil_gen {sx xx : Operand} {t e : TypeId} {sz m : Nat} {news : List AVal} (ho : o.op = .call { callee := .builtin .append, args := #[sx, xx], argTypes := #[t, t] }) (he : eI P t = some (none, e, sz)) (hsz : 0 < sz) (hse : smallE P e = true)
    (hs : evalOp env sx = .nils) (hx : slCells H sz (evalOp env xx) = some (m, news)) (hlim : m ≤ 16777216) (hk : K (.sl H.length m sz 0 m) (H ++ [.live m news])) : OpW P N o env H K := by
  refine OpW.regen (id := H.length) (g := 0) (g' := m) (cs := news) (Nat.zero_le _) (by simp) (OpW.append_nil ho he hsz hse hs hx hlim ⟨rfl, rfl⟩) ?_
  simpa using hk

theorem OpW.buildSlice_gen {t : TypeId} {len sz : Nat} {parts : Array (Nat × Operand)} {vs : List AVal} (ho : o.op = .buildSlice t len parts) (hp : bsParts P env t len parts = some (sz, vs))
    (hk : K (.sl H.length vs.length sz 0 vs.length) (H ++ [.live vs.length (vs.flatMap AVal.cells)])) : OpW P N o env H K := by
  refine OpW.regen (id := H.length) (g := 0) (g' := vs.length) (cs := vs.flatMap AVal.cells) (Nat.zero_le _) (by simp) (OpW.buildSlice_own ho hp ⟨rfl, rfl⟩) ?_
  simpa using hk

theorem OpW.makeSlice {t e : TypeId} {x y : Operand} {kl kc : IntKind} {l c : Int} {sz : Nat} {z : List AVal} (ho : o.op = .makeSlice t x y) (he : eI P t = some (none, e, sz)) (hsz : 0 < sz) (hse : smallE P e = true) (hz : zeroA P e = some z) (hzl : z.length = sz)
    (hx : evalOp env x = .int kl l) (hy : evalOp env y = .int kc c) (h0 : 0 ≤ l) (h1 : l ≤ c) (h2 : c ≤ 16777216) (hk : K (.sl H.length l.toNat sz 0 l.toNat) (H ++ [.live l.toNat (List.replicate l.toNat z).flatten])) : OpW P N o env H K := by
  refine OpW.regen (id := H.length) (g := 0) (g' := l.toNat) (cs := (List.replicate l.toNat z).flatten) (H1 := H ++ [.live 0 (List.replicate l.toNat z).flatten]) (sz := sz) (off := 0) (n := l.toNat) (Nat.zero_le _) (by simp) (OpW.makeSlice0 ho he hsz hse hz hzl hx hy h0 h1 h2 ⟨rfl, rfl⟩) (by simpa using hk)

/-- What an operation yields may be frozen at once. -/
theorem OpW.freeze {id g sz n : Nat} {cs rows : List AVal} {H1 : AHeap} (he : H1[id]? = some (Ent.live g cs)) (hr : RowsAre sz cs rows) (hn : rows.length = n) (h : OpW P N o env H fun v H' => v = .sl id g sz 0 n ∧ H' = H1) (hk : K (.vs sz rows) (H1.set id .dead)) : OpW P N o env H K := by
  intro r X h0 a w s Q
  refine opwp_mono (h r X h0 a w s Q) ?_
  rintro a' w' ⟨c, v, h', H', ha, ⟨rfl, rfl⟩, hv, hs, hx⟩
  have hidl : id < H'.length := by
    rcases Nat.lt_or_ge id H'.length with h2 | h2
    · exact h2
    · rw [List.getElem?_eq_none h2] at he; cases he
  obtain ⟨q1, q2⟩ := hs.kill hidl
  refine ⟨c, _, _, _, ha, hk, VRel.froze hs he hr hn (q2.later X) rfl (fun B hio ho => ?_) hv, q1, hx.trans q2⟩
  rcases ho with hX | ⟨j, e, hj, hne, hio'⟩
  · exact (hs.out B hX).2 ⟨id, _, he, by simp, hio⟩
  · rcases set_key hidl hj with ⟨hji, hj'⟩ | ⟨rfl, rfl⟩
    · exact hji (hs.inj j id _ _ B hj' he hne (by simp) hio' hio)
    · exact hne rfl

theorem roomE_sound {v : AVal} {H' : AHeap} {F : List Nat} {a : Adv} {p : Prop} (h : roomE P (evalOp env) H o.op a = some (v, H', F, p)) (hp : p) : OpW P N o env H (exactly v H') := by
  unfold roomE at h
  split at h
  · split at h
    · rename_i t x y ho
      split at h
      · rename_i id g off hx
        split at h
        · rename_i g' cs b n he ht
          split at h
          · rename_i hc
            obtain ⟨h1, rfl⟩ := hc
            simp only [Option.some.injEq, Prod.mk.injEq] at h
            obtain ⟨rfl, rfl, rfl, rfl⟩ := h
            obtain ⟨rfl, hp⟩ := hp
            exact OpW.store ho hx rfl h1 he ht hp ⟨rfl, rfl⟩
          · cases h
        · cases h
      · cases h
    · cases h
  · split at h
    · rename_i t x y ho
      split at h
      · rename_i id g off hx
        split at h
        · rename_i g' cs b n he ht
          split at h
          · rename_i hc
            obtain ⟨h1, rfl⟩ := hc
            simp only [Option.some.injEq, Prod.mk.injEq] at h
            obtain ⟨rfl, rfl, rfl, rfl⟩ := h
            obtain ⟨⟨rfl, rfl⟩, hp, rfl⟩ := hp
            exact OpW.store ho hx rfl h1 he ht hp ⟨rfl, rfl⟩
          · cases h
        · cases h
      · cases h
    · rename_i c ho'
      obtain ⟨cal, ⟨args⟩, ⟨ats⟩⟩ := c
      split at h
      · rename_i hcal
        simp only at hcal
        subst hcal
        split at h
        · rename_i sx xx t t' ha hat
          simp only at ha hat
          subst ha hat
          split at h
          · rename_i htt
            subst htt
            split at h
            · rename_i e sz he
              split at h
              · rename_i hc
                split at h
                · rename_i m news hsl
                  split at h
                  · rename_i hs
                    simp only [Option.some.injEq, Prod.mk.injEq] at h
                    obtain ⟨rfl, rfl, rfl, rfl⟩ := h
                    obtain ⟨rfl, rfl, hp⟩ := hp
                    exact OpW.append_nil_gen ho' he hc.1 hc.2 hs hsl hp ⟨rfl, rfl⟩
                  · rename_i id g sz' off n hs
                    split at h
                    · rename_i hoz
                      obtain ⟨rfl, rfl⟩ := hoz
                      split at h
                      · rename_i g' cs hid
                        simp only [Option.some.injEq, Prod.mk.injEq] at h
                        obtain ⟨rfl, rfl, rfl, rfl⟩ := h
                        obtain ⟨⟨rfl, rfl, hn, hlim⟩, rfl, rfl⟩ := hp
                        exact OpW.append_gen ho' he hc.1 hc.2 hs hid hn hsl hlim (by omega) ⟨rfl, rfl⟩
                      · cases h
                    · cases h
                  · cases h
                · cases h
              · cases h
            · cases h
          · cases h
        · cases h
      · cases h
    · cases h
  · split at h
    · rename_i c ho'
      obtain ⟨cal, ⟨args⟩, ⟨ats⟩⟩ := c
      split at h
      · rename_i hcal
        simp only at hcal
        subst hcal
        split at h
        · rename_i sx xx t t' ha hat
          simp only at ha hat
          subst ha hat
          split at h
          · rename_i htt
            subst htt
            split at h
            · rename_i e sz he
              split at h
              · rename_i hc
                split at h
                · rename_i m news hsl
                  split at h
                  · rename_i hs
                    simp only [Option.some.injEq, Prod.mk.injEq] at h
                    obtain ⟨rfl, rfl, rfl, rfl⟩ := h
                    obtain ⟨hm, hr, hp⟩ := hp
                    refine OpW.freeze (id := H.length) (g := m) (cs := news) (H1 := H ++ [.live m news]) (by simp) hr hm.symm (OpW.append_nil_gen ho' he hc.1 hc.2 hs hsl hp ⟨rfl, rfl⟩) ⟨rfl, ?_⟩
                    simp
                  · rename_i id g sz' off n hs
                    split at h
                    · rename_i hoz
                      obtain ⟨rfl, rfl⟩ := hoz
                      split at h
                      · rename_i g' cs hid
                        simp only [Option.some.injEq, Prod.mk.injEq] at h
                        obtain ⟨rfl, rfl, rfl, rfl⟩ := h
                        obtain ⟨⟨rfl, rfl, hn, hlim⟩, hm, hr⟩ := hp
                        have hidl : id < H.length := by
                          rcases Nat.lt_or_ge id H.length with h2 | h2
                          · exact h2
                          · rw [List.getElem?_eq_none h2] at hid; cases hid
                        refine OpW.freeze (id := id) (g := g' + m) (cs := cs ++ news) (H1 := H.set id (.live (g' + m) (cs ++ news))) (by simp [hidl]) hr hm.symm (OpW.append_gen ho' he hc.1 hc.2 hs hid hn hsl hlim (by omega) ⟨rfl, rfl⟩) ⟨rfl, ?_⟩
                        rw [List.set_set]
                      · cases h
                    · cases h
                  · cases h
                · cases h
              · cases h
            · cases h
          · cases h
        · cases h
      · cases h
    · cases h
  · cases h
end
end Go.Ab
