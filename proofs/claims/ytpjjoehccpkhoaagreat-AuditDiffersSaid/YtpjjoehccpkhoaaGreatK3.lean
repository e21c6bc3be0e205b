/- A layer over the model in which values are trees: its laws, its evaluators and their soundness, part 3. -/
import Derived.Test.YtpjjoehccpkhoaaGreatK2
import Derived.Lib.FrozenHead2
import Derived.ProofKit

/- The abstract layer: weakenings that evaluation along one way may make: forgetting, giving up blocks, freezing a grown slice, letting a nil slice grow. -/
namespace Go.Ab

/-- A word becomes another one as its block is given up. -/
def FrR (id g sz : Nat) (rows : List AVal) (v v' : AVal) : Prop := v' = v ∨ (v = .sl id g sz 0 rows.length ∧ v' = .vs sz rows)

def EntR (id g sz : Nat) (rows : List AVal) (e e' : Ent) : Prop :=
  e' = .dead ∨ e' = e ∨ ∃ g0 cs cs', e = .live g0 cs ∧ e' = .live g0 cs' ∧ cs'.length = cs.length ∧ ∀ (i : Nat) (v' : AVal), cs'[i]? = some v' → ∃ v, cs[i]? = some v ∧ FrR id g sz rows v v'

theorem Weak.frzG {N : Nat} {env env2 : Env} {H H2 : AHeap} {id g sz : Nat} {cs rows : List AVal} (he : H[id]? = some (Ent.live g cs)) (hr : RowsAre sz cs rows) (hl : H2.length = H.length) (hd : H2[id]? = some .dead)
    (hH : ∀ (j : Nat) (e' : Ent), H2[j]? = some e' → ∃ e, H[j]? = some e ∧ EntR id g sz rows e e') (hE : ∀ t v', (t, v') ∈ env2 → ((t, v') ∈ env ∨ ∃ v, (t, v) ∈ env ∧ FrR id g sz rows v v')) : Weak N H.length env H env2 H2 := by
  refine ⟨by omega, fun X h a w s => ⟨h, ?_, fun _ _ => ⟨rfl, rfl, rfl⟩, ?_⟩⟩
  · have own : ∀ B, owned h H2 B → ∃ j e, j ≠ id ∧ H[j]? = some e ∧ e ≠ .dead ∧ h.io j = some B := by
      rintro B ⟨j, e', hj, hne, hio⟩
      obtain ⟨e, hj0, hR⟩ := hH j e' hj
      refine ⟨j, e, fun hji => ?_, hj0, fun hde => ?_, hio⟩
      · subst hji; rw [hd] at hj; injection hj with hj; exact hne hj.symm
      · subst hde
        rcases hR with h1 | h1 | ⟨_, _, _, h1, _⟩
        · exact hne h1
        · exact hne h1
        · cases h1
    have own' : ∀ B, owned h H2 B → owned h H B := fun B ho => by
      obtain ⟨j, e, _, h1, h2, h3⟩ := own B ho
      exact ⟨j, e, h1, h2, h3⟩
    have lat : (cx X h H w).Later (cx X h H2 w) :=
      { size := Nat.le_refl _, keep := fun _ _ _ _ => rfl, own := fun B _ ho => ho.imp _root_.id (own' B), n := by simp [cx, hl], gen := fun _ _ => Nat.le_refl _, same := fun _ _ _ => ⟨rfl, rfl⟩ }
    have hO : ∀ B, h.io id = some B → ¬ (cx X h H2 w).O B := by
      rintro B hio (hX | ho)
      · exact (s.sim.out B hX).2 ⟨id, _, he, by simp, hio⟩
      · obtain ⟨j, e, hji, h1, h2, h3⟩ := own B ho
        exact hji (s.sim.inj j id _ _ B h1 he h2 (by simp) h3 hio)
    have conv : ∀ {v v' : AVal} {c : Value}, FrR id g sz rows v v' → VRel (cx X h H w) v c → VRel (cx X h H2 w) v' c := by
      rintro v v' c (rfl | ⟨rfl, rfl⟩) r
      · exact r.later lat
      · exact VRel.froze s.sim he hr rfl lat rfl hO r
    refine ⟨⟨fun B hB => ⟨(s.sim.out B hB).1, fun ho => (s.sim.out B hB).2 (own' B ho)⟩, fun j g0 cs' hj => ?_, fun j L hj => ?_, fun i j e e' B h1 h2 hn1 hn2 h3 h4 => ?_, s.sim.bldKeep fun j e hj hB => ?_⟩, fun t v' m => ?_, s.size⟩
    · obtain ⟨e, hj0, hR⟩ := hH j _ hj
      have fin : ∀ cs0, H[j]? = some (Ent.live g0 cs0) → cs'.length = cs0.length → (∀ (i : Nat) (v' : AVal), cs'[i]? = some v' → ∃ v, cs0[i]? = some v ∧ FrR id g sz rows v v') → EntAt (cx X h H2 w) j g0 cs' := by
        intro cs0 hj1 hlen hcs
        obtain ⟨hg, hh⟩ := s.sim.live j g0 cs0 hj1
        refine ⟨hg, ?_⟩
        rcases hh with ⟨hio, h0⟩ | ⟨B, arr, T, fz, f, hio, hb, hcap, hle, hfz, hcells⟩
        · refine .inl ⟨hio, ?_⟩
          subst h0
          exact List.eq_nil_of_length_eq_zero (by simpa using hlen)
        · refine .inr ⟨B, arr, T, fz, f, hio, hb, hcap, by omega, hfz, fun i v' hi => ?_⟩
          obtain ⟨v, hv, hR⟩ := hcs i v' hi
          obtain ⟨p1, p2, p3⟩ := hcells i v hv
          exact ⟨p1, p2, conv hR p3⟩
      rcases hR with h1 | h1 | ⟨g1, cs0, cs1, h1, h2, h3, h4⟩
      · cases h1
      · exact fin cs' (by rw [hj0, ← h1]) rfl fun i v' hi => ⟨v', hi, .inl rfl⟩
      · injection h2 with h5 h6
        subst h5 h6 h1
        exact fin cs0 hj0 h3 h4
    · obtain ⟨e, hj0, hR⟩ := hH j _ hj
      rcases hR with h1 | h1 | ⟨g1, cs0, cs1, h1, h2, h3, h4⟩
      · cases h1
      · obtain ⟨hg, B, r, q1, q2, q3, q4, q5, q6, q7, q8, q9⟩ := s.sim.lp j L (by rw [hj0, ← h1])
        exact ⟨hg, B, r, q1, q2, q3, q4, q5, q6, q7, q8, fun t v m => ⟨(q9 t v m).1, (q9 t v m).2.later lat⟩⟩
      · cases h2
    · obtain ⟨d, hd1, hd2⟩ := hH i _ h1
      obtain ⟨d', hd1', hd2'⟩ := hH j _ h2
      have nd : ∀ {a b : Ent}, EntR id g sz rows a b → b ≠ .dead → a ≠ .dead := by
        rintro a b (h1 | h1 | ⟨_, _, _, h1, _⟩) hb ha
        · exact hb h1
        · exact hb (h1.trans ha)
        · rw [ha] at h1; cases h1
      exact s.sim.inj i j _ _ B hd1 hd1' (nd hd2 hn1) (nd hd2' hn2) h3 h4
    · obtain ⟨e0, hj0, hR⟩ := hH j _ hj
      refine ⟨?_, rfl, rfl, fun _ _ _ _ _ => rfl⟩
      rcases hR with h1 | h1 | ⟨_, _, _, _, h2, _⟩
      · subst h1; cases hB
      · rw [hj0, ← h1]
      · subst h2; cases hB
    · rcases hE t v' m with m1 | ⟨v, m1, hR⟩
      · exact ⟨(s.env t v' m1).1, (s.env t v' m1).2.later lat⟩
      · exact ⟨(s.env t v m1).1, conv hR (s.env t v m1).2⟩
  · rintro B ⟨j, e', hj, hne, hio⟩
    obtain ⟨e, hj0, hR⟩ := hH j e' hj
    refine ⟨j, e, hj0, fun hde => ?_, hio⟩
    subst hde
    rcases hR with h1 | h1 | ⟨_, _, _, h1, _⟩
    · exact hne h1
    · exact hne h1
    · cases h1

/-- A nil slice in a cell gets a number: it will grow. -/
theorem Weak.virtC {N : Nat} {env : Env} {H : AHeap} {b g i sz : Nat} {cs : List AVal} (hb : H[b]? = some (Ent.live g cs)) (hi : cs[i]? = some .nils) :
    Weak N H.length env H env (H.set b (.live g (cs.set i (.sl H.length 0 sz 0 0))) ++ [.live 0 []]) := by
  have hbl : b < H.length := by
    rcases Nat.lt_or_ge b H.length with h2 | h2
    · exact h2
    · rw [List.getElem?_eq_none h2] at hb; cases hb
  refine ⟨by simp, fun X h a w s => ⟨h.at_ H.length none 0 0, ?_, fun id hid => by simp [Gh.at_, Nat.ne_of_lt hid], ?_⟩⟩
  · have s1 := s.sim.virt
    have hx := Ext.virt (h := h) (H := H) (w := w)
    have lat0 := hx.later X
    have key : ∀ (j : Nat) (e : Ent), (H.set b (.live g (cs.set i (.sl H.length 0 sz 0 0))) ++ [Ent.live 0 []])[j]? = some e →
        (j ≠ b ∧ (H ++ [Ent.live 0 []])[j]? = some e) ∨ (j = b ∧ e = .live g (cs.set i (.sl H.length 0 sz 0 0))) := by
      intro j e hj
      rcases Nat.lt_or_ge j H.length with hl | hl
      · rw [List.getElem?_append_left (by simpa using hl), List.getElem?_set] at hj
        split at hj
        · rename_i hbj
          subst hbj
          injection hj with hj
          exact .inr ⟨rfl, hj.symm⟩
        · rename_i hbj
          exact .inl ⟨fun e => hbj e.symm, by rw [List.getElem?_append_left hl]; exact hj⟩
      · refine .inl ⟨by omega, ?_⟩
        rw [List.getElem?_append_right (by simpa using hl)] at hj
        rw [List.getElem?_append_right hl]
        simpa using hj
    have own' : ∀ B, owned (h.at_ H.length none 0 0) (H.set b (.live g (cs.set i (.sl H.length 0 sz 0 0))) ++ [.live 0 []]) B → owned (h.at_ H.length none 0 0) (H ++ [.live 0 []]) B := by
      rintro B ⟨j, e, hj, hne, hio⟩
      rcases key j e hj with ⟨_, h1⟩ | ⟨rfl, rfl⟩
      · exact ⟨j, e, h1, hne, hio⟩
      · exact ⟨j, _, by rw [List.getElem?_append_left hbl]; exact hb, by simp, hio⟩
    have lat : (cx X (h.at_ H.length none 0 0) (H ++ [.live 0 []]) w).Later (cx X (h.at_ H.length none 0 0) (H.set b (.live g (cs.set i (.sl H.length 0 sz 0 0))) ++ [.live 0 []]) w) :=
      { size := Nat.le_refl _, keep := fun _ _ _ _ => rfl, own := fun B _ ho => ho.imp _root_.id (own' B), n := by simp [cx], gen := fun _ _ => Nat.le_refl _, same := fun _ _ _ => ⟨rfl, rfl⟩ }
    refine ⟨⟨fun B hB => ⟨(s1.out B hB).1, fun ho => (s1.out B hB).2 (own' B ho)⟩, fun j g0 cs' hj => ?_, fun j L hj => ?_, fun j k e e' B h1 h2 hn1 hn2 h3 h4 => ?_, s1.bldKeep fun j e hj hB => ?_⟩, fun t v m => ?_, s.size⟩
    · rcases key j _ hj with ⟨_, h1⟩ | ⟨rfl, h1⟩
      · obtain ⟨hg, hh⟩ := s1.live j g0 cs' h1
        refine ⟨hg, ?_⟩
        rcases hh with ⟨hio, h0⟩ | ⟨B, arr, T, fz, f, hio, hbk, hcap, hle, hfz, hcells⟩
        · exact .inl ⟨hio, h0⟩
        · exact .inr ⟨B, arr, T, fz, f, hio, hbk, hcap, hle, hfz, fun k v hk => ⟨(hcells k v hk).1, (hcells k v hk).2.1, (hcells k v hk).2.2.later lat⟩⟩
      · injection h1 with h5 h6
        subst h5 h6
        obtain ⟨hg, hh⟩ := s1.live j g0 cs (by rw [List.getElem?_append_left hbl]; exact hb)
        refine ⟨hg, ?_⟩
        rcases hh with ⟨hio, h0⟩ | ⟨B, arr, T, fz, f, hio, hbk, hcap, hle, hfz, hcells⟩
        · subst h0; simp at hi
        · refine .inr ⟨B, arr, T, fz, f, hio, hbk, hcap, by simpa using hle, hfz, fun k v hk => ?_⟩
          rw [List.getElem?_set] at hk
          split at hk
          · rename_i hik
            subst hik
            split at hk
            · injection hk with hk
              subst hk
              obtain ⟨p1, p2, p3⟩ := hcells i _ hi
              refine ⟨p1, p2, ?_⟩
              generalize f i = c at p3 p2
              cases p3
              exact .sl (by simp [cx]) (by simp [cx, Gh.at_]) rfl fun _ => .inl ⟨by simp [cx, Gh.at_], rfl, rfl, rfl⟩
            · cases hk
          · obtain ⟨p1, p2, p3⟩ := hcells k v hk
            exact ⟨p1, p2, p3.later lat⟩
    · rcases key j _ hj with ⟨_, h1⟩ | ⟨rfl, h1⟩
      · obtain ⟨hg, B, r, q1, q2, q3, q4, q5, q6, q7, q8, q9⟩ := s1.lp j L h1
        exact ⟨hg, B, r, q1, q2, q3, q4, q5, q6, q7, q8, fun t v m => ⟨(q9 t v m).1, (q9 t v m).2.later lat⟩⟩
      · cases h1
    · have back : ∀ {j : Nat} {e : Ent}, (H.set b (.live g (cs.set i (.sl H.length 0 sz 0 0))) ++ [Ent.live 0 []])[j]? = some e → e ≠ .dead → ∃ e0, (H ++ [Ent.live 0 []])[j]? = some e0 ∧ e0 ≠ .dead := by
        intro j e hj hne
        rcases key j _ hj with ⟨_, h1⟩ | ⟨rfl, h1⟩
        · exact ⟨e, h1, hne⟩
        · exact ⟨_, by rw [List.getElem?_append_left hbl]; exact hb, by simp⟩
      obtain ⟨d, hd1, hd2⟩ := back h1 hn1
      obtain ⟨d', hd1', hd2'⟩ := back h2 hn2
      exact s1.inj j k _ _ B hd1 hd1' hd2 hd2' h3 h4
    · rcases key j _ hj with ⟨_, h1⟩ | ⟨rfl, h1⟩
      · exact ⟨h1, rfl, rfl, fun _ _ _ _ _ => rfl⟩
      · subst h1; cases hB
    · exact ⟨(s.env t v m).1, ((s.env t v m).2.later lat0).later lat⟩
  · rintro B ⟨j, e, hj, hne, hio⟩
    rcases Nat.lt_or_ge j H.length with hl | hl
    · have hio' : h.io j = some B := by simpa [Gh.at_, Nat.ne_of_lt hl] using hio
      by_cases hjb : j = b
      · subst hjb; exact ⟨j, _, hb, by simp, hio'⟩
      · rw [List.getElem?_append_left (by simpa using hl), List.getElem?_set_ne (fun e => hjb e.symm)] at hj
        exact ⟨j, e, hj, hne, hio'⟩
    · rw [List.getElem?_append_right (by simpa using hl)] at hj
      have : j = H.length := by
        rcases Nat.eq_or_lt_of_le hl with e | h2
        · exact e.symm
        · rw [List.getElem?_eq_none (by simp; omega)] at hj; cases hj
      subst this
      simp [Gh.at_] at hio

theorem FrR.trans {id g sz : Nat} {rows : List AVal} {a b c : AVal} (h : FrR id g sz rows a b) (k : FrR id g sz rows b c) : FrR id g sz rows a c := by
  rcases h with rfl | ⟨rfl, rfl⟩
  · exact k
  · rcases k with rfl | ⟨h1, _⟩
    · exact .inr ⟨rfl, rfl⟩
    · cases h1

theorem EntR.trans {id g sz : Nat} {rows : List AVal} {a b c : Ent} (h : EntR id g sz rows a b) (k : EntR id g sz rows b c) : EntR id g sz rows a c := by
  rcases k with k | rfl | ⟨g0, cs, cs', h1, h2, h3, h4⟩
  · exact .inl k
  · exact h
  · subst h1 h2
    rcases h with h | h | ⟨g1, ds, ds', k1, k2, k3, k4⟩
    · cases h
    · subst h; exact .inr (.inr ⟨g0, cs, cs', rfl, rfl, h3, h4⟩)
    · injection k2 with k5 k6
      subst k5 k6 k1
      refine .inr (.inr ⟨g0, ds, cs', rfl, rfl, by omega, fun i v' hi => ?_⟩)
      obtain ⟨v1, hv1, r1⟩ := h4 i v' hi
      obtain ⟨v, hv, r⟩ := k4 i v1 hv1
      exact ⟨v, hv, r.trans r1⟩

def frzTs (id g sz : Nat) (rows : List AVal) : List Nat → Env → Option (Env × Prop)
  | [], env => some (env, True)
  | t :: ts, env =>
    match env.get t with
    | .sl id' g' sz' off n =>
      if id' = id ∧ sz' = sz ∧ off = 0 then
        match frzTs id g sz rows ts (env.put t (.vs sz rows)) with
        | some (env2, p) => some (env2, (g' = g ∧ n = rows.length) ∧ p)
        | none => none
      else none
    | _ => none

def frzPs (id g sz : Nat) (rows : List AVal) : List (Nat × Nat) → AHeap → Option (AHeap × Prop)
  | [], H => some (H, True)
  | (b, i) :: ps, H =>
    match H[b]? with
    | some (.live g0 cs) =>
      match cs[i]? with
      | some (.sl id' g' sz' off n) =>
        if id' = id ∧ sz' = sz ∧ off = 0 then
          match frzPs id g sz rows ps (H.set b (.live g0 (cs.set i (.vs sz rows)))) with
          | some (H2, p) => some (H2, (g' = g ∧ n = rows.length) ∧ p)
          | none => none
        else none
      | _ => none
    | _ => none

theorem frzTs_spec {id g sz : Nat} {rows : List AVal} : ∀ (ts : List Nat) (env env2 : Env) (p : Prop), frzTs id g sz rows ts env = some (env2, p) → p →
    (∀ t v', (t, v') ∈ env2 → ∃ v, (t, v) ∈ env ∧ FrR id g sz rows v v') ∧ ((env.map (·.1)).Nodup → (env2.map (·.1)).Nodup)
  | [], env, env2, p, h, _ => by
    simp only [frzTs, Option.some.injEq, Prod.mk.injEq] at h
    obtain ⟨rfl, rfl⟩ := h
    exact ⟨fun t v' m => ⟨v', m, .inl rfl⟩, _root_.id⟩
  | t :: ts, env, env2, p, h, hp => by
    simp only [frzTs] at h
    split at h
    · rename_i id' g' sz' off n hg
      split at h
      · rename_i hc
        obtain ⟨rfl, rfl, rfl⟩ := hc
        split at h
        · rename_i e3 q hq
          simp only [Option.some.injEq, Prod.mk.injEq] at h
          obtain ⟨rfl, rfl⟩ := h
          obtain ⟨⟨rfl, rfl⟩, hq'⟩ := hp
          obtain ⟨h1, h2⟩ := frzTs_spec ts _ _ _ hq hq'
          refine ⟨fun u v' m => ?_, fun hn => h2 (put_nodup hn _ _)⟩
          obtain ⟨v, m1, r⟩ := h1 u v' m
          unfold Env.put at m1
          rcases List.mem_cons.1 m1 with e | m2
          · injection e with e1 e2
            subst e1 e2
            rcases Env.get_mem (env := env) (t := u) with e3 | m3
            · rw [hg] at e3; cases e3
            · rw [hg] at m3
              exact ⟨_, m3, FrR.trans (.inr ⟨rfl, rfl⟩) r⟩
          · exact ⟨v, (List.mem_filter.1 m2).1, r⟩
        · cases h
      · cases h
    · cases h

theorem frzTs_nodup {id g sz : Nat} {rows : List AVal} : ∀ (ts : List Nat) (env env2 : Env) (p : Prop), frzTs id g sz rows ts env = some (env2, p) → (env.map (·.1)).Nodup → (env2.map (·.1)).Nodup
  | [], env, env2, p, h, hn => by
    simp only [frzTs, Option.some.injEq, Prod.mk.injEq] at h
    obtain ⟨rfl, rfl⟩ := h
    exact hn
  | t :: ts, env, env2, p, h, hn => by
    simp only [frzTs] at h
    split at h
    · split at h
      · split at h
        · rename_i e3 q hq
          simp only [Option.some.injEq, Prod.mk.injEq] at h
          obtain ⟨rfl, rfl⟩ := h
          exact frzTs_nodup ts _ _ _ hq (put_nodup hn _ _)
        · cases h
      · cases h
    · cases h

theorem frzPs_len {id g sz : Nat} {rows : List AVal} : ∀ (ps : List (Nat × Nat)) (H H2 : AHeap) (p : Prop), frzPs id g sz rows ps H = some (H2, p) → H2.length = H.length
  | [], H, H2, p, h => by
    simp only [frzPs, Option.some.injEq, Prod.mk.injEq] at h
    obtain ⟨rfl, rfl⟩ := h
    rfl
  | (b, i) :: ps, H, H2, p, h => by
    simp only [frzPs] at h
    split at h
    · split at h
      · split at h
        · split at h
          · rename_i H3 q hq
            simp only [Option.some.injEq, Prod.mk.injEq] at h
            obtain ⟨rfl, rfl⟩ := h
            simpa using frzPs_len ps _ _ _ hq
          · cases h
        · cases h
      · cases h
    · cases h

theorem frzPs_spec {id g sz : Nat} {rows : List AVal} : ∀ (ps : List (Nat × Nat)) (H H2 : AHeap) (p : Prop), frzPs id g sz rows ps H = some (H2, p) → p →
    H2.length = H.length ∧ ∀ (j : Nat) (e' : Ent), H2[j]? = some e' → ∃ e, H[j]? = some e ∧ EntR id g sz rows e e'
  | [], H, H2, p, h, _ => by
    simp only [frzPs, Option.some.injEq, Prod.mk.injEq] at h
    obtain ⟨rfl, rfl⟩ := h
    exact ⟨rfl, fun j e' hj => ⟨e', hj, .inr (.inl rfl)⟩⟩
  | (b, i) :: ps, H, H2, p, h, hp => by
    simp only [frzPs] at h
    split at h
    · rename_i g0 cs hb
      split at h
      · rename_i id' g' sz' off n hi
        split at h
        · rename_i hc
          obtain ⟨rfl, rfl, rfl⟩ := hc
          split at h
          · rename_i H3 q hq
            simp only [Option.some.injEq, Prod.mk.injEq] at h
            obtain ⟨rfl, rfl⟩ := h
            obtain ⟨⟨rfl, rfl⟩, hq'⟩ := hp
            obtain ⟨h1, h2⟩ := frzPs_spec ps _ _ _ hq hq'
            refine ⟨by simpa using h1, fun j e' hj => ?_⟩
            obtain ⟨e, he, r⟩ := h2 j e' hj
            rw [List.getElem?_set] at he
            split at he
            · rename_i hbj
              subst hbj
              split at he
              · injection he with he
                subst he
                refine ⟨_, hb, EntR.trans (.inr (.inr ⟨g0, cs, _, rfl, rfl, by simp, fun k v' hk => ?_⟩)) r⟩
                rw [List.getElem?_set] at hk
                split at hk
                · rename_i hik
                  subst hik
                  split at hk
                  · injection hk with hk
                    subst hk
                    exact ⟨_, hi, .inr ⟨rfl, rfl⟩⟩
                  · cases hk
                · exact ⟨v', hk, .inl rfl⟩
              · cases he
            · exact ⟨e, he, r⟩
          · cases h
        · cases h
      · cases h
    · cases h

/-- A word of a block may be a weaker one. -/
theorem Weak.recell {N : Nat} {env : Env} {H : AHeap} {b g i : Nat} {cs : List AVal} {v v' : AVal} (hb : H[b]? = some (Ent.live g cs)) (hi : cs[i]? = some v) (hv : ∀ (x : Cx) (c : Value), VRel x v c → VRel x v' c) :
    Weak N H.length env H env (H.set b (.live g (cs.set i v'))) := by
  have hbl : b < H.length := by
    rcases Nat.lt_or_ge b H.length with h2 | h2
    · exact h2
    · rw [List.getElem?_eq_none h2] at hb; cases hb
  have key : ∀ (j : Nat) (e : Ent), (H.set b (.live g (cs.set i v')))[j]? = some e → (j ≠ b ∧ H[j]? = some e) ∨ (j = b ∧ e = .live g (cs.set i v')) := fun j e hj => by
    rcases set_key hbl hj with ⟨h1, h2⟩ | ⟨h1, h2⟩
    · exact .inl ⟨h1, h2⟩
    · exact .inr ⟨h1, h2⟩
  have back : ∀ {j : Nat} {e : Ent}, (H.set b (.live g (cs.set i v')))[j]? = some e → e ≠ .dead → ∃ e0, H[j]? = some e0 ∧ e0 ≠ .dead := by
    intro j e hj hne
    rcases key j _ hj with ⟨_, h1⟩ | ⟨rfl, h1⟩
    · exact ⟨e, h1, hne⟩
    · exact ⟨_, hb, by simp⟩
  refine ⟨by simp, fun X h a w s => ⟨h, ?_, fun _ _ => ⟨rfl, rfl, rfl⟩, ?_⟩⟩
  · have own' : ∀ B, owned h (H.set b (.live g (cs.set i v'))) B → owned h H B := by
      rintro B ⟨j, e, hj, hne, hio⟩
      obtain ⟨e0, h1, h2⟩ := back hj hne
      exact ⟨j, e0, h1, h2, hio⟩
    have lat : (cx X h H w).Later (cx X h (H.set b (.live g (cs.set i v'))) w) :=
      { size := Nat.le_refl _, keep := fun _ _ _ _ => rfl, own := fun B _ ho => ho.imp _root_.id (own' B), n := by simp [cx], gen := fun _ _ => Nat.le_refl _, same := fun _ _ _ => ⟨rfl, rfl⟩ }
    refine ⟨⟨fun B hB => ⟨(s.sim.out B hB).1, fun ho => (s.sim.out B hB).2 (own' B ho)⟩, fun j g0 cs' hj => ?_, fun j L hj => ?_, fun j k e e' B h1 h2 hn1 hn2 h3 h4 => ?_, s.sim.bldKeep fun j e hj hB => ?_⟩, fun t u m => ⟨(s.env t u m).1, (s.env t u m).2.later lat⟩, s.size⟩
    · rcases key j _ hj with ⟨_, h1⟩ | ⟨rfl, h1⟩
      · obtain ⟨hg, hh⟩ := s.sim.live j g0 cs' h1
        refine ⟨hg, ?_⟩
        rcases hh with ⟨hio, h0⟩ | ⟨B, arr, T, fz, f, hio, hbk, hcap, hle, hfz, hcells⟩
        · exact .inl ⟨hio, h0⟩
        · exact .inr ⟨B, arr, T, fz, f, hio, hbk, hcap, hle, hfz, fun k v hk => ⟨(hcells k v hk).1, (hcells k v hk).2.1, (hcells k v hk).2.2.later lat⟩⟩
      · injection h1 with h5 h6
        subst h5 h6
        obtain ⟨hg, hh⟩ := s.sim.live j g0 cs hb
        refine ⟨hg, ?_⟩
        rcases hh with ⟨hio, h0⟩ | ⟨B, arr, T, fz, f, hio, hbk, hcap, hle, hfz, hcells⟩
        · subst h0; simp at hi
        · refine .inr ⟨B, arr, T, fz, f, hio, hbk, hcap, by simpa using hle, hfz, fun k u hk => ?_⟩
          rw [List.getElem?_set] at hk
          split at hk
          · rename_i hik
            subst hik
            split at hk
            · injection hk with hk
              subst hk
              obtain ⟨p1, p2, p3⟩ := hcells i _ hi
              exact ⟨p1, p2, hv _ _ (p3.later lat)⟩
            · cases hk
          · obtain ⟨p1, p2, p3⟩ := hcells k u hk
            exact ⟨p1, p2, p3.later lat⟩
    · rcases key j _ hj with ⟨_, h1⟩ | ⟨rfl, h1⟩
      · obtain ⟨hg, B, r, q1, q2, q3, q4, q5, q6, q7, q8, q9⟩ := s.sim.lp j L h1
        exact ⟨hg, B, r, q1, q2, q3, q4, q5, q6, q7, q8, fun t v m => ⟨(q9 t v m).1, (q9 t v m).2.later lat⟩⟩
      · cases h1
    · obtain ⟨d, hd1, hd2⟩ := back h1 hn1
      obtain ⟨d', hd1', hd2'⟩ := back h2 hn2
      exact s.sim.inj j k _ _ B hd1 hd1' hd2 hd2' h3 h4
    · rcases key j _ hj with ⟨_, h1⟩ | ⟨rfl, h1⟩
      · exact ⟨h1, rfl, rfl, fun _ _ _ _ _ => rfl⟩
      · subst h1; cases hB
  · rintro B ⟨j, e, hj, hne, hio⟩
    obtain ⟨e0, h1, h2⟩ := back hj hne
    exact ⟨j, e0, h1, h2, hio⟩

theorem VRel.nil_vs {x : Cx} {c : Value} {sz : Nat} (hs : 0 < sz) (r : VRel x .nils c) : VRel x (.vs sz []) c := by
  cases r
  exact VRel.vs (rows := []) (cap := 0) (fun _ _ => undef) (Nat.le_refl _) hs (fun _ _ h => by simp at h) (fun h => (h rfl).elim) fun _ _ _ _ h => by simp at h

theorem Weak.retmp {N t : Nat} {env : Env} {H : AHeap} {v' : AVal} (hne : env.get t ≠ .any) (hv : ∀ (x : Cx) (c : Value), VRel x (env.get t) c → VRel x v' c) : Weak N H.length env H (env.put t v') H := by
  refine ⟨Nat.le_refl _, fun X h a w s => ⟨h, ⟨s.sim, fun u v m => ?_, s.size⟩, fun _ _ => ⟨rfl, rfl, rfl⟩, fun _ h => h⟩⟩
  unfold Env.put at m
  rcases List.mem_cons.1 m with e | m
  · injection e with e1 e2
    subst e1 e2
    rcases Env.get_mem (env := env) (t := u) with e3 | m3
    · exact (hne e3).elim
    · exact ⟨(s.env u _ m3).1, hv _ _ (s.env u _ m3).2⟩
  · exact s.env u v (List.mem_filter.1 m).1

theorem VRel.agg_set {x : Cx} {c : Value} {cs : List AVal} {i : Nat} {v v' : AVal} (hi : cs[i]? = some v) (hv : ∀ (x : Cx) (c : Value), VRel x v c → VRel x v' c) (r : VRel x (.agg cs) c) : VRel x (.agg (cs.set i v')) c := by
  cases r with
  | agg h h1 hr =>
    refine .agg (by simpa using h) h1 fun j u d hj hd => ?_
    rw [List.getElem?_set] at hj
    split at hj
    · rename_i hij
      subst hij
      split at hj
      · injection hj with hj
        subst hj
        exact hv _ _ (hr i v d hi hd)
      · cases hj
    · exact hr j u d hj hd

def relTs (id n : Nat) : List Nat → Env → Option (Env × Prop)
  | [], env => some (env, True)
  | t :: ts, env =>
    match env.get t with
    | .sl id' g' sz off m =>
      if id' = id ∧ off = 0 then
        match relTs id n ts (env.put t (.sl id n sz 0 n)) with
        | some (env2, p) => some (env2, (g' = n ∧ m = n) ∧ p)
        | none => none
      else none
    | _ => none

def relPs (id n : Nat) : List (Nat × Nat) → AHeap → Option (AHeap × Prop)
  | [], H => some (H, True)
  | (b, i) :: ps, H =>
    match H[b]? with
    | some (.live g0 cs) =>
      match cs[i]? with
      | some (.sl id' g' sz off m) =>
        if id' = id ∧ off = 0 then
          match relPs id n ps (H.set b (.live g0 (cs.set i (.sl id n sz 0 n)))) with
          | some (H2, p) => some (H2, (g' = n ∧ m = n) ∧ p)
          | none => none
        else none
      | _ => none
    | _ => none

theorem relTs_spec {id n : Nat} : ∀ (ts : List Nat) (env env2 : Env) (p : Prop), relTs id n ts env = some (env2, p) → ((env.map (·.1)).Nodup → (env2.map (·.1)).Nodup) ∧ (p → ∀ q ∈ env2, q ∈ env)
  | [], env, env2, p, h => by
    simp only [relTs, Option.some.injEq, Prod.mk.injEq] at h
    obtain ⟨rfl, rfl⟩ := h
    exact ⟨_root_.id, fun _ q hq => hq⟩
  | t :: ts, env, env2, p, h => by
    simp only [relTs] at h
    split at h
    · rename_i id' g' sz off m hg
      split at h
      · rename_i hc
        obtain ⟨rfl, rfl⟩ := hc
        split at h
        · rename_i e3 q hq
          simp only [Option.some.injEq, Prod.mk.injEq] at h
          obtain ⟨rfl, rfl⟩ := h
          obtain ⟨h1, h2⟩ := relTs_spec ts _ _ _ hq
          refine ⟨fun hn => h1 (put_nodup hn _ _), fun hp r hr => ?_⟩
          obtain ⟨⟨rfl, rfl⟩, hp2⟩ := hp
          have h3 := h2 hp2 r hr
          unfold Env.put at h3
          rcases List.mem_cons.1 h3 with rfl | h4
          · rcases Env.get_mem (env := env) (t := t) with e | e
            · rw [hg] at e; cases e
            · rw [hg] at e; exact e
          · exact (List.mem_filter.1 h4).1
        · cases h
      · cases h
    · cases h

theorem set_same {H : AHeap} {b : Nat} {e : Ent} (h : H[b]? = some e) : H.set b e = H := by
  apply List.ext_getElem?
  intro j
  rw [List.getElem?_set]
  split
  · rename_i hj
    subst hj
    split
    · exact h.symm
    · rename_i hl
      rw [List.getElem?_eq_none (by omega)] at h
      cases h
  · rfl

theorem relPs_spec {id n : Nat} : ∀ (ps : List (Nat × Nat)) (H H2 : AHeap) (p : Prop), relPs id n ps H = some (H2, p) → H2.length = H.length ∧ (p → H2 = H)
  | [], H, H2, p, h => by
    simp only [relPs, Option.some.injEq, Prod.mk.injEq] at h
    obtain ⟨rfl, rfl⟩ := h
    exact ⟨rfl, fun _ => rfl⟩
  | (b, i) :: ps, H, H2, p, h => by
    simp only [relPs] at h
    split at h
    · rename_i g0 cs hb
      split at h
      · rename_i id' g' sz off m hi
        split at h
        · rename_i hc
          obtain ⟨rfl, rfl⟩ := hc
          split at h
          · rename_i H3 q hq
            simp only [Option.some.injEq, Prod.mk.injEq] at h
            obtain ⟨rfl, rfl⟩ := h
            obtain ⟨h1, h2⟩ := relPs_spec ps _ _ _ hq
            refine ⟨by simpa using h1, fun hp => ?_⟩
            obtain ⟨⟨rfl, rfl⟩, hp2⟩ := hp
            rw [h2 hp2]
            have : ∀ v, cs[i]? = some v → cs.set i v = cs := by
              intro v hi
              apply List.ext_getElem?
              intro j
              rw [List.getElem?_set]
              split
              · rename_i hj
                subst hj
                split
                · exact hi.symm
                · rename_i hl
                  rw [List.getElem?_eq_none (by omega)] at hi
                  cases hi
              · rfl
            rw [this _ hi]
            exact set_same hb
          · cases h
        · cases h
      · cases h
    · cases h

theorem Weak.subset {N : Nat} {env env2 : Env} {H : AHeap} (h : ∀ q ∈ env2, q ∈ env) : Weak N H.length env H env2 H :=
  ⟨Nat.le_refl _, fun _ g _ _ s => ⟨g, ⟨s.sim, fun t v m => s.env t v (h _ m), s.size⟩, fun _ _ => ⟨rfl, rfl, rfl⟩, fun _ h => h⟩⟩

def IdsLt (n : Nat) (env : Env) (H : AHeap) : Prop := (∀ p ∈ env, (p.2.idsAll fun id => decide (id < n)) = true) ∧ ∀ e ∈ H, (e.idsAll fun id => decide (id < n)) = true

def adj1 (N n0 : Nat) (a : Adj) (env : Env) (H : AHeap) (s : PS) : Option (Env × AHeap × PS) :=
  match a with
  | .keep ts n =>
    if n0 ≤ n ∧ n ≤ H.length ∧ ts.Nodup ∧ (ts.all fun t => decide (t < N)) = true then
      if n = H.length then some (ts.map fun t => (t, env.get t), H, s)
      else some (ts.map fun t => (t, env.get t), H.take n, s.add (IdsLt n (ts.map fun t => (t, env.get t)) (H.take n)))
    else none
  | .virt t sz =>
    match env.get t with
    | .nils => some (env.put t (.sl H.length 0 sz 0 0), H ++ [.live 0 []], s)
    | _ => none
  | .virtC b i sz =>
    match H[b]? with
    | some (.live g cs) =>
      match cs[i]? with
      | some .nils => some (env, H.set b (.live g (cs.set i (.sl H.length 0 sz 0 0))) ++ [.live 0 []], s)
      | _ => none
    | _ => none
  | .frz id sz rows ts ps =>
    match H[id]? with
    | some (.live g cs) =>
      match frzTs id g sz rows ts env, frzPs id g sz rows ps H with
      | some (env2, p), some (H2, q) => some (env2, H2.set id .dead, s.add (RowsAre sz cs rows ∧ p ∧ q))
      | _, _ => none
    | _ => none
  | .nilT t sz =>
    match env.get t with
    | .nils => if 0 < sz then some (env.put t (.vs sz []), H, s) else none
    | _ => none
  | .nilA t i sz =>
    match env.get t with
    | .agg cs =>
      match cs[i]? with
      | some .nils => if 0 < sz then some (env.put t (.agg (cs.set i (.vs sz []))), H, s) else none
      | _ => none
    | _ => none
  | .nilC b i sz =>
    match H[b]? with
    | some (.live g cs) =>
      match cs[i]? with
      | some .nils => if 0 < sz then some (env, H.set b (.live g (cs.set i (.vs sz []))), s) else none
      | _ => none
    | _ => none
  | .relen id n ts ps =>
    match H[id]? with
    | some (.live g cs) =>
      match relTs id n ts env, relPs id n ps H with
      | some (env2, p), some (H2, q) => some (env2, H2.set id (.live n cs), s.add (g = n ∧ p ∧ q))
      | _, _ => none
    | _ => none

def adjP (N n0 : Nat) : List Adj → Env → AHeap → PS → Option (Env × AHeap × PS)
  | [], env, H, s => some (env, H, s)
  | a :: r, env, H, s =>
    match adj1 N n0 a env H s with
    | some (env2, H2, s2) => adjP N n0 r env2 H2 s2
    | none => none

theorem adj1_sound {N n0 : Nat} {a : Adj} {env env2 : Env} {H H2 : AHeap} {s s2 : PS} (h : adj1 N n0 a env H s = some (env2, H2, s2)) (hn : (env.map (·.1)).Nodup) (h0 : n0 ≤ H.length) :
    (s2.obl → s.obl) ∧ (s2.obl → Weak N n0 env H env2 H2) ∧ (env2.map (·.1)).Nodup ∧ n0 ≤ H2.length := by
  unfold adj1 at h
  split at h
  · rename_i ts n
    split at h
    · rename_i hc
      obtain ⟨c1, c2, c3, c4⟩ := hc
      have hs : ∀ t v, (t, v) ∈ (ts.map fun t => (t, env.get t)) → t < N := by
        intro t v m
        obtain ⟨u, hu, e⟩ := List.mem_map.1 m
        injection e with e1 e2
        subst e1
        simpa using List.all_eq_true.1 c4 u hu
      have hsub : sub env (ts.map fun t => (t, env.get t)) := by
        intro t v m
        obtain ⟨u, hu, e⟩ := List.mem_map.1 m
        injection e with e1 e2
        subst e1 e2
        exact .inr rfl
      have hnd : ((ts.map fun t => (t, env.get t)).map (·.1)).Nodup := by simpa [List.map_map, Function.comp_def] using c3
      split at h
      · simp only [Option.some.injEq, Prod.mk.injEq] at h
        obtain ⟨rfl, rfl, rfl⟩ := h
        exact ⟨_root_.id, fun _ => (Weak.forget hs hsub).of_le h0, hnd, h0⟩
      · simp only [Option.some.injEq, Prod.mk.injEq] at h
        obtain ⟨rfl, rfl, rfl⟩ := h
        refine ⟨fun q => q.2, fun q => (Weak.trunc c2 hs hsub (fun t v m => q.1.1 _ m) (fun e he => q.1.2 e he)).of_le c1, hnd, by simp; omega⟩
    · cases h
  · rename_i t sz
    split at h
    · rename_i ht
      simp only [Option.some.injEq, Prod.mk.injEq] at h
      obtain ⟨rfl, rfl, rfl⟩ := h
      exact ⟨_root_.id, fun _ => (Weak.virt ht).of_le h0, put_nodup hn _ _, by simp; omega⟩
    · cases h
  · rename_i b i sz
    split at h
    · rename_i g cs hb
      split at h
      · rename_i hi
        simp only [Option.some.injEq, Prod.mk.injEq] at h
        obtain ⟨rfl, rfl, rfl⟩ := h
        exact ⟨_root_.id, fun _ => (Weak.virtC hb hi).of_le h0, hn, by simp; omega⟩
      · cases h
    · cases h
  · rename_i id sz rows ts ps
    split at h
    · rename_i g cs hid
      split at h
      · rename_i e3 p H3 q hp hq
        simp only [Option.some.injEq, Prod.mk.injEq] at h
        obtain ⟨rfl, rfl, rfl⟩ := h
        have hidl : id < H.length := by
          rcases Nat.lt_or_ge id H.length with h2 | h2
          · exact h2
          · rw [List.getElem?_eq_none h2] at hid; cases hid
        refine ⟨fun q => q.2, fun r => ?_, ?_, ?_⟩
        · obtain ⟨⟨hr, rp, rq⟩, _⟩ := r
          obtain ⟨t1, t2⟩ := frzTs_spec _ _ _ _ hp rp
          obtain ⟨l1, l2⟩ := frzPs_spec _ _ _ _ hq rq
          refine (Weak.frzG hid hr (by simpa using l1) (by simp [l1, hidl]) (fun j e' hj => ?_) fun t v' m => .inr (t1 t v' m)).of_le h0
          rw [List.getElem?_set] at hj
          split at hj
          · rename_i hij
            subst hij
            split at hj
            · injection hj with hj
              exact ⟨_, hid, .inl hj.symm⟩
            · cases hj
          · exact l2 j e' hj
        · exact frzTs_nodup _ _ _ _ hp hn
        · rw [List.length_set, frzPs_len _ _ _ _ hq]; exact h0
      · cases h
    · cases h
  · rename_i t sz
    split at h
    · rename_i ht
      split at h
      · rename_i hs
        simp only [Option.some.injEq, Prod.mk.injEq] at h
        obtain ⟨rfl, rfl, rfl⟩ := h
        exact ⟨_root_.id, fun _ => (Weak.retmp (by rw [ht]; simp) fun x c r => VRel.nil_vs hs (ht ▸ r)).of_le h0, put_nodup hn _ _, h0⟩
      · cases h
    · cases h
  · rename_i t i sz
    split at h
    · rename_i cs ht
      split at h
      · rename_i hi
        split at h
        · rename_i hs
          simp only [Option.some.injEq, Prod.mk.injEq] at h
          obtain ⟨rfl, rfl, rfl⟩ := h
          exact ⟨_root_.id, fun _ => (Weak.retmp (by rw [ht]; simp) fun x c r => VRel.agg_set hi (fun x c => VRel.nil_vs hs) (ht ▸ r)).of_le h0, put_nodup hn _ _, h0⟩
        · cases h
      · cases h
    · cases h
  · rename_i b i sz
    split at h
    · rename_i g cs hb
      split at h
      · rename_i hi
        split at h
        · rename_i hs
          simp only [Option.some.injEq, Prod.mk.injEq] at h
          obtain ⟨rfl, rfl, rfl⟩ := h
          exact ⟨_root_.id, fun _ => (Weak.recell hb hi fun x c => VRel.nil_vs hs).of_le h0, hn, by simpa using h0⟩
        · cases h
      · cases h
    · cases h
  · rename_i id n ts ps
    split at h
    · rename_i g cs hid
      split at h
      · rename_i e3 p H3 q hp hq
        simp only [Option.some.injEq, Prod.mk.injEq] at h
        obtain ⟨rfl, rfl, rfl⟩ := h
        obtain ⟨t1, t2⟩ := relTs_spec _ _ _ _ hp
        obtain ⟨l1, l2⟩ := relPs_spec _ _ _ _ hq
        refine ⟨fun q => q.2, fun r => ?_, t1 hn, by rw [List.length_set, l1]; exact h0⟩
        obtain ⟨⟨rfl, rp, rq⟩, _⟩ := r
        rw [l2 rq, set_same hid]
        exact (Weak.subset (t2 rp)).of_le h0
      · cases h
    · cases h

theorem adjP_sound {N n0 : Nat} : ∀ (l : List Adj) (env env2 : Env) (H H2 : AHeap) (s s2 : PS), adjP N n0 l env H s = some (env2, H2, s2) → (env.map (·.1)).Nodup → n0 ≤ H.length →
    (s2.obl → s.obl) ∧ (s2.obl → Weak N n0 env H env2 H2) ∧ (env2.map (·.1)).Nodup ∧ n0 ≤ H2.length
  | [], env, env2, H, H2, s, s2, h, hn, h0 => by
    simp only [adjP, Option.some.injEq, Prod.mk.injEq] at h
    obtain ⟨rfl, rfl, rfl⟩ := h
    exact ⟨_root_.id, fun _ => (Weak.refl N _ _).of_le h0, hn, h0⟩
  | a :: r, env, env2, H, H2, s, s2, h, hn, h0 => by
    simp only [adjP] at h
    split at h
    · rename_i e1 H1 s1 h1
      obtain ⟨i1, w1, n1, l1⟩ := adj1_sound h1 hn h0
      obtain ⟨i2, w2, n2, l2⟩ := adjP_sound r _ _ _ _ _ _ h n1 l1
      exact ⟨fun q => i1 (i2 q), fun q => Weak.trans (w1 (i2 q)) (w2 q), n2, l2⟩
    · cases h

/-- A place where what is known may be weakened, for the blocks that were there at first. -/
def adjStep (N n0 : Nat) (env : Env) (H : AHeap) (s : PS) : Option (Env × AHeap × PS) :=
  if n0 ≤ H.length then
    match s.take with
    | (some (.adj l), s1) => adjP N n0 l env H s1
    | (none, s1) => some (env, H, s1)
    | _ => none
  else none

theorem adjStep_sound {N n0 : Nat} {env env2 : Env} {H H2 : AHeap} {s s2 : PS} (h : adjStep N n0 env H s = some (env2, H2, s2)) (hn : (env.map (·.1)).Nodup) :
    (s2.obl → s.obl) ∧ (s2.obl → Weak N n0 env H env2 H2) ∧ (env2.map (·.1)).Nodup ∧ n0 ≤ H2.length := by
  have ht := s.take_obl
  unfold adjStep at h
  split at h
  · rename_i h0
    cases hq : s.take with
    | mk a s1 =>
    rw [hq] at h ht
    simp only at ht
    split at h
    · rename_i l s3 heq
      simp only [Prod.mk.injEq] at heq
      obtain ⟨rfl, rfl⟩ := heq
      obtain ⟨i1, w1, n1, l1⟩ := adjP_sound _ _ _ _ _ _ _ h hn h0
      exact ⟨fun q => ht ▸ i1 q, w1, n1, l1⟩
    · rename_i s3 heq
      simp only [Prod.mk.injEq] at heq
      obtain ⟨rfl, rfl⟩ := heq
      simp only [Option.some.injEq, Prod.mk.injEq] at h
      obtain ⟨rfl, rfl, rfl⟩ := h
      exact ⟨fun q => ht ▸ q, fun _ => (Weak.refl N _ _).of_le h0, hn, h0⟩
    · cases h
  · cases h
end Go.Ab

/- The abstract layer, 33: evaluation along one way, and that it is so. -/
namespace Go.Ab

abbrev CallP := FuncId → List AVal → AHeap → PS → Option (AVal × AHeap × PS)
abbrev CodeP := Nat → Code → Env → AHeap → PS → Option (Exit × Env × AHeap × PS)

def noCall : CallE := fun _ _ _ => none
def noCode : CodeE := fun _ _ _ _ => none

def yieldP (code : CodeP) (H : AHeap) (id : Nat) (vs : List AVal) (s : PS) : Option (AVal × AHeap × PS) :=
  match H[id]? with
  | some (.lp L) =>
    if vs.length = L.params.size ∧ (L.params.toList.all fun t => decide (t < L.n)) = true ∧ (L.env.map (·.1)).Nodup then
      match code L.n L.assign (setParams L.env L.params.toList vs) H s with
      | some (.normal, env1, H1, s1) =>
        match H1[id]? with
        | some (.lp L1) =>
          if L1.state = .ready then
            match code L.n L.body env1 (H1.set id (.lp { L1 with state := .busy })) s1 with
            | some (e, _, H2, s2) =>
              match H2[id]? with
              | some (.lp L2) =>
                match e with
                | .normal => some (.bool true, H2.set id (.lp { L2 with state := .ready, pending := none }), s2)
                | .ret => some (.bool false, H2.set id (.lp { L2 with state := .done, pending := some .ret }), s2)
                | .exit k => some (.bool false, H2.set id (.lp { L2 with state := .done, pending := some (.exit k) }), s2)
                | _ => none
              | _ => none
            | none => none
          else none
        | _ => none
      | _ => none
    else none
  | _ => none

/-- A literal slice that will grow. -/
def bldE (P : Program) (env : Env) (H : AHeap) (op : Op) : Adv → Option (AVal × AHeap × Prop)
  | .app cs1 n1 =>
    match op with
    | .buildSlice t len parts =>
      match bsParts P env t len parts with
      | some (sz, vs) => some (.sl H.length n1 sz 0 n1, H ++ [.live n1 cs1], vs.length = n1 ∧ vs.flatMap AVal.cells = cs1)
      | none => none
    | .makeSlice t x y =>
      match eI P t with
      | some (none, e, sz) =>
        match zeroA P e, evalOp env x, evalOp env y with
        | some z, .int _ l, .int _ c =>
          if 0 < sz ∧ smallE P e = true ∧ z.length = sz then some (.sl H.length n1 sz 0 n1, H ++ [.live n1 cs1], (0 ≤ l ∧ l ≤ c ∧ c ≤ 16777216) ∧ l.toNat = n1 ∧ (List.replicate l.toNat z).flatten = cs1) else none
        | _, _, _ => none
      | _ => none
    | _ => none
  | .appF _ =>
    match op with
    | .buildSlice t len parts =>
      match bsParts P env t len parts with
      | some (sz, vs) => some (.vs sz vs, H, True)
      | none => none
    | _ => none
  | _ => none

/-- An operation in its turn. -/
def opP (P : Program) (call : CallP) (code : CodeP) (N : Nat) (env : Env) (H : AHeap) (o : Oper) (s : PS) : Option (AVal × AHeap × PS) :=
  match s.take with
  | (none, s1) =>
    match callT (evalOp env) o.op with
    | some (.inl (F, vs)) => if Enters P F then call F vs H s1 else none
    | some (.inr (id, vs)) => yieldP code H id vs s1
    | none =>
      match opE P noCall noCode env H o.op with
      | some (v, H') => some (v, H', s1)
      | none => none
  | (some a, s1) =>
    match a with
    | .call v upd app =>
      match callT (evalOp env) o.op with
      | some (.inl (F, vs)) => if Enters P F then some (v, updH H upd ++ app, s1.add (ACalls P F vs H (exactly v (updH H upd ++ app)))) else none
      | _ => none
    | .op v H' => some (v, H', s1.add (OpW P N o env H (exactly v H')))
    | a =>
      match advQ P env H o.op a with
      | some (v, p) => some (v, H, s1.add p)
      | none =>
        match roomE P (evalOp env) H o.op a with
        | some (v, H', _, p) => some (v, H', s1.add p)
        | none =>
          match bldE P env H o.op a with
          | some (v, H', p) => some (v, H', s1.add p)
          | none => none

def runSeqP (P : Program) (call : CallP) (code : CodeP) (N : Nat) (ops : Array Oper) : List Oper → Env → AHeap → PS → Option (Env × AHeap × PS)
  | [], env, H, s => some (env, H, s)
  | o :: r, env, H, s =>
    match guardB ops o.guard env with
    | some true =>
      match opP P call code N env H o s with
      | some (v, H', s') => runSeqP P call code N ops r (env.putO o.dst v) H' s'
      | none => none
    | some false => runSeqP P call code N ops r (env.putO o.dst (.tup [])) H s
    | none => none

/-- An operation with effects in a region that draws its order: what it yields, the heap, the blocks that it may change, what is asked. -/
def effP (P : Program) (ρ : Operand → AVal) (H : AHeap) (op : Op) : Option Adv → Option (AVal × AHeap × List Nat × Prop)
  | some (.call v upd app) =>
    match callT ρ op with
    | some (.inl (F, vs)) => if Enters P F then some (v, updH H upd ++ app, upd.map (·.1), ACalls P F vs H (exactly v (updH H upd ++ app))) else none
    | _ => none
  | some a => roomE P ρ H op a
  | none =>
    match effE P noCall noCode true ρ H op with
    | some (v, H', F) => some (v, H', F, True)
    | none => none

def quietP (P : Program) (env : Env) (H : AHeap) (op : Op) : Option Adv → Option (AVal × Prop)
  | none =>
    match dquiet P env H op with
    | some v => some (v, True)
    | none => none
  | some a => advQ P env H op a

def runDrawP (P : Program) (ops : Array Oper) (m : List Nat) : List Nat → List (Nat × List Nat) → Env → AHeap → PS → Option (Env × AHeap × PS)
  | [], _, env, H, s => some (env, H, s)
  | i :: r, pend, env, H, s =>
    match ops[i]? with
    | none => none
    | some o =>
      match o.op with
      | .alloc t =>
        match zeroA P t with
        | some z => if o.guard.isNone && r.all (fun j => ordM m i j || isAlloc ops j) then runDrawP P ops m r pend (env.putO o.dst (.ptr H.length 0 0)) (H ++ [.live 0 z]) s else none
        | none => none
      | op =>
        match guardB ops o.guard env with
        | some false => runDrawP P ops m r ((i, []) :: pend) (env.putO o.dst (.tup [])) H s
        | some true =>
          if dq op then
            match quietP P env H op s.take.1 with
            | some (v, p) => if (rdOf env op).all (fun id => decide (id < H.length)) then runDrawP P ops m r ((i, rdOf env op) :: pend) (env.putO o.dst v) H (s.take.2.addO s.take.1 p) else none
            | none => none
          else
            match effP P (evalOp env) H op s.take.1 with
            | some (v, H', F, p) =>
              if r.all (fun j => ordM m i j || isAlloc ops j) && pend.all (fun p => ordM m p.1 i || p.2.all fun id => !F.contains id) && decide (H.length ≤ H'.length) then runDrawP P ops m r pend (env.putO o.dst v) H' (s.take.2.addO s.take.1 p) else none
            | none => none
        | none => none

/-- A code that is no mere sequence. -/
def nodeP (P : Program) (call : CallP) (rec : CodeP) (N : Nat) (c : Code) (env : Env) (H : AHeap) (s : PS) : Option (Exit × Env × AHeap × PS) :=
  match s.take with
  | (some (.code e env' H'), s1) =>
    if (env'.map (·.1)).Nodup then some (e, env', H', s1.add (AW2 P N c env H (exactly3 e env' H'))) else none
  | (some (.b t), s1) =>
    match c with
    | .cond b x y =>
      match evalOp env b with
      | .bool u => rec N (if t then x else y) env H (s1.add (u = t))
      | _ => none
    | _ => none
  | (some _, _) => none
  | (none, s1) =>
    match c with
    | .cond c x y =>
      match evalOp env c with
      | .bool true => rec N x env H s1
      | .bool false => rec N y env H s1
      | _ => none
    | .block id x =>
      match rec N x env H s1 with
      | some (.exit id', env', H', s') => if id' = id then some (.normal, env', H', s') else some (.exit id', env', H', s')
      | r => r
    | .loop x =>
      match rec N x env H s1 with
      | some (.normal, env', H', s') =>
        match adjStep N H.length env' H' s' with
        | some (env2, H2, s2) => rec N (.loop x) env2 H2 s2
        | none => none
      | r => r
    | .region _ ops false =>
      if dstsIn N ops.toList then
        match runSeqP P call rec N ops ops.toList env H s1 with
        | some (env', H', s') => some (.normal, env', H', s')
        | none => none
      else none
    | .region _ ops true =>
      if P.follows .mixedOrders && regOk ops N (planOf ops) && allocOk P ops then
        match runDrawP P ops (masks ops.toList []) (planOf ops) [] env H s1 with
        | some (env', H', s') => some (.normal, env', H', s')
        | none => none
      else none
    | .rangeFunc f ps assign body =>
      match evalOp env f with
      | .fn (.func G) first caps =>
        if Enters P G then
          match call G (first ++ [.yf H.length] ++ caps) (H ++ [.lp ⟨N, env, ps, assign, body, .ready, none⟩]) s1 with
          | some (_, H', s') =>
            match H'[H.length]? with
            | some (.lp L) =>
              if L.state = .busy then none
              else
                match L.pending with
                | none => some (.normal, env, H'.set H.length .dead, s')
                | some c => rec N c env (H'.set H.length .dead) s'
            | _ => none
          | none => none
        else none
      | _ => none
    | _ => none

def codeP1 (P : Program) (call : CallP) (rec : CodeP) (N : Nat) (c : Code) (env : Env) (H : AHeap) (s : PS) : Option (Exit × Env × AHeap × PS) :=
  match c with
  | .skip => some (.normal, env, H, s)
  | .ret => some (.ret, env, H, s)
  | .exit id => some (.exit id, env, H, s)
  | .seq x y =>
    match rec N x env H s with
    | some (.normal, env', H', s') => rec N y env' H' s'
    | r => r
  | c =>
    match adjStep N H.length env H s with
    | some (env2, H2, s1) => nodeP P call rec N c env2 H2 s1
    | none => none

def callP1 (P : Program) (rec : CodeP) : CallP := fun F args H s =>
  match P.funcs[F]? with
  | some fn =>
    match fn.body with
    | some c =>
      if args.length ≤ fn.ntmps then
        match rec fn.ntmps c (env0 0 args) H s with
        | some (e, env, H', s') =>
          match e with
          | .normal | .ret =>
            match adjStep fn.ntmps H.length env H' s' with
            | some (env2, H2, s2) =>
              match resOf P fn env2 H2 with
              | some v =>
                match s2.take with
                | (none, s3) => some (v, H2, s3)
                | (some .cut, s3) => some (v, H2.take H.length, s3.add (IdsLt H.length [(0, v)] (H2.take H.length)))
                | _ => none
              | none => none
            | none => none
          | _ => none
        | none => none
      else none
    | none => none
  | none => none

noncomputable def codeP (P : Program) : Nat → CodeP
  | 0 => fun _ _ _ _ _ => none
  | n + 1 => codeP1 P (callP1 P (codeP P n)) (codeP P n)

noncomputable def callP (P : Program) (n : Nat) : CallP := callP1 P (codeP P n)

/-- A piece of code, and what is known behind it may be weakened. -/
noncomputable def unitP (P : Program) (n N : Nat) (c : Code) (env : Env) (H : AHeap) (s : PS) : Option (Exit × Env × AHeap × PS) :=
  match codeP P n N c env H s with
  | some (e, env', H', s') =>
    match adjStep N H.length env' H' s' with
    | some (env2, H2, s2) => some (e, env2, H2, s2)
    | none => none
  | none => none
end Go.Ab

/- The abstract layer, 34: evaluation along one way is sound: if what it asks for holds, the code does what it says. -/
namespace Go.Ab

section
variable {P : Program}

def CallPOk (P : Program) (call : CallP) : Prop := ∀ F args H s v H' s', call F args H s = some (v, H', s') → (s'.obl → s.obl) ∧ (s'.obl → ACalls P F args H (exactly v H'))
def CodePOk (P : Program) (code : CodeP) : Prop := ∀ N c env H s e env' H' s', (env.map (·.1)).Nodup → code N c env H s = some (e, env', H', s') →
  (s'.obl → s.obl) ∧ (s'.obl → AW2 P N c env H (exactly3 e env' H')) ∧ (env'.map (·.1)).Nodup

theorem noCall_ok : CallOk P noCall := fun _ _ _ _ _ h => by cases h
theorem noCode_ok : CodeOk P noCode := fun _ _ _ _ _ _ _ _ h => by cases h

theorem callT_inl {ρ : Operand → AVal} {op : Op} {F : FuncId} {vs : List AVal} (h : callT ρ op = some (.inl (F, vs))) :
    ∃ c f first caps, op = .call c ∧ c.callee = .value f ∧ ρ f = .fn (.func F) first caps ∧ vs = first ++ c.args.toList.map ρ ++ caps := by
  unfold callT at h
  split at h
  · rename_i c
    split at h
    · rename_i f hcal
      split at h
      · rename_i G first caps hf
        simp only [Option.some.injEq, Sum.inl.injEq, Prod.mk.injEq] at h
        obtain ⟨rfl, rfl⟩ := h
        exact ⟨c, f, first, caps, rfl, hcal, hf, rfl⟩
      · simp at h
      · cases h
    · cases h
  · cases h

theorem callT_inr {ρ : Operand → AVal} {op : Op} {id : Nat} {vs : List AVal} (h : callT ρ op = some (.inr (id, vs))) :
    ∃ c f, op = .call c ∧ c.callee = .value f ∧ ρ f = .yf id ∧ vs = c.args.toList.map ρ := by
  unfold callT at h
  split at h
  · rename_i c
    split at h
    · rename_i f hcal
      split at h
      · simp at h
      · rename_i i hf
        simp only [Option.some.injEq, Sum.inr.injEq, Prod.mk.injEq] at h
        obtain ⟨rfl, rfl⟩ := h
        exact ⟨c, f, rfl, hcal, hf, rfl⟩
      · cases h
    · cases h
  · cases h

theorem callT_congr {ρ ρ' : Operand → AVal} {op : Op} (h : ∀ x ∈ op.operands, ρ' x = ρ x) : callT ρ' op = callT ρ op := by
  cases op with
  | call c =>
    obtain ⟨cal, ⟨args⟩, ⟨ats⟩⟩ := c
    simp only [Op.operands, Call.operands] at h
    cases cal with
    | value f =>
      have hf := h f (by simp)
      have ha : args.map ρ' = args.map ρ := List.map_congr_left fun x hx => h x (by simp [hx])
      simp only [callT, hf, ha]
    | _ => rfl
  | _ => rfl

section
variable {N : Nat} {o : Oper} {env : Env} {H H' : AHeap} {v : AVal}

theorem yieldP_sound {code : CodeP} (hco : CodePOk P code) {c : Call} {f : Operand} {id : Nat} {s s' : PS} (ho : o.op = .call c) (hcal : c.callee = .value f) (hf : evalOp env f = .yf id)
    (h : yieldP code H id (c.args.toList.map (evalOp env)) s = some (v, H', s')) : (s'.obl → s.obl) ∧ (s'.obl → OpW P N o env H (exactly v H')) := by
  unfold yieldP at h
  split at h
  case h_2 => cases h
  rename_i L he
  split at h
  case isFalse => cases h
  rename_i hq
  obtain ⟨h1, h2, h3⟩ := hq
  split at h
  case h_2 => cases h
  rename_i env1 H1 s1 hc1
  split at h
  case h_2 => cases h
  rename_i L1 he1
  split at h
  case isFalse => cases h
  rename_i hst
  split at h
  case h_2 => cases h
  rename_i e env2 H2 s2 hc2
  split at h
  case h_2 => cases h
  rename_i L2 he2
  obtain ⟨i1, w1, n1⟩ := hco _ _ _ _ _ _ _ _ _ (setParams_nodup _ _ _ h3) hc1
  obtain ⟨i2, w2, _⟩ := hco _ _ _ _ _ _ _ _ _ n1 hc2
  have key : ∀ K : AVal → AHeap → Prop, roundQ id K e env2 H2 → s2.obl → OpW P N o env H K := by
    intro K hK ho2
    refine OpW.yield ho hcal hf he (by simpa using h1) h2 ((w1 (i2 ho2)).awp.mono ?_)
    rintro _ _ _ ⟨rfl, rfl, rfl⟩
    refine ⟨rfl, L1, he1, hst, ((w2 ho2).awp).mono ?_⟩
    rintro ex _ _ ⟨rfl, rfl, rfl⟩
    exact hK
  cases e with
  | normal =>
    simp only [Option.some.injEq, Prod.mk.injEq] at h
    obtain ⟨rfl, rfl, rfl⟩ := h
    exact ⟨fun q => i1 (i2 q), key _ ⟨L2, he2, rfl, rfl⟩⟩
  | ret =>
    simp only [Option.some.injEq, Prod.mk.injEq] at h
    obtain ⟨rfl, rfl, rfl⟩ := h
    exact ⟨fun q => i1 (i2 q), key _ ⟨L2, he2, rfl, rfl⟩⟩
  | exit k =>
    simp only [Option.some.injEq, Prod.mk.injEq] at h
    obtain ⟨rfl, rfl, rfl⟩ := h
    exact ⟨fun q => i1 (i2 q), key _ ⟨L2, he2, rfl, rfl⟩⟩
  | _ => cases h

theorem opW_call {F : FuncId} {vs : List AVal} (h : callT (evalOp env) o.op = some (.inl (F, vs))) (hE : Enters P F = true) (hc : ACalls P F vs H (exactly v H')) : OpW P N o env H (exactly v H') := by
  obtain ⟨c, f, first, caps, ho, hcal, hf, rfl⟩ := callT_inl h
  exact OpW.callAll ho hcal hf hE hc

theorem bldE_sound {a : Adv} {p : Prop} (h : bldE P env H o.op a = some (v, H', p)) (hp : p) : OpW P N o env H (exactly v H') := by
  unfold bldE at h
  split at h
  · split at h
    · rename_i t len parts ho
      split at h
      · rename_i sz vs hb
        simp only [Option.some.injEq, Prod.mk.injEq] at h
        obtain ⟨rfl, rfl, rfl⟩ := h
        obtain ⟨rfl, rfl⟩ := hp
        exact OpW.buildSlice_gen ho hb ⟨rfl, rfl⟩
      · cases h
    · rename_i t x y ho
      split at h
      · rename_i e sz he
        split at h
        · rename_i z kl l kc c hz hx hy
          split at h
          · rename_i hc
            simp only [Option.some.injEq, Prod.mk.injEq] at h
            obtain ⟨rfl, rfl, rfl⟩ := h
            obtain ⟨⟨p1, p2, p3⟩, rfl, rfl⟩ := hp
            exact OpW.makeSlice ho he hc.1 hc.2.1 hz hc.2.2 hx hy p1 p2 p3 ⟨rfl, rfl⟩
          · cases h
        · cases h
      · cases h
    · cases h
  · split at h
    · rename_i t len parts ho
      split at h
      · rename_i sz vs hb
        simp only [Option.some.injEq, Prod.mk.injEq] at h
        obtain ⟨rfl, rfl, rfl⟩ := h
        exact OpW.buildSlice_v ho hb ⟨rfl, rfl⟩
      · cases h
    · cases h
  · cases h

theorem opP_sound {call : CallP} (hcl : CallPOk P call) {code : CodeP} (hco : CodePOk P code) {s s' : PS} (h : opP P call code N env H o s = some (v, H', s')) : (s'.obl → s.obl) ∧ (s'.obl → OpW P N o env H (exactly v H')) := by
  have ht := s.take_obl
  unfold opP at h
  cases hq : s.take with
  | mk a s1 =>
  rw [hq] at h ht
  simp only at ht
  cases a with
  | none =>
    simp only at h
    split at h
    · rename_i F vs hc
      split at h
      · rename_i hE
        obtain ⟨i1, w1⟩ := hcl _ _ _ _ _ _ _ h
        exact ⟨fun q => ht ▸ i1 q, fun q => opW_call hc hE (w1 q)⟩
      · cases h
    · rename_i id vs hc
      obtain ⟨c, f, ho, hcal, hf, rfl⟩ := callT_inr hc
      obtain ⟨i1, w1⟩ := yieldP_sound hco (N := N) ho hcal hf h
      exact ⟨fun q => ht ▸ i1 q, w1⟩
    · split at h
      · rename_i v1 H1 hE
        simp only [Option.some.injEq, Prod.mk.injEq] at h
        obtain ⟨rfl, rfl, rfl⟩ := h
        exact ⟨fun q => ht ▸ q, fun _ => opE_sound noCall_ok noCode_ok hE⟩
      · cases h
  | some a =>
    simp only at h
    split at h
    · split at h
      · rename_i F vs hc
        split at h
        · rename_i hE
          simp only [Option.some.injEq, Prod.mk.injEq] at h
          obtain ⟨rfl, rfl, rfl⟩ := h
          exact ⟨fun q => ht ▸ q.2, fun q => opW_call hc hE q.1⟩
        · cases h
      · cases h
    · simp only [Option.some.injEq, Prod.mk.injEq] at h
      obtain ⟨rfl, rfl, rfl⟩ := h
      exact ⟨fun q => ht ▸ q.2, fun q => q.1⟩
    · split at h
      · rename_i v1 p hr
        simp only [Option.some.injEq, Prod.mk.injEq] at h
        obtain ⟨rfl, rfl, rfl⟩ := h
        exact ⟨fun q => ht ▸ q.2, fun q => OpW.quiet (advQ_sound hr q.1) ⟨rfl, rfl⟩⟩
      · split at h
        · rename_i v1 H1 F p hr
          simp only [Option.some.injEq, Prod.mk.injEq] at h
          obtain ⟨rfl, rfl, rfl⟩ := h
          exact ⟨fun q => ht ▸ q.2, fun q => roomE_sound hr q.1⟩
        · split at h
          · rename_i v1 H1 p hr
            simp only [Option.some.injEq, Prod.mk.injEq] at h
            obtain ⟨rfl, rfl, rfl⟩ := h
            exact ⟨fun q => ht ▸ q.2, fun q => bldE_sound hr q.1⟩
          · cases h

theorem runSeqP_sound {call : CallP} (hcl : CallPOk P call) {code : CodeP} (hco : CodePOk P code) {ops : Array Oper} : ∀ (os : List Oper) (env : Env) (H : AHeap) (s : PS) (env' : Env) (H' : AHeap) (s' : PS), (env.map (·.1)).Nodup →
    runSeqP P call code N ops os env H s = some (env', H', s') → (s'.obl → s.obl) ∧ (s'.obl → RW P N ops os env H (fun e1 H1 => e1 = env' ∧ H1 = H')) ∧ (env'.map (·.1)).Nodup
  | [], env, H, s, env', H', s', hn, h => by
    simp only [runSeqP, Option.some.injEq, Prod.mk.injEq] at h
    obtain ⟨rfl, rfl, rfl⟩ := h
    exact ⟨id, fun _ => ⟨rfl, rfl⟩, hn⟩
  | o :: r, env, H, s, env', H', s', hn, h => by
    simp only [runSeqP] at h
    split at h
    · rename_i hg
      split at h
      · rename_i v H1 s1 ho
        obtain ⟨i1, h1, h2⟩ := runSeqP_sound hcl hco r _ _ _ _ _ _ (putO_nodup hn o.dst v) h
        obtain ⟨i0, w0⟩ := opP_sound hcl hco ho
        refine ⟨fun q => i0 (i1 q), fun q => guardB_sound hg (fun _ => (w0 (i1 q)).mono ?_) (fun e => by cases e), h2⟩
        rintro _ _ ⟨rfl, rfl⟩
        exact h1 q
      · cases h
    · rename_i hg
      obtain ⟨i1, h1, h2⟩ := runSeqP_sound hcl hco r _ _ _ _ _ _ (putO_nodup hn o.dst _) h
      exact ⟨i1, fun q => guardB_sound hg (fun e => by cases e) (fun _ => h1 q), h2⟩
    · cases h
end

section
variable {H H' : AHeap} {v : AVal} {F : List Nat} {p : Prop}

theorem updH_length : ∀ (l : List (Nat × Ent)) (H : AHeap), (updH H l).length = H.length
  | [], _ => rfl
  | (i, e) :: r, H => by rw [updH, updH_length r, List.length_set]

theorem updH_frame : ∀ (l : List (Nat × Ent)) (H : AHeap) (i : Nat), i ∉ l.map (·.1) → (updH H l)[i]? = H[i]?
  | [], _, _, _ => rfl
  | (j, e) :: r, H, i, h => by
    simp only [List.map_cons, List.mem_cons, not_or] at h
    rw [updH, updH_frame r _ i h.2, List.getElem?_set_ne (fun e => h.1 e.symm)]

theorem roomE_congr {ρ ρ' : Operand → AVal} {op : Op} {a : Adv} (h : ∀ x ∈ op.operands, ρ' x = ρ x) : roomE P ρ' H op a = roomE P ρ H op a := by
  cases a with
  | room =>
    cases op with
    | store t x y => simp only [roomE, h x (by simp [Op.operands]), h y (by simp [Op.operands])]
    | _ => rfl
  | app cs n =>
    cases op with
    | store t x y => simp only [roomE, h x (by simp [Op.operands]), h y (by simp [Op.operands])]
    | call c =>
      obtain ⟨cal, ⟨args⟩, ⟨ats⟩⟩ := c
      simp only [Op.operands, Call.operands] at h
      cases cal with
      | builtin b =>
        cases b <;> try rfl
        simp only [roomE]
        match args, ats with
        | [sx, xx], [t, t'] => simp only [h sx (by simp), h xx (by simp)]
        | [], _ => rfl
        | [_], _ => rfl
        | _ :: _ :: _ :: _, _ => rfl
        | [_, _], [] => rfl
        | [_, _], [_] => rfl
        | [_, _], _ :: _ :: _ :: _ => rfl
      | _ => rfl
    | _ => rfl
  | appF rows =>
    cases op with
    | call c =>
      obtain ⟨cal, ⟨args⟩, ⟨ats⟩⟩ := c
      simp only [Op.operands, Call.operands] at h
      cases cal with
      | builtin b =>
        cases b <;> try rfl
        simp only [roomE]
        match args, ats with
        | [sx, xx], [t, t'] => simp only [h sx (by simp), h xx (by simp)]
        | [], _ => rfl
        | [_], _ => rfl
        | _ :: _ :: _ :: _, _ => rfl
        | [_, _], [] => rfl
        | [_, _], [_] => rfl
        | [_, _], _ :: _ :: _ :: _ => rfl
      | _ => rfl
    | _ => rfl
  | _ => rfl

theorem roomE_frame {ρ : Operand → AVal} {op : Op} {a : Adv} (h : roomE P ρ H op a = some (v, H', F, p)) : ∀ i, i < H.length → i ∉ F → H'[i]? = H[i]? := by
  unfold roomE at h
  have fs : ∀ {E : Ent} {id : Nat}, H' = H.set id E → F = [id] → ∀ i, i < H.length → i ∉ F → H'[i]? = H[i]? := by
    rintro E id rfl rfl
    exact set_frame.2
  split at h
  · split at h
    · split at h
      · split at h
        · split at h
          · simp only [Option.some.injEq, Prod.mk.injEq] at h
            exact fs h.2.1.symm h.2.2.1.symm
          · cases h
        · cases h
      · cases h
    · cases h
  · split at h
    · split at h
      · split at h
        · split at h
          · simp only [Option.some.injEq, Prod.mk.injEq] at h
            exact fs h.2.1.symm h.2.2.1.symm
          · cases h
        · cases h
      · cases h
    · split at h
      · split at h
        · split at h
          · split at h
            · split at h
              · split at h
                · split at h
                  · simp only [Option.some.injEq, Prod.mk.injEq] at h
                    obtain ⟨_, rfl, rfl, _⟩ := h
                    exact fun i hi _ => push_frame i hi
                  · split at h
                    · split at h
                      · simp only [Option.some.injEq, Prod.mk.injEq] at h
                        exact fs h.2.1.symm h.2.2.1.symm
                      · cases h
                    · cases h
                  · cases h
                · cases h
              · cases h
            · cases h
          · cases h
        · cases h
      · cases h
    · cases h
  · split at h
    · split at h
      · split at h
        · split at h
          · split at h
            · split at h
              · split at h
                · split at h
                  · simp only [Option.some.injEq, Prod.mk.injEq] at h
                    obtain ⟨_, rfl, rfl, _⟩ := h
                    exact fun i hi _ => push_frame i hi
                  · split at h
                    · split at h
                      · simp only [Option.some.injEq, Prod.mk.injEq] at h
                        exact fs h.2.1.symm h.2.2.1.symm
                      · cases h
                    · cases h
                  · cases h
                · cases h
              · cases h
            · cases h
          · cases h
        · cases h
      · cases h
    · cases h
  · cases h

theorem effP_sound {N : Nat} {o : Oper} {env : Env} {a : Option Adv} (h : effP P (evalOp env) H o.op a = some (v, H', F, p)) (hp : p) : OpW P N o env H (exactly v H') := by
  unfold effP at h
  split at h
  · split at h
    · rename_i G vs hc
      split at h
      · rename_i hE
        simp only [Option.some.injEq, Prod.mk.injEq] at h
        obtain ⟨rfl, rfl, rfl, rfl⟩ := h
        exact opW_call hc hE hp
      · cases h
    · cases h
  · exact roomE_sound h hp
  · split at h
    · rename_i he
      simp only [Option.some.injEq, Prod.mk.injEq] at h
      obtain ⟨rfl, rfl, rfl, rfl⟩ := h
      exact effE_sound noCall_ok noCode_ok he
    · cases h

theorem effP_congr {ρ ρ' : Operand → AVal} {op : Op} {a : Option Adv} (h : ∀ x ∈ op.operands, ρ' x = ρ x) : effP P ρ' H op a = effP P ρ H op a := by
  unfold effP
  split
  · rw [callT_congr h]
  · exact roomE_congr h
  · rw [effE_congr h]

theorem effP_frame {ρ : Operand → AVal} {op : Op} {a : Option Adv} (h : effP P ρ H op a = some (v, H', F, p)) : ∀ i, i < H.length → i ∉ F → H'[i]? = H[i]? := by
  unfold effP at h
  split at h
  · split at h
    · split at h
      · simp only [Option.some.injEq, Prod.mk.injEq] at h
        obtain ⟨rfl, rfl, rfl, rfl⟩ := h
        intro i hi hn
        rw [List.getElem?_append_left (by rw [updH_length]; exact hi), updH_frame _ _ _ hn]
      · cases h
    · cases h
  · exact roomE_frame h
  · split at h
    · rename_i he
      simp only [Option.some.injEq, Prod.mk.injEq] at h
      obtain ⟨rfl, rfl, rfl, rfl⟩ := h
      exact effE_frame he
    · cases h

theorem effP_none {ρ : Operand → AVal} {op : Op} {a : Option Adv} (h : effP P ρ H op a = some (v, H', F, p)) (ha : a = none) : p := by
  subst ha
  simp only [effP] at h
  split at h
  · simp only [Option.some.injEq, Prod.mk.injEq] at h
    obtain ⟨rfl, rfl, rfl, rfl⟩ := h
    trivial
  · cases h

theorem quietP_none {env : Env} {op : Op} {a : Option Adv} (h : quietP P env H op a = some (v, p)) (ha : a = none) : p := by
  subst ha
  simp only [quietP] at h
  split at h
  · simp only [Option.some.injEq, Prod.mk.injEq] at h
    obtain ⟨rfl, rfl⟩ := h
    trivial
  · cases h

theorem quietP_sound {N : Nat} {o : Oper} {env : Env} {a : Option Adv} (h : quietP P env H o.op a = some (v, p)) (hp : p) : Quiet P N o env H (rdOf env o.op) v := by
  unfold quietP at h
  split at h
  · split at h
    · rename_i hd
      simp only [Option.some.injEq, Prod.mk.injEq] at h
      obtain ⟨rfl, rfl⟩ := h
      exact Quiet.of_dquiet hd
    · cases h
  · exact Quiet.of_qeval (advQ_sound h hp)

theorem runDrawP_sound {N : Nat} {ops : Array Oper} : ∀ (l : List Nat) (pend : List (Nat × List Nat)) (env : Env) (H : AHeap) (s : PS) (env' : Env) (H' : AHeap) (s' : PS), (env.map (·.1)).Nodup →
    runDrawP P ops (masks ops.toList []) l pend env H s = some (env', H', s') →
    (s'.obl → s.obl) ∧ (s'.obl → RA P N ops l pend env H (fun e1 H1 => e1 = env' ∧ H1 = H')) ∧ (env'.map (·.1)).Nodup
  | [], pend, env, H, s, env', H', s', hn, h => by
    simp only [runDrawP, Option.some.injEq, Prod.mk.injEq] at h
    obtain ⟨rfl, rfl, rfl⟩ := h
    exact ⟨id, fun _ => ⟨rfl, rfl⟩, hn⟩
  | i :: r, pend, env, H, s, env', H', s', hn, h => by
    simp only [runDrawP] at h
    simp only [RA]
    cases ho : ops[i]? with
    | none => rw [ho] at h; cases h
    | some o =>
      rw [ho] at h
      simp only at h ⊢
      split at h
      · rename_i t hop
        split at h
        · rename_i z hz
          split at h
          · rename_i hc
            simp only [Bool.and_eq_true] at hc
            obtain ⟨i1, h1, h2⟩ := runDrawP_sound r _ _ _ _ _ _ _ (putO_nodup hn o.dst _) h
            have hg : o.guard = none := by simpa using hc.1
            rw [hg]
            refine ⟨i1, fun q => .inr (.inr ⟨t, z, hop, hz, fun j hj => ?_, h1 q⟩), h2⟩
            have := List.all_eq_true.1 hc.2 j hj
            simpa using this
          · cases h
        · cases h
      · rename_i hno
        have hal : isAlloc ops i = false := by
          cases hb : isAlloc ops i with
          | false => rfl
          | true =>
            obtain ⟨t, ht⟩ := (isAlloc_iff ho).1 hb
            exact (hno t ht).elim
        split at h
        · rename_i hg
          obtain ⟨i1, h1, h2⟩ := runDrawP_sound r _ _ _ _ _ _ _ (putO_nodup hn o.dst _) h
          exact ⟨i1, fun q => guardB_sound hg (fun e => by cases e) (fun _ => ⟨hal, h1 q⟩), h2⟩
        · rename_i hg
          have ht := s.take_obl
          split at h
          · split at h
            · rename_i u p hq
              split at h
              · rename_i hrd
                obtain ⟨i1, h1, h2⟩ := runDrawP_sound r _ _ _ _ _ _ _ (putO_nodup hn o.dst _) h
                refine ⟨fun q => ht ▸ PS.addO_obl (i1 q), fun q => guardB_sound hg (fun _ => .inl ⟨hal, u, rdOf env o.op, quietP_sound hq (PS.addO_p (quietP_none hq) (i1 q)), fun id hid => by simpa using List.all_eq_true.1 hrd id hid, h1 q⟩) (fun e => by cases e), h2⟩
              · cases h
            · cases h
          · split at h
            · rename_i u H1 F p he
              split at h
              · rename_i hc
                simp only [Bool.and_eq_true] at hc
                obtain ⟨⟨hc1, hc2⟩, hc3⟩ := hc
                obtain ⟨i1, h1, h2⟩ := runDrawP_sound r _ _ _ _ _ _ _ (putO_nodup hn o.dst _) h
                refine ⟨fun q => ht ▸ PS.addO_obl (i1 q), fun q => guardB_sound hg (fun _ => .inr (.inl ⟨hal, F, fun j hj => by simpa using List.all_eq_true.1 hc1 j hj, fun p hp => ?_, exactly u H1, ⟨fun env2 he2 => ?_, ?_⟩, ?_, ?_⟩)) (fun e => by cases e), h2⟩
                · have := List.all_eq_true.1 hc2 p hp
                  simp only [Bool.or_eq_true, List.all_eq_true, Bool.not_eq_true'] at this
                  exact this.imp id fun h3 id hid => by simpa using h3 id hid
                · refine effP_sound (a := s.take.1) (F := F) (p := p) ?_ (PS.addO_p (effP_none he) (i1 q))
                  rw [effP_congr (evalOp_congr he2)]
                  exact he
                · rintro _ _ ⟨rfl, rfl⟩ id hid hF
                  exact effP_frame he id hid hF
                · rintro _ _ ⟨rfl, rfl⟩
                  simpa using hc3
                · rintro _ _ ⟨rfl, rfl⟩
                  exact h1 q
              · cases h
            · cases h
        · cases h
end
end
end Go.Ab

/- The abstract layer, 35: evaluation along one way is sound: code and calls. -/
namespace Go.Ab

section
variable {P : Program}

theorem AW2.of_awp' {N : Nat} {c : Code} {env : Env} {H : AHeap} {Q : Exit → Env → AHeap → Prop} (hn : ∀ x, c ≠ .loop x) (h : AWp P N c env H Q) : AW2 P N c env H Q := AW2.of_awp hn h

theorem nodeP_sound {call : CallP} (hcl : CallPOk P call) {rec : CodeP} (hco : CodePOk P rec) (N : Nat) (c : Code) (env : Env) (H : AHeap) (s : PS) (e : Exit) (env' : Env) (H' : AHeap) (s' : PS) (hn : (env.map (·.1)).Nodup)
    (h : nodeP P call rec N c env H s = some (e, env', H', s')) : (s'.obl → s.obl) ∧ (s'.obl → AW2 P N c env H (exactly3 e env' H')) ∧ (env'.map (·.1)).Nodup := by
  have ht := s.take_obl
  unfold nodeP at h
  cases hq : s.take with
  | mk a s1 =>
  rw [hq] at h ht
  simp only at ht
  split at h
  · rename_i e0 env0 H0 s0 heq
    simp only [Prod.mk.injEq] at heq
    obtain ⟨rfl, rfl⟩ := heq
    split at h
    · rename_i hnd
      simp only [Option.some.injEq, Prod.mk.injEq] at h
      obtain ⟨rfl, rfl, rfl, rfl⟩ := h
      exact ⟨fun q => ht ▸ q.2, fun q => q.1, hnd⟩
    · cases h
  · rename_i t s0 heq
    simp only [Prod.mk.injEq] at heq
    obtain ⟨rfl, rfl⟩ := heq
    split at h
    · rename_i b x y
      split at h
      · rename_i u hb
        obtain ⟨i1, w1, n1⟩ := hco _ _ _ _ _ _ _ _ _ hn h
        refine ⟨fun q => ht ▸ (i1 q).2, fun q => ?_, n1⟩
        have hut : u = t := (i1 q).1
        subst hut
        refine AW2.of_awp (fun _ e => by cases e) (AWp.cond hb (fun e => ?_) (fun e => ?_))
        · subst e; exact (w1 q).awp
        · subst e; exact (w1 q).awp
      · cases h
    · cases h
  · cases h
  · rename_i s0 heq
    simp only [Prod.mk.injEq] at heq
    obtain ⟨rfl, rfl⟩ := heq
    split at h
    · rename_i b x y
      split at h
      · rename_i hb
        obtain ⟨i1, w1, n1⟩ := hco _ _ _ _ _ _ _ _ _ hn h
        exact ⟨fun q => ht ▸ i1 q, fun q => AW2.of_awp (fun _ e => by cases e) (AWp.cond hb (fun _ => (w1 q).awp) (fun e => by cases e)), n1⟩
      · rename_i hb
        obtain ⟨i1, w1, n1⟩ := hco _ _ _ _ _ _ _ _ _ hn h
        exact ⟨fun q => ht ▸ i1 q, fun q => AW2.of_awp (fun _ e => by cases e) (AWp.cond hb (fun e => by cases e) (fun _ => (w1 q).awp)), n1⟩
      · cases h
    · rename_i id x
      cases hx : rec N x env H s1 with
      | none => rw [hx] at h; cases h
      | some q =>
        obtain ⟨e1, env1, H1, s1⟩ := q
        rw [hx] at h
        obtain ⟨i1, w1, n1⟩ := hco _ _ _ _ _ _ _ _ _ hn hx
        cases e1 with
        | exit id' =>
          simp only at h
          split at h
          · rename_i hid
            simp only [Option.some.injEq, Prod.mk.injEq] at h
            obtain ⟨rfl, rfl, rfl, rfl⟩ := h
            refine ⟨fun q => ht ▸ i1 q, fun q => AW2.of_awp (fun _ e => by cases e) (AWp.block ((w1 q).awp.mono ?_)), n1⟩
            rintro _ _ _ ⟨rfl, rfl, rfl⟩
            simp only [blockQ]
            rw [if_pos hid]
            exact ⟨rfl, rfl, rfl⟩
          · rename_i hid
            simp only [Option.some.injEq, Prod.mk.injEq] at h
            obtain ⟨rfl, rfl, rfl, rfl⟩ := h
            refine ⟨fun q => ht ▸ i1 q, fun q => AW2.of_awp (fun _ e => by cases e) (AWp.block ((w1 q).awp.mono ?_)), n1⟩
            rintro _ _ _ ⟨rfl, rfl, rfl⟩
            simp only [blockQ]
            rw [if_neg hid]
            exact ⟨rfl, rfl, rfl⟩
        | _ =>
          simp only [Option.some.injEq, Prod.mk.injEq] at h
          obtain ⟨rfl, rfl, rfl, rfl⟩ := h
          refine ⟨fun q => ht ▸ i1 q, fun q => AW2.of_awp (fun _ e => by cases e) (AWp.block ((w1 q).awp.mono ?_)), n1⟩
          rintro _ _ _ ⟨rfl, rfl, rfl⟩
          exact ⟨rfl, rfl, rfl⟩
    · rename_i x
      cases hx : rec N x env H s1 with
      | none => rw [hx] at h; cases h
      | some q =>
        obtain ⟨e1, env1, H1, s1⟩ := q
        rw [hx] at h
        obtain ⟨i1, w1, n1⟩ := hco _ _ _ _ _ _ _ _ _ hn hx
        cases e1 with
        | normal =>
          simp only at h
          split at h
          · rename_i env2 H2 s2 hadj
            obtain ⟨ia, wa, na, la⟩ := adjStep_sound hadj n1
            obtain ⟨i2, w2, n2⟩ := hco _ _ _ _ _ _ _ _ _ na h
            refine ⟨fun q => ht ▸ i1 (ia (i2 q)), fun q => ALoopW.unroll ((w1 (ia (i2 q))).awp.mono ?_), n2⟩
            rintro _ _ _ ⟨rfl, rfl, rfl⟩
            exact ⟨_, _, wa (i2 q), w2 q⟩
          · cases h
        | _ =>
          simp only [Option.some.injEq, Prod.mk.injEq] at h
          obtain ⟨rfl, rfl, rfl, rfl⟩ := h
          refine ⟨fun q => ht ▸ i1 q, fun q => ALoopW.unroll ((w1 q).awp.mono ?_), n1⟩
          rintro _ _ _ ⟨rfl, rfl, rfl⟩
          exact ⟨rfl, rfl, rfl⟩
    · rename_i id ops
      split at h
      · rename_i hd
        split at h
        · rename_i env1 H1 s1 hr
          simp only [Option.some.injEq, Prod.mk.injEq] at h
          obtain ⟨rfl, rfl, rfl, rfl⟩ := h
          obtain ⟨i1, w1, n1⟩ := runSeqP_sound (N := N) hcl hco _ _ _ _ _ _ _ hn hr
          refine ⟨fun q => ht ▸ i1 q, fun q => AW2.of_awp (fun _ e => by cases e) (AWp.region hd ?_), n1⟩
          show RW P N ops ops.toList env H (fun e1 H2 => Exit.normal = Exit.normal ∧ e1 = env1 ∧ H2 = H1)
          simpa using w1 q
        · cases h
      · cases h
    · rename_i id ops
      split at h
      · rename_i hd
        simp only [Bool.and_eq_true] at hd
        split at h
        · rename_i env1 H1 s1 hr
          simp only [Option.some.injEq, Prod.mk.injEq] at h
          obtain ⟨rfl, rfl, rfl, rfl⟩ := h
          obtain ⟨i1, w1, n1⟩ := runDrawP_sound (N := N) _ _ _ _ _ _ _ _ hn hr
          refine ⟨fun q => ht ▸ i1 q, fun q => AW2.of_awp (fun _ e => by cases e) (AWp.region_draw hd.1.1 _ hd.1.2 hd.2 hn ?_), n1⟩
          show RA P N ops (planOf ops) [] env H (fun e1 H2 => Exit.normal = Exit.normal ∧ e1 = env1 ∧ H2 = H1)
          simpa using w1 q
        · cases h
      · cases h
    · rename_i f ps assign body
      split at h
      · rename_i G first caps hf
        split at h
        · rename_i hE
          split at h
          · rename_i v H1 s1 hc
            obtain ⟨i1, c1⟩ := hcl _ _ _ _ _ _ _ hc
            split at h
            · rename_i L hL
              split at h
              · cases h
              · rename_i hb
                split at h
                · rename_i hp
                  simp only [Option.some.injEq, Prod.mk.injEq] at h
                  obtain ⟨rfl, rfl, rfl, rfl⟩ := h
                  refine ⟨fun q => ht ▸ i1 q, fun q => AW2.of_awp (fun _ e => by cases e) (AWp.rangeFunc hf hE ((c1 q).mono ?_)), hn⟩
                  rintro _ _ ⟨rfl, rfl⟩
                  exact ⟨L, hL, hb, by rw [hp]; exact ⟨rfl, rfl, rfl⟩⟩
                · rename_i cd hp
                  obtain ⟨i2, w1, n1⟩ := hco _ _ _ _ _ _ _ _ _ hn h
                  refine ⟨fun q => ht ▸ i1 (i2 q), fun q => AW2.of_awp (fun _ e => by cases e) (AWp.rangeFunc hf hE ((c1 (i2 q)).mono ?_)), n1⟩
                  rintro _ _ ⟨rfl, rfl⟩
                  exact ⟨L, hL, hb, by rw [hp]; exact (w1 q).awp⟩
            · cases h
          · cases h
        · cases h
      · cases h
    · cases h

theorem codeP1_sound {call : CallP} (hcl : CallPOk P call) {rec : CodeP} (hco : CodePOk P rec) : CodePOk P (codeP1 P call rec) := by
  intro N c env H s e env' H' s' hn h
  unfold codeP1 at h
  split at h
  · simp only [Option.some.injEq, Prod.mk.injEq] at h
    obtain ⟨rfl, rfl, rfl, rfl⟩ := h
    exact ⟨id, fun _ => AWp.skip ⟨rfl, rfl, rfl⟩, hn⟩
  · simp only [Option.some.injEq, Prod.mk.injEq] at h
    obtain ⟨rfl, rfl, rfl, rfl⟩ := h
    exact ⟨id, fun _ => AWp.ret ⟨rfl, rfl, rfl⟩, hn⟩
  · simp only [Option.some.injEq, Prod.mk.injEq] at h
    obtain ⟨rfl, rfl, rfl, rfl⟩ := h
    exact ⟨id, fun _ => AWp.exit ⟨rfl, rfl, rfl⟩, hn⟩
  · rename_i x y
    cases hx : rec N x env H s with
    | none => rw [hx] at h; cases h
    | some q =>
      obtain ⟨e1, env1, H1, s1⟩ := q
      rw [hx] at h
      obtain ⟨i1, w1, n1⟩ := hco _ _ _ _ _ _ _ _ _ hn hx
      cases e1 with
      | normal =>
        obtain ⟨i2, w2, n2⟩ := hco _ _ _ _ _ _ _ _ _ n1 h
        refine ⟨fun q => i1 (i2 q), fun q => AWp.seq ((w1 (i2 q)).awp.mono ?_), n2⟩
        rintro _ _ _ ⟨rfl, rfl, rfl⟩
        exact (w2 q).awp
      | _ =>
        simp only [Option.some.injEq, Prod.mk.injEq] at h
        obtain ⟨rfl, rfl, rfl, rfl⟩ := h
        refine ⟨i1, fun q => AWp.seq ((w1 q).awp.mono ?_), n1⟩
        rintro _ _ _ ⟨rfl, rfl, rfl⟩
        exact ⟨rfl, rfl, rfl⟩
  · split at h
    · rename_i env2 H2 s1 hadj
      obtain ⟨ia, wa, na, la⟩ := adjStep_sound hadj hn
      obtain ⟨i1, w1, n1⟩ := nodeP_sound hcl hco _ _ _ _ _ _ _ _ _ na h
      exact ⟨fun q => ia (i1 q), fun q => AW2.weak (wa (i1 q)) (w1 q), n1⟩
    · cases h

theorem callP1_sound {rec : CodeP} (hco : CodePOk P rec) : CallPOk P (callP1 P rec) := by
  intro F args H s v H' s' h
  unfold callP1 at h
  split at h
  case h_2 => cases h
  rename_i fn hfn
  split at h
  case h_2 => cases h
  rename_i c hc
  split at h
  case isFalse => cases h
  rename_i hl
  split at h
  case h_2 => cases h
  rename_i e env H1 s1 hr
  obtain ⟨i1, w1, n1⟩ := hco _ _ _ _ _ _ _ _ _ (env0_nodup 0 args) hr
  have key : (e = .normal ∨ e = .ret) → (match adjStep fn.ntmps H.length env H1 s1 with
      | some (env2, H2, s2) =>
        match resOf P fn env2 H2 with
        | some v =>
          match s2.take with
          | (none, s3) => some (v, H2, s3)
          | (some .cut, s3) => some (v, H2.take H.length, s3.add (IdsLt H.length [(0, v)] (H2.take H.length)))
          | _ => none
        | none => none
      | none => none) = some (v, H', s') → (s'.obl → s.obl) ∧ (s'.obl → ACalls P F args H (exactly v H')) := by
    intro he h
    split at h
    case h_2 => cases h
    rename_i env2 H2 s2 hadj
    obtain ⟨ia, wa, na, la⟩ := adjStep_sound hadj n1
    have ht := s2.take_obl
    split at h
    case h_2 => cases h
    rename_i u hu
    have fin : ∀ v2 H3, s2.obl → RetWeak H.length u H2 v2 H3 → ACalls P F args H (exactly v2 H3) := by
      intro v2 H3 q hw
      have hb : AWp P fn.ntmps c (env0 0 args) H (exactly3 e env2 H2) := by
        refine AWp.after ((w1 (ia q)).awp.mono ?_)
        rintro _ _ _ ⟨rfl, rfl, rfl⟩
        exact ⟨_, _, wa q, rfl, rfl, rfl⟩
      refine ACalls.of_body hfn hc hl (hb.mono ?_)
      rintro ex _ _ ⟨rfl, rfl, rfl⟩
      rcases he with rfl | rfl <;> exact ⟨u, _, _, hu, hw, rfl, rfl⟩
    cases hq : s2.take with
    | mk a s0 =>
    rw [hq] at h ht
    simp only at ht
    split at h
    · rename_i s3 heq
      simp only [Prod.mk.injEq] at heq
      obtain ⟨rfl, rfl⟩ := heq
      simp only [Option.some.injEq, Prod.mk.injEq] at h
      obtain ⟨rfl, rfl, rfl⟩ := h
      exact ⟨fun q => i1 (ia (ht ▸ q)), fun q => fin _ _ (ht ▸ q) (RetWeak.refl _ _ la)⟩
    · rename_i s3 heq
      simp only [Prod.mk.injEq] at heq
      obtain ⟨rfl, rfl⟩ := heq
      simp only [Option.some.injEq, Prod.mk.injEq] at h
      obtain ⟨rfl, rfl, rfl⟩ := h
      exact ⟨fun q => i1 (ia (ht ▸ q.2)), fun q => fin _ _ (ht ▸ q.2) (RetWeak.frz la (.refl _) (q.1.1 (0, u) (by simp)) q.1.2)⟩
    · cases h
  cases e with
  | normal => exact key (.inl rfl) h
  | ret => exact key (.inr rfl) h
  | _ => cases h

theorem codeP_sound : ∀ n, CodePOk P (codeP P n)
  | 0 => fun _ _ _ _ _ _ _ _ _ _ h => by cases h
  | n + 1 => codeP1_sound (callP1_sound (codeP_sound n)) (codeP_sound n)

theorem callP_sound (n : Nat) : CallPOk P (callP P n) := callP1_sound (codeP_sound n)

/-- A way through a function. -/
theorem ACalls.way {n : Nat} {adv : List (Nat × Adv)} {F : FuncId} {args : List AVal} {H : AHeap} {v : AVal} {H' : AHeap} {p : Prop}
    (h : (callP P n F args H ⟨0, adv, True⟩).map (fun r => (r.1, r.2.1, r.2.2.obl)) = some (v, H', p)) (hp : p) : ACalls P F args H (exactly v H') := by
  cases hq : callP P n F args H ⟨0, adv, True⟩ with
  | none => rw [hq] at h; cases h
  | some q =>
    obtain ⟨v1, H1, s1⟩ := q
    rw [hq] at h
    simp only [Option.map_some, Option.some.injEq, Prod.mk.injEq] at h
    obtain ⟨rfl, rfl, rfl⟩ := h
    exact (callP_sound n _ _ _ _ _ _ _ hq).2 hp

/-- A way through a code. -/
theorem AW2.way {n N : Nat} {adv : List (Nat × Adv)} {c : Code} {env : Env} {H : AHeap} {e : Exit} {env' : Env} {H' : AHeap} {p : Prop} (hn : (env.map (·.1)).Nodup)
    (h : (unitP P n N c env H ⟨0, adv, True⟩).map (fun r => (r.1, r.2.1, r.2.2.1, r.2.2.2.obl)) = some (e, env', H', p)) (hp : p) : AW2 P N c env H (exactly3 e env' H') := by
  cases hq : unitP P n N c env H ⟨0, adv, True⟩ with
  | none => rw [hq] at h; cases h
  | some q =>
    obtain ⟨e1, env1, H1, s1⟩ := q
    rw [hq] at h
    simp only [Option.map_some, Option.some.injEq, Prod.mk.injEq] at h
    obtain ⟨rfl, rfl, rfl, rfl⟩ := h
    unfold unitP at hq
    split at hq
    case h_2 => cases hq
    rename_i e2 env2 H2 s2 hc
    obtain ⟨_, w1, n1⟩ := codeP_sound n _ _ _ _ _ _ _ _ _ hn hc
    split at hq
    case h_2 => cases hq
    rename_i env3 H3 s3 hadj
    simp only [Option.some.injEq, Prod.mk.injEq] at hq
    obtain ⟨rfl, rfl, rfl, rfl⟩ := hq
    obtain ⟨ia, wa, _, _⟩ := adjStep_sound hadj n1
    refine AW2.after ((w1 (ia hp)).mono ?_)
    rintro _ _ _ ⟨rfl, rfl, rfl⟩
    exact ⟨_, _, wa hp, rfl, rfl, rfl⟩
end
end Go.Ab

/- The abstract layer, 36: data of one type in words; contracts over any heap; loops as functions. -/
namespace Go.Ab

/-! ### Words without blocks -/
mutual
theorem idsAll_mono {p q : Nat → Bool} (h : ∀ id, p id = true → q id = true) : ∀ v : AVal, v.idsAll p = true → v.idsAll q = true
  | .ptr id g off, k => h id k
  | .sl id g sz off len, k => h id k
  | .yf id, k => h id k
  | .vptr cs, k => idsAllL_mono h cs k
  | .vs sz rows, k => idsAllL_mono h rows k
  | .fn f a b, k => by
    simp only [AVal.idsAll, Bool.and_eq_true] at k ⊢
    exact ⟨idsAllL_mono h a k.1, idsAllL_mono h b k.2⟩
  | .agg cs, k => idsAllL_mono h cs k
  | .tup cs, k => idsAllL_mono h cs k
  | .bool _, _ => rfl
  | .int _ _, _ => rfl
  | .str _, _ => rfl
  | .nilp, _ => rfl
  | .nils, _ => rfl
  | .nilf, _ => rfl
  | .any, _ => rfl
theorem idsAllL_mono {p q : Nat → Bool} (h : ∀ id, p id = true → q id = true) : ∀ l : List AVal, AVal.idsAllL p l = true → AVal.idsAllL q l = true
  | [], _ => rfl
  | v :: r, k => by
    simp only [AVal.idsAllL, Bool.and_eq_true] at k ⊢
    exact ⟨idsAll_mono h v k.1, idsAllL_mono h r k.2⟩
end

mutual
theorem ren_comp (ρ σ : Nat → Nat) : ∀ v : AVal, (v.ren ρ).ren σ = v.ren fun id => σ (ρ id)
  | .ptr id g off => rfl
  | .sl id g sz off len => rfl
  | .yf id => rfl
  | .vptr cs => by simp only [AVal.ren, renL_comp ρ σ cs]
  | .vs sz rows => by simp only [AVal.ren, renL_comp ρ σ rows]
  | .fn f a b => by simp only [AVal.ren, renL_comp ρ σ a, renL_comp ρ σ b]
  | .agg cs => by simp only [AVal.ren, renL_comp ρ σ cs]
  | .tup cs => by simp only [AVal.ren, renL_comp ρ σ cs]
  | .bool _ => rfl
  | .int _ _ => rfl
  | .str _ => rfl
  | .nilp => rfl
  | .nils => rfl
  | .nilf => rfl
  | .any => rfl
theorem renL_comp (ρ σ : Nat → Nat) : ∀ l : List AVal, AVal.renL σ (AVal.renL ρ l) = AVal.renL (fun id => σ (ρ id)) l
  | [] => rfl
  | v :: r => by simp only [AVal.renL, ren_comp ρ σ v, renL_comp ρ σ r]
end

mutual
theorem idsAll_ren {p q : Nat → Bool} {ρ : Nat → Nat} (h : ∀ id, p id = true → q (ρ id) = true) : ∀ v : AVal, v.idsAll p = true → (v.ren ρ).idsAll q = true
  | .ptr id g off, k => h id k
  | .sl id g sz off len, k => h id k
  | .yf id, k => h id k
  | .vptr cs, k => idsAllL_ren h cs k
  | .vs sz rows, k => idsAllL_ren h rows k
  | .fn f a b, k => by
    simp only [AVal.ren, AVal.idsAll, Bool.and_eq_true] at k ⊢
    exact ⟨idsAllL_ren h a k.1, idsAllL_ren h b k.2⟩
  | .agg cs, k => idsAllL_ren h cs k
  | .tup cs, k => idsAllL_ren h cs k
  | .bool _, _ => rfl
  | .int _ _, _ => rfl
  | .str _, _ => rfl
  | .nilp, _ => rfl
  | .nils, _ => rfl
  | .nilf, _ => rfl
  | .any, _ => rfl
theorem idsAllL_ren {p q : Nat → Bool} {ρ : Nat → Nat} (h : ∀ id, p id = true → q (ρ id) = true) : ∀ l : List AVal, AVal.idsAllL p l = true → AVal.idsAllL q (AVal.renL ρ l) = true
  | [], _ => rfl
  | v :: r, k => by
    simp only [AVal.renL, AVal.idsAllL, Bool.and_eq_true] at k ⊢
    exact ⟨idsAll_ren h v k.1, idsAllL_ren h r k.2⟩
end

def Pure (v : AVal) : Prop := v.idsAll (fun _ => false) = true
def PureE (e : Ent) : Prop := match e with | .live _ cs => AVal.idsAllL (fun _ => false) cs = true | _ => False

theorem Pure.all {v : AVal} (h : Pure v) (p : Nat → Bool) : v.idsAll p = true := idsAll_mono (fun _ e => by cases e) v h
theorem Pure.ren {v : AVal} (h : Pure v) (ρ : Nat → Nat) : v.ren ρ = v := ren_id (p := fun _ => false) (fun _ e => by cases e) v h
theorem PureE.all {e : Ent} (h : PureE e) (p : Nat → Bool) : e.idsAll p = true := by
  cases e with
  | live g cs => exact idsAllL_mono (fun _ e => by cases e) cs h
  | _ => cases h
theorem PureE.ren {e : Ent} (h : PureE e) (ρ : Nat → Nat) : e.ren ρ = e := by
  cases e with
  | live g cs => simp only [Ent.ren]; rw [renL_id (p := fun _ => false) (fun _ e => by cases e) cs h]
  | _ => cases h

/-! ### Contracts over any heap -/
theorem ACalls.sub {P : Program} {F : FuncId} {args : List AVal} {H : AHeap} {K : AVal → AHeap → Prop} (bs : List Nat) {Qc : AVal → AHeap → Prop} (hnd : bs.Nodup) (hlt : ∀ b ∈ bs, b < H.length)
    (hb : ∀ b ∈ bs, ((H.getD b .dead).idsAll fun id => decide (id ∈ bs)) = true) (hids : AVal.idsAllL (fun id => decide (id ∈ bs)) args = true)
    (hc : ACalls P F (AVal.renL (bs.idxOf ·) args) (subH H bs) Qc) (hk : ∀ v Hc, Qc v Hc → K (v.ren (backId H bs)) (mergeH H bs Hc)) : ACalls P F args H K := by
  intro X h w cargs s hsz hargs
  refine (hc (Xs X h H bs) (subG h bs) w cargs (s.sub hnd hb) (by simpa [renL_map] using hsz) ?_).mono ?_
  · intro j v d hj hd
    rw [renL_map, List.getElem?_map] at hj
    cases hu : args[j]? with
    | none => rw [hu] at hj; cases hj
    | some u =>
      rw [hu] at hj
      simp only [Option.map_some, Option.some.injEq] at hj
      subst hj
      exact VRel.ren (p := fun id => decide (id ∈ bs)) (fun id => sub_rho id) rfl sub_O (hargs j u d hu hd) (idsAllL_get hids hu)
  · rintro e w' ⟨d, v, hc', Hc, rfl, q, sc, rv, x⟩
    have hl : bs.length ≤ Hc.length := by have := x.n; simpa [subH] using this
    exact ⟨d, _, backG h H bs hc', mergeH H bs Hc, rfl, hk v Hc q, s.back hnd hlt x sc, VRel.back hnd hlt hl rv, Ext.back hnd hlt x⟩

theorem setAll_pure {ρ : Nat → Nat} : ∀ (bs : List Nat) (H Hc : AHeap), (∀ e ∈ Hc, PureE e) → setAll ρ H bs Hc = updH H (bs.zip Hc)
  | [], H, Hc, _ => by cases Hc <;> rfl
  | b :: bs, H, [], _ => rfl
  | b :: bs, H, e :: es, h => by
    simp only [setAll, List.zip_cons_cons, updH]
    rw [(h e (by simp)).ren, setAll_pure bs _ es fun e' he => h e' (by simp [he])]

theorem ACalls.frame {P : Program} {F : FuncId} {args0 args : List AVal} {H0 H0' H : AHeap} {v : AVal} (bs : List Nat) (hc : ACalls P F args0 H0 (exactly v H0')) (hnd : bs.Nodup) (h0 : H0.length = bs.length) (h1 : H0'.length = bs.length)
    (hH : ∀ (j b : Nat) (e : Ent), bs[j]? = some b → H0[j]? = some e → H[b]? = some e) (p0 : ∀ e ∈ H0, PureE e) (p1 : ∀ e ∈ H0', PureE e) (pv : Pure v)
    (ha : AVal.renL (fun j => bs.getD j 0) args0 = args) (hi : AVal.idsAllL (fun j => decide (j < bs.length)) args0 = true) : ACalls P F args H (exactly v (updH H (bs.zip H0'))) := by
  have get : ∀ b ∈ bs, ∃ (j : Nat) (e : Ent), bs[j]? = some b ∧ H0[j]? = some e ∧ H[b]? = some e := by
    intro b hb
    obtain ⟨j, hj, e⟩ := List.mem_iff_getElem.1 hb
    have h2 : bs[j]? = some b := by rw [List.getElem?_eq_getElem hj, e]
    have h3 : H0[j]? = some (H0[j]'(by omega)) := List.getElem?_eq_getElem (by omega)
    exact ⟨j, _, h2, h3, hH j b _ h2 h3⟩
  have hlt : ∀ b ∈ bs, b < H.length := by
    intro b hb
    obtain ⟨j, e, _, _, h2⟩ := get b hb
    rcases Nat.lt_or_ge b H.length with h3 | h3
    · exact h3
    · rw [List.getElem?_eq_none h3] at h2; cases h2
  have hsub : subH H bs = H0 := by
    apply List.ext_getElem?
    intro j
    unfold subH
    rw [List.getElem?_map]
    cases hj : bs[j]? with
    | none =>
      rw [List.getElem?_eq_none_iff] at hj
      rw [List.getElem?_eq_none (by omega)]
      rfl
    | some b =>
      have hjl : j < bs.length := by
        rcases Nat.lt_or_ge j bs.length with h3 | h3
        · exact h3
        · rw [List.getElem?_eq_none h3] at hj; cases hj
      have h3 : H0[j]? = some (H0[j]'(by omega)) := List.getElem?_eq_getElem (by omega)
      have h4 := hH j b _ hj h3
      rw [h3, Option.map_some, List.getD_eq_getElem?_getD, h4, Option.getD_some, (p0 _ (List.getElem_mem _)).ren]
  refine ACalls.sub bs (Qc := exactly v H0') hnd hlt (fun b hb => ?_) ?_ ?_ ?_
  · obtain ⟨j, e, _, h2, h3⟩ := get b hb
    rw [List.getD_eq_getElem?_getD, h3, Option.getD_some]
    exact (p0 e (List.mem_of_getElem? h2)).all _
  · rw [← ha]
    refine idsAllL_ren (fun j hj => ?_) args0 hi
    simp only [decide_eq_true_eq] at hj ⊢
    rw [List.getD_eq_getElem?_getD, List.getElem?_eq_getElem hj]
    exact List.getElem_mem _
  · rw [hsub, ← ha, renL_comp]
    have : AVal.renL (fun j => bs.idxOf (bs.getD j 0)) args0 = args0 := by
      refine renL_id (p := fun j => decide (j < bs.length)) (fun j hj => ?_) args0 hi
      simp only [decide_eq_true_eq] at hj
      exact idxOf_get hnd (by rw [List.getD_eq_getElem?_getD, List.getElem?_eq_getElem hj]; rfl)
    rw [this]
    exact hc
  · rintro u Hc ⟨rfl, rfl⟩
    refine ⟨pv.ren _, ?_⟩
    unfold mergeH
    rw [setAll_pure _ _ _ p1, List.drop_eq_nil_of_le (by omega)]
    simp

/-! ### Data of one type -/
structure Encd (α : Type) where
  sz : Nat
  f : α → AVal
  pos : 0 < sz
  len : ∀ x, (f x).cells.length = sz
  pure : ∀ x, Pure (f x)

/-- The cells of a list. -/
def Encd.cl {α : Type} (e : Encd α) (l : List α) : List AVal := (l.map e.f).flatMap AVal.cells

theorem Encd.pureL {α : Type} (e : Encd α) (l : List α) : AVal.idsAllL (fun _ => false) (l.map e.f) = true := by
  rw [idsAllL_iff]
  intro v hv
  obtain ⟨x, _, rfl⟩ := List.mem_map.1 hv
  exact e.pure x

theorem Encd.pureC {α : Type} (e : Encd α) (l : List α) : AVal.idsAllL (fun _ => false) (e.cl l) = true := by
  rw [idsAllL_iff]
  intro v hv
  obtain ⟨u, hu, hv⟩ := List.mem_flatMap.1 hv
  obtain ⟨x, _, rfl⟩ := List.mem_map.1 hu
  exact idsAll_cells (e.pure x) v hv

theorem Encd.clen {α : Type} (e : Encd α) : ∀ l : List α, (e.cl l).length = l.length * e.sz
  | [] => by simp [Encd.cl]
  | x :: l => by
    have := Encd.clen e l
    simp only [Encd.cl, List.map_cons, List.flatMap_cons, List.length_append, e.len] at this ⊢
    rw [this]
    simp [Nat.add_mul, Nat.add_comm]

def eBool : Encd Bool := ⟨1, .bool, by decide, fun _ => rfl, fun _ => rfl⟩
def eInt (k : IntKind) : Encd Int := ⟨1, .int k, by decide, fun _ => rfl, fun _ => rfl⟩
abbrev Str := List UInt8
def eStr : Encd Str := ⟨1, .str, by decide, fun _ => rfl, fun _ => rfl⟩
def eList {α : Type} (e : Encd α) : Encd (List α) := ⟨1, fun l => .vs e.sz (l.map e.f), by decide, fun _ => rfl, fun l => e.pureL l⟩

/-! ### What is asked, in one form -/
def ix {α : Type} (l : List α) (i : Int) : Option α := if 0 ≤ i then l[i.toNat]? else none
def app {α : Type} (l xs : List α) : Option (List α) := if l.length + xs.length ≤ 16777216 then some (l ++ xs) else none

theorem o_len {α : Type} (f : α → AVal) (l : List α) : some (AVal.int .i64 ((l.map f).length : Int)) = some (.int .i64 (l.length : Int)) := by rw [List.length_map]
theorem o_ix {α : Type} {f : α → AVal} {l : List α} {i : Int} {x : α} (h : ix l i = some x) : 0 ≤ i ∧ (l.map f)[i.toNat]? = some (f x) := by
  unfold ix at h
  split at h
  · rename_i hi
    exact ⟨hi, by rw [List.getElem?_map, h]; rfl⟩
  · cases h
theorem app_some {α : Type} {l xs r : List α} (h : app l xs = some r) : l.length + xs.length ≤ 16777216 ∧ r = l ++ xs := by
  unfold app at h
  split at h
  · rename_i hl
    exact ⟨hl, (Option.some.inj h).symm⟩
  · cases h
theorem o_app {α : Type} (e : Encd α) {l xs r : List α} (h : app l xs = some r) :
    (l.length = l.length ∧ l.length = l.length ∧ (e.cl l).length = l.length * e.sz ∧ l.length + (xs.map e.f).length ≤ 16777216) ∧ l.length + (xs.map e.f).length = r.length ∧ e.cl l ++ (xs.map e.f).flatMap AVal.cells = e.cl r := by
  obtain ⟨h1, rfl⟩ := app_some h
  refine ⟨⟨rfl, rfl, e.clen l, by simpa using h1⟩, by simp, by simp [Encd.cl]⟩
theorem o_app0 {α : Type} (e : Encd α) {xs r : List α} (h : app [] xs = some r) :
    (xs.map e.f).length = r.length ∧ (xs.map e.f).flatMap AVal.cells = e.cl r ∧ (xs.map e.f).length ≤ 16777216 := by
  obtain ⟨h1, rfl⟩ := app_some h
  exact ⟨by simp, by simp [Encd.cl], by simpa using h1⟩
theorem o_rows {α : Type} (e : Encd α) (l : List α) : RowsAre e.sz (e.cl l) (l.map e.f) := ⟨e.pos, fun v hv => by
  obtain ⟨x, _, rfl⟩ := List.mem_map.1 hv
  exact e.len x, rfl⟩
theorem o_frz {α : Type} (e : Encd α) (l : List α) : l.length = l.length ∧ l.length = (l.map e.f).length := ⟨rfl, (List.length_map _).symm⟩

theorem i_nil (n : Nat) : ∀ p ∈ ([] : Env), (p.2.idsAll fun id => decide (id < n)) = true := fun _ h => by cases h
theorem i_cons {n t : Nat} {v : AVal} {r : Env} (h : (v.idsAll fun id => decide (id < n)) = true) (k : ∀ p ∈ r, (p.2.idsAll fun id => decide (id < n)) = true) : ∀ p ∈ (t, v) :: r, (p.2.idsAll fun id => decide (id < n)) = true := by
  intro p hp
  rcases List.mem_cons.1 hp with rfl | hp
  · exact h
  · exact k p hp
theorem j_nil (n : Nat) : ∀ e ∈ ([] : AHeap), (e.idsAll fun id => decide (id < n)) = true := fun _ h => by cases h
theorem j_cons {n : Nat} {e : Ent} {r : AHeap} (h : (e.idsAll fun id => decide (id < n)) = true) (k : ∀ e ∈ r, (e.idsAll fun id => decide (id < n)) = true) : ∀ x ∈ e :: r, (x.idsAll fun id => decide (id < n)) = true := by
  intro p hp
  rcases List.mem_cons.1 hp with rfl | hp
  · exact h
  · exact k p hp

/-! ### Partial functions of loops -/
inductive Step (S R : Type) where
  | next (s : S)
  | done (r : R)

def loopN {S R : Type} (body : S → Option (Step S R)) : Nat → S → Option R
  | 0, _ => none
  | n + 1, s =>
    match body s with
    | some (.next s') => loopN body n s'
    | some (.done r) => some r
    | none => none

theorem loopN_succ {S R : Type} {body : S → Option (Step S R)} {n : Nat} {s : S} {r : R} (h : loopN body n s = some r) : loopN body (n + 1) s = some r := by
  induction n generalizing s with
  | zero => cases h
  | succ n ih =>
    rw [loopN] at h ⊢
    cases hb : body s with
    | none => rw [hb] at h; cases h
    | some q =>
      rw [hb] at h
      cases q with
      | next s' => exact ih h
      | done r => exact h

theorem loopN_le {S R : Type} {body : S → Option (Step S R)} {n m : Nat} {s : S} {r : R} (h : loopN body n s = some r) (hm : n ≤ m) : loopN body m s = some r := by
  induction hm with
  | refl => exact h
  | step _ ih => exact loopN_succ ih

open Classical in
/-- What a loop yields, if it ends. -/
noncomputable def loopO {S R : Type} (body : S → Option (Step S R)) (s : S) : Option R := if h : ∃ r n, loopN body n s = some r then some h.choose else none

theorem loopO_iff {S R : Type} {body : S → Option (Step S R)} {s : S} {r : R} : loopO body s = some r ↔ ∃ n, loopN body n s = some r := by
  unfold loopO
  constructor
  · intro h
    split at h
    · rename_i hx
      obtain ⟨n, hn⟩ := hx.choose_spec
      injection h with h
      exact ⟨n, by rw [hn, h]⟩
    · cases h
  · rintro ⟨n, hn⟩
    have hx : ∃ r n, loopN body n s = some r := ⟨r, n, hn⟩
    rw [dif_pos hx]
    obtain ⟨m, hm⟩ := hx.choose_spec
    have h1 := loopN_le hn (Nat.le_max_left n m)
    have h2 := loopN_le hm (Nat.le_max_right n m)
    rw [h1] at h2
    exact h2.symm

/-- One round. -/
theorem loopO_eq {S R : Type} (body : S → Option (Step S R)) (s : S) : loopO body s = match body s with
    | some (.next s') => loopO body s'
    | some (.done r) => some r
    | none => none := by
  apply Option.ext
  intro r
  rw [loopO_iff]
  constructor
  · rintro ⟨n, h⟩
    cases n with
    | zero => cases h
    | succ n =>
      rw [loopN] at h
      cases hb : body s with
      | none => rw [hb] at h; cases h
      | some q =>
        rw [hb] at h
        cases q with
        | next s' => exact loopO_iff.2 ⟨n, h⟩
        | done r => exact h
  · intro h
    cases hb : body s with
    | none => rw [hb] at h; cases h
    | some q =>
      rw [hb] at h
      cases q with
      | next s' =>
        obtain ⟨n, hn⟩ := loopO_iff.1 h
        exact ⟨n + 1, by rw [loopN, hb]; exact hn⟩
      | done r0 => exact ⟨1, by rw [loopN, hb]; exact h⟩

/-- What holds of a loop that ends: shown for one round. -/
theorem loopO_ind {S R : Type} {body : S → Option (Step S R)} (C : S → R → Prop) (h1 : ∀ s s' r, body s = some (.next s') → C s' r → C s r) (h2 : ∀ s r, body s = some (.done r) → C s r) {s : S} {r : R} (h : loopO body s = some r) : C s r := by
  obtain ⟨n, hn⟩ := loopO_iff.1 h
  clear h
  induction n generalizing s with
  | zero => cases hn
  | succ n ih =>
    rw [loopN] at hn
    cases hb : body s with
    | none => rw [hb] at hn; cases hn
    | some q =>
      rw [hb] at hn
      cases q with
      | next s' => exact h1 s s' r hb (ih hn)
      | done r0 =>
        injection hn with hn
        subst hn
        exact h2 s r0 hb

theorem bnd {α β : Type} {x : Option α} {k : α → Option β} {r : β} (h : x.bind k = some r) : ∃ a, x = some a ∧ k a = some r := by
  cases x with
  | none => cases h
  | some a => exact ⟨a, rfl, h⟩
theorem bif_ {α : Type} {b : Bool} {x y : Option α} {r : α} (h : (bif b then x else y) = some r) : (b = true ∧ x = some r) ∨ (b = false ∧ y = some r) := by
  cases b
  · exact .inr ⟨rfl, h⟩
  · exact .inl ⟨rfl, h⟩

/-! ### Codes by their places -/
def bodyOf (P : Program) (F : FuncId) : Code := match P.funcs[F]? with | some fn => fn.body.getD .skip | none => .skip
/-- 0: the first (or only) part, 1: the second. -/
def nav : Code → List Nat → Code
  | c, [] => c
  | .seq x y, i :: r => if i = 0 then nav x r else nav y r
  | .cond _ x y, i :: r => if i = 0 then nav x r else nav y r
  | .block _ x, _ :: r => nav x r
  | .loop x, _ :: r => nav x r
  | .rangeFunc _ _ _ x, _ :: r => nav x r
  | _, _ => .skip
end Go.Ab

/- The abstract layer, 37: arrays as data; what is asked of loads, stores, conversions. -/
namespace Go.Ab

abbrev Arr (n : Nat) (α : Type) := Fin n → α
def Arr.all {n : Nat} {α : Type} (x : α) : Arr n α := fun _ => x

def arrC {α : Type} (n : Nat) (e : Encd α) (a : Arr n α) : List AVal := (List.finRange n).flatMap fun i => (e.f (a i)).cells

theorem arrC_len {α : Type} (n : Nat) (e : Encd α) (a : Arr n α) : (arrC n e a).length = n * e.sz := by
  unfold arrC
  have : ∀ l : List (Fin n), (l.flatMap fun i => (e.f (a i)).cells).length = l.length * e.sz := by
    intro l
    induction l with
    | nil => simp
    | cons x l ih => rw [List.flatMap_cons, List.length_append, ih, e.len]; simp [Nat.add_mul, Nat.add_comm]
  rw [this, List.length_finRange]

def eArr {α : Type} (n : Nat) [h : NeZero n] (e : Encd α) : Encd (Arr n α) where
  sz := n * e.sz
  f a := .agg (arrC n e a)
  pos := Nat.mul_pos (Nat.pos_of_ne_zero h.out) e.pos
  len a := arrC_len n e a
  pure a := by
    unfold Pure
    show AVal.idsAllL _ (arrC n e a) = true
    rw [idsAllL_iff]
    intro v hv
    obtain ⟨i, _, hv⟩ := List.mem_flatMap.1 hv
    exact idsAll_cells (e.pure _) v hv

def aget {α : Type} {n : Nat} (a : Arr n α) (i : Int) : Option α := if h : 0 ≤ i ∧ i.toNat < n then some (a ⟨i.toNat, h.2⟩) else none
def aset {α : Type} {n : Nat} (a : Arr n α) (i : Int) (v : α) : Arr n α := fun j => if (j.val : Int) = i then v else a j

theorem aget_some {α : Type} {n : Nat} {a : Arr n α} {i : Int} {x : α} (h : aget a i = some x) : 0 ≤ i ∧ ∃ k : Fin n, i = (k.val : Int) ∧ a k = x := by
  unfold aget at h
  split at h
  · rename_i hi
    exact ⟨hi.1, ⟨i.toNat, hi.2⟩, (Int.toNat_of_nonneg hi.1).symm, Option.some.inj h⟩
  · cases h

theorem flat_split {α β : Type} (g : α → List β) (sz : Nat) (hg : ∀ x, (g x).length = sz) (l1 : List α) (x : α) (l2 : List α) :
    (l1 ++ x :: l2).flatMap g = l1.flatMap g ++ g x ++ l2.flatMap g ∧ (l1.flatMap g).length = l1.length * sz := by
  refine ⟨by simp, ?_⟩
  induction l1 with
  | nil => simp
  | cons y l ih => rw [List.flatMap_cons, List.length_append, ih, hg]; simp [Nat.add_mul, Nat.add_comm]

theorem finRange_split {n : Nat} (k : Fin n) : ∃ l1 l2, List.finRange n = l1 ++ k :: l2 ∧ l1.length = k.val ∧ k ∉ l1 ∧ k ∉ l2 := by
  refine ⟨(List.finRange n).take k.val, (List.finRange n).drop (k.val + 1), ?_, by simp [Nat.le_of_lt k.isLt], ?_, ?_⟩
  · have h1 : (List.finRange n).drop k.val = k :: (List.finRange n).drop (k.val + 1) := by
      rw [List.drop_eq_getElem_cons (by simp)]
      simp
    rw [← h1, List.take_append_drop]
  · intro h
    obtain ⟨i, hi, e⟩ := List.mem_iff_getElem.1 h
    simp at hi e
    have := congrArg Fin.val e
    simp at this
    omega
  · intro h
    obtain ⟨i, hi, e⟩ := List.mem_iff_getElem.1 h
    simp at hi e
    have := congrArg Fin.val e
    simp at this
    omega

theorem arrC_split {α : Type} {n : Nat} (e : Encd α) (a : Arr n α) (k : Fin n) : ∃ c1 c2, arrC n e a = c1 ++ (e.f (a k)).cells ++ c2 ∧ c1.length = k.val * e.sz ∧
    ∀ v, arrC n e (aset a k.val v) = c1 ++ (e.f v).cells ++ c2 := by
  obtain ⟨l1, l2, h1, h2, h3, h4⟩ := finRange_split k
  unfold arrC
  rw [h1]
  obtain ⟨p, q⟩ := flat_split (fun i => (e.f (a i)).cells) e.sz (fun i => e.len _) l1 k l2
  refine ⟨_, _, p, by rw [q, h2], fun v => ?_⟩
  have ne : ∀ j, j ≠ k → aset a k.val v j = a j := by
    intro j hj
    unfold aset
    rw [if_neg]
    intro h
    exact hj (Fin.ext (by omega))
  have eq : aset a k.val v k = v := by unfold aset; rw [if_pos rfl]
  rw [(flat_split (fun i => (e.f (aset a k.val v i)).cells) e.sz (fun i => e.len _) l1 k l2).1]
  rw [eq]
  congr 1
  · congr 1
    rw [List.flatMap_def, List.flatMap_def]
    congr 1
    exact List.map_congr_left fun j hj => by rw [ne j fun e => h3 (e ▸ hj)]
  · rw [List.flatMap_def, List.flatMap_def]
    congr 1
    exact List.map_congr_left fun j hj => by rw [ne j fun e => h4 (e ▸ hj)]

section
variable {α : Type} {n : Nat} (e : Encd α) {a : Arr n α} {i : Int} {x : α}

theorem arr_at (h : aget a i = some x) (pre post : List AVal) : (pre ++ arrC n e a ++ post).length = pre.length + n * e.sz + post.length ∧ pre.length + i.toNat * e.sz + e.sz ≤ (pre ++ arrC n e a ++ post).length ∧
    ((pre ++ arrC n e a ++ post).drop (pre.length + i.toNat * e.sz)).take e.sz = (e.f x).cells ∧ ∀ v, setR (pre ++ arrC n e a ++ post) (pre.length + i.toNat * e.sz) (e.f v).cells = pre ++ arrC n e (aset a i v) ++ post := by
  obtain ⟨h0, k, rfl, rfl⟩ := aget_some h
  obtain ⟨c1, c2, h1, h2, h3⟩ := arrC_split e a k
  have hk : ((k.val : Int)).toNat = k.val := by simp
  have hlen := arrC_len n e a
  have hx := e.len (a k)
  refine ⟨by simp [hlen, Nat.add_assoc], ?_, ?_, fun v => ?_⟩
  · rw [h1, hk]
    simp only [List.length_append, h2, hx]
    omega
  · rw [h1, hk, ← h2]
    have : (pre ++ (c1 ++ (e.f (a k)).cells ++ c2) ++ post) = (pre ++ c1) ++ ((e.f (a k)).cells ++ (c2 ++ post)) := by simp
    rw [this, ← List.length_append, List.drop_left, ← hx, List.take_left]
  · have hv := e.len v
    rw [h3 v, h1, hk, ← h2]
    have : (pre ++ (c1 ++ (e.f (a k)).cells ++ c2) ++ post) = (pre ++ c1) ++ ((e.f (a k)).cells ++ (c2 ++ post)) := by simp
    rw [this]
    unfold setR
    rw [← List.length_append, List.take_left, hv, ← hx, List.drop_append, List.drop_eq_nil_of_le (by omega)]
    simp

/-- An index of an array in a block. -/
theorem o_aix {P : Program} {H : AHeap} {t : TypeId} {id g base : Nat} {k : IntKind} {el : TypeId} {cs : List AVal} (h : aget a i = some x) (he : eI P t = some (some n, el, e.sz)) (hH : H[id]? = some (.live g cs)) :
    indexAddrV P H t (.ptr id g base) (.int k i) = some (.ptr id g (base + i.toNat * e.sz)) := by
  obtain ⟨h0, j, rfl, rfl⟩ := aget_some h
  simp only [indexAddrV, he]
  rw [if_pos ⟨h0, by have := j.isLt; omega⟩]
  simp [shift, ptrCur, hH]

/-- A load of an element of an array in a block. -/
theorem o_aload {P : Program} {H : AHeap} {t : TypeId} {id g : Nat} (pre post : List AVal) (h : aget a i = some x) (ht : tI P t = some (true, e.sz)) (hx : ∀ y, e.f y = .agg (e.f y).cells) (hH : H[id]? = some (.live g (pre ++ arrC n e a ++ post))) :
    loadV P t H (.ptr id g (pre.length + i.toNat * e.sz)) = some (e.f x) := by
  obtain ⟨_, h1, h2, _⟩ := arr_at e h pre post
  simp only [loadV, ht, readAt, hH]
  rw [if_pos ⟨trivial, h1⟩, h2]
  exact congrArg some (hx x).symm

theorem o_aload1 {P : Program} {H : AHeap} {t : TypeId} {id g m : Nat} (pre post : List AVal) (h : aget a i = some x) (ht : tI P t = some (false, m)) (h1 : e.sz = 1) (hx : ∀ y, (e.f y).cells = [e.f y]) (hH : H[id]? = some (.live g (pre ++ arrC n e a ++ post))) :
    loadV P t H (.ptr id g (pre.length + i.toNat * e.sz)) = some (e.f x) := by
  obtain ⟨_, h3, h2, _⟩ := arr_at e h pre post
  simp only [loadV, ht, readAt, hH]
  rw [h1] at h2 h3 ⊢
  rw [if_pos ⟨trivial, h3⟩, h2, hx x]
  rfl

theorem o_astore (pre post : List AVal) (g : Nat) (v : α) (h : aget a i = some x) : (g = g ∧ g = g) ∧ pre.length + i.toNat * e.sz + (e.f v).cells.length ≤ (pre ++ arrC n e a ++ post).length ∧
    setR (pre ++ arrC n e a ++ post) (pre.length + i.toNat * e.sz) (e.f v).cells = pre ++ arrC n e (aset a i v) ++ post := by
  obtain ⟨_, h1, _, h2⟩ := arr_at e h pre post
  exact ⟨⟨rfl, rfl⟩, by rw [e.len]; exact h1, h2 v⟩

/-- An element of an array that is a word. -/
theorem o_aindex {P : Program} {t el : TypeId} {k : IntKind} (h : aget a i = some x) (he : eI P t = some (some n, el, e.sz)) (ht : tI P el = some (true, e.sz)) (hx : ∀ y, e.f y = .agg (e.f y).cells) :
    indexV P t (.agg (arrC n e a)) (.int k i) = some (e.f x) := by
  have hh := arr_at e h [] []
  obtain ⟨h0, j, rfl, rfl⟩ := aget_some h
  simp only [List.nil_append, List.append_nil, List.length_nil, Nat.zero_add] at hh
  simp only [indexV, he]
  rw [if_pos ⟨h0, by have := j.isLt; omega⟩]
  simp only [partV, ht]
  rw [if_pos hh.2.1, hh.2.2.1]
  exact congrArg some (hx _).symm
end

/-! ### no blocks -/
theorem qE {α : Type} (e : Encd α) (x : α) (n : Nat) : ((e.f x).idsAll fun id => decide (id < n)) = true := (e.pure x).all _
theorem qP (n id g off : Nat) (h : id < n) : ((AVal.ptr id g off).idsAll fun id => decide (id < n)) = true := by simp [AVal.idsAll, h]
theorem qS (n id g sz off len : Nat) (h : id < n) : ((AVal.sl id g sz off len).idsAll fun id => decide (id < n)) = true := by simp [AVal.idsAll, h]
theorem qN (n : Nat) : (AVal.nils.idsAll fun id => decide (id < n)) = true := rfl
theorem qT {n : Nat} {vs : List AVal} (h : AVal.idsAllL (fun id => decide (id < n)) vs = true) : ((AVal.tup vs).idsAll fun id => decide (id < n)) = true := h
theorem lN (n : Nat) : AVal.idsAllL (fun id => decide (id < n)) [] = true := rfl
theorem lC {n : Nat} {v : AVal} {vs : List AVal} (h : (v.idsAll fun id => decide (id < n)) = true) (k : AVal.idsAllL (fun id => decide (id < n)) vs = true) : AVal.idsAllL (fun id => decide (id < n)) (v :: vs) = true := by
  simp only [AVal.idsAllL, h, k, Bool.and_self]
theorem qL {α : Type} (e : Encd α) (x : α) (g n : Nat) : ((Ent.live g (e.f x).cells).idsAll fun id => decide (id < n)) = true := by
  show AVal.idsAllL _ _ = true
  rw [idsAllL_iff]
  exact fun v hv => idsAll_cells ((e.pure x).all _) v hv
theorem qU {α : Type} (e : Encd α) (l : List α) (g n : Nat) : ((Ent.live g (e.cl l)).idsAll fun id => decide (id < n)) = true := idsAllL_mono (fun _ e => by cases e) _ (e.pureC l)
theorem qD (n : Nat) : (Ent.dead.idsAll fun id => decide (id < n)) = true := rfl
theorem pL {α : Type} (e : Encd α) (x : α) (g : Nat) : PureE (.live g (e.f x).cells) := by
  show AVal.idsAllL _ _ = true
  rw [idsAllL_iff]
  exact fun v hv => idsAll_cells (e.pure x) v hv
theorem pT {vs : List AVal} (h : AVal.idsAllL (fun _ => false) vs = true) : Pure (.tup vs) := h
theorem plN : AVal.idsAllL (fun _ => false) [] = true := rfl
theorem plC {v : AVal} {vs : List AVal} (h : Pure v) (k : AVal.idsAllL (fun _ => false) vs = true) : AVal.idsAllL (fun _ => false) (v :: vs) = true := by
  have h' : v.idsAll (fun _ => false) = true := h
  simp only [AVal.idsAllL, h', k, Bool.and_self]

/-! ### sums and strings -/
theorem o_nz {α : Type} {b : Int} {x : α} (h : (b == 0) = false) : (if b = 0 then none else some x) = some x := if_neg (by simpa using h)
def sapp (a b : Str) : Option Str := if a.length + b.length ≤ 9223372036854775807 then some (a ++ b) else none
theorem o_sapp {a b r : Str} (h : sapp a b = some r) : (if a.length + b.length ≤ 9223372036854775807 then some (AVal.str (a ++ b)) else none) = some (.str r) := by
  unfold sapp at h
  split at h
  · rename_i hc
    rw [if_pos hc, Option.some.inj h]
  · cases h
def ssl (s : Str) (lo hi : Int) : Option Str := if 0 ≤ lo ∧ lo ≤ hi ∧ hi ≤ s.length then some ((s.drop lo.toNat).take (hi.toNat - lo.toNat)) else none
theorem o_ssl {P : Program} {H : AHeap} {t : TypeId} {s r : Str} {lo hi : Int} {k1 k2 : IntKind} (h : ssl s lo hi = some r) (hk : kd P t = .str) : sliceV P H t (.str s) (some (.int k1 lo)) (some (.int k2 hi)) none = some (.str r) := by
  unfold ssl at h
  split at h
  · rename_i hc
    simp only [sliceV, bndV, natOf]
    rw [if_pos hc.1, if_pos (by omega)]
    simp only
    rw [if_pos ⟨hk, by omega, by omega⟩, Option.some.inj h]
  · cases h
theorem o_ssl0 {P : Program} {H : AHeap} {t : TypeId} {s r : Str} {hi : Int} {k2 : IntKind} (h : ssl s 0 hi = some r) (hk : kd P t = .str) : sliceV P H t (.str s) none (some (.int k2 hi)) none = some (.str r) := by
  unfold ssl at h
  split at h
  · rename_i hc
    simp only [sliceV, bndV, natOf]
    rw [if_pos (by omega)]
    simp only
    rw [if_pos ⟨hk, by omega, by omega⟩, ← Option.some.inj h]
    simp
  · cases h
theorem o_ssl1 {P : Program} {H : AHeap} {t : TypeId} {s r : Str} {lo : Int} {k1 : IntKind} (h : ssl s lo s.length = some r) (hk : kd P t = .str) : sliceV P H t (.str s) (some (.int k1 lo)) none none = some (.str r) := by
  unfold ssl at h
  split at h
  · rename_i hc
    simp only [sliceV, bndV, natOf]
    rw [if_pos hc.1]
    simp only
    rw [if_pos ⟨hk, by omega, by omega⟩, ← Option.some.inj h]
    simp
  · cases h
def lsl {α : Type} (s : List α) (lo hi : Int) : Option (List α) := if 0 ≤ lo ∧ lo ≤ hi ∧ hi ≤ s.length then some ((s.drop lo.toNat).take (hi.toNat - lo.toNat)) else none
section
variable {α : Type} (e : Encd α) {P : Program} {H : AHeap} {t el : TypeId} {s r : List α} {lo hi : Int} {k1 k2 : IntKind}
theorem o_lsl (h : lsl s lo hi = some r) (hk : eI P t = some (none, el, e.sz)) : sliceV P H t (.vs e.sz (s.map e.f)) (some (.int k1 lo)) (some (.int k2 hi)) none = some (.vs e.sz (r.map e.f)) := by
  unfold lsl at h
  split at h
  · rename_i hc
    simp only [sliceV, bndV, natOf, hk]
    rw [if_pos hc.1, if_pos (by omega)]
    simp only
    rw [if_pos ⟨trivial, by omega, by simp; omega, by simp, by simp⟩, ← Option.some.inj h]
    simp [List.map_drop, List.map_take]
  · cases h
theorem o_lsl0 (h : lsl s 0 hi = some r) (hk : eI P t = some (none, el, e.sz)) : sliceV P H t (.vs e.sz (s.map e.f)) none (some (.int k2 hi)) none = some (.vs e.sz (r.map e.f)) := by
  unfold lsl at h
  split at h
  · rename_i hc
    simp only [sliceV, bndV, natOf, hk]
    rw [if_pos (by omega)]
    simp only
    rw [if_pos ⟨trivial, by omega, by simp; omega, by simp, by simp⟩, ← Option.some.inj h]
    simp [List.map_take]
  · cases h
theorem o_lsl1 (h : lsl s lo s.length = some r) (hk : eI P t = some (none, el, e.sz)) : sliceV P H t (.vs e.sz (s.map e.f)) (some (.int k1 lo)) none none = some (.vs e.sz (r.map e.f)) := by
  unfold lsl at h
  split at h
  · rename_i hc
    simp only [sliceV, bndV, natOf, hk]
    rw [if_pos hc.1]
    simp only
    rw [if_pos ⟨trivial, by simp; omega, by simp, by simp, by simp⟩, ← Option.some.inj h]
    simp [List.map_drop]
  · cases h
end

/-- A string of bytes. -/
def bytesStr (l : List Int) : Str := l.map fun n => UInt8.ofNat n.toNat
theorem u8s_map : ∀ l : List Int, u8s (l.map (eInt .u8).f) = some (bytesStr l)
  | [] => rfl
  | n :: l => by
    have := u8s_map l
    simp only [List.map_cons]
    simp only [eInt] at this ⊢
    simp only [u8s, this]
    rfl
theorem cl_int (k : IntKind) (l : List Int) : (eInt k).cl l = l.map (eInt k).f := by
  unfold Encd.cl
  induction l with
  | nil => rfl
  | cons x l ih => simp only [List.map_cons, List.flatMap_cons, ih]; rfl
theorem o_bytes {P : Program} {H : AHeap} {src dst : TypeId} {id g : Nat} (l : List Int) (hd : kd P dst = .str) (hs : kd P src = .bytes) (hH : H[id]? = some (.live g ((eInt .u8).cl l))) :
    convV P H src dst (.sl id g 1 0 l.length) = some (.str (bytesStr l)) := by
  have hr : rowsOf H (.sl id g 1 0 l.length) = some (l.map (eInt .u8).f) := by
    simp only [rowsOf, hH, cl_int]
    rw [if_pos ⟨trivial, trivial, by simp⟩, List.drop_zero, List.take_of_length_le (by simp)]
  simp only [convV, hd, hs, hr, if_true, u8s_map]
  rfl
theorem o_bytes2 {P : Program} {H : AHeap} {src dst : TypeId} (l : List Int) (hd : kd P dst = .str) (hs : kd P src = .bytes) :
    convV P H src dst (.vs 1 (l.map (eInt .u8).f)) = some (.str (bytesStr l)) := by
  simp only [convV, hd, hs, rowsOf]
  have : (l.map (eInt .u8).f).flatMap AVal.cells = l.map (eInt .u8).f := cl_int .u8 l
  simp only [this, if_true, u8s_map]
  rfl
/-- Comparison of data, word by word. -/
def eqC {α : Type} (e : Encd α) (x y : α) : Bool := eqL (e.f x).cells (e.f y).cells
end Go.Ab

/- The abstract layer, 38: small facts that printed proofs use. -/
namespace Go.Ab

theorem loopO_ind2 {S R : Type} {body : S → Option (Step S R)} {C : S → R → Prop} (h : ∀ s q, body s = some q → match q with | .next s' => ∀ o, C s' o → C s o | .done o => C s o) {s : S} {o : R} (hh : loopO body s = some o) : C s o :=
  loopO_ind C (fun s _ r hb ih => h s _ hb r ih) (fun s _ hb => h s _ hb) hh

theorem nd1 {b : Nat} : [b].Nodup := List.nodup_cons.2 ⟨by simp, List.nodup_nil⟩
theorem fr0 {H : AHeap} : ∀ (j b : Nat) (e : Ent), ([] : List Nat)[j]? = some b → ([] : AHeap)[j]? = some e → H[b]? = some e := fun j b e h => by simp at h
theorem fr1 {H : AHeap} {b0 : Nat} {e0 : Ent} (h0 : H[b0]? = some e0) : ∀ (j b : Nat) (e : Ent), [b0][j]? = some b → [e0][j]? = some e → H[b]? = some e := by
  intro j b e h1 h2
  match j with
  | 0 => simp at h1 h2; subst h1 h2; exact h0
  | j + 1 => simp at h1
theorem fr2 {H : AHeap} {b0 b1 : Nat} {e0 e1 : Ent} (h0 : H[b0]? = some e0) (h1 : H[b1]? = some e1) : ∀ (j b : Nat) (e : Ent), [b0, b1][j]? = some b → [e0, e1][j]? = some e → H[b]? = some e := by
  intro j b e k1 k2
  match j with
  | 0 => simp at k1 k2; subst k1 k2; exact h0
  | 1 => simp at k1 k2; subst k1 k2; exact h1
  | j + 2 => simp at k1
theorem fr3 {H : AHeap} {b0 b1 b2 : Nat} {e0 e1 e2 : Ent} (h0 : H[b0]? = some e0) (h1 : H[b1]? = some e1) (h2 : H[b2]? = some e2) : ∀ (j b : Nat) (e : Ent), [b0, b1, b2][j]? = some b → [e0, e1, e2][j]? = some e → H[b]? = some e := by
  intro j b e k1 k2
  match j with
  | 0 => simp at k1 k2; subst k1 k2; exact h0
  | 1 => simp at k1 k2; subst k1 k2; exact h1
  | 2 => simp at k1 k2; subst k1 k2; exact h2
  | j + 3 => simp at k1
theorem peN : ∀ e ∈ ([] : AHeap), PureE e := fun _ h => by cases h
theorem peC {e : Ent} {r : AHeap} (h : PureE e) (k : ∀ e ∈ r, PureE e) : ∀ x ∈ e :: r, PureE x := by
  intro x hx
  rcases List.mem_cons.1 hx with rfl | hx
  · exact h
  · exact k x hx
theorem raN {ρ : Nat → Nat} : AVal.renL ρ [] = [] := rfl
theorem raC {ρ : Nat → Nat} {v v' : AVal} {l l' : List AVal} (h : v.ren ρ = v') (k : AVal.renL ρ l = l') : AVal.renL ρ (v :: l) = v' :: l' := by rw [AVal.renL, h, k]

def mk {α : Type} (x : α) (l c : Int) : Option (List α) := if 0 ≤ l ∧ l ≤ c ∧ c ≤ 16777216 then some (List.replicate l.toNat x) else none
theorem o_mk {α : Type} (e : Encd α) (x : α) {l c : Int} {r : List α} (h : mk x l c = some r) : (0 ≤ l ∧ l ≤ c ∧ c ≤ 16777216) ∧ l.toNat = r.length ∧ (List.replicate l.toNat (e.f x).cells).flatten = e.cl r := by
  unfold mk at h
  split at h
  · rename_i hc
    injection h with h
    subst h
    refine ⟨hc, by simp, ?_⟩
    unfold Encd.cl
    induction l.toNat with
    | zero => rfl
    | succ n ih => simp only [List.replicate_succ, List.flatten_cons, List.map_cons, List.flatMap_cons, ih]
  · cases h
theorem qF {n : Nat} (F : FuncId) {a b : List AVal} (h : AVal.idsAllL (fun id => decide (id < n)) a = true) (k : AVal.idsAllL (fun id => decide (id < n)) b = true) : ((AVal.fn (.func F) a b).idsAll fun id => decide (id < n)) = true := by
  simp only [AVal.idsAll, h, k, Bool.and_self]
theorem qV {n : Nat} {a : List AVal} (h : AVal.idsAllL (fun id => decide (id < n)) a = true) : ((AVal.vptr a).idsAll fun id => decide (id < n)) = true := h
theorem qG {n : Nat} {a : List AVal} (h : AVal.idsAllL (fun id => decide (id < n)) a = true) : ((AVal.agg a).idsAll fun id => decide (id < n)) = true := h
theorem qZ (n : Nat) : (AVal.nilp.idsAll fun id => decide (id < n)) = true := rfl
theorem qY (n : Nat) : (AVal.nilf.idsAll fun id => decide (id < n)) = true := rfl
theorem o_appF {α : Type} (e : Encd α) {l xs r : List α} (h : app l xs = some r) :
    (l.length = l.length ∧ l.length = l.length ∧ (e.cl l).length = l.length * e.sz ∧ l.length + (xs.map e.f).length ≤ 16777216) ∧ l.length + (xs.map e.f).length = (r.map e.f).length ∧ RowsAre e.sz (e.cl l ++ (xs.map e.f).flatMap AVal.cells) (r.map e.f) := by
  obtain ⟨h1, h2, h3⟩ := o_app e h
  exact ⟨h1, by simpa using h2, h3 ▸ o_rows e r⟩
theorem o_app0F {α : Type} (e : Encd α) {xs r : List α} (h : app [] xs = some r) :
    (xs.map e.f).length = (r.map e.f).length ∧ RowsAre e.sz ((xs.map e.f).flatMap AVal.cells) (r.map e.f) ∧ (xs.map e.f).length ≤ 16777216 := by
  obtain ⟨h1, h2, h3⟩ := o_app0 e h
  exact ⟨by simpa using h1, h2 ▸ o_rows e r, h3⟩
/-! ### weaker words: nil slices as slices of no elements -/
def WV (v v' : AVal) : Prop := ∀ (x : Cx) (c : Value), VRel x v c → VRel x v' c
def WL (l l' : List AVal) : Prop := l'.length = l.length ∧ ∀ (j : Nat) (v v' : AVal), l[j]? = some v → l'[j]? = some v' → WV v v'
theorem wR {v : AVal} : WV v v := fun _ _ r => r
theorem wN {sz : Nat} (h : 0 < sz) : WV .nils (.vs sz []) := fun _ _ r => VRel.nil_vs h r
theorem wlN : WL [] [] := ⟨rfl, fun _ _ _ h => by simp at h⟩
theorem wlC {v v' : AVal} {l l' : List AVal} (h : WV v v') (k : WL l l') : WL (v :: l) (v' :: l') := by
  refine ⟨by simp [k.1], fun j a b ha hb => ?_⟩
  cases j with
  | zero => simp at ha hb; subst ha hb; exact h
  | succ j => simp at ha hb; exact k.2 j a b ha hb
theorem wA {l l' : List AVal} (h : WL l l') : WV (.agg l) (.agg l') := by
  intro x c r
  cases r with
  | agg q1 q2 q3 =>
    refine .agg (by rw [q1, h.1]) q2 fun j v' d hj hd => ?_
    have hjl : j < l.length := by
      have := h.1
      rcases Nat.lt_or_ge j l'.length with h2 | h2
      · omega
      · rw [List.getElem?_eq_none h2] at hj; cases hj
    exact h.2 j _ v' (List.getElem?_eq_getElem hjl) hj _ _ (q3 j _ d (List.getElem?_eq_getElem hjl) hd)
theorem ACalls.args {P : Program} {F : FuncId} {args args' : List AVal} {H : AHeap} {K : AVal → AHeap → Prop} (hw : WL args args') (h : ACalls P F args' H K) : ACalls P F args H K := by
  intro X g w cargs s hsz hrel
  refine h X g w cargs s (by rw [hsz, hw.1]) fun j v' c hj hc => ?_
  have hjl : j < args.length := by
    have := hw.1
    rcases Nat.lt_or_ge j args'.length with h2 | h2
    · omega
    · rw [List.getElem?_eq_none h2] at hj; cases hj
  exact hw.2 j _ v' (List.getElem?_eq_getElem hjl) hj _ _ (hrel j _ c (List.getElem?_eq_getElem hjl) hc)

theorem o_aindex1 {α : Type} {n : Nat} (e : Encd α) {a : Arr n α} {i : Int} {x : α} {P : Program} {t el : TypeId} {k : IntKind} {m : Nat} (h : aget a i = some x) (he : eI P t = some (some n, el, e.sz)) (ht : tI P el = some (false, m)) (h1 : e.sz = 1) (hx : ∀ y, (e.f y).cells = [e.f y]) :
    indexV P t (.agg (arrC n e a)) (.int k i) = some (e.f x) := by
  have hh := arr_at e h [] []
  obtain ⟨h0, j, rfl, rfl⟩ := aget_some h
  simp only [List.nil_append, List.append_nil, List.length_nil, Nat.zero_add] at hh
  simp only [indexV, he]
  rw [if_pos ⟨h0, by have := j.isLt; omega⟩]
  simp only [partV, ht]
  have h3 := hh.2.2.1
  rw [h1, hx, List.take_one] at h3
  rw [h1]
  rw [List.head?_drop] at h3
  cases hc : (arrC n e a)[((j.val : Int)).toNat * 1]? with
  | none => rw [hc] at h3; cases h3
  | some u => rw [hc] at h3; simp at h3; rw [h3]

theorem o_bld {α : Type} (e : Encd α) (xs : List α) : (xs.map e.f).length = xs.length ∧ (xs.map e.f).flatMap AVal.cells = e.cl xs := ⟨List.length_map _, rfl⟩
theorem aget_any {α : Type} {n : Nat} {a : Arr n α} {i : Int} {x : α} (b : Arr n α) (h : aget a i = some x) : aget b i = some (b ⟨i.toNat, by obtain ⟨_, k, rfl, _⟩ := aget_some h; have := k.isLt; omega⟩) := by
  obtain ⟨h0, k, rfl, rfl⟩ := aget_some h
  unfold aget
  rw [dif_pos ⟨h0, by have := k.isLt; omega⟩]
def six (s : Str) (i : Int) : Option Int := if 0 ≤ i then (s[i.toNat]?).map fun b => (b.toNat : Int) else none
theorem o_six {P : Program} {t : TypeId} {s : Str} {k : IntKind} {i x : Int} (h : six s i = some x) (hk : kd P t = .str) : indexV P t (.str s) (.int k i) = some (.int .u8 x) := by
  unfold six at h
  split at h
  · rename_i hi
    simp only [indexV]
    rw [if_pos ⟨hk, hi⟩]
    cases hs : s[i.toNat]? with
    | none => rw [hs] at h; cases h
    | some b => rw [hs] at h; simp only [Option.map_some, Option.some.injEq] at h ⊢; rw [h]
  · cases h

theorem cellsN : (0 : Nat) = 0 := rfl
theorem lenApp {α : Type} (e : Encd α) (x : α) {r : List AVal} {m : Nat} (h : r.length = m) : ((e.f x).cells ++ r).length = e.sz + m := by rw [List.length_append, e.len, h]
theorem pureApp {α : Type} (e : Encd α) (x : α) {r : List AVal} (h : AVal.idsAllL (fun _ => false) r = true) : AVal.idsAllL (fun _ => false) ((e.f x).cells ++ r) = true := by
  rw [idsAllL_iff] at h ⊢
  intro v hv
  rcases List.mem_append.1 hv with hv | hv
  · exact idsAll_cells (e.pure x) v hv
  · exact h v hv
end Go.Ab

/- The abstract layer, 39: slices of our own that are read and written in place; parts of parts. -/
namespace Go.Ab

theorem o_shl {α : Type} {b : Int} {x : α} (h : decide (b < 0) = false) : (if b < 0 then none else some x) = some x := if_neg (by simpa using h)

/-- The words of a list around one element. -/
theorem cl_split {α : Type} (e : Encd α) {l : List α} {i : Int} {x : α} (h : ix l i = some x) : ∃ c1 c2, e.cl l = c1 ++ (e.f x).cells ++ c2 ∧ c1.length = i.toNat * e.sz ∧ 0 ≤ i ∧ i.toNat < l.length ∧ l[i.toNat]? = some x ∧ ∀ v, e.cl (l.set i.toNat v) = c1 ++ (e.f v).cells ++ c2 := by
  unfold ix at h
  split at h
  case isFalse => cases h
  rename_i hi
  obtain ⟨hl, hx⟩ := List.getElem?_eq_some_iff.1 h
  have hs : l = l.take i.toNat ++ x :: l.drop (i.toNat + 1) := by
    rw [← hx, ← List.drop_eq_getElem_cons hl, List.take_append_drop]
  have hset : ∀ v, l.set i.toNat v = l.take i.toNat ++ v :: l.drop (i.toNat + 1) := fun v => by rw [List.set_eq_take_append_cons_drop, if_pos hl]
  have hcl : ∀ v, e.cl (l.take i.toNat ++ v :: l.drop (i.toNat + 1)) = e.cl (l.take i.toNat) ++ (e.f v).cells ++ e.cl (l.drop (i.toNat + 1)) := fun v => by simp [Encd.cl]
  refine ⟨e.cl (l.take i.toNat), e.cl (l.drop (i.toNat + 1)), ?_, ?_, hi, hl, h, fun v => by rw [hset, hcl]⟩
  · conv => lhs; rw [hs]
    exact hcl x
  · rw [e.clen, List.length_take, Nat.min_eq_left (Nat.le_of_lt hl)]

def lput {α : Type} (l : List α) (i : Int) (v : α) : List α := l.set i.toNat v
theorem lput_len {α : Type} {l : List α} {i : Int} {v : α} {n : Nat} (h : l.length = n) : (lput l i v).length = n := by rw [← h]; exact List.length_set

section
variable {α : Type} (e : Encd α) {l : List α} {i : Int} {x : α}

theorem o_bix {P : Program} {H : AHeap} {t el : TypeId} {id n : Nat} {k : IntKind} {cs : List AVal} (h : ix l i = some x) (hl : l.length = n) (he : eI P t = some (none, el, e.sz)) (hH : H[id]? = some (.live n cs)) :
    indexAddrV P H t (.sl id n e.sz 0 n) (.int k i) = some (.ptr id n (i.toNat * e.sz)) := by
  obtain ⟨_, _, _, _, h0, h1, _, _⟩ := cl_split e h
  simp only [indexAddrV, he]
  rw [if_pos ⟨h0, by omega, trivial, by simp [ptrCur, hH]⟩, Nat.zero_add]

theorem o_bload {P : Program} {H : AHeap} {t : TypeId} {id n : Nat} (h : ix l i = some x) (ht : tI P t = some (true, e.sz)) (hx : ∀ y, e.f y = .agg (e.f y).cells) (hH : H[id]? = some (.live n (e.cl l))) :
    loadV P t H (.ptr id n (i.toNat * e.sz)) = some (e.f x) := by
  obtain ⟨c1, c2, h1, h2, _⟩ := cl_split e h
  simp only [loadV, ht, readAt, hH, h1, ← h2]
  rw [if_pos ⟨trivial, by simp only [List.length_append, e.len]; omega⟩, List.append_assoc, List.drop_left, ← e.len x, List.take_left]
  exact congrArg some (hx x).symm

theorem o_bload1 {P : Program} {H : AHeap} {t : TypeId} {id n m : Nat} (h : ix l i = some x) (ht : tI P t = some (false, m)) (hs : e.sz = 1) (hx : ∀ y, (e.f y).cells = [e.f y]) (hH : H[id]? = some (.live n (e.cl l))) :
    loadV P t H (.ptr id n (i.toNat * e.sz)) = some (e.f x) := by
  obtain ⟨c1, c2, h1, h2, _⟩ := cl_split e h
  have hl := e.len x
  simp only [loadV, ht, readAt, hH, h1, ← h2]
  rw [hs] at hl
  rw [if_pos ⟨trivial, by simp only [List.length_append, hl]; omega⟩, List.append_assoc, List.drop_left, ← hl, List.take_left, hx]
  rfl

theorem o_bstore {n : Nat} (v : α) (h : ix l i = some x) : (n = n ∧ n = n) ∧ i.toNat * e.sz + (e.f v).cells.length ≤ (e.cl l).length ∧ setR (e.cl l) (i.toNat * e.sz) (e.f v).cells = e.cl (lput l i v) := by
  obtain ⟨c1, c2, h1, h2, _, _, _, h3⟩ := cl_split e h
  have hv := e.len v
  have hx := e.len x
  refine ⟨⟨rfl, rfl⟩, ?_, ?_⟩
  · rw [h1, ← h2]; simp only [List.length_append, hv, hx]; omega
  · unfold lput
    rw [h3 v, h1, ← h2]
    unfold setR
    rw [hv, ← hx, show c1 ++ (e.f x).cells ++ c2 = c1 ++ ((e.f x).cells ++ c2) from List.append_assoc _ _ _, List.take_left, List.drop_append, List.drop_eq_nil_of_le (by omega)]
    simp

/-- A store into a part of an element. -/
theorem o_bpart {n off : Nat} {cs : List AVal} (w : α) (h : ix l i = some x) (hle : off + cs.length ≤ e.sz) (hw : setR (e.f x).cells off cs = (e.f w).cells) :
    (n = n ∧ n = n) ∧ i.toNat * e.sz + off + cs.length ≤ (e.cl l).length ∧ setR (e.cl l) (i.toNat * e.sz + off) cs = e.cl (lput l i w) := by
  obtain ⟨c1, c2, h1, h2, _, _, _, h3⟩ := cl_split e h
  have hx := e.len x
  refine ⟨⟨rfl, rfl⟩, ?_, ?_⟩
  · rw [h1, ← h2]; simp only [List.length_append, hx]; omega
  · unfold lput
    rw [h3 w, ← hw, h1, ← h2]
    unfold setR
    have e1 : (c1 ++ (e.f x).cells ++ c2).take (c1.length + off) = c1 ++ (e.f x).cells.take off := by
      rw [List.append_assoc, List.take_append, List.take_of_length_le (by omega), Nat.add_sub_cancel_left, List.take_append, Nat.sub_eq_zero_of_le (by omega)]
      simp
    have e2 : (c1 ++ (e.f x).cells ++ c2).drop (c1.length + off + cs.length) = (e.f x).cells.drop (off + cs.length) ++ c2 := by
      rw [List.append_assoc, List.drop_append, List.drop_eq_nil_of_le (by omega), List.nil_append, show c1.length + off + cs.length - c1.length = off + cs.length by omega, List.drop_append, Nat.sub_eq_zero_of_le (by omega)]
      simp
    rw [e1, e2]
    simp

theorem o_appn {n : Nat} {xs r : List α} (hl : l.length = n) (h : app l xs = some r) :
    (n = n ∧ n = n ∧ (e.cl l).length = n * e.sz ∧ n + (xs.map e.f).length ≤ 16777216) ∧ n + (xs.map e.f).length = r.length ∧ e.cl l ++ (xs.map e.f).flatMap AVal.cells = e.cl r := by
  subst hl; exact o_app e h
theorem o_appFn {n : Nat} {xs r : List α} (hl : l.length = n) (h : app l xs = some r) :
    (n = n ∧ n = n ∧ (e.cl l).length = n * e.sz ∧ n + (xs.map e.f).length ≤ 16777216) ∧ n + (xs.map e.f).length = (r.map e.f).length ∧ RowsAre e.sz (e.cl l ++ (xs.map e.f).flatMap AVal.cells) (r.map e.f) := by
  subst hl; exact o_appF e h
theorem o_frzn {n : Nat} (hl : l.length = n) : n = n ∧ n = (l.map e.f).length := ⟨rfl, by rw [List.length_map, hl]⟩
end

section
variable {α : Type} {n : Nat} (e : Encd α) {a : Arr n α} {i : Int} {x : α}

/-- An index of an array that is a part of an element of a slice of our own. -/
theorem o_paix {P : Program} {H : AHeap} {t : TypeId} {id g base : Nat} {k : IntKind} {el : TypeId} {cs : List AVal} (h : aget a i = some x) (he : eI P t = some (some n, el, e.sz)) (hH : H[id]? = some (.live g cs)) :
    indexAddrV P H t (.ptr id g base) (.int k i) = some (.ptr id g (base + i.toNat * e.sz)) := o_aix e h he hH

/-- An index of an array in memory that nobody changes. -/
theorem o_vix {P : Program} {H : AHeap} {t : TypeId} {k : IntKind} {el : TypeId} (post : List AVal) (h : aget a i = some x) (he : eI P t = some (some n, el, e.sz)) :
    indexAddrV P H t (.vptr (arrC n e a ++ post)) (.int k i) = some (.vptr ((arrC n e a ++ post).drop (i.toNat * e.sz))) := by
  obtain ⟨_, h1, _, _⟩ := arr_at e h [] post
  obtain ⟨h0, j, rfl, rfl⟩ := aget_some h
  simp only [List.nil_append, List.length_nil, Nat.zero_add] at h1
  simp only [indexAddrV, he]
  rw [if_pos ⟨h0, by have := j.isLt; omega⟩]
  simp only [shift]
  rw [if_pos (by omega)]
theorem o_vload {P : Program} {H : AHeap} {t : TypeId} (post : List AVal) (h : aget a i = some x) (ht : tI P t = some (true, e.sz)) (hx : ∀ y, e.f y = .agg (e.f y).cells) :
    loadV P t H (.vptr ((arrC n e a ++ post).drop (i.toNat * e.sz))) = some (e.f x) := by
  obtain ⟨_, h1, h2, _⟩ := arr_at e h [] post
  simp only [List.nil_append, List.length_nil, Nat.zero_add] at h1 h2
  simp only [loadV, ht, readAt]
  rw [if_pos (by rw [List.length_drop]; omega), h2]
  exact congrArg some (hx x).symm
theorem o_vload1 {P : Program} {H : AHeap} {t : TypeId} {m : Nat} (post : List AVal) (h : aget a i = some x) (ht : tI P t = some (false, m)) (hs : e.sz = 1) (hx : ∀ y, (e.f y).cells = [e.f y]) :
    loadV P t H (.vptr ((arrC n e a ++ post).drop (i.toNat * e.sz))) = some (e.f x) := by
  obtain ⟨_, h1, h2, _⟩ := arr_at e h [] post
  simp only [List.nil_append, List.length_nil, Nat.zero_add] at h1 h2
  simp only [loadV, ht, readAt]
  rw [hs] at h1 h2 ⊢
  rw [if_pos (by rw [List.length_drop]; omega), h2, hx]
  rfl
theorem o_aset0 (v : α) (h : aget a i = some x) : setR (arrC n e a) (i.toNat * e.sz) (e.f v).cells = arrC n e (aset a i v) := by
  have := (arr_at e h [] []).2.2.2 v
  simpa using this
theorem o_alt0 (v : α) (h : aget a i = some x) : i.toNat * e.sz + (e.f v).cells.length ≤ n * e.sz := by
  have := (arr_at e h [] []).2.1
  simp only [List.nil_append, List.append_nil, List.length_nil, Nat.zero_add, arrC_len] at this
  rw [e.len]; exact this
theorem o_asub (h : aget a i = some x) : i.toNat * e.sz + e.sz ≤ n * e.sz ∧ ((arrC n e a).drop (i.toNat * e.sz)).take e.sz = (e.f x).cells := by
  have h1 := (arr_at e h [] []).2.1
  have h2 := (arr_at e h [] []).2.2.1
  simp only [List.nil_append, List.append_nil, List.length_nil, Nat.zero_add, arrC_len] at h1 h2
  exact ⟨h1, h2⟩
/-- An array's element is changed: what that is of the array's words. -/
theorem o_aset (pre post : List AVal) (v : α) (h : aget a i = some x) : setR (pre ++ arrC n e a ++ post) (pre.length + i.toNat * e.sz) (e.f v).cells = pre ++ arrC n e (aset a i v) ++ post := (arr_at e h pre post).2.2.2 v
theorem o_alt (pre post : List AVal) (v : α) {m : Nat} (h : aget a i = some x) (hm : (pre ++ arrC n e a ++ post).length = m) : pre.length + i.toNat * e.sz + (e.f v).cells.length ≤ m := by
  rw [← hm, e.len]; exact (arr_at e h pre post).2.1
end

section
variable {α : Type} (e : Encd α) {l : List α} {i : Int} {x : α}
theorem b_part {off m : Nat} (h : ix l i = some x) (hle : off + m ≤ e.sz) : i.toNat * e.sz + off + m ≤ (e.cl l).length ∧ ((e.cl l).drop (i.toNat * e.sz + off)).take m = ((e.f x).cells.drop off).take m := by
  obtain ⟨c1, c2, h1, h2, _⟩ := cl_split e h
  have hx := e.len x
  rw [h1, ← h2]
  refine ⟨by simp only [List.length_append, hx]; omega, ?_⟩
  rw [List.append_assoc, List.drop_append, List.drop_eq_nil_of_le (by omega), List.nil_append, Nat.add_sub_cancel_left, List.drop_append, List.take_append, List.length_drop, hx,
    show m - (e.sz - off) = 0 by omega]
  simp
theorem o_bpload {P : Program} {H : AHeap} {t : TypeId} {id n off m : Nat} {us : List AVal} (h : ix l i = some x) (ht : tI P t = some (true, m)) (hle : off + m ≤ e.sz) (hu : ((e.f x).cells.drop off).take m = us) (hH : H[id]? = some (.live n (e.cl l))) :
    loadV P t H (.ptr id n (i.toNat * e.sz + off)) = some (.agg us) := by
  obtain ⟨h1, h2⟩ := b_part e h hle
  simp only [loadV, ht, readAt, hH]
  rw [if_pos ⟨trivial, h1⟩, h2, hu]
  rfl
theorem o_bpload1 {P : Program} {H : AHeap} {t : TypeId} {id n off m : Nat} {u : AVal} (h : ix l i = some x) (ht : tI P t = some (false, m)) (hle : off + 1 ≤ e.sz) (hu : ((e.f x).cells.drop off).take 1 = [u]) (hH : H[id]? = some (.live n (e.cl l))) :
    loadV P t H (.ptr id n (i.toNat * e.sz + off)) = some u := by
  obtain ⟨h1, h2⟩ := b_part e h hle
  simp only [loadV, ht, readAt, hH]
  rw [if_pos ⟨trivial, h1⟩, h2, hu]
  rfl
end

theorem o_slen {P : Program} {H : AHeap} {t e : TypeId} {id n sz off : Nat} {cs : List AVal} (hu : P.underlying t = some (.slice e)) (hH : H[id]? = some (.live n cs)) : lenV P H t (.sl id n sz off n) = some (.int .i64 (n : Int)) := by
  simp only [lenV, hu]
  rw [if_pos (by simp [ptrCur, hH])]
end Go.Ab

/- The abstract layer, 40: strings.Builder: what an append onto a builder's row leaves, where the row then lies. -/
namespace Go.Ab
open Go.RowKit

/-- Every block but a builder's and its row's stands. -/
structure Two (w w' : World) (b : Nat) (row : Option Nat) : Prop where
  os : w'.os = w.os
  tape : w'.tape = w.tape
  output : w'.output = w.output
  size : w.heap.size ≤ w'.heap.size
  block : ∀ k, k < w.heap.size → k ≠ b → some k ≠ row → w'.heap[k]? = w.heap[k]?

/-- The row is where it was, or it is new. -/
def Moved (w : World) (v v' : Value) : Prop := v'.ownBlock = v.ownBlock ∨ ∃ g, v'.ownBlock = some g ∧ w.heap.size ≤ g

/-- A builder: its block b, its row v, its bytes. -/
structure Bld (T e b : Nat) (p v : Value) (xs : List Value) (w : World) : Prop where
  heap : w.heap[b]? = some (.cells #[p, v] T (0, 0))
  own : w.ownsRowF 0 e 1 v xs.length xs
  ne : v.ownBlock ≠ some b

theorem Two.refl (w : World) (b : Nat) (row : Option Nat) : Two w w b row := ⟨rfl, rfl, rfl, Nat.le_refl _, fun _ _ _ _ => rfl⟩

theorem Two.of_grown {w w' : World} {b : Nat} {row : Option Nat} (h : w.grownBy w' row) : Two w w' b row := ⟨h.os, h.tape, h.output, h.size, fun k hk _ hr => h.block k hk hr⟩

theorem Two.trans {w w1 w2 : World} {b : Nat} {r1 r2 : Option Nat} (h : Two w w1 b r1) (k : Two w1 w2 b r2) (hr : r2 = r1 ∨ ∃ g, r2 = some g ∧ w.heap.size ≤ g) : Two w w2 b r1 := by
  refine ⟨k.os.trans h.os, k.tape.trans h.tape, k.output.trans h.output, Nat.le_trans h.size k.size, fun j hj hb hne => (k.block j (Nat.lt_of_lt_of_le hj h.size) hb ?_).trans (h.block j hj hb hne)⟩
  rcases hr with rfl | ⟨g, rfl, hg⟩
  · exact hne
  · intro e; injection e with e; omega

theorem Two.setCell {w w' : World} {b : Nat} {row : Option Nat} (h : Two w w' b row) (off : Nat) (v : Value) : Two w (w'.setCell ⟨b, off, none⟩ v) b row :=
  ⟨h.os, h.tape, h.output, by simpa [World.setCell] using h.size, fun k hk hb hr => (Below.heap_setCell _ _ _ _ (fun e => hb (by simp [e]))).trans (h.block k hk hb hr)⟩

section
variable {P : Program} (w : World)

theorem append_str_moved (t u ty e : TypeId) (i : TypeInfo) (ht : P.underlying t = some (.slice e)) (hu : P.underlying u = some .string) (hi : P.info? e = some i) (hz : i.zero = some (.int .u8 0)) (hsize : i.size = 1) (hby : i.bytes = 1)
    (v : Value) (n : Nat) (xs : List Value) (hown : w.ownsRowF 0 e 1 v n xs) (s : ByteArray) (h63 : n + s.size ≤ maxLen) (hbytes : n + s.size ≤ 140737488355328) {v' : Value} {w' : World}
    (hr : (Builtin.append_ #[t, u] ty #[v, .string s]).run P w = .ok v' w') : Moved w v v' := by
  rcases hown.2 with ⟨rfl, rfl⟩ | ⟨g, cap, cur, fz, rfl, hbg, hg, hfz, hnc, hcm, hcs, htake⟩
  · obtain ⟨v2, w2, r1, r2, _, _⟩ := Lib.run_append_own_stringF (P := P) w w.heap.size t u ty e i ht hu hi hz hsize hby (.slice none 0 0) 0 xs ⟨hown.1, .inl ⟨rfl, rfl⟩⟩ s h63 hbytes (Nat.le_refl _)
    rw [hr] at r1
    injection r1 with e1 e2
    subst e1 e2
    rcases r2.2 with ⟨rfl, _⟩ | ⟨g, cap, cur, fz, rfl, hbg, _⟩
    · exact .inl rfl
    · exact .inr ⟨g, rfl, hbg⟩
  · by_cases hroom : n + s.size ≤ cap
    · have := Lib.run_append_room_stringF (P := P) w t u ty e i ht hu hi hsize g n cap cur fz hg (by simpa using hfz) s hroom (by rw [hcs]; omega)
      rw [hr] at this
      injection this with e1 e2
      subst e1
      exact .inl rfl
    · have hxl : xs.length = n := by simpa using hown.1
      have hsmall : n + s.size ≤ 9223372036854775807 := by simp only [maxLen] at h63; omega
      have := Lib.run_append_grow_string (P := P) w t u ty e i (.int .u8 0) ht hu hi hz ⟨g, 0, none⟩ n cap xs (by rw [hsize]; simpa using hxl) (hown.cells (g := g) rfl) s (by omega) (by omega) (by rw [hby]; exact growslice_fits (by omega) (by omega))
      rw [hr] at this
      injection this with e1 e2
      subst e1
      exact .inr ⟨_, rfl, Nat.le_refl _⟩

theorem append_row_moved (t ty e : TypeId) (i : TypeInfo) (ht : P.underlying t = some (.slice e)) (hi : P.info? e = some i) (hz : i.zero = some (.int .u8 0)) (hsize : i.size = 1) (hby : i.bytes = 1)
    (v : Value) (n : Nat) (xs : List Value) (hown : w.ownsRowF 0 e 1 v n xs) (a : Addr) (m c : Nat) (news : List Value) (hl : news.length = m * 1) (hnews : ∀ j u, news[j]? = some u → w.cell? (a.add j) = some u) (h1 : ∀ u ∈ news, u.oneCell' = true)
    (h63 : n + m ≤ maxLen) (hbytes : n + m ≤ 140737488355328) {v' : Value} {w' : World}
    (hr : (Builtin.append_ #[t, t] ty #[v, .slice (some a) m c]).run P w = .ok v' w') : Moved w v v' := by
  rcases hown.2 with ⟨rfl, rfl⟩ | ⟨g, cap, cur, fz, rfl, hbg, hg, hfz, hnc, hcm, hcs, htake⟩
  · obtain ⟨v2, w2, r1, r2, _, _⟩ := run_append_ownF (P := P) w w.heap.size t ty e i (.int .u8 0) 1 1 ht hi hz hsize hby rfl (by decide) (.slice none 0 0) 0 xs ⟨hown.1, .inl ⟨rfl, rfl⟩⟩ a m c news hl hnews h1 h63 (by omega) (Nat.le_refl _)
    rw [hr] at r1
    injection r1 with e1 e2
    subst e1 e2
    rcases r2.2 with ⟨rfl, _⟩ | ⟨g, cap, cur, fz, rfl, hbg, _⟩
    · exact .inl rfl
    · exact .inr ⟨g, rfl, hbg⟩
  · by_cases hroom : n + m ≤ cap
    · have := run_append_roomF (P := P) w t ty e i ht hi g n cap cur fz hg (by rw [hsize]; exact hfz) a m c news (by rw [hsize]; exact hl) hnews h1 hroom (by rw [hsize, hcs]; omega)
      rw [hr] at this
      injection this with e1 e2
      subst e1
      exact .inl rfl
    · have hsmall : n + m ≤ 9223372036854775807 := by simp only [maxLen] at h63; omega
      have := run_append_grow (P := P) w t ty e i (.int .u8 0) ht hi hz ⟨g, 0, none⟩ n cap xs (by rw [hsize]; exact hown.1) (hown.cells (g := g) rfl) a m c news (by rw [hsize]; exact hl) hnews (by omega) (by omega) (by rw [hby]; exact growslice_fits (by omega) (by omega))
      rw [hr] at this
      injection this with e1 e2
      subst e1
      exact .inr ⟨_, rfl, Nat.le_refl _⟩

theorem wpList_app_str {ops : Array Oper} {rest : List Oper} {o : Oper} {a : Act} {Q : Exit → Act → World → Prop} (hgd : o.guard = none) (sl x : Operand) (t u : TypeId)
    (ho : o.op = .call { callee := .builtin .append, args := #[sl, x], argTypes := #[t, u] })
    (e : TypeId) (i : TypeInfo) (ht : P.underlying t = some (.slice e)) (hu : P.underlying u = some .string) (hi : P.info? e = some i) (hz : i.zero = some (.int .u8 0)) (hsize : i.size = 1) (hby : i.bytes = 1)
    (v : Value) (n : Nat) (xs : List Value) (hs : a.eval sl = v) (hown : w.ownsRowF 0 e 1 v n xs) (s : ByteArray) (hx : a.eval x = .string s)
    (h63 : n + s.size ≤ maxLen) (hbytes : n + s.size ≤ 140737488355328)
    (h : ∀ v' w', w'.ownsRowF 0 e 1 v' (n + s.size) (xs ++ Lib.strCells s) → w.grownBy w' v.ownBlock → Moved w v v' → wpList P ops Q rest (a.put o.dst v') w') : wpList P ops Q (o :: rest) a w := by
  refine wpList_plain hgd fun K hK => ?_
  obtain ⟨v', w', hr, h2, h3, h4⟩ := Lib.run_append_own_stringF (P := P) w 0 t u o.type e i ht hu hi hz hsize hby v n xs hown s h63 hbytes (Nat.zero_le _)
  have hm := append_str_moved (P := P) w t u o.type e i ht hu hi hz hsize hby v n xs hown s h63 hbytes hr
  unfold Oper.wp execOp
  simp only [ho, resolve, invoke, builtin, Sem.run_bind, Sem.run_pure, Result.andThen_ok, List.map_toArray, List.map_cons, List.map_nil, hs, hx, hr]
  exact hK _ _ (h v' w' h2 h3 hm)

theorem wpList_app_row {ops : Array Oper} {rest : List Oper} {o : Oper} {a : Act} {Q : Exit → Act → World → Prop} (hgd : o.guard = none) (sl x : Operand) (t : TypeId)
    (ho : o.op = .call { callee := .builtin .append, args := #[sl, x], argTypes := #[t, t] })
    (e : TypeId) (i : TypeInfo) (ht : P.underlying t = some (.slice e)) (hi : P.info? e = some i) (hz : i.zero = some (.int .u8 0)) (hsize : i.size = 1) (hby : i.bytes = 1)
    (v : Value) (n : Nat) (xs : List Value) (hs : a.eval sl = v) (hown : w.ownsRowF 0 e 1 v n xs) (ad : Addr) (m c : Nat) (news : List Value) (hx : a.eval x = .slice (some ad) m c) (hl : news.length = m * 1) (hnews : ∀ j u, news[j]? = some u → w.cell? (ad.add j) = some u) (h1 : ∀ u ∈ news, u.oneCell' = true)
    (h63 : n + m ≤ maxLen) (hbytes : n + m ≤ 140737488355328)
    (h : ∀ v' w', w'.ownsRowF 0 e 1 v' (n + m) (xs ++ news) → w.grownBy w' v.ownBlock → Moved w v v' → wpList P ops Q rest (a.put o.dst v') w') : wpList P ops Q (o :: rest) a w := by
  refine wpList_plain hgd fun K hK => ?_
  obtain ⟨v', w', hr, h2, h3, h4⟩ := run_append_ownF (P := P) w 0 t o.type e i (.int .u8 0) 1 1 ht hi hz hsize hby rfl (by decide) v n xs hown ad m c news hl hnews h1 h63 (by omega) (Nat.zero_le _)
  have hm := append_row_moved (P := P) w t o.type e i ht hi hz hsize hby v n xs hown ad m c news hl hnews h1 h63 hbytes hr
  unfold Oper.wp execOp
  simp only [ho, resolve, invoke, builtin, Sem.run_bind, Sem.run_pure, Result.andThen_ok, List.map_toArray, List.map_cons, List.map_nil, hs, hx, hr]
  exact hK _ _ (h v' w' h2 h3 hm)
end

theorem Bld.lt {T e b : Nat} {p v : Value} {xs : List Value} {w : World} (h : Bld T e b p v xs w) : b < w.heap.size := heap_lt h.heap
theorem Bld.cell0 {T e b : Nat} {p v : Value} {xs : List Value} {w : World} (h : Bld T e b p v xs w) : w.cell? ⟨b, 0, none⟩ = some p := by simp [World.cell?, h.heap]
theorem Bld.cell1 {T e b : Nat} {p v : Value} {xs : List Value} {w : World} (h : Bld T e b p v xs w) : w.cell? ⟨b, 1, none⟩ = some v := by simp [World.cell?, h.heap]
theorem Bld.shape {T e b : Nat} {p v : Value} {xs : List Value} {w : World} (h : Bld T e b p v xs w) : w.shape? b = some (T, 2) := by simp [World.shape?, h.heap]
theorem Bld.frozen {T e b : Nat} {p v : Value} {xs : List Value} {w : World} (h : Bld T e b p v xs w) (off : Nat) : w.frozen? ⟨b, off, none⟩ = false := by simp [World.frozen?, h.heap]

theorem Bld.used {T e b : Nat} {p v : Value} {xs : List Value} {w : World} (h : Bld T e b p v xs w) (q : Value) : Bld T e b q v xs (w.setCell ⟨b, 0, none⟩ q) := by
  refine ⟨by simp [World.setCell, Array.getElem?_modify, h.heap], ?_, h.ne⟩
  exact h.own.kept (row := some b) ⟨rfl, rfl, rfl, by simp [World.setCell], fun k _ hk => Below.heap_setCell _ _ _ _ (fun e => hk (by simp [e]))⟩ (.inr h.ne)

theorem Bld.put {T e b : Nat} {p v v' : Value} {xs : List Value} {w : World} (hb : w.heap[b]? = some (.cells #[p, v] T (0, 0))) (hown : w.ownsRowF 0 e 1 v' xs.length xs) (hne : v'.ownBlock ≠ some b) : Bld T e b p v' xs (w.setCell ⟨b, 1, none⟩ v') := by
  refine ⟨by simp [World.setCell, Array.getElem?_modify, hb], ?_, hne⟩
  exact hown.kept (row := some b) ⟨rfl, rfl, rfl, by simp [World.setCell], fun k _ hk => Below.heap_setCell _ _ _ _ (fun e => hk (by simp [e]))⟩ (.inr hne)

theorem freeze_heap (w : World) (p : Addr) (n k : Nat) (hk : k ≠ p.block) : (w.freeze p n).heap[k]? = w.heap[k]? := by
  unfold World.freeze
  split
  · rfl
  · simp only [Array.getElem?_modify]
    rw [if_neg (by omega)]

/-- unsafe.String of a builder's row: its head is frozen; a builder still. -/
theorem Bld.froze {T e b g cap : Nat} {p : Value} {xs : List Value} {w : World} (h : Bld T e b p (.slice (some ⟨g, 0, none⟩) xs.length cap) xs w) : Bld T e b p (.slice (some ⟨g, 0, none⟩) xs.length cap) xs (w.freeze ⟨g, 0, none⟩ xs.length) ∧ Two w (w.freeze ⟨g, 0, none⟩ xs.length) b (some g) := by
  have hA : Lib.BuilderAtF T e 0 b p xs w := ⟨Nat.zero_le _, _, h.heap, h.own, h.ne⟩
  have hF := hA.froze (g := g) (cap := cap) h.cell1
  obtain ⟨_, v, h1, h2, h3⟩ := hF
  have hbg : b ≠ g := fun e => h.ne (by simp [Value.ownBlock, e])
  have h4 : (w.freeze ⟨g, 0, none⟩ xs.length).heap[b]? = w.heap[b]? := freeze_heap w _ _ _ hbg
  have h5 := h1
  rw [h4, h.heap] at h5
  simp only [Option.some.injEq, Obj.cells.injEq] at h5
  have h6 : v = .slice (some ⟨g, 0, none⟩) xs.length cap := by
    have := congrArg (fun a => a[1]?) h5.1
    simpa using this.symm
  subst h6
  refine ⟨⟨h1, h2, h3⟩, ?_⟩
  have hb := Lib.below_freeze (B := 0) (Below.refl 0 w) (p := ⟨g, 0, none⟩) (Nat.zero_le _) xs.length
  exact ⟨hb.os, hb.tape, hb.output, hb.size, fun k _ _ hk => freeze_heap w _ _ _ fun e => hk (by rw [e])⟩

theorem Two.drew (w : World) (b : Nat) (row : Option Nat) : Two w w.drew b row := ⟨rfl, rfl, rfl, Nat.le_refl _, fun _ _ _ _ => rfl⟩
theorem Two.alloc (w : World) (b : Nat) (row : Option Nat) (o : Obj) : Two w (w.alloc o) b row := Two.of_grown (World.grownBy_alloc w o row)

theorem Bld.alloc {T e b : Nat} {p v : Value} {xs : List Value} {w : World} (h : Bld T e b p v xs w) (o : Obj) : Bld T e b p v xs (w.alloc o) :=
  ⟨(Lib.alloc_old w o b h.lt).trans h.heap, h.own.kept (World.grownBy_alloc w o none) (by cases hv : v.ownBlock <;> simp), h.ne⟩

theorem Bld.drew {T e b : Nat} {p v : Value} {xs : List Value} {w : World} (h : Bld T e b p v xs w) : Bld T e b p v xs w.drew := ⟨h.heap, h.own, h.ne⟩

theorem Moved.ne {w : World} {v v' : Value} {b : Nat} (h : Moved w v v') (hb : b < w.heap.size) (hne : v.ownBlock ≠ some b) : v'.ownBlock ≠ some b := by
  rcases h with h | ⟨g, h, hg⟩
  · rw [h]; exact hne
  · rw [h]; intro e; injection e with e; omega

theorem Moved.trans {w w1 : World} {v v1 v2 : Value} (h : Moved w v v1) (k : Moved w1 v1 v2) (hs : w.heap.size ≤ w1.heap.size) : Moved w v v2 := by
  rcases k with k | ⟨g, k, hg⟩
  · rcases h with h | ⟨g, h, hg⟩
    · exact .inl (k.trans h)
    · exact .inr ⟨g, k.trans h, hg⟩
  · exact .inr ⟨g, k, Nat.le_trans hs hg⟩

end Go.Ab

/- The abstract layer, 41: calls of strings.Builder's methods. -/
namespace Go.Ab

/-- What a method's run is to show of a builder. -/
structure BldOk (T e b : Nat) (p v : Value) (l : Option (List UInt8)) (w : World) : Prop where
  bld : Bld T e b p v (Lib.byteCells (l.getD [])) w
  ptr : p = .pointer none ∨ p = .pointer (some ⟨b, 0, none⟩)
  new : l = none → p = .pointer none ∧ v = .slice none 0 0

theorem bld_lift {P : Program} {F : FuncId} {X : Nat → Prop} {h : Gh} {H : AHeap} {w : World} (s : Sim X h H w) {id T e row : Nat} {l l' : Option (List UInt8)} (hid : H[id]? = some (.bld T e row l)) (hrow : H[row]? = some (.brow id))
    {va : AVal} {cargs : Array Value} (h0 : ∃ c, cargs[0]? = some c ∧ VRel (cx X h H w) (.ptr id 0 0) c)
    (hc : ∀ b p v, cargs[0]? = some (.pointer (some ⟨b, 0, none⟩)) → BldOk T e b p v l w →
      Calls P F cargs w fun en w' => ∃ c p' v', en = .returned c ∧ BldOk T e b p' v' l' w' ∧ Moved w v v' ∧ Two w w' b v.ownBlock ∧ ∀ x, VRel x va c) :
    Calls P F cargs w fun en w' => ∃ c u h' H', en = .returned c ∧ (u = va ∧ H' = H.set id (.bld T e row l')) ∧ Sim X h' H' w' ∧ VRel (cx X h' H' w') u c ∧ Ext h H w h' H' w' := by
  obtain ⟨b, p, v, hio, hb, hp, hgen, hnew, hfr⟩ := s.bld id _ hid rfl
  obtain ⟨hown, hvr⟩ := hfr hrow
  obtain ⟨c0, hc0, r0⟩ := h0
  have e0 : c0 = .pointer (some ⟨b, 0, none⟩) := by
    cases r0 with
    | ptr q1 q2 q3 q4 =>
      obtain ⟨B, h1, h2⟩ := q4 hgen
      rw [show (cx X h H w).io id = h.io id from rfl, hio] at h1
      injection h1 with h1
      rw [h2, h1]
  subst e0
  have hnid : id ≠ row := by
    rintro rfl
    rw [hid] at hrow
    cases hrow
  have hidl : id < H.length := by
    rcases Nat.lt_or_ge id H.length with h2 | h2
    · exact h2
    · rw [List.getElem?_eq_none h2] at hid; cases hid
  have hne : v.ownBlock ≠ some b := fun e1 => hnid (s.inj id row _ _ b hid hrow (by simp) (by simp) hio (by rw [← hvr, e1]))
  have hbl : b < w.heap.size := heap_lt hb
  have hlen : (Lib.byteCells (l.getD [])).length = (l.getD []).length := Lib.byteCells_length _
  refine (hc b p v hc0 ⟨⟨hb, by rw [hlen]; exact hown, hne⟩, hp, hnew⟩).mono ?_
  rintro en w' ⟨c, p', v', rfl, hB, hmv, htwo, hva⟩
  have hother : ∀ (B : Nat) (o : Obj), w.heap[B]? = some o → B ≠ b → some B ≠ v.ownBlock → w'.heap[B]? = some o := fun B o ho h1 h2 => (htwo.block B (heap_lt ho) h1 h2).trans ho
  have hrowc : ∀ B, h.io row = some B → ∃ arr T fz, w.heap[B]? = some (.cells arr T fz) := s.bld row _ hrow rfl
  have hx : Ext h H w (h.at_ row v'.ownBlock (h.gen row + 1) (h.cap row)) (H.set id (.bld T e row l')) w' := by
    refine ⟨htwo.os, htwo.tape, htwo.output, htwo.size, fun B hB hn => ?_, by simp, fun i hi => ?_, fun i hi he => ?_, fun B ho => ?_, fun B r hr => ⟨r, ?_⟩⟩
    · refine htwo.block B hB (fun e1 => ?_) (fun e1 => ?_)
      · subst e1; exact hn ⟨id, _, hid, by simp, hio⟩
      · exact hn ⟨row, _, hrow, by simp, by rw [← hvr, e1]⟩
    · by_cases e1 : i = row
      · subst e1; simp [Gh.at_]
      · simp [Gh.at_, e1]
    · by_cases e1 : i = row
      · subst e1; simp [Gh.at_] at he
      · simp [Gh.at_, e1]
    · obtain ⟨i, E, h1, h2, h3⟩ := ho
      by_cases e1 : i = row
      · subst e1
        simp only [Gh.at_, if_true] at h3
        rcases hmv with hm | ⟨g, hm, hg⟩
        · exact .inl ⟨i, _, hrow, by simp, by rw [← hvr, ← hm, h3]⟩
        · rw [h3] at hm; injection hm with hm; exact .inr (by omega)
      · simp only [Gh.at_, if_neg e1] at h3
        rcases set_key hidl h1 with ⟨_, h4⟩ | ⟨rfl, _⟩
        · exact .inl ⟨i, E, h4, h2, h3⟩
        · exact .inl ⟨i, _, hid, by simp, h3⟩
    · refine hother B _ hr (fun e1 => ?_) (fun e1 => ?_)
      · subst e1; rw [hb] at hr; cases hr
      · obtain ⟨arr, T', fz, h1⟩ := hrowc B (by rw [← hvr, e1])
        rw [h1] at hr; cases hr
  have hBat : BAt (h.at_ row v'.ownBlock (h.gen row + 1) (h.cap row)) (H.set id (.bld T e row l')) w' id (.bld T e row l') := by
    refine ⟨b, p', v', by simpa [Gh.at_, hnid] using hio, hB.bld.heap, hB.ptr, by simpa [Gh.at_, hnid] using hgen, hB.new, fun _ => ⟨?_, by simp [Gh.at_]⟩⟩
    have := hB.bld.own
    rwa [Lib.byteCells_length] at this
  have hrow' : (H.set id (.bld T e row l'))[row]? = some (.brow id) := by rw [List.getElem?_set_ne hnid]; exact hrow
  have hsim : Sim X (h.at_ row v'.ownBlock (h.gen row + 1) (h.cap row)) (H.set id (.bld T e row l')) w' := by
    have kept : ∀ {i : Nat} {E : Ent}, i ≠ id → i ≠ row → H[i]? = some E → E ≠ .dead → ∀ B, h.io i = some B → w'.heap[B]? = w.heap[B]? := by
      intro i E h1 h2 h3 h4 B h5
      refine htwo.block B (s.io_at h3 h4 h5) (fun e1 => ?_) (fun e1 => ?_)
      · subst e1; exact h1 (s.inj i id _ _ B h3 hid h4 (by simp) h5 hio)
      · exact h2 (s.inj i row _ _ B h3 hrow h4 (by simp) h5 (by rw [← hvr, e1]))
    refine s.of_ext' hx (fun i E he hne' => ?_) (fun i T1 e1 r l1 he he' hr => ?_) fun i i' E E' B h1 h2 hn1 hn2 h3 h4 => ?_
    · rcases set_key hidl he with ⟨hi, h4⟩ | ⟨rfl, rfl⟩
      · by_cases e2 : i = row
        · subst e2
          rw [hrow] at h4
          injection h4 with h4
          subst h4
          refine .inr (.inr (.inr ⟨rfl, fun B hB' => ?_⟩))
          simp only [Gh.at_, if_true] at hB'
          rcases hB.bld.own.2 with ⟨h5, _⟩ | ⟨g, cap, cur, fz, h5, _, h6, _⟩
          · rw [h5] at hB'; cases hB'
          · rw [h5] at hB'; simp only [Value.ownBlock, Option.some.injEq] at hB'; subst hB'; exact ⟨_, _, _, h6⟩
        · exact .inl ⟨h4, by simp [Gh.at_, e2], by simp [Gh.at_, e2], by simp [Gh.at_, e2], kept hi e2 h4 hne'⟩
      · exact .inr (.inr (.inr ⟨rfl, hBat⟩))
    · rcases set_key hidl he with ⟨hi, h4⟩ | ⟨rfl, h4⟩
      · rcases set_key hidl hr with ⟨hri, h5⟩ | ⟨_, h5⟩
        · have hrr : r ≠ row := by
            rintro rfl
            rw [hrow] at h5
            injection h5 with h5
            injection h5 with h5
            exact hi h5.symm
          have hir : i ≠ row := by
            rintro rfl
            rw [hrow] at h4
            cases h4
          obtain ⟨B, p1, v1, q1, q2, q3, q4, q6, q5⟩ := s.bld i _ he' rfl
          obtain ⟨r1, r2⟩ := q5 h5
          refine ⟨B, p1, v1, by simpa [Gh.at_, hir] using q1, (kept hi hir h4 (by simp) B q1).trans q2, q3, by simpa [Gh.at_, hir] using q4, q6, fun _ => ⟨⟨r1.1, ?_⟩, by simpa [Gh.at_, hrr] using r2⟩⟩
          rcases r1.2 with q | ⟨g, cap, cur, fz, rfl, c1, c2, c3⟩
          · exact .inl q
          · refine .inr ⟨g, cap, cur, fz, rfl, c1, (kept hri hrr h5 (by simp) g ?_).trans c2, c3⟩
            simpa [Value.ownBlock] using r2.symm
        · cases h5
      · rw [h4]; exact hBat
    · have back : ∀ {j : Nat} {E : Ent}, (H.set id (.bld T e row l'))[j]? = some E → E ≠ .dead → (h.at_ row v'.ownBlock (h.gen row + 1) (h.cap row)).io j = some B → ∃ E0, H[j]? = some E0 ∧ E0 ≠ .dead ∧ (h.io j = some B ∨ (j = row ∧ w.heap.size ≤ B)) := by
        intro j E hj hn hB'
        have hj0 : ∃ E0, H[j]? = some E0 ∧ E0 ≠ .dead := by
          rcases set_key hidl hj with ⟨_, h5⟩ | ⟨rfl, _⟩
          · exact ⟨E, h5, hn⟩
          · exact ⟨_, hid, by simp⟩
        obtain ⟨E0, h5, h6⟩ := hj0
        refine ⟨E0, h5, h6, ?_⟩
        by_cases e2 : j = row
        · subst e2
          simp only [Gh.at_, if_true] at hB'
          rcases hmv with hm | ⟨g, hm, hg⟩
          · exact .inl (by rw [← hvr, ← hm, hB'])
          · rw [hB'] at hm; injection hm with hm; exact .inr ⟨rfl, by omega⟩
        · exact .inl (by simpa [Gh.at_, e2] using hB')
      obtain ⟨E0, a1, a2, a3⟩ := back h1 hn1 h3
      obtain ⟨E0', b1, b2, b3⟩ := back h2 hn2 h4
      rcases a3 with a3 | ⟨a3, a4⟩ <;> rcases b3 with b3 | ⟨b3, b4⟩
      · exact s.inj _ _ _ _ B a1 b1 a2 b2 a3 b3
      · have := s.io_at a1 a2 a3; omega
      · have := s.io_at b1 b2 b3; omega
      · rw [a3, b3]
  exact ⟨c, va, _, _, rfl, ⟨rfl, rfl⟩, hsim, hva _, hx⟩

end Go.Ab

/- The abstract layer, 42: strings.Builder's methods, as the evaluator calls them. -/
namespace Go.Ab

def bldGet (bt et : Nat) (H : AHeap) (id : Nat) : Option (Nat × Option (List UInt8)) :=
  match H[id]? with
  | some (.bld T e row l) =>
    if T = bt ∧ e = et then
      match H[row]? with
      | some (.brow o) => if o = id then some (row, l) else none
      | _ => none
    else none
  | _ => none

theorem bldGet_spec {bt et : Nat} {H : AHeap} {id row : Nat} {l : Option (List UInt8)} (h : bldGet bt et H id = some (row, l)) : H[id]? = some (.bld bt et row l) ∧ H[row]? = some (.brow id) := by
  unfold bldGet at h
  split at h
  · rename_i T e row' l' he
    split at h
    · rename_i hT
      obtain ⟨rfl, rfl⟩ := hT
      split at h
      · rename_i o ho
        split at h
        · rename_i hi
          subst hi
          simp only [Option.some.injEq, Prod.mk.injEq] at h
          obtain ⟨rfl, rfl⟩ := h
          exact ⟨he, ho⟩
        · cases h
      · cases h
    · cases h
  · cases h

abbrev Sum1 := List AVal → AHeap → Option (AVal × AHeap)

def sWriteByte (bt et : Nat) : Sum1
  | [.ptr id 0 0, .int .u8 c], H =>
    match bldGet bt et H id with
    | some (row, l) => if 0 ≤ c ∧ c < 256 ∧ (l.getD []).length < 1099511627776 then some (.any, H.set id (.bld bt et row (some (l.getD [] ++ [c.toNat.toUInt8])))) else none
    | none => none
  | _, _ => none

def sWriteString (bt et : Nat) : Sum1
  | [.ptr id 0 0, .str t], H =>
    match bldGet bt et H id with
    | some (row, l) => if (l.getD []).length < 1099511627776 ∧ t.length < 1099511627776 then some (.tup [.int .i64 t.length, .any], H.set id (.bld bt et row (some (l.getD [] ++ t)))) else none
    | none => none
  | _, _ => none

def sString (bt et : Nat) : Sum1
  | [.ptr id 0 0], H =>
    match bldGet bt et H id with
    | some (row, l) => some (.str (l.getD []), H.set id (.bld bt et row l))
    | none => none
  | _, _ => none

def sLen (bt et : Nat) : Sum1
  | [.ptr id 0 0], H =>
    match bldGet bt et H id with
    | some (row, l) => some (.int .i64 (l.getD []).length, H.set id (.bld bt et row l))
    | none => none
  | _, _ => none

/-- Grow, of a builder that has not been written. -/
def sGrow (bt et : Nat) : Sum1
  | [.ptr id 0 0, .int .i64 n], H =>
    match bldGet bt et H id with
    | some (row, none) => if 0 ≤ n ∧ n < 1099511627776 then some (.any, H.set id (.bld bt et row (some []))) else none
    | _ => none
  | _, _ => none

def bldSums (bt et fB fS fT fL fG : Nat) : Sums := fun F =>
  if F = fB then some (sWriteByte bt et)
  else if F = fS then some (sWriteString bt et)
  else if F = fT then some (sString bt et)
  else if F = fL then some (sLen bt et)
  else if F = fG then some (sGrow bt et)
  else none

/-- What is to be shown of the program's methods. -/
structure BldProg (P : Program) (bt et fB fS fT fL fG : Nat) : Prop where
  byte : ∀ {b : Nat} {p v : Value} {xs : List Value} {w : World} (c : Int), (p = .pointer none ∨ p = .pointer (some ⟨b, 0, none⟩)) → Bld bt et b p v xs w → xs.length + 1 ≤ 140737488355328 →
    Calls P fB #[.pointer (some ⟨b, 0, none⟩), .int .u8 c] w fun e w' => e = .returned .nilIface ∧ ∃ v', Bld bt et b (.pointer (some ⟨b, 0, none⟩)) v' (xs ++ [.int .u8 c]) w' ∧ Moved w v v' ∧ Two w w' b v.ownBlock
  str : ∀ {b : Nat} {p v : Value} {xs : List Value} {w : World} (s : ByteArray), (p = .pointer none ∨ p = .pointer (some ⟨b, 0, none⟩)) → Bld bt et b p v xs w → xs.length + s.size ≤ 140737488355328 →
    Calls P fS #[.pointer (some ⟨b, 0, none⟩), .string s] w fun e w' => e = .returned (.tuple #[.int .i64 s.size, .nilIface]) ∧ ∃ v', Bld bt et b (.pointer (some ⟨b, 0, none⟩)) v' (xs ++ Lib.strCells s) w' ∧ Moved w v v' ∧ Two w w' b v.ownBlock
  tostr : ∀ {b : Nat} {p v : Value} {l : List UInt8} {w : World}, Bld bt et b p v (Lib.byteCells l) w →
    Calls P fT #[.pointer (some ⟨b, 0, none⟩)] w fun e w' => e = .returned (.string ⟨l.toArray⟩) ∧ Bld bt et b p v (Lib.byteCells l) w' ∧ Two w w' b v.ownBlock
  len : ∀ {b : Nat} {p v : Value} {xs : List Value} {w : World}, Bld bt et b p v xs w → Calls P fL #[.pointer (some ⟨b, 0, none⟩)] w fun e w' => e = .returned (.int .i64 xs.length) ∧ w' = w
  grow : ∀ {b : Nat} {w : World} (n : Nat), Bld bt et b (.pointer none) (.slice none 0 0) [] w → n ≤ 1099511627776 →
    Calls P fG #[.pointer (some ⟨b, 0, none⟩), .int .i64 n] w fun e w' => e = .returned (.tuple #[]) ∧ ∃ v', Bld bt et b (.pointer (some ⟨b, 0, none⟩)) v' [] w' ∧ Moved w (.slice none 0 0) v' ∧ Two w w' b none

theorem args1 {x : Cx} {v : AVal} {cargs : Array Value} (hn : cargs.size = 1) (ha : ∀ (j : Nat) (u : AVal) (c : Value), [v][j]? = some u → cargs[j]? = some c → VRel x u c) : ∃ c, cargs = #[c] ∧ VRel x v c := by
  refine ⟨cargs[0], Array.ext (by simp [hn]) fun j h1 h2 => ?_, ha 0 v _ rfl (Array.getElem?_eq_getElem (by omega))⟩
  have : j = 0 := by simp at h2; omega
  subst this
  rfl

theorem args2 {x : Cx} {v v2 : AVal} {cargs : Array Value} (hn : cargs.size = 2) (ha : ∀ (j : Nat) (u : AVal) (c : Value), [v, v2][j]? = some u → cargs[j]? = some c → VRel x u c) : ∃ c c2, cargs = #[c, c2] ∧ VRel x v c ∧ VRel x v2 c2 := by
  refine ⟨cargs[0], cargs[1], Array.ext (by simp [hn]) fun j h1 h2 => ?_, ha 0 v _ rfl (Array.getElem?_eq_getElem (by omega)), ha 1 v2 _ rfl (Array.getElem?_eq_getElem (by omega))⟩
  rcases (by simp at h2; omega : j = 0 ∨ j = 1) with rfl | rfl <;> rfl

theorem bldSums_ok {P : Program} {bt et fB fS fT fL fG : Nat} (B : BldProg P bt et fB fS fT fL fG) : SumsOk P (bldSums bt et fB fS fT fL fG) := by
  intro F f args H v H' hF hf
  unfold bldSums at hF
  split at hF
  · rename_i hFe
    subst hFe
    injection hF with hF
    subst hF
    unfold sWriteByte at hf
    split at hf
    · rename_i id c
      split at hf
      · rename_i row l hg
        split at hf
        · rename_i hr
          simp only [Option.some.injEq, Prod.mk.injEq] at hf
          obtain ⟨rfl, rfl⟩ := hf
          obtain ⟨h1, h2⟩ := bldGet_spec hg
          intro X h w cargs s hn ha
          obtain ⟨c1, c2, rfl, r1, r2⟩ := args2 hn ha
          cases r2
          refine bld_lift s h1 h2 ⟨c1, rfl, r1⟩ fun b p v hb ok => ?_
          have hb' : c1 = .pointer (some ⟨b, 0, none⟩) := by simpa using hb
          subst hb'
          refine (B.byte c ok.ptr ok.bld (by rw [Lib.byteCells_length]; omega)).mono ?_
          rintro e w' ⟨rfl, v', q1, q2, q3⟩
          refine ⟨_, _, v', rfl, ⟨?_, .inr rfl, fun h => by cases h⟩, q2, q3, fun x => .any _⟩
          have e1 : Lib.byteCells ((some (l.getD [] ++ [c.toNat.toUInt8])).getD []) = Lib.byteCells (l.getD []) ++ [.int .u8 c] := by
            show Lib.byteCells (l.getD [] ++ [c.toNat.toUInt8]) = _
            rw [Lib.byteCells_append]
            have : ((c.toNat.toUInt8).toNat : Int) = c := by
              have h3 : c.toNat < 256 := by omega
              have : c.toNat.toUInt8.toNat = c.toNat := by rw [Nat.toUInt8, UInt8.toNat_ofNat']; exact Nat.mod_eq_of_lt h3
              rw [this]; omega
            show Lib.byteCells (l.getD []) ++ [.int .u8 (c.toNat.toUInt8).toNat] = _
            rw [this]
          rw [e1]
          exact q1
        · cases hf
      · cases hf
    · cases hf
  · split at hF
    · rename_i hFe
      subst hFe
      injection hF with hF
      subst hF
      unfold sWriteString at hf
      split at hf
      · rename_i id t
        split at hf
        · rename_i row l hg
          split at hf
          · rename_i hr
            simp only [Option.some.injEq, Prod.mk.injEq] at hf
            obtain ⟨rfl, rfl⟩ := hf
            obtain ⟨h1, h2⟩ := bldGet_spec hg
            intro X h w cargs s hn ha
            obtain ⟨c1, c2, rfl, r1, r2⟩ := args2 hn ha
            cases r2 with
            | str t' ht =>
              have hts : t'.size = t.length := by rw [← ht]; rfl
              refine bld_lift s h1 h2 ⟨c1, rfl, r1⟩ fun b p v hb ok => ?_
              have hb' : c1 = .pointer (some ⟨b, 0, none⟩) := by simpa using hb
              subst hb'
              refine (B.str t' ok.ptr ok.bld (by rw [Lib.byteCells_length, hts]; omega)).mono ?_
              rintro e w' ⟨rfl, v', q1, q2, q3⟩
              refine ⟨_, _, v', rfl, ⟨?_, .inr rfl, fun h => by cases h⟩, q2, q3, fun x => ?_⟩
              · have e1 : Lib.byteCells ((some (l.getD [] ++ t)).getD []) = Lib.byteCells (l.getD []) ++ Lib.strCells t' := by
                  show Lib.byteCells (l.getD [] ++ t) = _
                  rw [Lib.byteCells_append, Lib.strCells_eq, ht]
                rw [e1]
                exact q1
              · rw [hts]
                refine .tup rfl fun j u c hj hc => ?_
                match j, hj, hc with
                | 0, hj, hc =>
                  simp at hj hc
                  subst hj hc
                  exact .int _ _
                | 1, hj, hc =>
                  simp at hj
                  subst hj
                  exact .any _
          · cases hf
        · cases hf
      · cases hf
    · split at hF
      · rename_i hFe
        subst hFe
        injection hF with hF
        subst hF
        unfold sString at hf
        split at hf
        · rename_i id
          split at hf
          · rename_i row l hg
            simp only [Option.some.injEq, Prod.mk.injEq] at hf
            obtain ⟨rfl, rfl⟩ := hf
            obtain ⟨h1, h2⟩ := bldGet_spec hg
            intro X h w cargs s hn ha
            obtain ⟨c1, rfl, r1⟩ := args1 hn ha
            refine bld_lift s h1 h2 ⟨c1, rfl, r1⟩ fun b p v hb ok => ?_
            have hb' : c1 = .pointer (some ⟨b, 0, none⟩) := by simpa using hb
            subst hb'
            refine (B.tostr ok.bld).mono ?_
            rintro e w' ⟨rfl, q1, q3⟩
            exact ⟨_, p, v, rfl, ⟨q1, ok.ptr, ok.new⟩, .inl rfl, q3, fun x => .str _ (by simp)⟩
          · cases hf
        · cases hf
      · split at hF
        · rename_i hFe
          subst hFe
          injection hF with hF
          subst hF
          unfold sLen at hf
          split at hf
          · rename_i id
            split at hf
            · rename_i row l hg
              simp only [Option.some.injEq, Prod.mk.injEq] at hf
              obtain ⟨rfl, rfl⟩ := hf
              obtain ⟨h1, h2⟩ := bldGet_spec hg
              intro X h w cargs s hn ha
              obtain ⟨c1, rfl, r1⟩ := args1 hn ha
              refine bld_lift s h1 h2 ⟨c1, rfl, r1⟩ fun b p v hb ok => ?_
              have hb' : c1 = .pointer (some ⟨b, 0, none⟩) := by simpa using hb
              subst hb'
              refine (B.len ok.bld).mono ?_
              rintro e w' ⟨rfl, rfl⟩
              exact ⟨_, p, v, rfl, ⟨ok.bld, ok.ptr, ok.new⟩, .inl rfl, Two.refl _ _ _, fun x => by rw [Lib.byteCells_length]; exact .int _ _⟩
            · cases hf
          · cases hf
        · split at hF
          · rename_i hFe
            subst hFe
            injection hF with hF
            subst hF
            unfold sGrow at hf
            split at hf
            · rename_i id n
              split at hf
              · rename_i row hg
                split at hf
                · rename_i hr
                  simp only [Option.some.injEq, Prod.mk.injEq] at hf
                  obtain ⟨rfl, rfl⟩ := hf
                  obtain ⟨h1, h2⟩ := bldGet_spec hg
                  intro X h w cargs s hn ha
                  obtain ⟨c1, c2, rfl, r1, r2⟩ := args2 hn ha
                  cases r2
                  refine bld_lift s h1 h2 ⟨c1, rfl, r1⟩ fun b p v hb ok => ?_
                  have hb' : c1 = .pointer (some ⟨b, 0, none⟩) := by simpa using hb
                  subst hb'
                  obtain ⟨rfl, rfl⟩ := ok.new rfl
                  have hnn : (n.toNat : Int) = n := by omega
                  have := B.grow n.toNat ok.bld (by omega)
                  rw [hnn] at this
                  refine this.mono ?_
                  rintro e w' ⟨rfl, v', q1, q2, q3⟩
                  exact ⟨_, _, v', rfl, ⟨q1, .inr rfl, fun h => by cases h⟩, q2, q3, fun x => .any _⟩
                · cases hf
              · cases hf
            · cases hf
          · cases hF

end Go.Ab

/- Loops as functions: that they end, and what they yield. -/
namespace Go.Ab

theorem w64 {x : Int} (h : -9223372036854775808 ≤ x ∧ x ≤ 9223372036854775807) : IntKind.wrap .i64 x = x := by
  rw [IntKind.wrap_i64]; omega

/-- A loop that counts up to N and hands on what it has made. -/
theorem forLoop {A : Type} {body : A × Int → Option (Step (A × Int) A)} (N : Nat) (f : Nat → A → A) (I : Nat → A → Prop) (hb : ∀ (i : Nat) (a : A), i < N → I i a → body (a, (i : Int)) = some (.next (f i a, ((i + 1 : Nat) : Int))) ∧ I (i + 1) (f i a))
    (he : ∀ a, I N a → body (a, (N : Int)) = some (.done a)) {a : A} (h0 : I 0 a) : loopO body (a, 0) = some ((List.range N).foldl (fun a i => f i a) a) ∧ I N ((List.range N).foldl (fun a i => f i a) a) := by
  have key : ∀ (m k : Nat) (a : A), k + m = N → I k a → loopO body (a, (k : Int)) = some ((List.range' k m).foldl (fun a i => f i a) a) ∧ I N ((List.range' k m).foldl (fun a i => f i a) a) := by
    intro m
    induction m with
    | zero =>
      intro k a hk hI
      have : k = N := by omega
      subst this
      rw [loopO_eq, he a hI]
      exact ⟨rfl, hI⟩
    | succ m ih =>
      intro k a hk hI
      obtain ⟨h1, h2⟩ := hb k a (by omega) hI
      rw [loopO_eq, h1]
      simp only [List.range'_succ, List.foldl_cons]
      exact ih (k + 1) (f k a) (by omega) h2
  have := key N 0 a (by omega) h0
  rw [List.range_eq_range']
  exact this

/-- A loop that comes nearer to its end with each round. -/
theorem loopTotal {S R : Type} {body : S → Option (Step S R)} (I : S → Prop) (Q : R → Prop) (μ : S → Nat) (hb : ∀ s, I s → (∃ r, body s = some (.done r) ∧ Q r) ∨ ∃ s', body s = some (.next s') ∧ I s' ∧ μ s' < μ s) {s : S} (h : I s) : ∃ r, loopO body s = some r ∧ Q r := by
  have key : ∀ (n : Nat) (s : S), μ s < n → I s → ∃ r, loopO body s = some r ∧ Q r := by
    intro n
    induction n with
    | zero => intro s hs; omega
    | succ n ih =>
      intro s hs hI
      rcases hb s hI with ⟨r, h1, h2⟩ | ⟨s', h1, h2, h3⟩
      · exact ⟨r, by rw [loopO_eq, h1], h2⟩
      · obtain ⟨r, h4, h5⟩ := ih s' (by omega) h2
        exact ⟨r, by rw [loopO_eq, h1]; exact h4, h5⟩
  exact key (μ s + 1) s (by omega) h

theorem ix_some {α : Type} {l : List α} {i : Nat} {x : α} (h : l[i]? = some x) : ix l (i : Int) = some x := by
  unfold ix
  rw [if_pos (by omega), Int.toNat_natCast, h]
theorem ix_lt {α : Type} {l : List α} {i : Int} (h0 : 0 ≤ i) (h1 : i < l.length) : ∃ x, ix l i = some x ∧ l[i.toNat]? = some x := by
  obtain ⟨n, rfl⟩ := Int.eq_ofNat_of_zero_le h0
  have hn : n < l.length := by omega
  exact ⟨l[n], ix_some (List.getElem?_eq_getElem hn), by simp [hn]⟩
theorem app_le {α : Type} {l xs : List α} (h : l.length + xs.length ≤ 16777216) : app l xs = some (l ++ xs) := if_pos h
theorem aget_lt {α : Type} {n : Nat} (a : Arr n α) {i : Nat} (h : i < n) : aget a (i : Int) = some (a ⟨i, h⟩) := by
  unfold aget
  rw [dif_pos ⟨by omega, by simpa using h⟩]
  simp
theorem aget_in {α : Type} {n : Nat} (a : Arr n α) {i : Int} (h0 : 0 ≤ i) (h1 : i < n) : ∃ x, aget a i = some x := by
  obtain ⟨k, rfl⟩ := Int.eq_ofNat_of_zero_le h0
  exact ⟨_, aget_lt a (by omega)⟩
end Go.Ab

/- The abstract layer, 43: calls whose results are known, as the evaluator calls them. -/
namespace Go.Ab

mutual
def AVal.beq : AVal → AVal → Bool
  | .bool a, .bool b => a == b
  | .int k n, .int k' n' => decide (k = k') && decide (n = n')
  | .str s, .str t => decide (s = t)
  | .nilp, .nilp => true
  | .nils, .nils => true
  | .nilf, .nilf => true
  | .ptr a b c, .ptr a' b' c' => decide (a = a') && (decide (b = b') && decide (c = c'))
  | .vptr cs, .vptr ds => AVal.beqL cs ds
  | .vs a cs, .vs b ds => decide (a = b) && AVal.beqL cs ds
  | .sl a b c d e, .sl a' b' c' d' e' => decide (a = a') && (decide (b = b') && (decide (c = c') && (decide (d = d') && decide (e = e'))))
  | .agg cs, .agg ds => AVal.beqL cs ds
  | .tup cs, .tup ds => AVal.beqL cs ds
  | _, _ => false
def AVal.beqL : List AVal → List AVal → Bool
  | [], [] => true
  | a :: r, b :: s => AVal.beq a b && AVal.beqL r s
  | _, _ => false
end

mutual
theorem beq_eq : ∀ (a b : AVal), AVal.beq a b = true → a = b
  | .bool a, b, h => by cases b <;> simp [AVal.beq] at h; rw [h]
  | .int k n, b, h => by cases b <;> simp [AVal.beq] at h; rw [h.1, h.2]
  | .str s, b, h => by cases b <;> simp [AVal.beq] at h; rw [h]
  | .nilp, b, h => by cases b <;> simp [AVal.beq] at h; rfl
  | .nils, b, h => by cases b <;> simp [AVal.beq] at h; rfl
  | .nilf, b, h => by cases b <;> simp [AVal.beq] at h; rfl
  | .ptr _ _ _, b, h => by cases b <;> simp [AVal.beq] at h; rw [h.1, h.2.1, h.2.2]
  | .vptr cs, b, h => by cases b <;> simp [AVal.beq] at h; rw [beqL_eq cs _ h]
  | .vs a cs, b, h => by cases b <;> simp [AVal.beq] at h; rw [h.1, beqL_eq cs _ h.2]
  | .sl _ _ _ _ _, b, h => by cases b <;> simp [AVal.beq] at h; rw [h.1, h.2.1, h.2.2.1, h.2.2.2.1, h.2.2.2.2]
  | .agg cs, b, h => by cases b <;> simp [AVal.beq] at h; rw [beqL_eq cs _ h]
  | .tup cs, b, h => by cases b <;> simp [AVal.beq] at h; rw [beqL_eq cs _ h]
  | .fn _ _ _, b, h => by cases b <;> simp [AVal.beq] at h
  | .yf _, b, h => by cases b <;> simp [AVal.beq] at h
  | .any, b, h => by cases b <;> simp [AVal.beq] at h
theorem beqL_eq : ∀ (a b : List AVal), AVal.beqL a b = true → a = b
  | [], b, h => by cases b <;> simp [AVal.beqL] at h; rfl
  | x :: r, b, h => by
    cases b with
    | nil => simp [AVal.beqL] at h
    | cons y s =>
      simp only [AVal.beqL, Bool.and_eq_true] at h
      rw [beq_eq x y h.1, beqL_eq r s h.2]
end

def Ent.beq : Ent → Ent → Bool
  | .dead, .dead => true
  | .live g cs, .live g' ds => decide (g = g') && AVal.beqL cs ds
  | .bld a b c l, .bld a' b' c' l' => decide (a = a') && (decide (b = b') && (decide (c = c') && decide (l = l')))
  | .brow a, .brow b => decide (a = b)
  | _, _ => false

theorem ent_beq_eq {a b : Ent} (h : a.beq b = true) : a = b := by
  cases a <;> cases b <;> simp [Ent.beq] at h
  · rfl
  · rw [h.1, beqL_eq _ _ h.2]
  · rw [h.1, h.2.1, h.2.2.1, h.2.2.2]
  · rw [h]

def heapBeq : AHeap → AHeap → Bool
  | [], [] => true
  | a :: r, b :: s => Ent.beq a b && heapBeq r s
  | _, _ => false

theorem heapBeq_eq : ∀ (a b : AHeap), heapBeq a b = true → a = b
  | [], b, h => by cases b <;> simp [heapBeq] at h; rfl
  | x :: r, b, h => by
    cases b with
    | nil => simp [heapBeq] at h
    | cons y s =>
      simp only [heapBeq, Bool.and_eq_true] at h
      rw [ent_beq_eq h.1, heapBeq_eq r s h.2]

/-- A call whose result is known. -/
structure Known where
  f : FuncId
  args : List AVal
  heap : AHeap
  val : AVal
  heap' : AHeap

def Known.Ok (P : Program) (k : Known) : Prop := ACalls P k.f k.args k.heap fun u H => u = k.val ∧ H = k.heap'

def knownFind (F : FuncId) (args : List AVal) (H : AHeap) : List Known → Option (AVal × AHeap)
  | [] => none
  | k :: r => if F = k.f then (if AVal.beqL args k.args && heapBeq H k.heap then some (k.val, k.heap') else knownFind F args H r) else knownFind F args H r

def hasF (F : FuncId) : List Known → Bool
  | [] => false
  | k :: r => decide (F = k.f) || hasF F r

/-- Sums, and what is known beside them. -/
def withKnown (T : List Known) (S : Sums) : Sums := fun F => if hasF F T then some (fun args H => knownFind F args H T) else S F

theorem knownFind_ok {P : Program} {F : FuncId} {args : List AVal} {H : AHeap} {v : AVal} {H' : AHeap} : ∀ {T : List Known}, (∀ k ∈ T, k.Ok P) → knownFind F args H T = some (v, H') → ACalls P F args H fun u H'' => u = v ∧ H'' = H'
  | [], _, h => by cases h
  | k :: r, hT, h => by
    simp only [knownFind] at h
    split at h
    · rename_i hF
      split at h
      · rename_i hb
        simp only [Bool.and_eq_true] at hb
        simp only [Option.some.injEq, Prod.mk.injEq] at h
        obtain ⟨rfl, rfl⟩ := h
        have := hT k (by simp)
        unfold Known.Ok at this
        rw [beqL_eq _ _ hb.1, heapBeq_eq _ _ hb.2, hF]
        exact this
      · exact knownFind_ok (fun x hx => hT x (by simp [hx])) h
    · exact knownFind_ok (fun x hx => hT x (by simp [hx])) h

theorem withKnown_ok {P : Program} {T : List Known} {S : Sums} (hT : ∀ k ∈ T, k.Ok P) (hS : SumsOk P S) : SumsOk P (withKnown T S) := by
  intro F f args H v H' hF hf
  unfold withKnown at hF
  split at hF
  · injection hF with hF
    subst hF
    exact knownFind_ok hT hf
  · exact hS F f args H v H' hF hf

theorem known_of {P : Program} {S : Sums} (hS : SumsOk P S) (n : Nat) (k : Known) (h : callE P S n k.f k.args k.heap = some (k.val, k.heap')) : k.Ok P := callE_sound hS n _ _ _ _ _ h

end Go.Ab

/- The abstract layer, 44: calls whose results are known, wherever their blocks lie. -/
namespace Go.Ab

/-- A known call, among other blocks: it sees those that its arguments reach. -/
def sFr (T : List Known) (F : FuncId) (args : List AVal) (H : AHeap) : Option (AVal × AHeap) :=
  let bs := reachL H 100000 (AVal.idsL args []) []
  if bs.Nodup ∧ (bs.all fun b => decide (b < H.length)) = true ∧ (bs.all fun b => (H.getD b .dead).idsAll fun id => decide (id ∈ bs)) = true ∧ AVal.idsAllL (fun id => decide (id ∈ bs)) args = true then
    match knownFind F (AVal.renL (bs.idxOf ·) args) (subH H bs) T with
    | some (v, Hc) => some (v.ren (backId H bs), mergeH H bs Hc)
    | none => none
  else none

/-- Sums, and known calls beside them. -/
def memo (T : List Known) (S : Sums) : Sums := fun F => if hasF F T then some (fun args H => sFr T F args H) else S F

theorem memo_ok {P : Program} {T : List Known} {S : Sums} (hT : ∀ k ∈ T, k.Ok P) (hS : SumsOk P S) : SumsOk P (memo T S) := by
  intro F f args H v H' hF hf
  unfold memo at hF
  split at hF
  · injection hF with hF
    subst hF
    simp only [sFr] at hf
    split at hf
    · rename_i hq
      obtain ⟨h1, h2, h3, h4⟩ := hq
      split at hf
      · rename_i u Hc hk
        simp only [Option.some.injEq, Prod.mk.injEq] at hf
        obtain ⟨rfl, rfl⟩ := hf
        refine ACalls.sub (reachL H 100000 (AVal.idsL args []) []) h1 (fun b hb => by simpa using List.all_eq_true.1 h2 b hb) (fun b hb => List.all_eq_true.1 h3 b hb) h4 (knownFind_ok hT hk) ?_
        rintro _ _ ⟨rfl, rfl⟩
        exact ⟨rfl, rfl⟩
      · cases hf
    · cases hf
  · exact hS F f args H v H' hF hf

theorem memo_cons {P : Program} {k : Known} {T : List Known} (h : k.Ok P) (hT : ∀ x ∈ T, x.Ok P) : ∀ x ∈ k :: T, x.Ok P := by
  intro x hx
  rcases List.mem_cons.1 hx with rfl | hx
  · exact h
  · exact hT x hx

end Go.Ab

/- The abstract layer, 45: from a call over the layer to the call itself, at arguments that came in. -/
namespace Go.Ab
open Go.ChangeShapes Go.WideShapes Go.ChangeAt Go.RowKit

/-- Nothing of the call's own as it begins. -/
def gh0 : Gh := ⟨fun _ => none, fun _ => 0, fun _ => 0⟩

def cx0 (w : World) : Cx := cx (fun _ => False) gh0 [] w

theorem sim0 (w : World) : Sim (fun _ => False) gh0 [] w where
  out B h := h.elim
  live id g cs h := by simp at h
  lp id L h := by simp at h
  inj id id' e e' B h := by simp at h
  bld id e h := by simp at h

theorem not_owned0 {w : World} {B : Nat} : ¬ (cx0 w).O B := by
  rintro (h | ⟨id, e, h, _⟩)
  · exact h
  · simp at h

theorem ACalls.below {P : Program} {F : FuncId} {args : List AVal} {Q : AVal → AHeap → Prop} (h : ACalls P F args [] Q) {w : World} {cargs : Array Value} (hn : cargs.size = args.length)
    (ha : ∀ (j : Nat) (v : AVal) (c : Value), args[j]? = some v → cargs[j]? = some c → VRel (cx0 w) v c) :
    Calls P F cargs w fun e w' => ∃ c v x H', e = .returned c ∧ Q v H' ∧ VRel x v c ∧ Below w.heap.size w w' := by
  refine (h (fun _ => False) gh0 w cargs (sim0 w) hn ha).mono ?_
  rintro e w' ⟨c, v, h', H', rfl, q, _, r, x⟩
  refine ⟨c, v, _, H', rfl, q, r, x.os, x.tape, x.output, x.size, fun k hk => x.keep k hk ?_⟩
  rintro ⟨id, e, he, _⟩
  simp at he

/-- Integers that came in. -/
theorem vrel_ints {w : World} {k : IntKind} {a : Addr} {len cap : Nat} {zs : List Int} (hl : len ≤ cap) (hz : zs.length = cap) (hc : ∀ i, i < zs.length → w.cell? (a.add i) = some (.int k (zs.getD i 0))) (hlt : a.block < w.heap.size ∨ len = 0) :
    VRel (cx0 w) (.vs 1 ((zs.take len).map fun n => .int k n)) (.slice (some a) len cap) := by
  have hlen : ((zs.take len).map fun n => AVal.int k n).length = len := by simp; omega
  have row : ∀ (j : Nat) (e : AVal), ((zs.take len).map fun n => AVal.int k n)[j]? = some e → j < len ∧ e = .int k (zs.getD j 0) := by
    intro j e h
    rw [List.getElem?_map] at h
    cases hj : (zs.take len)[j]? with
    | none => rw [hj] at h; cases h
    | some n =>
      rw [hj] at h
      simp only [Option.map_some, Option.some.injEq] at h
      subst h
      have hjl : j < (zs.take len).length := by
        rcases Nat.lt_or_ge j (zs.take len).length with h | h
        · exact h
        · rw [List.getElem?_eq_none h] at hj; cases hj
      simp only [List.length_take] at hjl
      rw [List.getElem?_take_of_lt (by omega)] at hj
      exact ⟨by omega, by rw [List.getD_eq_getElem?_getD, hj]; rfl⟩
  have key := VRel.vs (x := cx0 w) (sz := 1) (rows := (zs.take len).map fun n => .int k n) (a := some a) (cap := cap) (fun j _ => .int k (zs.getD j 0)) (by rw [hlen]; exact hl) (by omega)
    (fun j e h => by rw [(row j e h).2]; rfl)
    (fun hne => by
      have h0 : 0 < len := by
        rcases Nat.eq_zero_or_pos len with h | h
        · subst h; simp at hne
        · exact h
      have hsp : a.spot = none := by
        have := hc 0 (by omega)
        unfold World.cell? at this
        split at this
        · split at this
          · cases this
          · rename_i hs
            simp only [Addr.add, if_true] at hs
            simpa using hs
        · cases this
      obtain ⟨B, off, sp⟩ := a
      simp only at hsp
      subst hsp
      refine ⟨B, off, rfl, not_owned0, ?_, fun j e i v hj hi => ?_⟩
      · rcases hlt with h | h
        · exact h
        · omega
      · obtain ⟨h1, h2⟩ := row j e hj
        subst h2
        have hi0 : i = 0 := by
          simp only [AVal.cells] at hi
          cases i with
          | zero => rfl
          | succ i => simp at hi
        subst hi0
        refine ⟨?_, rfl⟩
        have := hc j (by omega)
        simp only [Nat.mul_one, Nat.add_zero]
        show w.cell? _ = _
        rw [← this]
        unfold Addr.add
        split
        · rename_i h3; subst h3; rfl
        · rfl)
    (fun j e i v hj hi => by
      obtain ⟨h1, h2⟩ := row j e hj
      subst h2
      have hi0 : v = .int k (zs.getD j 0) := by
        simp only [AVal.cells] at hi
        cases i with
        | zero => simpa using hi.symm
        | succ i => simp at hi
      subst hi0
      exact .int _ _)
  rw [hlen] at key
  exact key

theorem vrel_nil {w : World} : VRel (cx0 w) (.vs 1 []) (.slice none 0 0) :=
  VRel.vs (x := cx0 w) (sz := 1) (rows := []) (a := none) (cap := 0) (fun _ _ => .nilFunc) (by simp) (by omega) (fun j e h => by simp at h) (fun h => absurd rfl h) (fun j e i v h => by simp at h)

end Go.Ab
