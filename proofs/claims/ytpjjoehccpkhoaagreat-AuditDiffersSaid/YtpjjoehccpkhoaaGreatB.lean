/- Two lists of cells: where they differ, and that the law's function says so. -/
import Derived.Test.YtpjjoehccpkhoaaGreatA
namespace Go.Proofs.YtpjjoehccpkhoaaGreat
open Go Go.Ab

abbrev A16 := Arr 16 api_Cell
def zeroA16 : A16 := Arr.all (api_Cell.mk false [])

theorem eqC_cell (x y : api_Cell) : eqC e_api_Cell x y = (x.Set == y.Set && (x.Data == y.Data && true)) := rfl
theorem eqC_lock (x y : api_Lock) : eqC e_api_Lock x y = (x.Page == y.Page && (x.Slot == y.Slot && true)) := rfl
theorem cell_refl (x : api_Cell) : eqC e_api_Cell x x = true := by rw [eqC_cell]; simp
theorem lock_refl (x : api_Lock) : eqC e_api_Lock x x = true := by rw [eqC_lock]; simp
theorem diff_refl (x : api_Difference) : eqC e_api_Difference x x = true := by
  show (x.Lock.Page == x.Lock.Page && (x.Lock.Slot == x.Lock.Slot && (x.Want.Set == x.Want.Set && (x.Want.Data == x.Want.Data && (x.Have.Set == x.Have.Set && (x.Have.Data == x.Have.Data && true)))))) = true
  simp
theorem cell_comm (x y : api_Cell) : eqC e_api_Cell x y = eqC e_api_Cell y x := by
  rw [eqC_cell, eqC_cell, BEq.comm (a := x.Set), BEq.comm (a := x.Data)]

def ar (l : List A16) (i : Nat) : A16 := (l[i]?).getD zeroA16
def dAt (i : Nat) (x y : A16) (j : Nat) : List api_Difference := if h : j < 16 then (if eqC e_api_Cell (x ⟨j, h⟩) (y ⟨j, h⟩) then [] else [⟨⟨i, j⟩, x ⟨j, h⟩, y ⟨j, h⟩⟩]) else []
def dRow (i : Nat) (x y : A16) : List api_Difference := (List.range 16).flatMap (dAt i x y)
def dAll (a b : List A16) (n : Nat) : List api_Difference := (List.range n).flatMap fun i => dRow i (ar a i) (ar b i)

theorem dAt_len (i : Nat) (x y : A16) (j : Nat) : (dAt i x y j).length ≤ 1 := by
  unfold dAt
  split
  · split <;> simp
  · simp
theorem flat_le {α β : Type} (f : α → List β) (k : Nat) (h : ∀ x, (f x).length ≤ k) (l : List α) : (l.flatMap f).length ≤ l.length * k := by
  induction l with
  | nil => simp
  | cons x l ih =>
    rw [List.flatMap_cons, List.length_append, List.length_cons, Nat.add_mul]
    have := h x
    omega
theorem dRow_len (i : Nat) (x y : A16) : (dRow i x y).length ≤ 16 := by
  have := flat_le (dAt i x y) 1 (dAt_len i x y) (List.range 16)
  simpa [dRow] using this
theorem dAll_len (a b : List A16) (n : Nat) : (dAll a b n).length ≤ n * 16 := by
  have := flat_le (fun i => dRow i (ar a i) (ar b i)) 16 (fun i => dRow_len _ _ _) (List.range n)
  simpa [dAll] using this

theorem fold_app {α β : Type} (f : α → List β) : ∀ (l : List α) (o : List β), l.foldl (fun o j => o ++ f j) o = o ++ l.flatMap f
  | [], o => by simp
  | x :: l, o => by rw [List.foldl_cons, fold_app f l, List.flatMap_cons, List.append_assoc]
theorem fold_cnt {α β : Type} (f : α → List β) : ∀ (l : List α) (v : Int), l.foldl (fun v j => v + ((f j).length : Int)) v = v + ((l.flatMap f).length : Int)
  | [], v => by simp
  | x :: l, v => by rw [List.foldl_cons, fold_cnt f l, List.flatMap_cons, List.length_append]; omega

theorem diff1_ok (l : List A16) (i : Nat) : g_audit_Differences_1 l (i : Int) = some (ar l i) := by
  unfold g_audit_Differences_1 ar
  by_cases h : (i : Int) < l.length
  · have hn : i < l.length := by omega
    simp only [h, decide_true, cond_true, ix_some (List.getElem?_eq_getElem hn), Option.bind_some, List.getElem?_eq_getElem hn, Option.getD_some]
  · have hn : l.length ≤ i := by omega
    simp only [h, decide_false, cond_false, List.getElem?_eq_none hn, Option.getD_none]
    rfl

theorem diff_ok (a b : List A16) (n : Nat) (hn : max a.length b.length = n) (hs : n ≤ 1000) : g_audit_Differences a b = some (dAll a b n) := by
  unfold g_audit_Differences
  have hm : (if (b.length : Int) > (a.length : Int) then (b.length : Int) else (a.length : Int)) = (n : Int) := by split <;> omega
  have main := forLoop (body := g_audit_Differences_l1_body a b) n (fun i o => o ++ dRow i (ar a i) (ar b i)) (fun i o => o.length ≤ i * 16) (by
    intro i o hi hI
    refine ⟨?_, ?_⟩
    · unfold g_audit_Differences_l1_body
      simp only [hm]
      have h1 : decide ((i : Int) < (n : Int)) = true := by simpa using hi
      rw [h1]
      simp only [cond_true, diff1_ok, Option.bind_some]
      have inner := forLoop (body := g_audit_Differences_l2_body a b (i : Int) (ar a i) (ar b i)) 16 (fun j o => o ++ dAt i (ar a i) (ar b i) j) (fun j o => o.length ≤ i * 16 + j) (by
        intro j o hj hI
        refine ⟨?_, ?_⟩
        · unfold g_audit_Differences_l2_body
          have h2 : decide ((j : Int) < 16) = true := by simp; omega
          simp only [h2, cond_true, aget_lt _ hj, Option.bind_some]
          have h3 : g_audit_Differences_c3_body a b (i : Int) (ar a i) (ar b i) o (j : Int) (ar a i ⟨j, hj⟩) (ar b i ⟨j, hj⟩) = some (o ++ dAt i (ar a i) (ar b i) j) := by
            unfold g_audit_Differences_c3_body dAt
            rw [dif_pos hj]
            cases hq : eqC e_api_Cell (ar a i ⟨j, hj⟩) (ar b i ⟨j, hj⟩) with
            | true => simp
            | false =>
              simp only [Bool.not_false, cond_true, aget_lt _ hj, Option.bind_some]
              rw [app_le (by simp; omega)]
              simp
          rw [h3, Option.bind_some, w64 (by omega)]
          rfl
        · have := dAt_len i (ar a i) (ar b i) j
          simp only [List.length_append]
          omega) (by
        intro o _
        unfold g_audit_Differences_l2_body
        simp) (a := o) (by omega)
      rw [inner.1, Option.bind_some, w64 (by omega), fold_app]
      rfl
    · have := dRow_len i (ar a i) (ar b i)
      simp only [List.length_append]
      omega) (by
    intro o _
    unfold g_audit_Differences_l1_body
    have : decide ((n : Int) < (n : Int)) = false := by simp
    simp only [hm, this, cond_false]) (a := []) (by simp)
  rw [main.1, Option.bind_some, fold_app]
  rfl

theorem count_ok (o : List A16 × List A16 × pagemenddraw_Codes) (q : pagemenddraw_Codes × List A16) (n : Nat) (h1 : o.1.length = n) (h2 : q.2.length = n) (hs : n ≤ 1000) :
    loopO (g_pagemendlaw43_AuditDiffers_l4_body o q) (0, 0) = some ((dAll o.1 q.2 n).length : Int) := by
  have main := forLoop (body := g_pagemendlaw43_AuditDiffers_l4_body o q) n (fun i v => v + ((dRow i (ar o.1 i) (ar q.2 i)).length : Int)) (fun i v => 0 ≤ v ∧ v ≤ i * 16) (by
    rintro i v hi ⟨hI0, hI⟩
    refine ⟨?_, ?_⟩
    · unfold g_pagemendlaw43_AuditDiffers_l4_body
      have h3 : decide ((i : Int) < (o.1.length : Int)) = true := by simp; omega
      simp only [h3, cond_true]
      have g1 : o.1[i]? = some (ar o.1 i) := by unfold ar; rw [List.getElem?_eq_getElem (by omega)]; rfl
      have g2 : q.2[i]? = some (ar q.2 i) := by unfold ar; rw [List.getElem?_eq_getElem (by omega)]; rfl
      have inner := forLoop (body := g_pagemendlaw43_AuditDiffers_l5_body o q (i : Int)) 16 (fun j v => v + ((dAt i (ar o.1 i) (ar q.2 i) j).length : Int)) (fun j v => 0 ≤ v ∧ v ≤ i * 16 + j) (by
        rintro j v hj ⟨hI0, hI⟩
        have hd := dAt_len i (ar o.1 i) (ar q.2 i) j
        refine ⟨?_, by omega, by omega⟩
        unfold g_pagemendlaw43_AuditDiffers_l5_body
        have h4 : decide ((j : Int) < 16) = true := by simp; omega
        simp only [h4, cond_true, ix_some g1, ix_some g2, aget_lt _ hj, Option.bind_some]
        have h5 : g_pagemendlaw43_AuditDiffers_c6_body o q (i : Int) v (j : Int) (ar o.1 i ⟨j, hj⟩) (ar q.2 i ⟨j, hj⟩) = some (v + ((dAt i (ar o.1 i) (ar q.2 i) j).length : Int)) := by
          unfold g_pagemendlaw43_AuditDiffers_c6_body dAt
          rw [dif_pos hj]
          cases hq : eqC e_api_Cell (ar o.1 i ⟨j, hj⟩) (ar q.2 i ⟨j, hj⟩) with
          | true => simp
          | false =>
            simp only [Bool.not_false, cond_true]
            rw [w64 (by omega)]
            rfl
        rw [h5, Option.bind_some, w64 (by omega)]
        rfl) (by
        intro v _
        unfold g_pagemendlaw43_AuditDiffers_l5_body
        simp) (a := v) (by omega)
      rw [inner.1, Option.bind_some, w64 (by omega), fold_cnt]
      rfl
    · have := dRow_len i (ar o.1 i) (ar q.2 i)
      omega) (by
    intro v _
    unfold g_pagemendlaw43_AuditDiffers_l4_body
    simp [h1]) (a := 0) (by omega)
  rw [main.1, fold_cnt]
  simp [dAll]

def swap (d : api_Difference) : api_Difference := ⟨d.Lock, d.Have, d.Want⟩
theorem map_flat {α β γ : Type} (g : β → γ) (f : α → List β) (l : List α) : (l.flatMap f).map g = l.flatMap fun x => (f x).map g := by
  induction l with
  | nil => rfl
  | cons x l ih => rw [List.flatMap_cons, List.map_append, ih, List.flatMap_cons]
theorem dAll_swap (a b : List A16) (n : Nat) : dAll b a n = (dAll a b n).map swap := by
  unfold dAll
  rw [map_flat]
  congr 1
  funext i
  unfold dRow
  rw [map_flat]
  congr 1
  funext j
  unfold dAt
  split
  · rw [cell_comm]
    split <;> rfl
  · rfl
theorem dRow_zero (i : Nat) : dRow i zeroA16 zeroA16 = [] := by
  unfold dRow
  rw [List.flatMap_eq_nil_iff]
  intro j _
  unfold dAt
  split
  · rw [cell_refl]; rfl
  · rfl
theorem dAll_more (a b : List A16) (n : Nat) (ha : a.length = n) (hb : b.length = n) : dAll a (b ++ [zeroA16]) (n + 1) = dAll a b n := by
  unfold dAll
  rw [List.range_succ, List.flatMap_append]
  have e1 : ar a n = zeroA16 := by unfold ar; rw [List.getElem?_eq_none (by omega)]; rfl
  have e2 : ar (b ++ [zeroA16]) n = zeroA16 := by unfold ar; rw [List.getElem?_append_right (by omega)]; simp [hb]
  have e3 : ([n].flatMap fun i => dRow i (ar a i) (ar (b ++ [zeroA16]) i)) = [] := by
    rw [List.flatMap_cons, e1, e2, dRow_zero]; rfl
  rw [e3, List.append_nil, List.flatMap_def, List.flatMap_def]
  congr 1
  refine List.map_congr_left fun i hi => ?_
  have hin : i < n := List.mem_range.1 hi
  have : ar (b ++ [zeroA16]) i = ar b i := by unfold ar; rw [List.getElem?_append_left (by omega)]
  rw [this]

theorem last_ok (q : pagemenddraw_Codes × List A16) (d : List api_Difference) (hd : d.length ≤ 100000) : loopO (g_pagemendlaw43_AuditDiffers_l7_body q d (d.map swap) d) 0 = some (.inr ()) := by
  obtain ⟨r, h, rfl⟩ := loopTotal (body := g_pagemendlaw43_AuditDiffers_l7_body q d (d.map swap) d) (fun i => 0 ≤ i ∧ i ≤ d.length) (fun r => r = .inr ()) (fun i => ((d.length : Int) - i).toNat) (by
    rintro i ⟨i0, i1⟩
    unfold g_pagemendlaw43_AuditDiffers_l7_body
    by_cases hi : i < (d.length : Int)
    · right
      obtain ⟨x, h1, h2⟩ := ix_lt i0 hi
      obtain ⟨k, rfl⟩ := Int.eq_ofNat_of_zero_le i0
      simp only [Int.toNat_natCast] at h2
      have h3 : ix (d.map swap) (k : Int) = some (swap x) := ix_some (by rw [List.getElem?_map, h2]; rfl)
      simp only [hi, decide_true, cond_true, h1, h3, Option.bind_some]
      have e1 : eqC e_api_Lock x.Lock (swap x).Lock = true := lock_refl _
      have e2 : eqC e_api_Cell x.Want (swap x).Have = true := cell_refl _
      have e3 : eqC e_api_Cell x.Have (swap x).Want = true := cell_refl _
      simp only [e1, e2, e3, diff_refl, Bool.not_true, cond_false]
      refine ⟨_, rfl, ?_, ?_⟩ <;> rw [w64 (by omega)] <;> omega
    · left
      exact ⟨.inr (), by simp [hi], rfl⟩) (s := (0 : Int)) ⟨by omega, by omega⟩
  exact h

theorem law_ok (l : List Int) (hb : ∀ x ∈ l, 0 ≤ x ∧ x < 256) : g_pagemendlaw43_AuditDiffers l = some true := by
  unfold g_pagemendlaw43_AuditDiffers g_pagemendlaw43_awake
  simp only [Option.bind_some, Bool.not_true, cond_false]
  have h1 : ∃ l', g_pagemendlaw43_AuditDiffers_c1_body l = some l' ∧ l'.length ≤ 300 ∧ ∀ x ∈ l', 0 ≤ x ∧ x < 256 := by
    unfold g_pagemendlaw43_AuditDiffers_c1_body
    by_cases hl : (l.length : Int) > 300
    · have : lsl l 0 300 = some ((l.drop (0 : Int).toNat).take ((300 : Int).toNat - (0 : Int).toNat)) := if_pos (by omega)
      refine ⟨_, by simp only [hl, decide_true, cond_true, this, Option.bind_some]; exact rfl, by simp; omega, fun x hx => hb x ?_⟩
      have := List.mem_of_mem_take hx
      simpa using this
    · exact ⟨l, by simp [hl], by omega, hb⟩
  obtain ⟨l', e1, hlen, hb'⟩ := h1
  rw [e1, Option.bind_some]
  have c0 : CI (pagemenddraw_Codes.mk l' 0) := ⟨Int.le_refl 0, hlen, hb'⟩
  obtain ⟨k, c1, e2, h2, k0, k1⟩ := next_ok c0 (n := 4) (by omega)
  rw [e2, Option.bind_some]
  obtain ⟨o, e3, h3, h4, h5⟩ := loopTotal (body := g_pagemendlaw43_AuditDiffers_l2_body) (fun s => CI s.2.2.2 ∧ 0 ≤ s.2.2.1 ∧ s.2.1 = s.1 ∧ (s.1.length : Int) + s.2.2.1 ≤ 3) (fun r => CI r.2.2 ∧ r.2.1 = r.1 ∧ r.1.length ≤ 3) (fun s => s.2.2.1.toNat) (by
    rintro ⟨a, b, k, c⟩ ⟨hc, k0, hab, hl⟩
    simp only at hc k0 hab hl
    subst hab
    unfold g_pagemendlaw43_AuditDiffers_l2_body
    by_cases hk : k > 0
    · right
      obtain ⟨p, c', e, hc'⟩ := page_ok hc 0
      simp only [hk, decide_true, cond_true, e, Option.bind_some]
      rw [app_le (by simp; omega), Option.bind_some]
      refine ⟨_, rfl, ⟨hc', ?_, rfl, ?_⟩, ?_⟩ <;> simp only [w64 (show -9223372036854775808 ≤ k - 1 ∧ k - 1 ≤ 9223372036854775807 by omega), List.length_append, List.length_singleton] <;> omega
    · left
      exact ⟨(b, b, c), by simp [hk], hc, rfl, by show b.length ≤ 3; omega⟩) (s := ([], [], k, c1)) ⟨h2, k0, rfl, by simp; omega⟩
  obtain ⟨a, b, c2⟩ := o
  simp only at h3 h4 h5
  subst h4
  rw [e3, Option.bind_some]
  obtain ⟨m, c3, e4, h6, m0, m1⟩ := next_ok h3 (n := 3) (by omega)
  simp only [e4, Option.bind_some]
  obtain ⟨q, e5, h7⟩ := loopTotal (body := g_pagemendlaw43_AuditDiffers_l3_body (b, b, c2)) (fun s => CI s.2.1 ∧ 0 ≤ s.1 ∧ s.1 ≤ 3 ∧ s.2.2.length = b.length) (fun r => r.2.length = b.length) (fun s => s.1.toNat) (by
    rintro ⟨k, c, d⟩ ⟨hc, k0, k1, hl⟩
    simp only at hc k0 k1 hl
    unfold g_pagemendlaw43_AuditDiffers_l3_body
    by_cases hk : k > 0
    · by_cases hd : (d.length : Int) > 0
      · right
        obtain ⟨u, c4, f1, f2, u0, u1⟩ := next_ok hc (n := (d.length : Int)) (by omega)
        obtain ⟨w, c5, f3, f4, w0, w1⟩ := next_ok f2 (n := 16) (by omega)
        obtain ⟨x, c6, f5, f6⟩ := cell_ok f4
        obtain ⟨y, f7, _⟩ := ix_lt (l := d) (i := u) u0 (by omega)
        obtain ⟨z, f8⟩ := aget_in y (i := w) w0 (by omega)
        simp only [hk, hd, decide_true, cond_true, f1, f3, f5, f7, f8, Option.bind_some]
        refine ⟨_, rfl, ⟨f6, ?_, ?_, ?_⟩, ?_⟩ <;> simp only [w64 (show -9223372036854775808 ≤ k - 1 ∧ k - 1 ≤ 9223372036854775807 by omega), lput, List.length_set] <;> omega
      · left
        refine ⟨(c, d), ?_, hl⟩
        have hd' : decide ((d.length : Int) > 0) = false := decide_eq_false hd
        simp only [hk, hd', decide_true, cond_true, cond_false]
    · left
      exact ⟨(c, d), by simp [hk], hl⟩) (s := (m, c3, b)) ⟨h6, m0, by omega, rfl⟩
  obtain ⟨c4, d⟩ := q
  simp only at h7
  rw [e5, Option.bind_some]
  rw [count_ok (b, b, c2) (c4, d) b.length rfl h7 (by omega), Option.bind_some]
  rw [app_le (by simp; omega), Option.bind_some, app_le (by simp; omega), Option.bind_some]
  simp only [List.nil_append]
  rw [diff_ok b d b.length (by omega) (by omega), Option.bind_some]
  rw [diff_ok d b b.length (by omega) (by omega), Option.bind_some]
  have e6 := diff_ok b (d ++ [zeroA16]) (b.length + 1) (by simp; omega) (by omega)
  rw [dAll_more b d b.length rfl h7] at e6
  have e7 : ([Arr.all (api_Cell.mk false [])] : List A16) = [zeroA16] := rfl
  rw [e7, e6, Option.bind_some, dAll_swap b d]
  have hlen := dAll_len b d b.length
  simp only [List.length_map]
  have n1 : (((dAll b d b.length).length : Int) != ((dAll b d b.length).length : Int)) = false := by simp
  rw [n1]
  simp only [cond_false]
  rw [last_ok (c4, d) _ (by omega)]
  rfl
end Go.Proofs.YtpjjoehccpkhoaaGreat
