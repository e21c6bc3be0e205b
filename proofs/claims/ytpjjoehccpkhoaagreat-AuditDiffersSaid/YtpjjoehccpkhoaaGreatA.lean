/- What the choices yield: they end, and are in their bounds. -/
import Derived.Test.YtpjjoehccpkhoaaGreatGD
import Derived.Test.YtpjjoehccpkhoaaGreatK3
namespace Go.Proofs.YtpjjoehccpkhoaaGreat
open Go Go.Ab

/-- Choices that are left. -/
structure CI (c : pagemenddraw_Codes) : Prop where
  at0 : 0 ≤ c.at_
  len : c.l.length ≤ 300
  byte : ∀ x ∈ c.l, 0 ≤ x ∧ x < 256

theorem next_ok {c : pagemenddraw_Codes} (h : CI c) {n : Int} (hn : n ≤ 1099511627776) : ∃ v c', g_pagemenddraw_Codes_Next c n = some (v, c') ∧ CI c' ∧ 0 ≤ v ∧ (v = 0 ∨ v < n) := by
  have base : ∀ {c : pagemenddraw_Codes}, CI c → c.at_ < c.l.length → ∃ x, ix c.l c.at_ = some x ∧ 0 ≤ x ∧ x < 256 ∧ CI (pagemenddraw_Codes.mk c.l (IntKind.wrap .i64 (c.at_ + 1))) := by
    intro c h hlt
    obtain ⟨x, h1, h2⟩ := ix_lt h.at0 hlt
    have hb := h.byte x (List.mem_of_getElem? h2)
    have hl := h.len
    have ha := h.at0
    refine ⟨x, h1, hb.1, hb.2, ?_, h.len, h.byte⟩
    show 0 ≤ IntKind.wrap .i64 (c.at_ + 1)
    rw [w64 (by omega)]
    omega
  unfold g_pagemenddraw_Codes_Next
  by_cases h1 : c.at_ ≥ (c.l.length : Int)
  · exact ⟨0, c, by simp [h1], h, by omega, .inl rfl⟩
  by_cases h2 : n < 1
  · exact ⟨0, c, by simp [h1, h2], h, by omega, .inl rfl⟩
  obtain ⟨x, hx, x0, x1, hc⟩ := base h (by omega)
  simp only [h1, h2, decide_false, cond_false, hx, Option.bind_some]
  have e1 : IntKind.wrap .i64 x = x := w64 (by omega)
  have e2 : (n == 0) = false := by simp; omega
  by_cases h3 : n > 256
  · simp only [h3, decide_true, cond_true, e2, cond_false]
    have inner : ∃ v c', g_pagemenddraw_Codes_Next_d1 (pagemenddraw_Codes.mk c.l (IntKind.wrap .i64 (c.at_ + 1))) 256 = some (v, c') ∧ CI c' ∧ 0 ≤ v ∧ v < 256 := by
      generalize pagemenddraw_Codes.mk c.l (IntKind.wrap .i64 (c.at_ + 1)) = d at hc
      unfold g_pagemenddraw_Codes_Next_d1
      by_cases k1 : d.at_ ≥ (d.l.length : Int)
      · exact ⟨0, d, by simp [k1], hc, by omega, by omega⟩
      obtain ⟨y, hy, y0, y1, hd⟩ := base hc (by omega)
      refine ⟨Int.tmod y 256, _, ?_, hd, Int.tmod_nonneg _ y0, Int.tmod_lt_of_pos _ (by omega)⟩
      simp [k1, hy, w64 (show -9223372036854775808 ≤ y ∧ y ≤ 9223372036854775807 by omega)]
    obtain ⟨v, c', hv, hc', v0, v1⟩ := inner
    rw [hv]
    refine ⟨_, _, rfl, hc', ?_, .inr ?_⟩
    · simp only [e1]
      rw [w64 (x := 256 * x) (by omega), w64 (by omega)]
      exact Int.tmod_nonneg _ (by omega)
    · exact Int.tmod_lt_of_pos _ (by omega)
  · simp only [h3, decide_false, cond_false, e2, e1]
    exact ⟨_, _, rfl, hc, Int.tmod_nonneg _ x0, .inr (Int.tmod_lt_of_pos _ (by omega))⟩

theorem data_ok {c : pagemenddraw_Codes} (h : CI c) : ∃ s c', g_pagemenddraw_Codes_Data c = some (s, c') ∧ CI c' := by
  unfold g_pagemenddraw_Codes_Data
  obtain ⟨v, c1, e1, h1, v0, v1⟩ := next_ok h (n := 5) (by omega)
  rw [e1, Option.bind_some]
  obtain ⟨w, c2, e2, h2, _, _⟩ := next_ok h1 (n := 6) (by omega)
  simp only [e2, Option.bind_some]
  have hb : ∃ n c3, g_pagemenddraw_Codes_Data_c1_body (v, c1) (w, c2) = some (n, c3) ∧ CI c3 ∧ 0 ≤ n ∧ n ≤ 13 := by
    unfold g_pagemenddraw_Codes_Data_c1_body
    by_cases hw : w = 0
    · obtain ⟨u, c3, e3, h3, u0, u1⟩ := next_ok h2 (n := 14) (by omega)
      exact ⟨u, c3, by simp [hw, e3], h3, u0, by omega⟩
    · refine ⟨v, c2, ?_, h2, v0, by omega⟩
      have : (w == 0) = false := by simpa using hw
      simp [this]
  obtain ⟨n, c3, e3, h3, n0, n1⟩ := hb
  simp only [e3, Option.bind_some]
  have e4 : mk (0 : Int) 0 n = some (List.replicate (0 : Int).toNat 0) := if_pos (by omega)
  rw [e4, Option.bind_some]
  obtain ⟨o, e5, h5⟩ := loopTotal (body := g_pagemenddraw_Codes_Data_l2_body (n, c3)) (fun s => CI s.2.2 ∧ 0 ≤ s.2.1 ∧ s.2.1 ≤ n ∧ (s.1.length : Int) = s.2.1) (fun r => CI r.2) (fun s => (n - s.2.1).toNat) (by
    rintro ⟨b, i, d⟩ ⟨hd, i0, i1, hl⟩
    simp only at hd i0 i1 hl
    unfold g_pagemenddraw_Codes_Data_l2_body
    by_cases hi : i < n
    · right
      obtain ⟨u, d', e6, h6, _, _⟩ := next_ok hd (n := 3) (by omega)
      simp only [hi, decide_true, cond_true, e6, Option.bind_some]
      rw [app_le (by simp; omega), Option.bind_some]
      refine ⟨_, rfl, ⟨h6, ?_, ?_, ?_⟩, ?_⟩ <;> simp only [w64 (show -9223372036854775808 ≤ i + 1 ∧ i + 1 ≤ 9223372036854775807 by omega), List.length_append, List.length_singleton] <;> omega
    · left
      exact ⟨(b, d), by simp [hi], hd⟩) (s := (List.replicate (0 : Int).toNat 0, 0, c3)) ⟨h3, by simp, by simpa using n0, by simp⟩
  rw [e5, Option.bind_some]
  exact ⟨_, _, rfl, h5⟩

theorem cell_ok {c : pagemenddraw_Codes} (h : CI c) : ∃ x c', g_pagemenddraw_Codes_Cell c = some (x, c') ∧ CI c' := by
  unfold g_pagemenddraw_Codes_Cell
  obtain ⟨v, c1, e1, h1, v0, v1⟩ := next_ok h (n := 3) (by omega)
  rw [e1, Option.bind_some]
  by_cases hv : v = 0
  · exact ⟨_, _, by simp [hv]; exact rfl, h1⟩
  have hv' : (v == 0) = false := by simpa using hv
  simp only [hv', cond_false]
  obtain ⟨s, c2, e2, h2⟩ := data_ok h1
  simp only [e2, Option.bind_some]
  have : ∃ r, ssl s 0 (if 12 < (s.length : Int) then 12 else (s.length : Int)) = some r := by
    unfold ssl
    rw [if_pos]
    · exact ⟨_, rfl⟩
    · split <;> omega
  obtain ⟨r, e3⟩ := this
  rw [e3, Option.bind_some]
  exact ⟨_, _, rfl, h2⟩

theorem page_ok {c : pagemenddraw_Codes} (h : CI c) (id : Int) : ∃ p c', g_pagemenddraw_Codes_Page c id = some (p, c') ∧ CI c' := by
  unfold g_pagemenddraw_Codes_Page
  obtain ⟨v, c1, e1, h1, _, _⟩ := next_ok h (n := 50) (by omega)
  rw [e1, Option.bind_some]
  obtain ⟨w, c2, e2, h2, _, _⟩ := next_ok h1 (n := 10) (by omega)
  simp only [e2, Option.bind_some]
  have hb : ∃ c3 p, g_pagemenddraw_Codes_Page_c1_body id (v, c1) (w, c2) = some (c3, p) ∧ CI c3 := by
    unfold g_pagemenddraw_Codes_Page_c1_body
    by_cases hw : w = 9
    · obtain ⟨u, c3, e3, h3, _, _⟩ := next_ok h2 (n := 2) (by omega)
      exact ⟨c3, _, by simp [hw, e3]; exact rfl, h3⟩
    · have : (w == 9) = false := by simpa using hw
      exact ⟨c2, _, by simp [this]; exact rfl, h2⟩
  obtain ⟨c3, p, e3, h3⟩ := hb
  simp only [e3, Option.bind_some]
  have hb2 : ∃ c4 q, g_pagemenddraw_Codes_Page_c2_body (c3, p) = some (c4, q) ∧ CI c4 := by
    unfold g_pagemenddraw_Codes_Page_c2_body
    by_cases hl : p.LSN > 0
    · obtain ⟨k, c4, e4, h4, k0, k1⟩ := next_ok h3 (n := 6) (by omega)
      simp only [hl, decide_true, cond_true, e4, Option.bind_some]
      obtain ⟨o, e5, h5⟩ := loopTotal (body := g_pagemenddraw_Codes_Page_l3_body) (fun s => CI s.2.1 ∧ 0 ≤ s.1 ∧ s.1 ≤ 6) (fun r => CI r.1) (fun s => s.1.toNat) (by
        rintro ⟨k, d, q⟩ ⟨hd, k0, k1⟩
        simp only at hd k0 k1
        unfold g_pagemenddraw_Codes_Page_l3_body
        by_cases hk : k > 0
        · right
          obtain ⟨u, d1, e6, h6, u0, u1⟩ := next_ok hd (n := 16) (by omega)
          obtain ⟨x, d2, e7, h7⟩ := cell_ok h6
          obtain ⟨y, e8⟩ := aget_in q.Cells (i := u) u0 (by omega)
          simp only [hk, decide_true, cond_true, e6, e7, e8, Option.bind_some]
          refine ⟨_, rfl, ⟨h7, ?_, ?_⟩, ?_⟩ <;> simp only [w64 (show -9223372036854775808 ≤ k - 1 ∧ k - 1 ≤ 9223372036854775807 by omega)] <;> omega
        · left
          exact ⟨(d, q), by simp [hk], hd⟩) (s := (k, c4, p)) ⟨h4, k0, by omega⟩
      rw [e5, Option.bind_some]
      exact ⟨_, _, rfl, h5⟩
    · exact ⟨c3, p, by simp [hl], h3⟩
  obtain ⟨c4, q, e4, h4⟩ := hb2
  simp only [e4, Option.bind_some]
  exact ⟨_, _, rfl, h4⟩
end Go.Proofs.YtpjjoehccpkhoaaGreat
