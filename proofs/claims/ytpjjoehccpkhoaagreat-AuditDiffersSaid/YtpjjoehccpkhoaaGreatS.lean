/- The contracts of the methods of strings.Builder at this program. -/
import Derived.Test.YtpjjoehccpkhoaaGreatProg
import Derived.Lib.Builder
import Derived.Lib.FrozenHead
import Derived.Lib.FrozenHead2
import Derived.Lib.AppendStr
import Derived.Lib.UnsafeStr
import Derived.Lib.Walk
import Derived.WalkKit
import Derived.Laws.Externs
import Derived.Shelf.RegionOpenPlain
import Derived.Lib.MakeNoZero
import Derived.Laws.IdiomCopy
import Derived.Test.YtpjjoehccpkhoaaGreatK3
namespace Go.Proofs.YtpjjoehccpkhoaaGreat
open Go.RowKit Go.Ab

theorem bx_size : ∃ j, Tryz.prog.info? 329 = some j ∧ j.size = 2 := by
  have h : (Tryz.prog.info? 329).map (·.size) = some 2 := by kernel_rfl
  exact Option.map_eq_some_iff.1 h
theorem bx_lies : liesAt Tryz.prog Tryz.prog.depth 329 (2 / Tryz.prog.cellsOf 329) 0 329 1 = true := by kernel_rfl

set_option maxHeartbeats 1000000 in
set_option maxRecDepth 100000 in
theorem bx_check_used (b : Nat) (w : World) (h0 : w.cell? ⟨b, 0, none⟩ = some (.pointer (some ⟨b, 0, none⟩))) :
    Calls Tryz.prog 230 #[.pointer (some ⟨b, 0, none⟩)] w fun e w' => e = .returned (.tuple #[]) ∧ w' = w := by
  obtain ⟨j, hj, _⟩ := bx_size
  go_enter Tryz.func230, Tryz.ntmps230
  go_wp2
  rw [Lib.run_neq_ptr_same w _ Tryz.underlying327 hj]
  go_wp2
  go_end0
  exact ⟨rfl, rfl⟩

set_option maxHeartbeats 1000000 in
set_option maxRecDepth 100000 in
theorem bx_check_fresh (b : Nat) (w : World) (h0 : w.cell? ⟨b, 0, none⟩ = some (.pointer none)) (hsh : w.shape? b = some (329, 2)) (hfz : w.frozen? ⟨b, 0, none⟩ = false) :
    Calls Tryz.prog 230 #[.pointer (some ⟨b, 0, none⟩)] w fun e w' => e = .returned (.tuple #[]) ∧ w' = w.setCell ⟨b, 0, none⟩ (.pointer (some ⟨b, 0, none⟩)) := by
  obtain ⟨j, hj, hjs⟩ := bx_size
  go_enter Tryz.func230, Tryz.ntmps230
  go_wp2
  rw [Lib.run_to_unsafe w ⟨b, 0, none⟩ Tryz.underlying327 Tryz.underlying393 hj (by rw [hjs]; decide) hsh (Nat.zero_lt_succ 1)]
  simp only [Result.andThen]
  rw [Oper.upon_value]
  go_wp2
  rw [run_callFunc_extern Tryz.func255 (by kernel_rfl) (by kernel_rfl) (by kernel_rfl) (e := Extern.AbiNoEscape.same) (by kernel_rfl)]
  rw [Lib.run_noEscape]
  simp only [Result.andThen]
  rw [Oper.upon_value]
  go_wp2
  rw [Lib.run_from_unsafe w ⟨b, 0, none⟩ Tryz.underlying393 Tryz.underlying327 hj hsh bx_lies]
  simp only [Result.andThen]
  rw [Oper.upon_value]
  go_wp2
  go_end0
  exact ⟨rfl, rfl⟩

theorem bx_check {b : Nat} {p v : Value} {xs : List Value} {w : World} (hp : p = .pointer none ∨ p = .pointer (some ⟨b, 0, none⟩)) (h : Bld 329 5 b p v xs w) :
    Calls Tryz.prog 230 #[.pointer (some ⟨b, 0, none⟩)] w fun e w' => e = .returned (.tuple #[]) ∧ Bld 329 5 b (.pointer (some ⟨b, 0, none⟩)) v xs w' ∧ Two w w' b v.ownBlock := by
  rcases hp with rfl | rfl
  · refine (bx_check_fresh b w h.cell0 h.shape (h.frozen 0)).mono ?_
    rintro e w' ⟨rfl, rfl⟩
    exact ⟨rfl, h.used _, (Two.refl _ _ _).setCell 0 _⟩
  · refine (bx_check_used b w h.cell0).mono ?_
    rintro e w' ⟨rfl, rfl⟩
    exact ⟨rfl, h, Two.refl _ _ _⟩

theorem bx_byte : ∃ i, Tryz.prog.info? 5 = some i ∧ i.zero = some (.int .u8 0) ∧ i.size = 1 ∧ i.bytes = 1 := by
  have h : (Tryz.prog.info? 5).map (fun i => (i.zero, i.size, i.bytes)) = some (some (.int .u8 0), 1, 1) := by kernel_rfl
  obtain ⟨i, hi, he⟩ := Option.map_eq_some_iff.1 h
  simp only [Prod.mk.injEq] at he
  exact ⟨i, hi, he.1, he.2.1, he.2.2⟩

set_option maxHeartbeats 1000000 in
set_option maxRecDepth 100000 in
theorem bx_len {b : Nat} {p v : Value} {xs : List Value} {w : World} (h : Bld 329 5 b p v xs w) :
    Calls Tryz.prog 207 #[.pointer (some ⟨b, 0, none⟩)] w fun e w' => e = .returned (.int .i64 xs.length) ∧ w' = w := by
  obtain ⟨ao, cap, rfl⟩ : ∃ ao cap, v = .slice ao xs.length cap := by
    rcases h.own.2 with ⟨hv, h0⟩ | ⟨g, cap, cur, fz, hv, _⟩
    · exact ⟨none, 0, by rw [hv, h0]⟩
    · exact ⟨_, _, hv⟩
  have c1 := h.cell1
  go_enter Tryz.func207, Tryz.ntmps207
  go_wp2
  go_ret
  exact ⟨rfl, rfl⟩

set_option maxHeartbeats 2000000 in
set_option maxRecDepth 100000 in
theorem bx_writeByte {b : Nat} {p v : Value} {xs : List Value} {w : World} (c : Int) (hp : p = .pointer none ∨ p = .pointer (some ⟨b, 0, none⟩)) (h : Bld 329 5 b p v xs w) (hlen : xs.length + 1 ≤ 140737488355328) :
    Calls Tryz.prog 202 #[.pointer (some ⟨b, 0, none⟩), .int .u8 c] w fun e w' => e = .returned .nilIface ∧ ∃ v', Bld 329 5 b (.pointer (some ⟨b, 0, none⟩)) v' (xs ++ [.int .u8 c]) w' ∧ Moved w v v' ∧ Two w w' b v.ownBlock := by
  obtain ⟨i0, hi, hz0, hz1, hz2⟩ := bx_byte
  go_enter Tryz.func202, Tryz.ntmps202
  go_wp2_with (go_at_call 230; refine (bx_check hp h).mono ?_)
  rintro e w1 ⟨rfl, h1, t1⟩
  have c0 := h1.cell0
  have c1 := h1.cell1
  have hown1 : (w1.alloc (.cells #[.int .u8 c] 5)).ownsRowF 0 5 1 v xs.length xs := h1.own.kept (World.grownBy_alloc w1 _ none) (by cases hv : v.ownBlock <;> simp)
  go_wp2_with (at_builtin; refine wpList_app_row _ rfl _ _ 22 rfl 5 i0 Tryz.underlying22 hi hz0 hz1 hz2 v _ _ rfl hown1 ⟨w1.heap.size, 0, none⟩ 1 1 [.int .u8 c] rfl rfl ?c1 ?c2 ?c3 ?c4 ?_)
  case c1 =>
    intro j u hj
    match j, hj with
    | 0, hj => simp at hj; subst hj; simp [Addr.add]
  case c2 => intro u hu; simp at hu; subst hu; rfl
  case c3 => unfold maxLen; omega
  case c4 => omega
  intro v' w2 hown' hgrow hmv
  have hlt := h1.lt
  have hb2 : w2.heap[b]? = some (.cells #[.pointer (some ⟨b, 0, none⟩), v] 329 (0, 0)) := by
    rw [hgrow.block b (by simp; omega) (fun e => h1.ne e.symm), Lib.alloc_old w1 _ b hlt]
    exact h1.heap
  have d0 : w2.cell? ⟨b, 0, none⟩ = some (.pointer (some ⟨b, 0, none⟩)) := by rw [Lib.cell_of_heap hb2]; rfl
  have d1 : w2.cell? ⟨b, 1, none⟩ = some v := by rw [Lib.cell_of_heap hb2]; rfl
  have f1 : w2.frozen? ⟨b, 1, none⟩ = false := Lib.frozen_of_heap hb2 1
  have hmv1 : Moved w v v' := by
    rcases hmv with h0 | ⟨g, h0, hg⟩
    · exact .inl h0
    · exact .inr ⟨g, h0, by have := t1.size; simp at hg; omega⟩
  obtain ⟨g, cap, rfl⟩ : ∃ g cap, v' = .slice (some ⟨g, 0, none⟩) (xs.length + 1) cap := by
    rcases hown'.2 with ⟨_, h0⟩ | ⟨g, cap, cur, fz, hv, _⟩
    · omega
    · exact ⟨g, cap, hv⟩
  go_wp2
  go_ret
  refine ⟨rfl, _, Bld.put hb2 (xs := xs ++ [.int .u8 c]) (by simpa using hown') (hmv1.ne h.lt h.ne), hmv1, ?_⟩
  refine Two.setCell ?_ 1 _
  refine t1.trans (r2 := v.ownBlock) ?_ (.inl rfl)
  exact (Two.of_grown (World.grownBy_alloc w1 _ v.ownBlock)).trans (Two.of_grown hgrow) (.inl rfl)

set_option maxHeartbeats 2000000 in
set_option maxRecDepth 100000 in
theorem bx_writeString {b : Nat} {p v : Value} {xs : List Value} {w : World} (s : ByteArray) (hp : p = .pointer none ∨ p = .pointer (some ⟨b, 0, none⟩)) (h : Bld 329 5 b p v xs w) (hlen : xs.length + s.size ≤ 140737488355328) :
    Calls Tryz.prog 201 #[.pointer (some ⟨b, 0, none⟩), .string s] w fun e w' => e = .returned (.tuple #[.int .i64 s.size, .nilIface]) ∧ ∃ v', Bld 329 5 b (.pointer (some ⟨b, 0, none⟩)) v' (xs ++ Lib.strCells s) w' ∧ Moved w v v' ∧ Two w w' b v.ownBlock := by
  obtain ⟨i0, hi, hz0, hz1, hz2⟩ := bx_byte
  go_enter Tryz.func201, Tryz.ntmps201
  go_wp2_with (go_at_call 230; refine (bx_check hp h).mono ?_)
  rintro e w1 ⟨rfl, h1, t1⟩
  have c0 := h1.cell0
  have c1 := h1.cell1
  go_wp2_with (at_builtin; refine wpList_app_str _ rfl _ _ 22 9 rfl 5 i0 Tryz.underlying22 Tryz.underlying9 hi hz0 hz1 hz2 v _ _ rfl h1.own s rfl ?c3 ?c4 ?_)
  case c3 => unfold maxLen; omega
  case c4 => omega
  intro v' w2 hown' hgrow hmv
  have hlt := h1.lt
  have hb2 : w2.heap[b]? = some (.cells #[.pointer (some ⟨b, 0, none⟩), v] 329 (0, 0)) := by
    rw [hgrow.block b hlt (fun e => h1.ne e.symm)]
    exact h1.heap
  have d0 : w2.cell? ⟨b, 0, none⟩ = some (.pointer (some ⟨b, 0, none⟩)) := by rw [Lib.cell_of_heap hb2]; rfl
  have d1 : w2.cell? ⟨b, 1, none⟩ = some v := by rw [Lib.cell_of_heap hb2]; rfl
  have f1 : w2.frozen? ⟨b, 1, none⟩ = false := Lib.frozen_of_heap hb2 1
  have hmv1 : Moved w v v' := (show Moved w v v from .inl rfl).trans hmv t1.size
  obtain ⟨ao, n', cap, rfl⟩ : ∃ ao n' cap, v' = .slice ao n' cap := by
    rcases hown'.2 with ⟨hv, _⟩ | ⟨g, cap, cur, fz, hv, _⟩
    · exact ⟨_, _, _, hv⟩
    · exact ⟨_, _, _, hv⟩
  go_wp2
  go_ret2
  refine ⟨rfl, _, Bld.put hb2 (xs := xs ++ Lib.strCells s) (by simpa [Lib.strCells_length] using hown') (hmv1.ne h.lt h.ne), hmv1, ?_⟩
  refine Two.setCell ?_ 1 _
  exact t1.trans (Two.of_grown hgrow) (.inl rfl)

set_option maxHeartbeats 1000000 in
set_option maxRecDepth 100000 in
theorem bx_string_row {b : Nat} {p v : Value} {l : List UInt8} {w : World} (h : Bld 329 5 b p v (Lib.byteCells l) w) (h0 : l ≠ []) :
    Calls Tryz.prog 203 #[.pointer (some ⟨b, 0, none⟩)] w fun e w' => e = .returned (.string ⟨l.toArray⟩) ∧ Bld 329 5 b p v (Lib.byteCells l) w' ∧ Two w w' b v.ownBlock := by
  have hl0 : l.length ≠ 0 := by simpa using h0
  have hll : (Lib.byteCells l).length = l.length := Lib.byteCells_length l
  obtain ⟨g, cap, cur, fz, rfl, hbg, hg, hfz, hnc, hcm, hcs, htake⟩ : ∃ g cap cur fz, v = .slice (some ⟨g, 0, none⟩) l.length cap ∧ 0 ≤ g ∧ w.heap[g]? = some (.cells cur 5 fz) ∧ fz.2 ≤ l.length * 1 ∧ l.length ≤ cap ∧ cap ≤ maxLen ∧ cur.size = cap * 1 ∧ cur.toList.take (l.length * 1) = Lib.byteCells l := by
    have h2 := h.own.2
    rw [hll] at h2
    rcases h2 with ⟨_, hz⟩ | ⟨g, cap, cur, fz, hv, r⟩
    · exact absurd hz hl0
    · exact ⟨g, cap, cur, fz, hv, r⟩
  have c1 : w.drew.cell? ⟨b, 1, none⟩ = some (.slice (some ⟨g, 0, none⟩) l.length cap) := h.drew.cell1
  have hSD : (Builtin.unsafeSliceData_ #[22] 368 #[.slice (some ⟨g, 0, none⟩) l.length cap]).run Tryz.prog w.drew = .ok (.pointer (some ⟨g, 0, none⟩)) w.drew :=
    Lib.run_unsafeSliceData_row _ _ _ _ _ _ (by omega)
  have hUS : (Builtin.unsafeString_ #[368, 3] 9 #[.pointer (some ⟨g, 0, none⟩), .int .i64 l.length]).run Tryz.prog w.drew = .ok (.string ⟨l.toArray⟩) (w.drew.freeze ⟨g, 0, none⟩ l.length) := by
    refine Lib.run_unsafeString_row w.drew 368 3 9 5 Tryz.underlying368 (by kernel_rfl) g cur.size (by have hg' : w.drew.heap[g]? = some (.cells cur 5 fz) := hg; simp [World.shape?, hg']) l h0 (by omega) (by unfold maxLen at hcm; omega) ?_
    intro j x hx
    exact h.own.cells (g := g) rfl j (.int .u8 x.toNat) (by simp [Lib.byteCells, hx])
  have hkeep : Bld 329 5 b p (.slice (some ⟨g, 0, none⟩) l.length cap) (Lib.byteCells l) (w.drew.freeze ⟨g, 0, none⟩ l.length) ∧ Two w (w.drew.freeze ⟨g, 0, none⟩ l.length) b (some g) := by
    have h1 : Bld 329 5 b p (.slice (some ⟨g, 0, none⟩) (Lib.byteCells l).length cap) (Lib.byteCells l) w.drew := by rw [hll]; exact h.drew
    have h2 := h1.froze
    rw [hll] at h2
    exact ⟨h2.1, (Two.drew w b (some g)).trans h2.2 (.inl rfl)⟩
  go_enter Tryz.func203, Tryz.ntmps203
  go_wp2
  go_region
  all_goals (go_wp2; go_ret; exact ⟨rfl, hkeep⟩)

theorem bx_none (W : World) (q : Option Addr) : (Builtin.unsafeString_ #[368, 3] 9 #[.pointer q, .int .i64 0]).run Tryz.prog W = .ok (.string .empty) W :=
  Lib.run_unsafeString_none W _ _ _ q

set_option maxHeartbeats 2000000 in
set_option maxRecDepth 100000 in
theorem bx_string_nil {b : Nat} {p : Value} {w : World} (h : Bld 329 5 b p (.slice none 0 0) [] w) :
    Calls Tryz.prog 203 #[.pointer (some ⟨b, 0, none⟩)] w fun e w' => e = .returned (.string ⟨#[]⟩) ∧ Bld 329 5 b p (.slice none 0 0) [] w' ∧ Two w w' b none := by
  have hUS := bx_none
  have c1 : w.drew.cell? ⟨b, 1, none⟩ = some (.slice none 0 0) := h.drew.cell1
  have hSD : (Builtin.unsafeSliceData_ #[22] 368 #[.slice none 0 0]).run Tryz.prog w.drew = .ok (.pointer none) w.drew := rfl
  go_enter Tryz.func203, Tryz.ntmps203
  go_wp2
  go_region
  all_goals (go_wp2; go_ret; exact ⟨rfl, h.drew, Two.drew w b none⟩)

set_option maxHeartbeats 2000000 in
set_option maxRecDepth 100000 in
theorem bx_string_noroom {b g : Nat} {p : Value} {w : World} (h : Bld 329 5 b p (.slice (some ⟨g, 0, none⟩) 0 0) [] w) :
    Calls Tryz.prog 203 #[.pointer (some ⟨b, 0, none⟩)] w fun e w' => e = .returned (.string ⟨#[]⟩) ∧ Bld 329 5 b p (.slice (some ⟨g, 0, none⟩) 0 0) [] w' ∧ Two w w' b (some g) := by
  have hUS := bx_none
  obtain ⟨cur, fz, hg⟩ : ∃ cur fz, w.heap[g]? = some (.cells cur 5 fz) := by
    rcases h.own.2 with ⟨hv, _⟩ | ⟨g', cap, cur, fz, hv, _, hg, _⟩
    · cases hv
    · simp only [Value.slice.injEq, Option.some.injEq, Addr.mk.injEq] at hv
      obtain ⟨⟨rfl, _⟩, _⟩ := hv
      exact ⟨cur, fz, hg⟩
  have c1 : w.drew.cell? ⟨b, 1, none⟩ = some (.slice (some ⟨g, 0, none⟩) 0 0) := h.drew.cell1
  have hSD : (Builtin.unsafeSliceData_ #[22] 368 #[.slice (some ⟨g, 0, none⟩) 0 0]).run Tryz.prog w.drew = .ok (.pointer (some ⟨w.drew.heap.size, 0, none⟩)) (w.drew.alloc (.view ⟨g, 0, none⟩ 5)) :=
    Lib.run_unsafeSliceData_zero w.drew _ _ 5 Tryz.underlying368 ⟨g, 0, none⟩ 0 (5, cur.size) (by have hg' : w.drew.heap[g]? = some (.cells cur 5 fz) := hg; simp [World.shape?, hg'])
  have c2 : (w.drew.alloc (.view ⟨g, 0, none⟩ 5)).cell? ⟨b, 1, none⟩ = some (.slice (some ⟨g, 0, none⟩) 0 0) := (h.drew.alloc _).cell1
  have c3 : (w.alloc (.view ⟨g, 0, none⟩ 5)).drew.cell? ⟨b, 1, none⟩ = some (.slice (some ⟨g, 0, none⟩) 0 0) := c2
  have c0 : w.cell? ⟨b, 1, none⟩ = some (.slice (some ⟨g, 0, none⟩) 0 0) := c1
  go_enter Tryz.func203, Tryz.ntmps203
  go_wp2
  go_region
  all_goals (go_wp2; go_ret; exact ⟨rfl, h.drew.alloc _, (Two.drew w b _).trans (Two.alloc _ _ _ _) (.inl rfl)⟩)

set_option maxHeartbeats 2000000 in
set_option maxRecDepth 100000 in
theorem bx_string_room {b g cap : Nat} {p : Value} {w : World} (hc0 : cap ≠ 0) (h : Bld 329 5 b p (.slice (some ⟨g, 0, none⟩) 0 cap) [] w) :
    Calls Tryz.prog 203 #[.pointer (some ⟨b, 0, none⟩)] w fun e w' => e = .returned (.string ⟨#[]⟩) ∧ Bld 329 5 b p (.slice (some ⟨g, 0, none⟩) 0 cap) [] w' ∧ Two w w' b (some g) := by
  have hUS := bx_none
  have c1 : w.drew.cell? ⟨b, 1, none⟩ = some (.slice (some ⟨g, 0, none⟩) 0 cap) := h.drew.cell1
  have hSD : (Builtin.unsafeSliceData_ #[22] 368 #[.slice (some ⟨g, 0, none⟩) 0 cap]).run Tryz.prog w.drew = .ok (.pointer (some ⟨g, 0, none⟩)) w.drew :=
    Lib.run_unsafeSliceData_row _ _ _ _ _ _ hc0
  clear hc0
  go_enter Tryz.func203, Tryz.ntmps203
  go_wp2
  go_region
  all_goals (go_wp2; go_ret; exact ⟨rfl, h.drew, Two.drew w b _⟩)

theorem bx_string {b : Nat} {p v : Value} {l : List UInt8} {w : World} (h : Bld 329 5 b p v (Lib.byteCells l) w) :
    Calls Tryz.prog 203 #[.pointer (some ⟨b, 0, none⟩)] w fun e w' => e = .returned (.string ⟨l.toArray⟩) ∧ Bld 329 5 b p v (Lib.byteCells l) w' ∧ Two w w' b v.ownBlock := by
  cases l with
  | cons x r => exact bx_string_row h (by simp)
  | nil =>
    rcases h.own.2 with ⟨rfl, _⟩ | ⟨g, cap, cur, fz, hv, _⟩
    · exact bx_string_nil h
    · have hv' : v = .slice (some ⟨g, 0, none⟩) 0 cap := hv
      subst hv'
      by_cases hc0 : cap = 0
      · subst hc0
        exact bx_string_noroom h
      · exact bx_string_room hc0 h
/-- What 'grow' leaves of a builder without a row. -/
theorem bx_grown {b : Nat} {p : Value} {w : World} {cs : Array Value} (h : Bld 329 5 b p (.slice none 0 0) [] w) (hm : cs.size ≤ maxLen) :
    Bld 329 5 b p (.slice (some ⟨w.heap.size, 0, none⟩) 0 cs.size) [] ((w.alloc (.cells cs 5)).setCell ⟨b, 1, none⟩ (.slice (some ⟨w.heap.size, 0, none⟩) 0 cs.size)).drew.drew.drew ∧
      Two w ((w.alloc (.cells cs 5)).setCell ⟨b, 1, none⟩ (.slice (some ⟨w.heap.size, 0, none⟩) 0 cs.size)).drew.drew.drew b none := by
  have hlt := h.lt
  have hown : (w.alloc (.cells cs 5)).ownsRowF 0 5 1 (.slice (some ⟨w.heap.size, 0, none⟩) 0 cs.size) ([] : List Value).length [] :=
    ⟨rfl, .inr ⟨w.heap.size, cs.size, cs, (0, 0), rfl, Nat.zero_le _, heap_alloc_new w _, Nat.zero_le _, Nat.zero_le _, hm, by simp, by simp⟩⟩
  have h1 := Bld.put (h.alloc (.cells cs 5)).heap hown (by simp only [Value.ownBlock]; intro e; injection e with e; omega)
  refine ⟨h1.drew.drew.drew, ?_⟩
  exact ((((Two.alloc w b none _).setCell 1 _).trans (Two.drew _ b none) (.inl rfl)).trans (Two.drew _ b none) (.inl rfl)).trans (Two.drew _ b none) (.inl rfl)

set_option maxHeartbeats 2000000 in
set_option maxRecDepth 1000000 in
theorem bx_grow1 {b : Nat} {w : World} (n : Nat) (h : Bld 329 5 b (.pointer (some ⟨b, 0, none⟩)) (.slice none 0 0) [] w) (hn : n ≤ 281474976710656) :
    Calls Tryz.prog 234 #[.pointer (some ⟨b, 0, none⟩), .int .i64 n] w fun e w' => e = .returned (.tuple #[]) ∧ ∃ v', Bld 329 5 b (.pointer (some ⟨b, 0, none⟩)) v' [] w' ∧ Moved w (.slice none 0 0) v' ∧ Two w w' b none := by
  obtain ⟨cs, hrun, hle, hmax⟩ := Lib.run_makeNoZero (P := Tryz.prog) w.drew #[3] 22 5 Tryz.underlying22 n hn
  have hw : IntKind.i64.wrap (IntKind.i64.wrap 0 + (n : Int)) = n := by
    rw [IntKind.wrap_i64, IntKind.wrap_i64]
    omega
  have hcall : (callFunc 256 #[.int .i64 (IntKind.i64.wrap (IntKind.i64.wrap 0 + (n : Int)))]).run Tryz.prog w.drew = .ok (.value (.slice (some ⟨w.drew.heap.size, 0, none⟩) n cs.size)) (w.drew.drew.drew.alloc (.cells cs 5)) := by
    rw [hw, run_callFunc_extern Tryz.func256 (by kernel_rfl) (by kernel_rfl) (by kernel_rfl) (e := Extern.BytealgMakeNoZero.makeNoZero #[3] #[22]) (by kernel_rfl), hrun]
    rfl
  have c1 : w.drew.cell? ⟨b, 1, none⟩ = some (.slice none 0 0) := h.drew.cell1
  have c2 : (w.alloc (.cells cs 5)).cell? ⟨b, 1, none⟩ = some (.slice none 0 0) := (h.alloc _).cell1
  have f2 : (w.alloc (.cells cs 5)).frozen? ⟨b, 1, none⟩ = false := (h.alloc _).frozen 1
  have hcopy : ∀ W : World, (Builtin.copy_ #[22, 22] 3 #[.slice (some ⟨w.heap.size, 0, none⟩) 0 cs.size, .slice none 0 0]).run Tryz.prog W = .ok (goInt 0) W :=
    fun W => run_copy_none W 22 22 3 5 _ _ 0 cs.size 0 0 Tryz.underlying22 (by kernel_rfl) rfl
  clear hw
  have hfin := bx_grown (cs := cs) h (hmax (by unfold maxLen; omega))
  go_enter Tryz.func234, Tryz.ntmps234
  go_wp2
  go_region
  all_goals (go_wp2; go_end0; exact ⟨rfl, _, hfin.1, .inr ⟨_, rfl, Nat.le_refl _⟩, hfin.2⟩)

set_option maxHeartbeats 2000000 in
set_option maxRecDepth 1000000 in
theorem bx_grow {b : Nat} {w : World} (n : Nat) (h : Bld 329 5 b (.pointer none) (.slice none 0 0) [] w) (hn : n ≤ 1099511627776) :
    Calls Tryz.prog 206 #[.pointer (some ⟨b, 0, none⟩), .int .i64 n] w fun e w' => e = .returned (.tuple #[]) ∧ ∃ v', Bld 329 5 b (.pointer (some ⟨b, 0, none⟩)) v' [] w' ∧ Moved w (.slice none 0 0) v' ∧ Two w w' b none := by
  have hU := h.used (.pointer (some ⟨b, 0, none⟩))
  have t1 : Two w (w.setCell ⟨b, 0, none⟩ (.pointer (some ⟨b, 0, none⟩))) b none := (Two.refl w b none).setCell 0 _
  have hs : w.heap.size ≤ (w.setCell ⟨b, 0, none⟩ (.pointer (some ⟨b, 0, none⟩))).heap.size := t1.size
  have c1 := hU.cell1
  have c1' : (w.setCell ⟨b, 0, none⟩ (.pointer (some ⟨b, 0, none⟩))).drew.cell? ⟨b, 1, none⟩ = some (.slice none 0 0) := c1
  go_enter Tryz.func206, Tryz.ntmps206
  go_wp2_with (go_at_call 230; refine (bx_check_fresh b w h.cell0 h.shape (h.frozen 0)).mono ?_; rintro e w' ⟨rfl, rfl⟩)
  go_region
  all_goals go_wp2_with (go_at_call 234; refine (bx_grow1 n hU.drew (by omega)).mono ?_; rintro e w' ⟨rfl, v', h1, h2, h3⟩)
  all_goals first
    | (go_end0; exact ⟨rfl, v', h1, (show Moved w (.slice none 0 0) (.slice none 0 0) from .inl rfl).trans h2 hs, (t1.trans (Two.drew _ b none) (.inl rfl)).trans h3 (.inl rfl)⟩)
    | (go_end0; exact ⟨rfl, _, hU.drew, .inl rfl, t1.trans (Two.drew _ b none) (.inl rfl)⟩)

theorem bx : BldProg Tryz.prog 329 5 202 201 203 207 206 where
  byte := bx_writeByte
  str := bx_writeString
  tostr := bx_string
  len := bx_len
  grow := bx_grow

end Go.Proofs.YtpjjoehccpkhoaaGreat
