/- Printed by a program (wip/gen): the code computes these functions -/
import Derived.Test.YtpjjoehccpkhoaaGreatProg
import Derived.Test.YtpjjoehccpkhoaaGreatCD
import Derived.KernelRfl
namespace Go.Proofs.YtpjjoehccpkhoaaGreat
open Go Go.Ab
set_option maxRecDepth 100000
set_option linter.unusedVariables false

theorem g_codec_remainders_c3_ok {x20 : Int} {b21 : (Arr 16 Int)} {r40 : Int} {x41 : Int} {o : Int} (h : g_codec_remainders_c3_body x20 b21 r40 x41 = some o) : AW2 Tryz.prog 25 (nav (bodyOf Tryz.prog 208) [1, 1, 0, 1, 0, 0, 1, 1, 0, 0, 1, 1, 0, 1, 0, 0, 1, 1, 0, 0, 1]) [(0, .ptr 0 0 0), (1, .ptr 1 0 0), (2, .int .i64 x20), (3, .int .u32 r40), (4, .int .i64 x20), (9, .int .i64 x41), (13, .bool ((IntKind.wrap .u32 ((BitVec.ofInt 32 r40 &&& BitVec.ofInt 32 1).toNat)) == 1))] [.live 0 (((eArr 16 (eInt .u32)).f (Arr.all 0)).cells), .live 0 (((eArr 16 (eInt .u32)).f b21).cells)] (exactly3 .normal [(0, .ptr 0 0 0), (1, .ptr 1 0 0), (2, .int .i64 x20), (3, .int .u32 o), (4, .int .i64 x20), (9, .int .i64 x41)] [.live 0 (((eArr 16 (eInt .u32)).f (Arr.all 0)).cells), .live 0 (((eArr 16 (eInt .u32)).f b21).cells)]) := by
  unfold g_codec_remainders_c3_body at h
  rcases bif_ h with ⟨h49, h⟩ | ⟨h49, h⟩
  · obtain rfl := Option.some.inj h
    exact AW2.way (n := 400) (adv := [(1, .b true), (8, .adj [.keep [0, 1, 2, 3, 4, 9] 2])]) (by decide : ([0, 1, 2, 3, 4, 9, 13] : List Nat).Nodup) (by kernel_rfl) (And.intro h49 trivial)
  · obtain rfl := Option.some.inj h
    exact AW2.way (n := 400) (adv := [(1, .b false), (7, .adj [.keep [0, 1, 2, 3, 4, 9] 2])]) (by decide : ([0, 1, 2, 3, 4, 9, 13] : List Nat).Nodup) (by kernel_rfl) (And.intro h49 trivial)

theorem g_codec_remainders_l2_ok {x20 : Int} {b21 : (Arr 16 Int)} {s : Int × Int} {o : Int} (h : loopO (g_codec_remainders_l2_body x20 b21) s = some o) : AW2 Tryz.prog 25 (nav (bodyOf Tryz.prog 208) [1, 1, 0, 1, 0, 0, 1, 1, 0, 0, 1, 1, 0, 1, 0]) [(0, .ptr 0 0 0), (1, .ptr 1 0 0), (2, .int .i64 x20), (3, .int .u32 s.1), (4, .int .i64 x20), (9, .int .i64 s.2)] [.live 0 (((eArr 16 (eInt .u32)).f (Arr.all 0)).cells), .live 0 (((eArr 16 (eInt .u32)).f b21).cells)] (exactly3 (.exit 2) [(0, .ptr 0 0 0), (1, .ptr 1 0 0), (2, .int .i64 x20), (3, .int .u32 o), (4, .int .i64 x20)] [.live 0 (((eArr 16 (eInt .u32)).f (Arr.all 0)).cells), .live 0 (((eArr 16 (eInt .u32)).f b21).cells)]) := by
  refine loopO_ind2 (C := fun s o => AW2 Tryz.prog 25 (nav (bodyOf Tryz.prog 208) [1, 1, 0, 1, 0, 0, 1, 1, 0, 0, 1, 1, 0, 1, 0]) [(0, .ptr 0 0 0), (1, .ptr 1 0 0), (2, .int .i64 x20), (3, .int .u32 s.1), (4, .int .i64 x20), (9, .int .i64 s.2)] [.live 0 (((eArr 16 (eInt .u32)).f (Arr.all 0)).cells), .live 0 (((eArr 16 (eInt .u32)).f b21).cells)] (exactly3 (.exit 2) [(0, .ptr 0 0 0), (1, .ptr 1 0 0), (2, .int .i64 x20), (3, .int .u32 o), (4, .int .i64 x20)] [.live 0 (((eArr 16 (eInt .u32)).f (Arr.all 0)).cells), .live 0 (((eArr 16 (eInt .u32)).f b21).cells)])) ?_ h
  clear h
  clear s o
  rintro ⟨r40, x41⟩ q h
  unfold g_codec_remainders_l2_body at h
  rcases bif_ h with ⟨h47, h⟩ | ⟨h47, h⟩
  · obtain ⟨o50, h51, h⟩ := bnd h
    obtain rfl := Option.some.inj h
    intro o ih
    exact AW2.way (n := 400) (adv := [(6, .b true), (14, .adj [.keep [0, 1, 2, 3, 4, 9, 13] 2]), (15, .code .normal [(0, .ptr 0 0 0), (1, .ptr 1 0 0), (2, .int .i64 x20), (3, .int .u32 o50), (4, .int .i64 x20), (9, .int .i64 x41)] [.live 0 (((eArr 16 (eInt .u32)).f (Arr.all 0)).cells), .live 0 (((eArr 16 (eInt .u32)).f b21).cells)]), (20, .adj [.keep [0, 1, 2, 3, 4, 9] 2]), (22, .code (.exit 2) [(0, .ptr 0 0 0), (1, .ptr 1 0 0), (2, .int .i64 x20), (3, .int .u32 o), (4, .int .i64 x20)] [.live 0 (((eArr 16 (eInt .u32)).f (Arr.all 0)).cells), .live 0 (((eArr 16 (eInt .u32)).f b21).cells)])]) (by decide : ([0, 1, 2, 3, 4, 9] : List Nat).Nodup) (by kernel_rfl) (And.intro ih (And.intro (g_codec_remainders_c3_ok h51) (And.intro h47 trivial)))
  · obtain rfl := Option.some.inj h
    exact AW2.way (n := 400) (adv := [(6, .b false), (7, .adj [.keep [0, 1, 2, 3, 4] 2])]) (by decide : ([0, 1, 2, 3, 4, 9] : List Nat).Nodup) (by kernel_rfl) (And.intro h47 trivial)

theorem g_codec_remainders_l1_ok {s : Int × (Arr 16 Int)} {o : (Arr 16 Int)} (h : loopO (g_codec_remainders_l1_body) s = some o) : AW2 Tryz.prog 25 (nav (bodyOf Tryz.prog 208) [1, 1, 0, 1, 0]) [(0, .ptr 0 0 0), (1, .ptr 1 0 0), (4, .int .i64 s.1)] [.live 0 (((eArr 16 (eInt .u32)).f (Arr.all 0)).cells), .live 0 (((eArr 16 (eInt .u32)).f s.2).cells)] (exactly3 (.exit 0) [(0, .ptr 0 0 0), (1, .ptr 1 0 0)] [.live 0 (((eArr 16 (eInt .u32)).f (Arr.all 0)).cells), .live 0 (((eArr 16 (eInt .u32)).f o).cells)]) := by
  refine loopO_ind2 (C := fun s o => AW2 Tryz.prog 25 (nav (bodyOf Tryz.prog 208) [1, 1, 0, 1, 0]) [(0, .ptr 0 0 0), (1, .ptr 1 0 0), (4, .int .i64 s.1)] [.live 0 (((eArr 16 (eInt .u32)).f (Arr.all 0)).cells), .live 0 (((eArr 16 (eInt .u32)).f s.2).cells)] (exactly3 (.exit 0) [(0, .ptr 0 0 0), (1, .ptr 1 0 0)] [.live 0 (((eArr 16 (eInt .u32)).f (Arr.all 0)).cells), .live 0 (((eArr 16 (eInt .u32)).f o).cells)])) ?_ h
  clear h
  clear s o
  rintro ⟨x20, b21⟩ q h
  unfold g_codec_remainders_l1_body at h
  rcases bif_ h with ⟨h39, h⟩ | ⟨h39, h⟩
  · obtain ⟨o52, h53, h⟩ := bnd h
    obtain ⟨x54, h55, h⟩ := bnd h
    obtain rfl := Option.some.inj h
    intro o ih
    exact AW2.way (n := 400) (adv := [(6, .b true), (23, .adj [.keep [0, 1, 2, 3, 4, 9] 2]), (24, .code (.exit 2) [(0, .ptr 0 0 0), (1, .ptr 1 0 0), (2, .int .i64 x20), (3, .int .u32 o52), (4, .int .i64 x20)] [.live 0 (((eArr 16 (eInt .u32)).f (Arr.all 0)).cells), .live 0 (((eArr 16 (eInt .u32)).f b21).cells)]), (29, .v (.ptr 1 0 (0 + (Int.toNat x20) * 1))), (30, .app ([] ++ arrC 16 (eInt .u32) (aset b21 x20 o52) ++ []) 0), (35, .adj [.keep [0, 1, 4] 2]), (37, .code (.exit 0) [(0, .ptr 0 0 0), (1, .ptr 1 0 0)] [.live 0 (((eArr 16 (eInt .u32)).f (Arr.all 0)).cells), .live 0 (((eArr 16 (eInt .u32)).f o).cells)])]) (by decide : ([0, 1, 4] : List Nat).Nodup) (by kernel_rfl) (And.intro ih (And.intro (o_astore (eInt .u32) [] [] 0 o52 h55) (And.intro (o_aix (eInt .u32) (P := Tryz.prog) (H := [.live 0 (((eArr 16 (eInt .u32)).f (Arr.all 0)).cells), .live 0 (((eArr 16 (eInt .u32)).f b21).cells)]) (t := 340) (id := 1) (g := 0) (base := 0) (k := .i64) (el := 205) h55 (by kernel_rfl) rfl) (And.intro (g_codec_remainders_l2_ok h53) (And.intro h39 trivial)))))
  · obtain rfl := Option.some.inj h
    exact AW2.way (n := 400) (adv := [(6, .b false), (7, .adj [.keep [0, 1] 2])]) (by decide : ([0, 1, 4] : List Nat).Nodup) (by kernel_rfl) (And.intro h39 trivial)

theorem g_codec_remainders_ok  {r : (Arr 16 Int)} (h : g_codec_remainders  = some r) : ACalls Tryz.prog 208 [] [] (exactly (((eArr 16 (eInt .u32)).f r)) []) := by
  unfold g_codec_remainders at h
  obtain ⟨o56, h57, h⟩ := bnd h
  obtain rfl := Option.some.inj h
  exact ACalls.way (n := 400) (adv := [(11, .adj [.keep [0, 1, 4] 2]), (12, .code (.exit 0) [(0, .ptr 0 0 0), (1, .ptr 1 0 0)] [.live 0 (((eArr 16 (eInt .u32)).f (Arr.all 0)).cells), .live 0 (((eArr 16 (eInt .u32)).f o56).cells)]), (18, .cut)]) (by kernel_rfl) (And.intro (And.intro (i_cons (t := 0) (qE (eArr 16 (eInt .u32)) o56 0) (i_nil 0)) (j_nil 0)) (And.intro (g_codec_remainders_l1_ok h57) trivial))

theorem g_codec_remainders_at  {r : (Arr 16 Int)} (h : g_codec_remainders  = some r) {H : AHeap} : ACalls Tryz.prog 208 [] H (exactly (((eArr 16 (eInt .u32)).f r)) (updH H [])) :=
  ACalls.frame [] (g_codec_remainders_ok h) List.nodup_nil rfl rfl fr0 peN peN ((eArr 16 (eInt .u32)).pure r) raN (lN _)

theorem g_codec_Sum_l1_ok {s1 : Str} {r58 : (Arr 16 Int)} {s : Int × Int} {o : Int} (h : loopO (g_codec_Sum_l1_body s1 r58) s = some o) : AW2 Tryz.prog 35 (nav (bodyOf Tryz.prog 179) [1, 1, 1, 0, 1, 0]) [(0, .str s1), (3, .ptr 0 0 0), (4, .int .u32 s.1), (8, .int .i64 (s1.length : Int)), (9, .int .i64 s.2)] [.live 0 (((eArr 16 (eInt .u32)).f r58).cells)] (exactly3 (.exit 0) [(4, .int .u32 o)] [.live 0 (((eArr 16 (eInt .u32)).f r58).cells)]) := by
  refine loopO_ind2 (C := fun s o => AW2 Tryz.prog 35 (nav (bodyOf Tryz.prog 179) [1, 1, 1, 0, 1, 0]) [(0, .str s1), (3, .ptr 0 0 0), (4, .int .u32 s.1), (8, .int .i64 (s1.length : Int)), (9, .int .i64 s.2)] [.live 0 (((eArr 16 (eInt .u32)).f r58).cells)] (exactly3 (.exit 0) [(4, .int .u32 o)] [.live 0 (((eArr 16 (eInt .u32)).f r58).cells)])) ?_ h
  clear h
  clear s o
  rintro ⟨r60, x61⟩ q h
  unfold g_codec_Sum_l1_body at h
  rcases bif_ h with ⟨h69, h⟩ | ⟨h69, h⟩
  · obtain ⟨b70, h71, h⟩ := bnd h
    obtain ⟨x72, h73, h⟩ := bnd h
    obtain ⟨x74, h75, h⟩ := bnd h
    obtain rfl := Option.some.inj h
    intro o ih
    exact AW2.way (n := 400) (adv := [(6, .b true), (18, .v (.int .u8 b70)), (28, .v (.ptr 0 0 (0 + (Int.toNat (IntKind.wrap .u32 ((BitVec.ofInt 32 (IntKind.wrap .u32 ((BitVec.ofInt 32 r60 ^^^ BitVec.ofInt 32 (IntKind.wrap .u32 b70)).toNat)) &&& BitVec.ofInt 32 15).toNat))) * 1))), (29, .v (.int .u32 x72)), (38, .v (.ptr 0 0 (0 + (Int.toNat (IntKind.wrap .u32 ((BitVec.ofInt 32 (IntKind.wrap .u32 ((BitVec.ofInt 32 (Int.fdiv (IntKind.wrap .u32 ((BitVec.ofInt 32 r60 ^^^ BitVec.ofInt 32 (IntKind.wrap .u32 b70)).toNat)) (2 ^ 4)) ^^^ BitVec.ofInt 32 x72).toNat)) &&& BitVec.ofInt 32 15).toNat))) * 1))), (39, .v (.int .u32 x74)), (46, .adj [.keep [0, 3, 4, 8, 9] 1]), (48, .code (.exit 0) [(4, .int .u32 o)] [.live 0 (((eArr 16 (eInt .u32)).f r58).cells)])]) (by decide : ([0, 3, 4, 8, 9] : List Nat).Nodup) (by kernel_rfl) (And.intro ih (And.intro (o_aload1 (P := Tryz.prog) (H := [.live 0 (((eArr 16 (eInt .u32)).f r58).cells)]) (t := 205) (id := 0) (g := 0) (eInt .u32) [] [] h75 (by kernel_rfl) (m := 1) rfl (fun _ => rfl) rfl) (And.intro (o_aix (eInt .u32) (P := Tryz.prog) (H := [.live 0 (((eArr 16 (eInt .u32)).f r58).cells)]) (t := 340) (id := 0) (g := 0) (base := 0) (k := .u32) (el := 205) h75 (by kernel_rfl) rfl) (And.intro (o_aload1 (P := Tryz.prog) (H := [.live 0 (((eArr 16 (eInt .u32)).f r58).cells)]) (t := 205) (id := 0) (g := 0) (eInt .u32) [] [] h73 (by kernel_rfl) (m := 1) rfl (fun _ => rfl) rfl) (And.intro (o_aix (eInt .u32) (P := Tryz.prog) (H := [.live 0 (((eArr 16 (eInt .u32)).f r58).cells)]) (t := 340) (id := 0) (g := 0) (base := 0) (k := .u32) (el := 205) h73 (by kernel_rfl) rfl) (And.intro (o_six (P := Tryz.prog) (t := 9) (k := .i64) h71 (by kernel_rfl)) (And.intro h69 trivial)))))))
  · obtain rfl := Option.some.inj h
    exact AW2.way (n := 400) (adv := [(6, .b false), (7, .adj [.keep [4] 1])]) (by decide : ([0, 3, 4, 8, 9] : List Nat).Nodup) (by kernel_rfl) (And.intro h69 trivial)

theorem g_codec_Sum_ok {s1 : Str} {r : Int} (h : g_codec_Sum s1 = some r) : ACalls Tryz.prog 179 [.str s1] [] (exactly (.int .u32 r) []) := by
  unfold g_codec_Sum at h
  obtain ⟨r58, h59, h⟩ := bnd h
  obtain ⟨o76, h77, h⟩ := bnd h
  obtain rfl := Option.some.inj h
  exact ACalls.way (n := 400) (adv := [(5, .call (((eArr 16 (eInt .u32)).f r58)) [] []), (18, .adj [.keep [0, 3, 4, 8, 9] 1]), (19, .code (.exit 0) [(4, .int .u32 o76)] [.live 0 (((eArr 16 (eInt .u32)).f r58).cells)]), (26, .cut)]) (by kernel_rfl) (And.intro (And.intro (i_cons (t := 0) (qE (eInt .u32) (IntKind.wrap .u32 ((BitVec.ofInt 32 4294967295 ^^^ BitVec.ofInt 32 o76).toNat)) 0) (i_nil 0)) (j_nil 0)) (And.intro (g_codec_Sum_l1_ok h77) (And.intro (g_codec_remainders_at h59 (H := [])) trivial)))

theorem g_codec_Sum_at {s1 : Str} {r : Int} (h : g_codec_Sum s1 = some r) {H : AHeap} : ACalls Tryz.prog 179 [.str s1] H (exactly (.int .u32 r) (updH H [])) :=
  ACalls.frame [] (g_codec_Sum_ok h) List.nodup_nil rfl rfl fr0 peN peN ((eInt .u32).pure r) (raC (Pure.ren (eStr.pure s1) _) raN) (lC (qE eStr s1 _) (lN _))

end Go.Proofs.YtpjjoehccpkhoaaGreat
