/- Printed by a program (wip/gen): functions of data, as the code computes them -/
import Derived.Test.YtpjjoehccpkhoaaGreatK3
namespace Go.Proofs.YtpjjoehccpkhoaaGreat
open Go Go.Ab
set_option maxRecDepth 100000
set_option linter.unusedVariables false


noncomputable def g_codec_remainders_c3_body (x20 : Int) (b21 : (Arr 16 Int)) (r40 : Int) (x41 : Int) : Option (Int) :=
  bif ((IntKind.wrap .u32 ((BitVec.ofInt 32 r40 &&& BitVec.ofInt 32 1).toNat)) == 1) then
    some (IntKind.wrap .u32 ((BitVec.ofInt 32 (Int.fdiv r40 (2 ^ 1)) ^^^ BitVec.ofInt 32 2197175160).toNat))
  else
    some (Int.fdiv r40 (2 ^ 1))

noncomputable def g_codec_remainders_l2_body (x20 : Int) (b21 : (Arr 16 Int)) : (Int × Int) → Option (Step (Int × Int) (Int)) := fun (r40, x41) =>
  bif decide (x41 < 4) then
    (g_codec_remainders_c3_body x20 b21 r40 x41).bind fun o50 =>
    some (.next (o50, (IntKind.wrap .i64 (x41 + 1))))
  else
    some (.done r40)

noncomputable def g_codec_remainders_l1_body : (Int × (Arr 16 Int)) → Option (Step (Int × (Arr 16 Int)) ((Arr 16 Int))) := fun (x20, b21) =>
  bif decide (x20 < 16) then
    (loopO (g_codec_remainders_l2_body x20 b21) ((IntKind.wrap .u32 x20), 0)).bind fun o52 =>
    (aget b21 x20).bind fun x54 =>
    some (.next ((IntKind.wrap .i64 (x20 + 1)), (aset b21 x20 o52)))
  else
    some (.done b21)

noncomputable def g_codec_remainders  : Option ((Arr 16 Int)) :=
  (loopO (g_codec_remainders_l1_body) (0, (Arr.all 0))).bind fun o56 =>
  some o56

noncomputable def g_codec_Sum_l1_body (s1 : Str) (r58 : (Arr 16 Int)) : (Int × Int) → Option (Step (Int × Int) (Int)) := fun (r60, x61) =>
  bif decide (x61 < (s1.length : Int)) then
    (six s1 x61).bind fun b70 =>
    (aget r58 (IntKind.wrap .u32 ((BitVec.ofInt 32 (IntKind.wrap .u32 ((BitVec.ofInt 32 r60 ^^^ BitVec.ofInt 32 (IntKind.wrap .u32 b70)).toNat)) &&& BitVec.ofInt 32 15).toNat))).bind fun x72 =>
    (aget r58 (IntKind.wrap .u32 ((BitVec.ofInt 32 (IntKind.wrap .u32 ((BitVec.ofInt 32 (Int.fdiv (IntKind.wrap .u32 ((BitVec.ofInt 32 r60 ^^^ BitVec.ofInt 32 (IntKind.wrap .u32 b70)).toNat)) (2 ^ 4)) ^^^ BitVec.ofInt 32 x72).toNat)) &&& BitVec.ofInt 32 15).toNat))).bind fun x74 =>
    some (.next ((IntKind.wrap .u32 ((BitVec.ofInt 32 (Int.fdiv (IntKind.wrap .u32 ((BitVec.ofInt 32 (Int.fdiv (IntKind.wrap .u32 ((BitVec.ofInt 32 r60 ^^^ BitVec.ofInt 32 (IntKind.wrap .u32 b70)).toNat)) (2 ^ 4)) ^^^ BitVec.ofInt 32 x72).toNat)) (2 ^ 4)) ^^^ BitVec.ofInt 32 x74).toNat)), (IntKind.wrap .i64 (x61 + 1))))
  else
    some (.done r60)

noncomputable def g_codec_Sum (s1 : Str) : Option (Int) :=
  (g_codec_remainders).bind fun r58 =>
  (loopO (g_codec_Sum_l1_body s1 r58) (4294967295, 0)).bind fun o76 =>
  some (IntKind.wrap .u32 ((BitVec.ofInt 32 4294967295 ^^^ BitVec.ofInt 32 o76).toNat))

end Go.Proofs.YtpjjoehccpkhoaaGreat
