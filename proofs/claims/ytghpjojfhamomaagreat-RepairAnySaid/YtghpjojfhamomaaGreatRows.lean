/-
  No cell of these rows narrows 'for every input' (looked for: loops, veiled, ifaces, maps, wideKeys, modest, calm, conditions, laid).
  DERIVED. THE GIVEN ROWS OF THIS SEAT. 5 by the template 'for every input the law returns true; each argument reads behind the call as it read before'; 0 by the template 'total and deterministic' (their statements: YtghpjojfhamomaaGreatTotals.lean).
  GIVEN WITH THE SEED: the statements are not yours to turn. If you find one false, say at which input.
  Laid BY PROGRAM, IN A SANDBOX (cutbox-rows.mjs): the forced cells as the released guide's own fill.sh prints them over the translation 69b1c242f8c2657d… (all of the seat's roots in one cut). By AI agents, Wed Nov 11 2026. No macro, syntax, notation, axiom, sorry.
-/
import Derived.Test.YtghpjojfhamomaaGreatChecked
import GoSem.Claim
import GoSem.ClaimJoined
import GoSem.ClaimMapViews
import Derived.JoinedTies
import Derived.KernelRfl
namespace Go.Proofs.YtghpjojfhamomaaGreat
/- THE CELL 'sum', in the pinned program and in every row, IS THE sha256 OF THE DUMP (.gsa) THAT YtghpjojfhamomaaGreatProg.lean LOADS. Nothing in Lean hashes anything: it is a label: what it is worth is what the hold of that sum in a sandbox is worth. -/
noncomputable def Tryz.pinned : Pinned := { name := "ytghpjojfhamomaagreat", sum := "69b1c242f8c2657d7dacbfed0afbc8347a1c9c692656775bf3a234f0438426cf", checked := Tryz.checked }
namespace Rows
def none {H : Type} : Left H := { results := [], args := [] }

/-- 'pagemendlaw32.RepairAny': WHATEVER THE INPUT: true; the input reads as it did. -/
def repairAnySpec : ChangeSpec := { name := "repairAny", fn := fun _ => fun
  | [d1, d2] => { results := [.lit (.bool true)], args := [d1, d2] }
  | _ => none }
def repairAnyRow : OpenClaim := { program := "ytghpjojfhamomaagreat", sum := "69b1c242f8c2657d7dacbfed0afbc8347a1c9c692656775bf3a234f0438426cf", func := "pagemend/pagemendlaw32.RepairAny", spec := "repairAny", inPlace := ["internal/abi.NoEscape", "internal/bytealg.MakeNoZero"], unfollowed := true, recurses := true, apart := false }
def RepairAnySaid : Prop := repairAnyRow.holds Tryz.pinned (OpenSpec.ofChange repairAnySpec)

/-- ITS FALSE NEIGHBOUR: 'it returns false'. Refute it at one input. -/
def repairAnyWrong : ChangeSpec := { name := "repairAny", fn := fun _ => fun
  | [d1, d2] => { results := [.lit (.bool false)], args := [d1, d2] }
  | _ => none }
def RepairAnyWrongFalsely : Prop := repairAnyRow.holds Tryz.pinned (OpenSpec.ofChange repairAnyWrong)

/-- 'pagemendlaw32.RepairOne': WHATEVER THE INPUT: true; the input reads as it did. -/
def repairOneSpec : ChangeSpec := { name := "repairOne", fn := fun _ => fun
  | [d1, d2] => { results := [.lit (.bool true)], args := [d1, d2] }
  | _ => none }
def repairOneRow : OpenClaim := { program := "ytghpjojfhamomaagreat", sum := "69b1c242f8c2657d7dacbfed0afbc8347a1c9c692656775bf3a234f0438426cf", func := "pagemend/pagemendlaw32.RepairOne", spec := "repairOne", inPlace := ["internal/abi.NoEscape", "internal/bytealg.MakeNoZero"], unfollowed := true, recurses := true, apart := false }
def RepairOneSaid : Prop := repairOneRow.holds Tryz.pinned (OpenSpec.ofChange repairOneSpec)

/-- ITS FALSE NEIGHBOUR: 'it returns false'. Refute it at one input. -/
def repairOneWrong : ChangeSpec := { name := "repairOne", fn := fun _ => fun
  | [d1, d2] => { results := [.lit (.bool false)], args := [d1, d2] }
  | _ => none }
def RepairOneWrongFalsely : Prop := repairOneRow.holds Tryz.pinned (OpenSpec.ofChange repairOneWrong)

/-- 'pagemendlaw32.RepairKnows': WHATEVER THE INPUT: true; the input reads as it did. -/
def repairKnowsSpec : ChangeSpec := { name := "repairKnows", fn := fun _ => fun
  | [d] => { results := [.lit (.bool true)], args := [d] }
  | _ => none }
def repairKnowsRow : OpenClaim := { program := "ytghpjojfhamomaagreat", sum := "69b1c242f8c2657d7dacbfed0afbc8347a1c9c692656775bf3a234f0438426cf", func := "pagemend/pagemendlaw32.RepairKnows", spec := "repairKnows", inPlace := ["internal/abi.NoEscape", "internal/bytealg.MakeNoZero"], unfollowed := true, recurses := true, apart := false }
def RepairKnowsSaid : Prop := repairKnowsRow.holds Tryz.pinned (OpenSpec.ofChange repairKnowsSpec)

/-- ITS FALSE NEIGHBOUR: 'it returns false'. Refute it at one input. -/
def repairKnowsWrong : ChangeSpec := { name := "repairKnows", fn := fun _ => fun
  | [d] => { results := [.lit (.bool false)], args := [d] }
  | _ => none }
def RepairKnowsWrongFalsely : Prop := repairKnowsRow.holds Tryz.pinned (OpenSpec.ofChange repairKnowsWrong)

/-- 'pagemendlaw32.RepairMerged': WHATEVER THE INPUT: true; the input reads as it did. -/
def repairMergedSpec : ChangeSpec := { name := "repairMerged", fn := fun _ => fun
  | [d1, d2] => { results := [.lit (.bool true)], args := [d1, d2] }
  | _ => none }
def repairMergedRow : OpenClaim := { program := "ytghpjojfhamomaagreat", sum := "69b1c242f8c2657d7dacbfed0afbc8347a1c9c692656775bf3a234f0438426cf", func := "pagemend/pagemendlaw32.RepairMerged", spec := "repairMerged", inPlace := ["internal/abi.NoEscape", "internal/bytealg.MakeNoZero"], unfollowed := true, recurses := true, apart := false }
def RepairMergedSaid : Prop := repairMergedRow.holds Tryz.pinned (OpenSpec.ofChange repairMergedSpec)

/-- ITS FALSE NEIGHBOUR: 'it returns false'. Refute it at one input. -/
def repairMergedWrong : ChangeSpec := { name := "repairMerged", fn := fun _ => fun
  | [d1, d2] => { results := [.lit (.bool false)], args := [d1, d2] }
  | _ => none }
def RepairMergedWrongFalsely : Prop := repairMergedRow.holds Tryz.pinned (OpenSpec.ofChange repairMergedWrong)

/-- 'pagemendlaw32.RepairExact': WHATEVER THE INPUT: true; the input reads as it did. -/
def repairExactSpec : ChangeSpec := { name := "repairExact", fn := fun _ => fun
  | [d1, d2, d3] => { results := [.lit (.bool true)], args := [d1, d2, d3] }
  | _ => none }
def repairExactRow : OpenClaim := { program := "ytghpjojfhamomaagreat", sum := "69b1c242f8c2657d7dacbfed0afbc8347a1c9c692656775bf3a234f0438426cf", func := "pagemend/pagemendlaw32.RepairExact", spec := "repairExact", inPlace := ["internal/abi.NoEscape", "internal/bytealg.MakeNoZero"], unfollowed := true, recurses := true, apart := false }
def RepairExactSaid : Prop := repairExactRow.holds Tryz.pinned (OpenSpec.ofChange repairExactSpec)

/-- ITS FALSE NEIGHBOUR: 'it returns false'. Refute it at one input. -/
def repairExactWrong : ChangeSpec := { name := "repairExact", fn := fun _ => fun
  | [d1, d2, d3] => { results := [.lit (.bool false)], args := [d1, d2, d3] }
  | _ => none }
def RepairExactWrongFalsely : Prop := repairExactRow.holds Tryz.pinned (OpenSpec.ofChange repairExactWrong)

/- THE SECOND FORM. 'bulk': how many values and letters a reading holds, each counted each time it is reached (what is shared counts as often as it is met; a slice's spare places count too). A statement '..UptoSaid' is the law's where the arguments, and the package variables that the reading takes, are together of bulk at most 1048576: NARROWER than '..Said'. Prove '..Said' where nothing that the law and all that it calls make is longer than what came in: it says more and counts as full. Else prove '..UptoSaid'. A law counts once. -/
mutual
def uptoBulk {H : Type} : DataW H → Nat
  | .lit (.string bytes) => bytes.length + 1
  | .lit _ => 1
  | .nil => 1
  | .ptr d => uptoBulk d + 1
  | .slice elems spare => uptoBulkAll elems + uptoBulkAll spare + 1
  | .agg parts => uptoBulkAll parts + 1
  | .iface _ d => uptoBulk d + 1
  | .map entries => uptoBulkEntries entries + 1
  | .held _ => 1
def uptoBulkAll {H : Type} : List (DataW H) → Nat
  | [] => 0
  | d :: r => uptoBulk d + uptoBulkAll r
def uptoBulkEntries {H : Type} : List (Lit × DataW H) → Nat
  | [] => 0
  | x :: r => uptoBulkEntry x + uptoBulkEntries r
def uptoBulkEntry {H : Type} : Lit × DataW H → Nat
  | (.string bytes, d) => bytes.length + uptoBulk d + 1
  | (_, d) => uptoBulk d + 1
 end
def uptoSmall : (H : Type) → List (DataW H) → Bool := fun _ ds => decide (uptoBulkAll ds ≤ 1048576)
def OpenSpec.upto (s : _root_.Go.ChangeSpec) : _root_.Go.OpenSpec := { _root_.Go.OpenSpec.ofChange s with cond := some uptoSmall }

/-- 'pagemendlaw32.RepairAny', WHERE WHAT IT READS IS OF BULK AT MOST 1048576: true; the input reads as it did. -/
def repairAnyUptoRow : OpenClaim := { program := "ytghpjojfhamomaagreat", sum := "69b1c242f8c2657d7dacbfed0afbc8347a1c9c692656775bf3a234f0438426cf", func := "pagemend/pagemendlaw32.RepairAny", spec := "repairAny", inPlace := ["internal/abi.NoEscape", "internal/bytealg.MakeNoZero"], unfollowed := true, recurses := true, apart := false, narrowed := true }
def RepairAnyUptoSaid : Prop := repairAnyUptoRow.holds Tryz.pinned (OpenSpec.upto repairAnySpec)

/-- 'pagemendlaw32.RepairOne', WHERE WHAT IT READS IS OF BULK AT MOST 1048576: true; the input reads as it did. -/
def repairOneUptoRow : OpenClaim := { program := "ytghpjojfhamomaagreat", sum := "69b1c242f8c2657d7dacbfed0afbc8347a1c9c692656775bf3a234f0438426cf", func := "pagemend/pagemendlaw32.RepairOne", spec := "repairOne", inPlace := ["internal/abi.NoEscape", "internal/bytealg.MakeNoZero"], unfollowed := true, recurses := true, apart := false, narrowed := true }
def RepairOneUptoSaid : Prop := repairOneUptoRow.holds Tryz.pinned (OpenSpec.upto repairOneSpec)

/-- 'pagemendlaw32.RepairKnows', WHERE WHAT IT READS IS OF BULK AT MOST 1048576: true; the input reads as it did. -/
def repairKnowsUptoRow : OpenClaim := { program := "ytghpjojfhamomaagreat", sum := "69b1c242f8c2657d7dacbfed0afbc8347a1c9c692656775bf3a234f0438426cf", func := "pagemend/pagemendlaw32.RepairKnows", spec := "repairKnows", inPlace := ["internal/abi.NoEscape", "internal/bytealg.MakeNoZero"], unfollowed := true, recurses := true, apart := false, narrowed := true }
def RepairKnowsUptoSaid : Prop := repairKnowsUptoRow.holds Tryz.pinned (OpenSpec.upto repairKnowsSpec)

/-- 'pagemendlaw32.RepairMerged', WHERE WHAT IT READS IS OF BULK AT MOST 1048576: true; the input reads as it did. -/
def repairMergedUptoRow : OpenClaim := { program := "ytghpjojfhamomaagreat", sum := "69b1c242f8c2657d7dacbfed0afbc8347a1c9c692656775bf3a234f0438426cf", func := "pagemend/pagemendlaw32.RepairMerged", spec := "repairMerged", inPlace := ["internal/abi.NoEscape", "internal/bytealg.MakeNoZero"], unfollowed := true, recurses := true, apart := false, narrowed := true }
def RepairMergedUptoSaid : Prop := repairMergedUptoRow.holds Tryz.pinned (OpenSpec.upto repairMergedSpec)

/-- 'pagemendlaw32.RepairExact', WHERE WHAT IT READS IS OF BULK AT MOST 1048576: true; the input reads as it did. -/
def repairExactUptoRow : OpenClaim := { program := "ytghpjojfhamomaagreat", sum := "69b1c242f8c2657d7dacbfed0afbc8347a1c9c692656775bf3a234f0438426cf", func := "pagemend/pagemendlaw32.RepairExact", spec := "repairExact", inPlace := ["internal/abi.NoEscape", "internal/bytealg.MakeNoZero"], unfollowed := true, recurses := true, apart := false, narrowed := true }
def RepairExactUptoSaid : Prop := repairExactUptoRow.holds Tryz.pinned (OpenSpec.upto repairExactSpec)

end Rows
end Go.Proofs.YtghpjojfhamomaaGreat
