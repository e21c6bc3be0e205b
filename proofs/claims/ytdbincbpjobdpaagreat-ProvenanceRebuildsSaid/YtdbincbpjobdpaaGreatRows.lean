/-
  No cell of these rows narrows 'for every input' (looked for: loops, veiled, ifaces, maps, wideKeys, modest, calm, conditions, laid).
  DERIVED. THE GIVEN ROWS OF THIS SEAT. 5 by the template 'for every input the law returns true; each argument reads behind the call as it read before'; 0 by the template 'total and deterministic' (their statements: YtdbincbpjobdpaaGreatTotals.lean).
  GIVEN WITH THE SEED: the statements are not yours to turn. If you find one false, say at which input.
  Laid BY PROGRAM, IN A SANDBOX (cutbox-rows.mjs): the forced cells as the released guide's own fill.sh prints them over the translation bd29d7f8a5382b2f… (all of the seat's roots in one cut). By AI agents, Wed Nov 11 2026. No macro, syntax, notation, axiom, sorry.
-/
import Derived.Test.YtdbincbpjobdpaaGreatChecked
import GoSem.Claim
import GoSem.ClaimJoined
import GoSem.ClaimMapViews
import Derived.JoinedTies
import Derived.KernelRfl
namespace Go.Proofs.YtdbincbpjobdpaaGreat
/- THE CELL 'sum', in the pinned program and in every row, IS THE sha256 OF THE DUMP (.gsa) THAT YtdbincbpjobdpaaGreatProg.lean LOADS. Nothing in Lean hashes anything: it is a label: what it is worth is what the hold of that sum in a sandbox is worth. -/
noncomputable def Tryz.pinned : Pinned := { name := "ytdbincbpjobdpaagreat", sum := "bd29d7f8a5382b2fba041f9dd80c8622a18cd8bc14bee016af92f623a5c2cf71", checked := Tryz.checked }
namespace Rows
def none {H : Type} : Left H := { results := [], args := [] }

/-- 'pagemendlaw32.RepairOne': WHATEVER THE INPUT: true; the input reads as it did. -/
def repairOneSpec : ChangeSpec := { name := "repairOne", fn := fun _ => fun
  | [d1, d2] => { results := [.lit (.bool true)], args := [d1, d2] }
  | _ => none }
def repairOneRow : OpenClaim := { program := "ytdbincbpjobdpaagreat", sum := "bd29d7f8a5382b2fba041f9dd80c8622a18cd8bc14bee016af92f623a5c2cf71", func := "pagemend/pagemendlaw32.RepairOne", spec := "repairOne", inPlace := ["internal/abi.NoEscape", "internal/bytealg.MakeNoZero"], unfollowed := true, recurses := true, apart := false }
def RepairOneSaid : Prop := repairOneRow.holds Tryz.pinned (OpenSpec.ofChange repairOneSpec)

/-- ITS FALSE NEIGHBOUR: 'it returns false'. Refute it at one input. -/
def repairOneWrong : ChangeSpec := { name := "repairOne", fn := fun _ => fun
  | [d1, d2] => { results := [.lit (.bool false)], args := [d1, d2] }
  | _ => none }
def RepairOneWrongFalsely : Prop := repairOneRow.holds Tryz.pinned (OpenSpec.ofChange repairOneWrong)

/-- 'pagemendlaw40.ProvenanceSound': WHATEVER THE INPUT: true; the input reads as it did. -/
def provenanceSoundSpec : ChangeSpec := { name := "provenanceSound", fn := fun _ => fun
  | [d] => { results := [.lit (.bool true)], args := [d] }
  | _ => none }
def provenanceSoundRow : OpenClaim := { program := "ytdbincbpjobdpaagreat", sum := "bd29d7f8a5382b2fba041f9dd80c8622a18cd8bc14bee016af92f623a5c2cf71", func := "pagemend/pagemendlaw40.ProvenanceSound", spec := "provenanceSound", inPlace := ["internal/abi.NoEscape", "internal/bytealg.MakeNoZero"], unfollowed := true, recurses := true, apart := false }
def ProvenanceSoundSaid : Prop := provenanceSoundRow.holds Tryz.pinned (OpenSpec.ofChange provenanceSoundSpec)

/-- ITS FALSE NEIGHBOUR: 'it returns false'. Refute it at one input. -/
def provenanceSoundWrong : ChangeSpec := { name := "provenanceSound", fn := fun _ => fun
  | [d] => { results := [.lit (.bool false)], args := [d] }
  | _ => none }
def ProvenanceSoundWrongFalsely : Prop := provenanceSoundRow.holds Tryz.pinned (OpenSpec.ofChange provenanceSoundWrong)

/-- 'pagemendlaw40.ProvenanceRebuilds': WHATEVER THE INPUT: true; the input reads as it did. -/
def provenanceRebuildsSpec : ChangeSpec := { name := "provenanceRebuilds", fn := fun _ => fun
  | [d1, d2] => { results := [.lit (.bool true)], args := [d1, d2] }
  | _ => none }
def provenanceRebuildsRow : OpenClaim := { program := "ytdbincbpjobdpaagreat", sum := "bd29d7f8a5382b2fba041f9dd80c8622a18cd8bc14bee016af92f623a5c2cf71", func := "pagemend/pagemendlaw40.ProvenanceRebuilds", spec := "provenanceRebuilds", inPlace := ["internal/abi.NoEscape", "internal/bytealg.MakeNoZero"], unfollowed := true, recurses := true, apart := false }
def ProvenanceRebuildsSaid : Prop := provenanceRebuildsRow.holds Tryz.pinned (OpenSpec.ofChange provenanceRebuildsSpec)

/-- ITS FALSE NEIGHBOUR: 'it returns false'. Refute it at one input. -/
def provenanceRebuildsWrong : ChangeSpec := { name := "provenanceRebuilds", fn := fun _ => fun
  | [d1, d2] => { results := [.lit (.bool false)], args := [d1, d2] }
  | _ => none }
def ProvenanceRebuildsWrongFalsely : Prop := provenanceRebuildsRow.holds Tryz.pinned (OpenSpec.ofChange provenanceRebuildsWrong)

/-- 'pagemendlaw40.ProvenanceStays': WHATEVER THE INPUT: true; the input reads as it did. -/
def provenanceStaysSpec : ChangeSpec := { name := "provenanceStays", fn := fun _ => fun
  | [d1, d2] => { results := [.lit (.bool true)], args := [d1, d2] }
  | _ => none }
def provenanceStaysRow : OpenClaim := { program := "ytdbincbpjobdpaagreat", sum := "bd29d7f8a5382b2fba041f9dd80c8622a18cd8bc14bee016af92f623a5c2cf71", func := "pagemend/pagemendlaw40.ProvenanceStays", spec := "provenanceStays", inPlace := ["internal/abi.NoEscape", "internal/bytealg.MakeNoZero"], unfollowed := true, recurses := true, apart := false }
def ProvenanceStaysSaid : Prop := provenanceStaysRow.holds Tryz.pinned (OpenSpec.ofChange provenanceStaysSpec)

/-- ITS FALSE NEIGHBOUR: 'it returns false'. Refute it at one input. -/
def provenanceStaysWrong : ChangeSpec := { name := "provenanceStays", fn := fun _ => fun
  | [d1, d2] => { results := [.lit (.bool false)], args := [d1, d2] }
  | _ => none }
def ProvenanceStaysWrongFalsely : Prop := provenanceStaysRow.holds Tryz.pinned (OpenSpec.ofChange provenanceStaysWrong)

/-- 'pagemendlaw40.ProvenanceLeast': WHATEVER THE INPUT: true; the input reads as it did. -/
def provenanceLeastSpec : ChangeSpec := { name := "provenanceLeast", fn := fun _ => fun
  | [d1, d2] => { results := [.lit (.bool true)], args := [d1, d2] }
  | _ => none }
def provenanceLeastRow : OpenClaim := { program := "ytdbincbpjobdpaagreat", sum := "bd29d7f8a5382b2fba041f9dd80c8622a18cd8bc14bee016af92f623a5c2cf71", func := "pagemend/pagemendlaw40.ProvenanceLeast", spec := "provenanceLeast", inPlace := ["internal/abi.NoEscape", "internal/bytealg.MakeNoZero"], unfollowed := true, recurses := true, apart := false }
def ProvenanceLeastSaid : Prop := provenanceLeastRow.holds Tryz.pinned (OpenSpec.ofChange provenanceLeastSpec)

/-- ITS FALSE NEIGHBOUR: 'it returns false'. Refute it at one input. -/
def provenanceLeastWrong : ChangeSpec := { name := "provenanceLeast", fn := fun _ => fun
  | [d1, d2] => { results := [.lit (.bool false)], args := [d1, d2] }
  | _ => none }
def ProvenanceLeastWrongFalsely : Prop := provenanceLeastRow.holds Tryz.pinned (OpenSpec.ofChange provenanceLeastWrong)

/- THE SECOND FORM. 'bulk': how many values and letters a reading holds, each counted each time it is reached (what is shared counts as often as it is met; a slice's spare places count too). A statement '..UptoSaid' is the law's where the arguments, and the package variables that the reading takes, are together of bulk at most 1048576: NARROWER than '..Said'. Prove '..Said' where nothing that the law and all that it calls make is longer than what came in: it says more and counts as full. Else prove '..UptoSaid'. A law counts once. -/
mutual
def uptoBulk {H : Type} : DataW H → Nat
  | .lit (.string bytes) => bytes.length + 1
  | .lit _ => 1
  | .nil => 1
  | .ptr d => uptoBulk d + 1
  | .slice elems spare => uptoBulkAll elems + uptoBulkAll spare + 1
  | .agg parts => uptoBulkAll parts + 1
  | .iface _ d => uptoBulk d + 1
  | .map entries => uptoBulkEntries entries + 1
  | .held _ => 1
def uptoBulkAll {H : Type} : List (DataW H) → Nat
  | [] => 0
  | d :: r => uptoBulk d + uptoBulkAll r
def uptoBulkEntries {H : Type} : List (Lit × DataW H) → Nat
  | [] => 0
  | x :: r => uptoBulkEntry x + uptoBulkEntries r
def uptoBulkEntry {H : Type} : Lit × DataW H → Nat
  | (.string bytes, d) => bytes.length + uptoBulk d + 1
  | (_, d) => uptoBulk d + 1
 end
def uptoSmall : (H : Type) → List (DataW H) → Bool := fun _ ds => decide (uptoBulkAll ds ≤ 1048576)
def OpenSpec.upto (s : _root_.Go.ChangeSpec) : _root_.Go.OpenSpec := { _root_.Go.OpenSpec.ofChange s with cond := some uptoSmall }

/-- 'pagemendlaw32.RepairOne', WHERE WHAT IT READS IS OF BULK AT MOST 1048576: true; the input reads as it did. -/
def repairOneUptoRow : OpenClaim := { program := "ytdbincbpjobdpaagreat", sum := "bd29d7f8a5382b2fba041f9dd80c8622a18cd8bc14bee016af92f623a5c2cf71", func := "pagemend/pagemendlaw32.RepairOne", spec := "repairOne", inPlace := ["internal/abi.NoEscape", "internal/bytealg.MakeNoZero"], unfollowed := true, recurses := true, apart := false, narrowed := true }
def RepairOneUptoSaid : Prop := repairOneUptoRow.holds Tryz.pinned (OpenSpec.upto repairOneSpec)

/-- 'pagemendlaw40.ProvenanceSound', WHERE WHAT IT READS IS OF BULK AT MOST 1048576: true; the input reads as it did. -/
def provenanceSoundUptoRow : OpenClaim := { program := "ytdbincbpjobdpaagreat", sum := "bd29d7f8a5382b2fba041f9dd80c8622a18cd8bc14bee016af92f623a5c2cf71", func := "pagemend/pagemendlaw40.ProvenanceSound", spec := "provenanceSound", inPlace := ["internal/abi.NoEscape", "internal/bytealg.MakeNoZero"], unfollowed := true, recurses := true, apart := false, narrowed := true }
def ProvenanceSoundUptoSaid : Prop := provenanceSoundUptoRow.holds Tryz.pinned (OpenSpec.upto provenanceSoundSpec)

/-- 'pagemendlaw40.ProvenanceRebuilds', WHERE WHAT IT READS IS OF BULK AT MOST 1048576: true; the input reads as it did. -/
def provenanceRebuildsUptoRow : OpenClaim := { program := "ytdbincbpjobdpaagreat", sum := "bd29d7f8a5382b2fba041f9dd80c8622a18cd8bc14bee016af92f623a5c2cf71", func := "pagemend/pagemendlaw40.ProvenanceRebuilds", spec := "provenanceRebuilds", inPlace := ["internal/abi.NoEscape", "internal/bytealg.MakeNoZero"], unfollowed := true, recurses := true, apart := false, narrowed := true }
def ProvenanceRebuildsUptoSaid : Prop := provenanceRebuildsUptoRow.holds Tryz.pinned (OpenSpec.upto provenanceRebuildsSpec)

/-- 'pagemendlaw40.ProvenanceStays', WHERE WHAT IT READS IS OF BULK AT MOST 1048576: true; the input reads as it did. -/
def provenanceStaysUptoRow : OpenClaim := { program := "ytdbincbpjobdpaagreat", sum := "bd29d7f8a5382b2fba041f9dd80c8622a18cd8bc14bee016af92f623a5c2cf71", func := "pagemend/pagemendlaw40.ProvenanceStays", spec := "provenanceStays", inPlace := ["internal/abi.NoEscape", "internal/bytealg.MakeNoZero"], unfollowed := true, recurses := true, apart := false, narrowed := true }
def ProvenanceStaysUptoSaid : Prop := provenanceStaysUptoRow.holds Tryz.pinned (OpenSpec.upto provenanceStaysSpec)

/-- 'pagemendlaw40.ProvenanceLeast', WHERE WHAT IT READS IS OF BULK AT MOST 1048576: true; the input reads as it did. -/
def provenanceLeastUptoRow : OpenClaim := { program := "ytdbincbpjobdpaagreat", sum := "bd29d7f8a5382b2fba041f9dd80c8622a18cd8bc14bee016af92f623a5c2cf71", func := "pagemend/pagemendlaw40.ProvenanceLeast", spec := "provenanceLeast", inPlace := ["internal/abi.NoEscape", "internal/bytealg.MakeNoZero"], unfollowed := true, recurses := true, apart := false, narrowed := true }
def ProvenanceLeastUptoSaid : Prop := provenanceLeastUptoRow.holds Tryz.pinned (OpenSpec.upto provenanceLeastSpec)

end Rows
end Go.Proofs.YtdbincbpjobdpaaGreat
