/-
  No cell of these rows narrows 'for every input' (looked for: loops, veiled, ifaces, maps, wideKeys, modest, calm, conditions, laid).
  DERIVED. THE GIVEN ROWS OF THIS SEAT. 4 by the template 'for every input the law returns true; each argument reads behind the call as it read before'; 0 by the template 'total and deterministic' (their statements: YtacnadmajkjfbaaGreatTotals.lean).
  GIVEN WITH THE SEED: the statements are not yours to turn. If you find one false, say at which input.
  Laid BY PROGRAM, IN A SANDBOX (cutbox-rows.mjs): the forced cells as the released guide's own fill.sh prints them over the translation ddd5094e060045e9… (all of the seat's roots in one cut). By AI agents, Wed Nov 11 2026. No macro, syntax, notation, axiom, sorry.
-/
import Derived.Test.YtacnadmajkjfbaaGreatChecked
import GoSem.Claim
import GoSem.ClaimJoined
import GoSem.ClaimMapViews
import Derived.JoinedTies
import Derived.KernelRfl
namespace Go.Proofs.YtacnadmajkjfbaaGreat
/- THE CELL 'sum', in the pinned program and in every row, IS THE sha256 OF THE DUMP (.gsa) THAT YtacnadmajkjfbaaGreatProg.lean LOADS. Nothing in Lean hashes anything: it is a label: what it is worth is what the hold of that sum in a sandbox is worth. -/
noncomputable def Tryz.pinned : Pinned := { name := "ytacnadmajkjfbaagreat", sum := "ddd5094e060045e99df2b120d30541d7b6b6e9f9ec409635c00433c799229946", checked := Tryz.checked }
namespace Rows
def none {H : Type} : Left H := { results := [], args := [] }

/-- 'pagemendlaw27.HistoryIsLog': WHATEVER THE INPUT: true; the input reads as it did. -/
def historyIsLogSpec : ChangeSpec := { name := "historyIsLog", fn := fun _ => fun
  | [d1, d2, d3] => { results := [.lit (.bool true)], args := [d1, d2, d3] }
  | _ => none }
def historyIsLogRow : OpenClaim := { program := "ytacnadmajkjfbaagreat", sum := "ddd5094e060045e99df2b120d30541d7b6b6e9f9ec409635c00433c799229946", func := "pagemend/pagemendlaw27.HistoryIsLog", spec := "historyIsLog", unfollowed := true, recurses := true, apart := false }
def HistoryIsLogSaid : Prop := historyIsLogRow.holds Tryz.pinned (OpenSpec.ofChange historyIsLogSpec)

/-- ITS FALSE NEIGHBOUR: 'it returns false'. Refute it at one input. -/
def historyIsLogWrong : ChangeSpec := { name := "historyIsLog", fn := fun _ => fun
  | [d1, d2, d3] => { results := [.lit (.bool false)], args := [d1, d2, d3] }
  | _ => none }
def HistoryIsLogWrongFalsely : Prop := historyIsLogRow.holds Tryz.pinned (OpenSpec.ofChange historyIsLogWrong)

/-- 'pagemendlaw27.HistoryMerged': WHATEVER THE INPUT: true; the input reads as it did. -/
def historyMergedSpec : ChangeSpec := { name := "historyMerged", fn := fun _ => fun
  | [d1, d2] => { results := [.lit (.bool true)], args := [d1, d2] }
  | _ => none }
def historyMergedRow : OpenClaim := { program := "ytacnadmajkjfbaagreat", sum := "ddd5094e060045e99df2b120d30541d7b6b6e9f9ec409635c00433c799229946", func := "pagemend/pagemendlaw27.HistoryMerged", spec := "historyMerged", unfollowed := true, recurses := true, apart := false }
def HistoryMergedSaid : Prop := historyMergedRow.holds Tryz.pinned (OpenSpec.ofChange historyMergedSpec)

/-- ITS FALSE NEIGHBOUR: 'it returns false'. Refute it at one input. -/
def historyMergedWrong : ChangeSpec := { name := "historyMerged", fn := fun _ => fun
  | [d1, d2] => { results := [.lit (.bool false)], args := [d1, d2] }
  | _ => none }
def HistoryMergedWrongFalsely : Prop := historyMergedRow.holds Tryz.pinned (OpenSpec.ofChange historyMergedWrong)

/-- 'pagemendlaw27.HistoryParts': WHATEVER THE INPUT: true; the input reads as it did. -/
def historyPartsSpec : ChangeSpec := { name := "historyParts", fn := fun _ => fun
  | [d1, d2, d3, d4] => { results := [.lit (.bool true)], args := [d1, d2, d3, d4] }
  | _ => none }
def historyPartsRow : OpenClaim := { program := "ytacnadmajkjfbaagreat", sum := "ddd5094e060045e99df2b120d30541d7b6b6e9f9ec409635c00433c799229946", func := "pagemend/pagemendlaw27.HistoryParts", spec := "historyParts", unfollowed := true, recurses := true, apart := false }
def HistoryPartsSaid : Prop := historyPartsRow.holds Tryz.pinned (OpenSpec.ofChange historyPartsSpec)

/-- ITS FALSE NEIGHBOUR: 'it returns false'. Refute it at one input. -/
def historyPartsWrong : ChangeSpec := { name := "historyParts", fn := fun _ => fun
  | [d1, d2, d3, d4] => { results := [.lit (.bool false)], args := [d1, d2, d3, d4] }
  | _ => none }
def HistoryPartsWrongFalsely : Prop := historyPartsRow.holds Tryz.pinned (OpenSpec.ofChange historyPartsWrong)

/-- 'pagemendlaw27.HistoryUses': WHATEVER THE INPUT: true; the input reads as it did. -/
def historyUsesSpec : ChangeSpec := { name := "historyUses", fn := fun _ => fun
  | [d1, d2, d3] => { results := [.lit (.bool true)], args := [d1, d2, d3] }
  | _ => none }
def historyUsesRow : OpenClaim := { program := "ytacnadmajkjfbaagreat", sum := "ddd5094e060045e99df2b120d30541d7b6b6e9f9ec409635c00433c799229946", func := "pagemend/pagemendlaw27.HistoryUses", spec := "historyUses", unfollowed := true, recurses := true, apart := false }
def HistoryUsesSaid : Prop := historyUsesRow.holds Tryz.pinned (OpenSpec.ofChange historyUsesSpec)

/-- ITS FALSE NEIGHBOUR: 'it returns false'. Refute it at one input. -/
def historyUsesWrong : ChangeSpec := { name := "historyUses", fn := fun _ => fun
  | [d1, d2, d3] => { results := [.lit (.bool false)], args := [d1, d2, d3] }
  | _ => none }
def HistoryUsesWrongFalsely : Prop := historyUsesRow.holds Tryz.pinned (OpenSpec.ofChange historyUsesWrong)

/- THE SECOND FORM. 'bulk': how many values and letters a reading holds, each counted each time it is reached (what is shared counts as often as it is met; a slice's spare places count too). A statement '..UptoSaid' is the law's where the arguments, and the package variables that the reading takes, are together of bulk at most 1048576: NARROWER than '..Said'. Prove '..Said' where nothing that the law and all that it calls make is longer than what came in: it says more and counts as full. Else prove '..UptoSaid'. A law counts once. -/
mutual
def uptoBulk {H : Type} : DataW H → Nat
  | .lit (.string bytes) => bytes.length + 1
  | .lit _ => 1
  | .nil => 1
  | .ptr d => uptoBulk d + 1
  | .slice elems spare => uptoBulkAll elems + uptoBulkAll spare + 1
  | .agg parts => uptoBulkAll parts + 1
  | .iface _ d => uptoBulk d + 1
  | .map entries => uptoBulkEntries entries + 1
  | .held _ => 1
def uptoBulkAll {H : Type} : List (DataW H) → Nat
  | [] => 0
  | d :: r => uptoBulk d + uptoBulkAll r
def uptoBulkEntries {H : Type} : List (Lit × DataW H) → Nat
  | [] => 0
  | x :: r => uptoBulkEntry x + uptoBulkEntries r
def uptoBulkEntry {H : Type} : Lit × DataW H → Nat
  | (.string bytes, d) => bytes.length + uptoBulk d + 1
  | (_, d) => uptoBulk d + 1
 end
def uptoSmall : (H : Type) → List (DataW H) → Bool := fun _ ds => decide (uptoBulkAll ds ≤ 1048576)
def OpenSpec.upto (s : _root_.Go.ChangeSpec) : _root_.Go.OpenSpec := { _root_.Go.OpenSpec.ofChange s with cond := some uptoSmall }

/-- 'pagemendlaw27.HistoryIsLog', WHERE WHAT IT READS IS OF BULK AT MOST 1048576: true; the input reads as it did. -/
def historyIsLogUptoRow : OpenClaim := { program := "ytacnadmajkjfbaagreat", sum := "ddd5094e060045e99df2b120d30541d7b6b6e9f9ec409635c00433c799229946", func := "pagemend/pagemendlaw27.HistoryIsLog", spec := "historyIsLog", unfollowed := true, recurses := true, apart := false, narrowed := true }
def HistoryIsLogUptoSaid : Prop := historyIsLogUptoRow.holds Tryz.pinned (OpenSpec.upto historyIsLogSpec)

/-- 'pagemendlaw27.HistoryMerged', WHERE WHAT IT READS IS OF BULK AT MOST 1048576: true; the input reads as it did. -/
def historyMergedUptoRow : OpenClaim := { program := "ytacnadmajkjfbaagreat", sum := "ddd5094e060045e99df2b120d30541d7b6b6e9f9ec409635c00433c799229946", func := "pagemend/pagemendlaw27.HistoryMerged", spec := "historyMerged", unfollowed := true, recurses := true, apart := false, narrowed := true }
def HistoryMergedUptoSaid : Prop := historyMergedUptoRow.holds Tryz.pinned (OpenSpec.upto historyMergedSpec)

/-- 'pagemendlaw27.HistoryParts', WHERE WHAT IT READS IS OF BULK AT MOST 1048576: true; the input reads as it did. -/
def historyPartsUptoRow : OpenClaim := { program := "ytacnadmajkjfbaagreat", sum := "ddd5094e060045e99df2b120d30541d7b6b6e9f9ec409635c00433c799229946", func := "pagemend/pagemendlaw27.HistoryParts", spec := "historyParts", unfollowed := true, recurses := true, apart := false, narrowed := true }
def HistoryPartsUptoSaid : Prop := historyPartsUptoRow.holds Tryz.pinned (OpenSpec.upto historyPartsSpec)

/-- 'pagemendlaw27.HistoryUses', WHERE WHAT IT READS IS OF BULK AT MOST 1048576: true; the input reads as it did. -/
def historyUsesUptoRow : OpenClaim := { program := "ytacnadmajkjfbaagreat", sum := "ddd5094e060045e99df2b120d30541d7b6b6e9f9ec409635c00433c799229946", func := "pagemend/pagemendlaw27.HistoryUses", spec := "historyUses", unfollowed := true, recurses := true, apart := false, narrowed := true }
def HistoryUsesUptoSaid : Prop := historyUsesUptoRow.holds Tryz.pinned (OpenSpec.upto historyUsesSpec)

end Rows
end Go.Proofs.YtacnadmajkjfbaaGreat
