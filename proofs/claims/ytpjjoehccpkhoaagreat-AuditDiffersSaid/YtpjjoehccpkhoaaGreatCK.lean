/- Printed by a program (wip/tools/known.py): calls of constants, evaluated. -/
import Derived.Test.YtpjjoehccpkhoaaGreatCS
import Derived.KernelRfl
namespace Go.Proofs.YtpjjoehccpkhoaaGreat
open Go Go.Ab
set_option maxRecDepth 100000

def kn0 : Known := ⟨10, [(.int .i64 2), (.int .i64 1), (.int .i64 0), (.sl 0 0 1 0 1)], [(.live 0 [(.int .i64 0)])], (.tup [(.agg [(.int .i64 2), (.int .i64 1), (.int .i64 1), .nils, (.int .i64 0), (.int .i64 1), .nils, (.int .i64 0), .nils, .nils, .nils, (.sl 3 0 3 0 2), .nils, (.sl 2 1 1 0 2), (.int .i64 0), .nils, (.bool false), .nils, (.sl 1 0 1 0 1), (.int .i64 2), .nils, (.int .i64 1), (.int .i64 1), .nils, (.int .i64 0), (.int .i64 0), .nils, (.int .i64 0), (.bool false), (.bool false), .nils, .nils, (.int .i64 2), (.int .i64 0), .nils, .nils, (.int .i64 0), .nils, (.int .i64 1), (.int .i64 1), (.int .i64 1), (.int .i64 1), (.int .i64 1), (.int .i64 1), (.int .i64 1), (.int .i64 1), (.int .i64 1), (.int .i64 0), .nils, (.int .i64 0)]), (.int .i64 0)]), [(.live 0 [(.int .i64 0)]), (.live 0 [(.int .i64 0)]), (.live 1 [(.str (List.replicate 256 0)), (.str (List.replicate 256 0))]), (.live 0 [(.int .i64 0), (.int .i64 0), (.int .i64 0), (.int .i64 0), (.int .i64 0), (.int .i64 0)])]⟩

def kn1 : Known := ⟨149, [(.agg [(.int .i64 0), (.int .i64 0), (.bool false), (.str []), (.bool false), (.str []), (.bool false), (.str []), (.bool false), (.str []), (.bool false), (.str []), (.bool false), (.str []), (.bool false), (.str []), (.bool false), (.str []), (.bool false), (.str []), (.bool false), (.str []), (.bool false), (.str []), (.bool false), (.str []), (.bool false), (.str []), (.bool false), (.str []), (.bool false), (.str []), (.bool false), (.str [])])], [], (.tup [(.str ([0, 0, 0, 0, 0, 0, 0, 0, 0, 0, 0, 0, 255, 0, 0, 0, 0, 0, 0, 0, 0, 0, 0, 0, 0, 255, 0, 0, 0, 0, 0, 0, 0, 0, 0, 0, 0, 0, 255, 0, 0, 0, 0, 0, 0, 0, 0, 0, 0, 0, 0, 255, 0, 0, 0, 0, 0, 0, 0, 0, 0, 0, 0, 0, 255, 0, 0, 0, 0, 0, 0, 0, 0, 0, 0, 0, 0, 255, 0, 0, 0, 0, 0, 0, 0, 0, 0, 0, 0, 0, 255, 0, 0, 0, 0, 0, 0, 0, 0, 0, 0, 0, 0, 255, 0, 0, 0, 0, 0, 0, 0, 0, 0, 0, 0, 0, 255, 0, 0, 0, 0, 0, 0, 0, 0, 0, 0, 0, 0, 255, 0, 0, 0, 0, 0, 0, 0, 0, 0, 0, 0, 0, 255, 0, 0, 0, 0, 0, 0, 0, 0, 0, 0, 0, 0, 255, 0, 0, 0, 0, 0, 0, 0, 0, 0, 0, 0, 0, 255, 0, 0, 0, 0, 0, 0, 0, 0, 0, 0, 0, 0, 255, 0, 0, 0, 0, 0, 0, 0, 0, 0, 0, 0, 0, 255, 0, 0, 0, 0, 0, 0, 0, 0, 0, 0, 0, 0, 255] ++ List.replicate 36 0 ++ [125, 88, 246, 234, 0, 0, 0, 0, 0, 0, 0, 0])), (.int .i64 0)]), []⟩

def kn2 : Known := ⟨46, [(.agg [(.int .i64 2), (.int .i64 1), (.int .i64 1), .nils, (.int .i64 0), (.int .i64 1), .nils, (.int .i64 0), .nils, .nils, .nils, (.sl 0 0 3 0 2), .nils, (.sl 1 1 1 0 2), (.int .i64 0), .nils, (.bool false), .nils, (.sl 2 0 1 0 1), (.int .i64 2), .nils, (.int .i64 1), (.int .i64 1), .nils, (.int .i64 0), (.int .i64 0), .nils, (.int .i64 0), (.bool false), (.bool false), .nils, .nils, (.int .i64 2), (.int .i64 0), .nils, .nils, (.int .i64 0), .nils, (.int .i64 1), (.int .i64 1), (.int .i64 1), (.int .i64 1), (.int .i64 1), (.int .i64 1), (.int .i64 1), (.int .i64 1), (.int .i64 1), (.int .i64 0), .nils, (.int .i64 0)]), (.int .i64 0)], [(.live 0 [(.int .i64 0), (.int .i64 0), (.int .i64 0), (.int .i64 0), (.int .i64 0), (.int .i64 0)]), (.live 1 [(.str (List.replicate 256 0)), (.str (List.replicate 256 0))]), (.live 0 [(.int .i64 0)])], (.tup [(.agg [(.int .i64 0), (.int .i64 0), (.bool false), (.str []), (.bool false), (.str []), (.bool false), (.str []), (.bool false), (.str []), (.bool false), (.str []), (.bool false), (.str []), (.bool false), (.str []), (.bool false), (.str []), (.bool false), (.str []), (.bool false), (.str []), (.bool false), (.str []), (.bool false), (.str []), (.bool false), (.str []), (.bool false), (.str []), (.bool false), (.str []), (.bool false), (.str [])]), (.int .i64 0)]), [(.live 0 [(.int .i64 0), (.int .i64 0), (.int .i64 0), (.int .i64 0), (.int .i64 0), (.int .i64 0)]), (.live 1 [(.str (List.replicate 256 0)), (.str (List.replicate 256 0))]), (.live 0 [(.int .i64 0)])]⟩

def kn3 : Known := ⟨149, [(.agg [(.int .i64 1), (.int .i64 0), (.bool false), (.str []), (.bool false), (.str []), (.bool false), (.str []), (.bool false), (.str []), (.bool false), (.str []), (.bool false), (.str []), (.bool false), (.str []), (.bool false), (.str []), (.bool false), (.str []), (.bool false), (.str []), (.bool false), (.str []), (.bool false), (.str []), (.bool false), (.str []), (.bool false), (.str []), (.bool false), (.str []), (.bool false), (.str [])])], [], (.tup [(.str ([0, 0, 0, 0, 0, 0, 0, 0, 1, 0, 0, 0, 255, 0, 0, 0, 0, 0, 0, 0, 0, 0, 0, 0, 0, 255, 0, 0, 0, 0, 0, 0, 0, 0, 0, 0, 0, 0, 255, 0, 0, 0, 0, 0, 0, 0, 0, 0, 0, 0, 0, 255, 0, 0, 0, 0, 0, 0, 0, 0, 0, 0, 0, 0, 255, 0, 0, 0, 0, 0, 0, 0, 0, 0, 0, 0, 0, 255, 0, 0, 0, 0, 0, 0, 0, 0, 0, 0, 0, 0, 255, 0, 0, 0, 0, 0, 0, 0, 0, 0, 0, 0, 0, 255, 0, 0, 0, 0, 0, 0, 0, 0, 0, 0, 0, 0, 255, 0, 0, 0, 0, 0, 0, 0, 0, 0, 0, 0, 0, 255, 0, 0, 0, 0, 0, 0, 0, 0, 0, 0, 0, 0, 255, 0, 0, 0, 0, 0, 0, 0, 0, 0, 0, 0, 0, 255, 0, 0, 0, 0, 0, 0, 0, 0, 0, 0, 0, 0, 255, 0, 0, 0, 0, 0, 0, 0, 0, 0, 0, 0, 0, 255, 0, 0, 0, 0, 0, 0, 0, 0, 0, 0, 0, 0, 255, 0, 0, 0, 0, 0, 0, 0, 0, 0, 0, 0, 0, 255] ++ List.replicate 36 0 ++ [177, 157, 123, 238, 0, 0, 0, 0, 0, 0, 0, 0])), (.int .i64 0)]), []⟩

def kn4 : Known := ⟨46, [(.agg [(.int .i64 2), (.int .i64 1), (.int .i64 1), .nils, (.int .i64 0), (.int .i64 1), .nils, (.int .i64 0), .nils, .nils, .nils, (.sl 0 0 3 0 2), .nils, (.sl 1 1 1 0 2), (.int .i64 0), .nils, (.bool false), .nils, (.sl 2 0 1 0 1), (.int .i64 2), .nils, (.int .i64 1), (.int .i64 1), .nils, (.int .i64 0), (.int .i64 0), .nils, (.int .i64 0), (.bool false), (.bool false), .nils, .nils, (.int .i64 2), (.int .i64 0), .nils, .nils, (.int .i64 0), .nils, (.int .i64 1), (.int .i64 1), (.int .i64 1), (.int .i64 1), (.int .i64 1), (.int .i64 1), (.int .i64 1), (.int .i64 1), (.int .i64 1), (.int .i64 0), .nils, (.int .i64 0)]), (.int .i64 1)], [(.live 0 [(.int .i64 0), (.int .i64 0), (.int .i64 0), (.int .i64 0), (.int .i64 0), (.int .i64 0)]), (.live 1 [(.str (List.replicate 256 0)), (.str (List.replicate 256 0))]), (.live 0 [(.int .i64 0)])], (.tup [(.agg [(.int .i64 1), (.int .i64 0), (.bool false), (.str []), (.bool false), (.str []), (.bool false), (.str []), (.bool false), (.str []), (.bool false), (.str []), (.bool false), (.str []), (.bool false), (.str []), (.bool false), (.str []), (.bool false), (.str []), (.bool false), (.str []), (.bool false), (.str []), (.bool false), (.str []), (.bool false), (.str []), (.bool false), (.str []), (.bool false), (.str []), (.bool false), (.str [])]), (.int .i64 0)]), [(.live 0 [(.int .i64 0), (.int .i64 0), (.int .i64 0), (.int .i64 0), (.int .i64 0), (.int .i64 0)]), (.live 1 [(.str (List.replicate 256 0)), (.str (List.replicate 256 0))]), (.live 0 [(.int .i64 0)])]⟩

theorem allkn0 : ∀ k ∈ ([] : List Known), k.Ok Tryz.prog := fun _ h => by cases h

theorem kn0_ok : kn0.Ok Tryz.prog := known_of (memo_ok allkn0 sums1_ok) 400 kn0 (by kernel_rfl)

theorem allkn1 : ∀ k ∈ [kn0], k.Ok Tryz.prog := memo_cons kn0_ok allkn0

theorem kn1_ok : kn1.Ok Tryz.prog := known_of (memo_ok allkn1 sums1_ok) 400 kn1 (by kernel_rfl)

theorem allkn2 : ∀ k ∈ [kn1, kn0], k.Ok Tryz.prog := memo_cons kn1_ok allkn1

theorem kn2_ok : kn2.Ok Tryz.prog := known_of (memo_ok allkn2 sums1_ok) 400 kn2 (by kernel_rfl)

theorem allkn3 : ∀ k ∈ [kn2, kn1, kn0], k.Ok Tryz.prog := memo_cons kn2_ok allkn2

theorem kn3_ok : kn3.Ok Tryz.prog := known_of (memo_ok allkn3 sums1_ok) 400 kn3 (by kernel_rfl)

theorem allkn4 : ∀ k ∈ [kn3, kn2, kn1, kn0], k.Ok Tryz.prog := memo_cons kn3_ok allkn3

theorem kn4_ok : kn4.Ok Tryz.prog := known_of (memo_ok allkn4 sums1_ok) 400 kn4 (by kernel_rfl)

theorem allkn5 : ∀ k ∈ [kn4, kn3, kn2, kn1, kn0], k.Ok Tryz.prog := memo_cons kn4_ok allkn4

end Go.Proofs.YtpjjoehccpkhoaaGreat
