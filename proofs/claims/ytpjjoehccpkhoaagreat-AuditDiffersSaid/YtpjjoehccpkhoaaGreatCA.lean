/- The sanity check of chapter 43, evaluated. -/
import Derived.Test.YtpjjoehccpkhoaaGreatCK
namespace Go.Proofs.YtpjjoehccpkhoaaGreat
open Go Go.Ab
set_option maxRecDepth 100000

theorem awake_ok : ACalls Tryz.prog 4 [] [] (exactly (.bool true) []) :=
  callE_sound (memo_ok allkn5 sums1_ok) 400 4 [] [] _ _ (by kernel_rfl)

end Go.Proofs.YtpjjoehccpkhoaaGreat
