/- Sums for the evaluator at seat r2: strings.Builder's methods, page.Blank, codec.Sum. -/
import Derived.Test.YtpjjoehccpkhoaaGreatS
import Derived.Test.YtpjjoehccpkhoaaGreatCB
import Derived.Test.YtpjjoehccpkhoaaGreatCP
import Derived.Test.YtpjjoehccpkhoaaGreatK3
namespace Go.Proofs.YtpjjoehccpkhoaaGreat
open Go Go.Ab
set_option maxRecDepth 100000

def blankS : List UInt8 := List.replicate 256 0

theorem blank_ok : ACalls Tryz.prog 196 [] [] (exactly (.str blankS) []) :=
  callE_sound (bldSums_ok bx) 400 196 [] [] _ _ (by kernel_rfl)

theorem blank_at {H : AHeap} : ACalls Tryz.prog 196 [] H (exactly (.str blankS) (updH H [])) :=
  ACalls.frame [] blank_ok List.nodup_nil rfl rfl fr0 peN peN (eStr.pure blankS) raN (lN _)

def sBlank : Sum1
  | [], H => some (.str blankS, H)
  | _, _ => none

def sSum : Sum1
  | [.str s], H => if s.length < 1099511627776 then some (.int .u32 (crcN s), H) else none
  | _, _ => none

def sums1 : Sums := fun F => if F = 196 then some sBlank else if F = 179 then some sSum else bldSums 329 5 202 201 203 207 206 F

theorem sums1_ok : SumsOk Tryz.prog sums1 := by
  intro F f args H v H' hF hf
  unfold sums1 at hF
  split at hF
  · rename_i hFe
    subst hFe
    injection hF with hF
    subst hF
    unfold sBlank at hf
    split at hf
    · simp only [Option.some.injEq, Prod.mk.injEq] at hf
      obtain ⟨rfl, rfl⟩ := hf
      exact blank_at
    · cases hf
  · split at hF
    · rename_i hFe
      subst hFe
      injection hF with hF
      subst hF
      unfold sSum at hf
      split at hf
      · split at hf
        · rename_i hs
          simp only [Option.some.injEq, Prod.mk.injEq] at hf
          obtain ⟨rfl, rfl⟩ := hf
          exact g_codec_Sum_at (sum_eq _ hs)
        · cases hf
      · cases hf
    · exact bldSums_ok bx F f args H v H' hF hf

end Go.Proofs.YtpjjoehccpkhoaaGreat
