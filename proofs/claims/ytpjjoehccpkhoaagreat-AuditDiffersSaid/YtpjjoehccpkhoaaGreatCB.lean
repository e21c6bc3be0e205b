/- codec.Sum is the CRC of its table. -/
import Derived.Test.YtpjjoehccpkhoaaGreatCD
import Derived.Test.YtpjjoehccpkhoaaGreatK3
import Derived.KernelRfl
namespace Go.Proofs.YtpjjoehccpkhoaaGreat
open Go Go.Ab
set_option maxRecDepth 100000

def crcTab : List Nat := [0x00000000, 0x105ec76f, 0x20bd8ede, 0x30e349b1, 0x417b1dbc, 0x5125dad3, 0x61c69362, 0x7198540d, 0x82f63b78, 0x92a8fc17, 0xa24bb5a6, 0xb21572c9, 0xc38d26c4, 0xd3d3e1ab, 0xe330a81a, 0xf36e6f75]

theorem nib0 (b : Arr 16 Int) : loopN (g_codec_remainders_l2_body 0 b) 6 (0, 0) = some 0 := by kernel_rfl
theorem nib1 (b : Arr 16 Int) : loopN (g_codec_remainders_l2_body 1 b) 6 (1, 0) = some 274646895 := by kernel_rfl
theorem nib2 (b : Arr 16 Int) : loopN (g_codec_remainders_l2_body 2 b) 6 (2, 0) = some 549293790 := by kernel_rfl
theorem nib3 (b : Arr 16 Int) : loopN (g_codec_remainders_l2_body 3 b) 6 (3, 0) = some 820201905 := by kernel_rfl
theorem nib4 (b : Arr 16 Int) : loopN (g_codec_remainders_l2_body 4 b) 6 (4, 0) = some 1098587580 := by kernel_rfl
theorem nib5 (b : Arr 16 Int) : loopN (g_codec_remainders_l2_body 5 b) 6 (5, 0) = some 1361435347 := by kernel_rfl
theorem nib6 (b : Arr 16 Int) : loopN (g_codec_remainders_l2_body 6 b) 6 (6, 0) = some 1640403810 := by kernel_rfl
theorem nib7 (b : Arr 16 Int) : loopN (g_codec_remainders_l2_body 7 b) 6 (7, 0) = some 1905808397 := by kernel_rfl
theorem nib8 (b : Arr 16 Int) : loopN (g_codec_remainders_l2_body 8 b) 6 (8, 0) = some 2197175160 := by kernel_rfl
theorem nib9 (b : Arr 16 Int) : loopN (g_codec_remainders_l2_body 9 b) 6 (9, 0) = some 2460548119 := by kernel_rfl
theorem nib10 (b : Arr 16 Int) : loopN (g_codec_remainders_l2_body 10 b) 6 (10, 0) = some 2722870694 := by kernel_rfl
theorem nib11 (b : Arr 16 Int) : loopN (g_codec_remainders_l2_body 11 b) 6 (11, 0) = some 2987750089 := by kernel_rfl
theorem nib12 (b : Arr 16 Int) : loopN (g_codec_remainders_l2_body 12 b) 6 (12, 0) = some 3280807620 := by kernel_rfl
theorem nib13 (b : Arr 16 Int) : loopN (g_codec_remainders_l2_body 13 b) 6 (13, 0) = some 3553878443 := by kernel_rfl
theorem nib14 (b : Arr 16 Int) : loopN (g_codec_remainders_l2_body 14 b) 6 (14, 0) = some 3811616794 := by kernel_rfl
theorem nib15 (b : Arr 16 Int) : loopN (g_codec_remainders_l2_body 15 b) 6 (15, 0) = some 4084100981 := by kernel_rfl

theorem nib_ok (k : Nat) (hk : k < 16) (b : Arr 16 Int) : loopN (g_codec_remainders_l2_body (k : Int) b) 6 ((k : Int), 0) = some ((crcTab.getD k 0 : Nat) : Int) :=
  match k, hk with
  | 0, _ => nib0 b
  | 1, _ => nib1 b
  | 2, _ => nib2 b
  | 3, _ => nib3 b
  | 4, _ => nib4 b
  | 5, _ => nib5 b
  | 6, _ => nib6 b
  | 7, _ => nib7 b
  | 8, _ => nib8 b
  | 9, _ => nib9 b
  | 10, _ => nib10 b
  | 11, _ => nib11 b
  | 12, _ => nib12 b
  | 13, _ => nib13 b
  | 14, _ => nib14 b
  | 15, _ => nib15 b
  | k + 16, h => by omega

def tabF (k : Nat) (b : Arr 16 Int) : Arr 16 Int := fun j => if j.val < k then ((crcTab.getD j.val 0 : Nat) : Int) else b j

theorem rem_go (b : Arr 16 Int) : ∀ (m k : Nat), k + m = 16 → loopO g_codec_remainders_l1_body ((k : Int), tabF k b) = some (tabF 16 b)
  | 0, k, h => by
    have : k = 16 := by omega
    subst this
    rw [loopO_eq]
    simp [g_codec_remainders_l1_body]
  | m + 1, k, h => by
    have hk : k < 16 := by omega
    rw [loopO_eq]
    have h1 : loopO (g_codec_remainders_l2_body (k : Int) (tabF k b)) (IntKind.wrap .u32 (k : Int), 0) = some ((crcTab.getD k 0 : Nat) : Int) := by
      rw [show IntKind.wrap .u32 (k : Int) = (k : Int) by rw [show IntKind.wrap .u32 (k : Int) = (k : Int) % 4294967296 from rfl]; omega]
      exact loopO_iff.2 ⟨6, nib_ok k hk _⟩
    have h2 : IntKind.i64.wrap ((k : Int) + 1) = ((k + 1 : Nat) : Int) := by rw [IntKind.wrap_i64]; omega
    have h3 : g_codec_remainders_l1_body ((k : Int), tabF k b) = some (.next (((k + 1 : Nat) : Int), tabF (k + 1) b)) := by
      unfold g_codec_remainders_l1_body
      simp only [h1, Option.bind_some, h2]
      rw [show decide ((k : Int) < 16) = true by simp; omega]
      simp only [cond_true]
      have h4 : aget (tabF k b) (k : Int) = some (tabF k b ⟨k, hk⟩) := by
        unfold aget
        simp [hk]
      rw [h4]
      simp only [Option.bind_some]
      congr 3
      funext j
      simp only [aset, tabF]
      by_cases hj : j.val = k
      · simp [hj]
      · have h5 : ¬ ((j.val : Int) = (k : Int)) := by omega
        rw [if_neg h5]
        by_cases h6 : j.val < k
        · rw [if_pos h6, if_pos (by omega)]
        · rw [if_neg h6, if_neg (by omega)]
    rw [h3]
    exact rem_go b m (k + 1) (by omega)

theorem bv_of (a : Nat) (ha : a < 4294967296) : (BitVec.ofInt 32 (a : Int)).toNat = a := by
  rw [BitVec.toNat_ofInt]
  omega
theorem bv_xor (a b : Nat) (ha : a < 4294967296) (hb : b < 4294967296) : (BitVec.ofInt 32 (a : Int) ^^^ BitVec.ofInt 32 (b : Int)).toNat = Nat.xor a b := by
  rw [BitVec.toNat_xor, bv_of a ha, bv_of b hb]
  rfl
theorem xor_lt (a b : Nat) (ha : a < 4294967296) (hb : b < 4294967296) : Nat.xor a b < 4294967296 := Nat.xor_lt_two_pow (n := 32) ha hb
theorem bv_and15 (a : Nat) (ha : a < 4294967296) : (BitVec.ofInt 32 (a : Int) &&& BitVec.ofInt 32 15).toNat = a % 16 := by
  rw [BitVec.toNat_and, bv_of a ha]
  exact Nat.and_two_pow_sub_one_eq_mod a 4
theorem u32_id (a : Nat) (ha : a < 4294967296) : IntKind.wrap .u32 (a : Int) = (a : Int) := by
  rw [show IntKind.wrap .u32 (a : Int) = (a : Int) % 4294967296 from rfl]; omega
theorem fdiv16 (a : Nat) : Int.fdiv (a : Int) (2 ^ 4) = ((a / 16 : Nat) : Int) := by
  rw [Int.fdiv_eq_ediv_of_nonneg _ (by decide)]
  omega

theorem tab_lt (i : Nat) : crcTab.getD i 0 < 4294967296 := by
  rcases Nat.lt_or_ge i 16 with h | h
  · have : ∀ j : Fin 16, crcTab.getD j.val 0 < 4294967296 := by decide
    exact this ⟨i, h⟩
  · rw [List.getD_eq_getElem?_getD, List.getElem?_eq_none (by simpa [crcTab] using h)]
    decide

def crcNib (r : Nat) : Nat := Nat.xor (r / 16) (crcTab.getD (r % 16) 0)
def crcStep (r b : Nat) : Nat := crcNib (crcNib (Nat.xor r b))

theorem crcNib_lt (r : Nat) (hr : r < 4294967296) : crcNib r < 4294967296 := xor_lt _ _ (by omega) (tab_lt _)

def crcGo : List UInt8 → Nat → Nat
  | [], 0 => 0
  | [], n + 1 => n + 1
  | b :: s, 0 => crcGo s (crcStep 0 b.toNat)
  | b :: s, n + 1 => crcGo s (crcStep (n + 1) b.toNat)

theorem crcGo_nil (r : Nat) : crcGo [] r = r := by cases r <;> rfl
theorem crcGo_cons (b : UInt8) (s : List UInt8) (r : Nat) : crcGo (b :: s) r = crcGo s (crcStep r b.toNat) := by cases r <;> rfl

theorem aget_tab (b : Arr 16 Int) (r : Nat) : aget (tabF 16 b) ((r % 16 : Nat) : Int) = some ((crcTab.getD (r % 16) 0 : Nat) : Int) := by
  have h : r % 16 < 16 := Nat.mod_lt _ (by decide)
  unfold aget
  rw [dif_pos ⟨by omega, by omega⟩]
  simp only [tabF, Int.toNat_natCast]
  rw [if_pos h]

theorem crc_next (s : Str) (b : Arr 16 Int) (r k : Nat) (hr : r < 4294967296) (hk : k < s.length) (hs : s.length < 1099511627776) :
    g_codec_Sum_l1_body s (tabF 16 b) ((r : Int), (k : Int)) = some (.next (((crcStep r (s[k]).toNat : Nat) : Int), ((k + 1 : Nat) : Int))) := by
  have hb : (s[k]).toNat < 256 := (s[k]).toNat_lt
  have h1 : six s (k : Int) = some (((s[k]).toNat : Nat) : Int) := by
    unfold six
    rw [if_pos (by omega)]
    simp [hk]
  have hx : Nat.xor r (s[k]).toNat < 4294967296 := xor_lt _ _ hr (by omega)
  have hn := crcNib_lt _ hx
  unfold g_codec_Sum_l1_body
  simp only [h1, Option.bind_some]
  rw [show decide ((k : Int) < (s.length : Int)) = true by simp; omega]
  simp only [cond_true]
  rw [u32_id (s[k]).toNat (by omega), bv_xor r _ hr (by omega), u32_id _ hx, bv_and15 _ hx, u32_id _ (by omega), aget_tab]
  simp only [Option.bind_some]
  rw [fdiv16, bv_xor _ _ (by omega) (tab_lt _)]
  have e1 : Nat.xor (Nat.xor r (s[k]).toNat / 16) (crcTab.getD (Nat.xor r (s[k]).toNat % 16) 0) = crcNib (Nat.xor r (s[k]).toNat) := rfl
  rw [e1, u32_id _ hn, bv_and15 _ hn, u32_id _ (by omega), aget_tab]
  simp only [Option.bind_some]
  rw [fdiv16, bv_xor _ _ (by omega) (tab_lt _)]
  have e2 : Nat.xor (crcNib (Nat.xor r (s[k]).toNat) / 16) (crcTab.getD (crcNib (Nat.xor r (s[k]).toNat) % 16) 0) = crcStep r (s[k]).toNat := rfl
  rw [e2, u32_id (crcStep r (s[k]).toNat) (crcNib_lt _ hn), show IntKind.wrap .i64 ((k : Int) + 1) = ((k + 1 : Nat) : Int) by rw [IntKind.wrap_i64]; omega]

theorem crc_go (s : Str) (b : Arr 16 Int) (hs : s.length < 1099511627776) : ∀ (m k r : Nat), k + m = s.length → r < 4294967296 → loopO (g_codec_Sum_l1_body s (tabF 16 b)) ((r : Int), (k : Int)) = some ((crcGo (s.drop k) r : Nat) : Int) ∧ crcGo (s.drop k) r < 4294967296
  | 0, k, r, h, hr => by
    have : k = s.length := by omega
    subst this
    rw [loopO_eq, List.drop_length, crcGo_nil]
    simp [g_codec_Sum_l1_body, hr]
  | m + 1, k, r, h, hr => by
    have hk : k < s.length := by omega
    have ih := crc_go s b hs m (k + 1) (crcStep r (s[k]).toNat) (by omega) (crcNib_lt _ (crcNib_lt _ (xor_lt _ _ hr (by have := (s[k]).toNat_lt; omega))))
    rw [loopO_eq, crc_next s b r k hr hk hs, List.drop_eq_getElem_cons hk, crcGo_cons]
    exact ih

def crcN (s : List UInt8) : Nat := Nat.xor 4294967295 (crcGo s 4294967295)

theorem sum_eq (s : Str) (hs : s.length < 1099511627776) : g_codec_Sum s = some ((crcN s : Nat) : Int) := by
  have h0 : g_codec_remainders = some (tabF 16 (Arr.all 0)) := by
    unfold g_codec_remainders
    have : tabF 0 (Arr.all 0 : Arr 16 Int) = Arr.all 0 := by funext j; simp [tabF]
    have h := rem_go (Arr.all 0) 16 0 rfl
    rw [this] at h
    simp only [Int.natCast_zero] at h
    rw [h]
    rfl
  have h1 := crc_go s (Arr.all 0) hs s.length 0 4294967295 (by omega) (by decide)
  rw [List.drop_zero] at h1
  have h2 : loopO (g_codec_Sum_l1_body s (tabF 16 (Arr.all 0))) (4294967295, 0) = some ((crcGo s 4294967295 : Nat) : Int) := h1.1
  unfold g_codec_Sum
  rw [h0]
  simp only [Option.bind_some, h2]
  have h3 : (BitVec.ofInt 32 (4294967295 : Int) ^^^ BitVec.ofInt 32 ((crcGo s 4294967295 : Nat) : Int)).toNat = Nat.xor 4294967295 (crcGo s 4294967295) := bv_xor 4294967295 _ (by decide) h1.2
  rw [h3, u32_id _ (xor_lt _ _ (by decide) h1.2)]
  rfl

end Go.Proofs.YtpjjoehccpkhoaaGreat
