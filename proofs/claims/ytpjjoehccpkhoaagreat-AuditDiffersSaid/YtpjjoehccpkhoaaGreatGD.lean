/- Printed by a program (wip/gen): functions of data, as the code computes them -/
import Derived.Test.YtpjjoehccpkhoaaGreatK3
namespace Go.Proofs.YtpjjoehccpkhoaaGreat
open Go Go.Ab
set_option maxRecDepth 100000
set_option linter.unusedVariables false

structure pagemenddraw_Codes where
  l : (List Int)
  at_ : Int

def e_pagemenddraw_Codes : Encd pagemenddraw_Codes := ⟨2, fun x => .agg ((((eList (eInt .u8))).f x.l).cells ++ ((((eInt .i64)).f x.at_).cells ++ ([]))), by decide, fun x => (lenApp (eList (eInt .u8)) x.l (lenApp (eInt .i64) x.at_ (rfl : ([] : List AVal).length = 0))), fun x => (pureApp (eList (eInt .u8)) x.l (pureApp (eInt .i64) x.at_ plN))⟩

structure api_Cell where
  Set : Bool
  Data : Str

def e_api_Cell : Encd api_Cell := ⟨2, fun x => .agg (((eBool).f x.Set).cells ++ (((eStr).f x.Data).cells ++ ([]))), by decide, fun x => (lenApp eBool x.Set (lenApp eStr x.Data (rfl : ([] : List AVal).length = 0))), fun x => (pureApp eBool x.Set (pureApp eStr x.Data plN))⟩

structure api_Page where
  ID : Int
  LSN : Int
  Cells : (Arr 16 api_Cell)

def e_api_Page : Encd api_Page := ⟨34, fun x => .agg ((((eInt .i64)).f x.ID).cells ++ ((((eInt .i64)).f x.LSN).cells ++ ((((eArr 16 e_api_Cell)).f x.Cells).cells ++ ([])))), by decide, fun x => (lenApp (eInt .i64) x.ID (lenApp (eInt .i64) x.LSN (lenApp (eArr 16 e_api_Cell) x.Cells (rfl : ([] : List AVal).length = 0)))), fun x => (pureApp (eInt .i64) x.ID (pureApp (eInt .i64) x.LSN (pureApp (eArr 16 e_api_Cell) x.Cells plN)))⟩

structure api_Lock where
  Page : Int
  Slot : Int

def e_api_Lock : Encd api_Lock := ⟨2, fun x => .agg ((((eInt .i64)).f x.Page).cells ++ ((((eInt .i64)).f x.Slot).cells ++ ([]))), by decide, fun x => (lenApp (eInt .i64) x.Page (lenApp (eInt .i64) x.Slot (rfl : ([] : List AVal).length = 0))), fun x => (pureApp (eInt .i64) x.Page (pureApp (eInt .i64) x.Slot plN))⟩

structure api_Difference where
  Lock : api_Lock
  Want : api_Cell
  Have : api_Cell

def e_api_Difference : Encd api_Difference := ⟨6, fun x => .agg (((e_api_Lock).f x.Lock).cells ++ (((e_api_Cell).f x.Want).cells ++ (((e_api_Cell).f x.Have).cells ++ ([])))), by decide, fun x => (lenApp e_api_Lock x.Lock (lenApp e_api_Cell x.Want (lenApp e_api_Cell x.Have (rfl : ([] : List AVal).length = 0)))), fun x => (pureApp e_api_Lock x.Lock (pureApp e_api_Cell x.Want (pureApp e_api_Cell x.Have plN)))⟩

noncomputable def g_pagemendlaw43_awake : Option Bool := some true

noncomputable def g_pagemendlaw43_AuditDiffers_c1_body (x1 : (List Int)) : Option ((List Int)) :=
  bif decide ((x1.length : Int) > 300) then
    (lsl x1 0 300).bind fun l9 =>
    some l9
  else
    some x1

noncomputable def g_pagemenddraw_Codes_Next_d1 (c20 : pagemenddraw_Codes) (n21 : Int) : Option (Int × pagemenddraw_Codes) :=
  bif decide (c20.at_ ≥ (c20.l.length : Int)) then
    some (0, c20)
  else
  bif decide (n21 < 1) then
    some (0, c20)
  else
    (ix c20.l c20.at_).bind fun x24 =>
    bif decide (n21 > 256) then
      none
    else
    bif (n21 == 0) then
      none
    else
      some ((Int.tmod (IntKind.wrap .i64 x24) n21), (pagemenddraw_Codes.mk c20.l (IntKind.wrap .i64 (c20.at_ + 1))))

noncomputable def g_pagemenddraw_Codes_Next (c13 : pagemenddraw_Codes) (n14 : Int) : Option (Int × pagemenddraw_Codes) :=
  bif decide (c13.at_ ≥ (c13.l.length : Int)) then
    some (0, c13)
  else
  bif decide (n14 < 1) then
    some (0, c13)
  else
    (ix c13.l c13.at_).bind fun x17 =>
    bif decide (n14 > 256) then
      (g_pagemenddraw_Codes_Next_d1 (pagemenddraw_Codes.mk c13.l (IntKind.wrap .i64 (c13.at_ + 1))) 256).bind fun r28 =>
      bif (n14 == 0) then
        none
      else
        some ((Int.tmod (IntKind.wrap .i64 ((IntKind.wrap .i64 (256 * (IntKind.wrap .i64 x17))) + r28.1)) n14), r28.2)
    else
    bif (n14 == 0) then
      none
    else
      some ((Int.tmod (IntKind.wrap .i64 x17) n14), (pagemenddraw_Codes.mk c13.l (IntKind.wrap .i64 (c13.at_ + 1))))

noncomputable def g_pagemenddraw_Codes_Page_c1_body (id39 : Int) (r40 : Int × pagemenddraw_Codes) (r42 : Int × pagemenddraw_Codes) : Option (pagemenddraw_Codes × api_Page) :=
  bif (r42.1 == 9) then
    (g_pagemenddraw_Codes_Next r42.2 2).bind fun r48 =>
    some (r48.2, (api_Page.mk id39 (IntKind.wrap .i64 (1099511627776 - r48.1)) (Arr.all (api_Cell.mk false []))))
  else
    some (r42.2, (api_Page.mk id39 r40.1 (Arr.all (api_Cell.mk false []))))

noncomputable def g_pagemenddraw_Codes_Data_c1_body (r64 : Int × pagemenddraw_Codes) (r66 : Int × pagemenddraw_Codes) : Option (Int × pagemenddraw_Codes) :=
  bif (r66.1 == 0) then
    (g_pagemenddraw_Codes_Next r66.2 14).bind fun r72 =>
    some (r72.1, r72.2)
  else
    some (r64.1, r66.2)

noncomputable def g_pagemenddraw_Codes_Data_l2_body (o74 : Int × pagemenddraw_Codes) : ((List Int) × Int × pagemenddraw_Codes) → Option (Step ((List Int) × Int × pagemenddraw_Codes) ((List Int) × pagemenddraw_Codes)) := fun (b85, i86, b87) =>
  bif decide (i86 < o74.1) then
    (g_pagemenddraw_Codes_Next b87 3).bind fun r94 =>
    (app b85 ([(IntKind.wrap .u8 (IntKind.wrap .i64 (97 + r94.1)))] : List Int)).bind fun l96 =>
    some (.next (l96, (IntKind.wrap .i64 (i86 + 1)), r94.2))
  else
    some (.done (b85, b87))

noncomputable def g_pagemenddraw_Codes_Data (c63 : pagemenddraw_Codes) : Option (Str × pagemenddraw_Codes) :=
  (g_pagemenddraw_Codes_Next c63 5).bind fun r64 =>
  (g_pagemenddraw_Codes_Next r64.2 6).bind fun r66 =>
  (g_pagemenddraw_Codes_Data_c1_body r64 r66).bind fun o74 =>
  (mk (0 : Int) 0 o74.1).bind fun l76 =>
  (loopO (g_pagemenddraw_Codes_Data_l2_body o74) (l76, 0, o74.2)).bind fun o98 =>
  some ((bytesStr o98.1), o98.2)

noncomputable def g_pagemenddraw_Codes_Cell (c59 : pagemenddraw_Codes) : Option (api_Cell × pagemenddraw_Codes) :=
  (g_pagemenddraw_Codes_Next c59 3).bind fun r60 =>
  bif (r60.1 == 0) then
    some ((api_Cell.mk false []), r60.2)
  else
    (g_pagemenddraw_Codes_Data r60.2).bind fun r100 =>
    (ssl r100.1 0 (if 12 < (r100.1.length : Int) then 12 else (r100.1.length : Int))).bind fun l102 =>
    some ((api_Cell.mk true l102), r100.2)

noncomputable def g_pagemenddraw_Codes_Page_l3_body : (Int × pagemenddraw_Codes × api_Page) → Option (Step (Int × pagemenddraw_Codes × api_Page) (pagemenddraw_Codes × api_Page)) := fun (k138, b139, b140) =>
  bif decide (k138 > 0) then
    (g_pagemenddraw_Codes_Next b139 16).bind fun r149 =>
    (g_pagemenddraw_Codes_Cell r149.2).bind fun r151 =>
    (aget b140.Cells r149.1).bind fun x153 =>
    some (.next ((IntKind.wrap .i64 (k138 - 1)), r151.2, { b140 with Cells := (aset b140.Cells r149.1 r151.1) }))
  else
    some (.done (b139, b140))

noncomputable def g_pagemenddraw_Codes_Page_c2_body (o50 : pagemenddraw_Codes × api_Page) : Option (pagemenddraw_Codes × api_Page) :=
  bif decide (o50.2.LSN > 0) then
    (g_pagemenddraw_Codes_Next o50.1 6).bind fun r128 =>
    (loopO (g_pagemenddraw_Codes_Page_l3_body) (r128.1, r128.2, o50.2)).bind fun o155 =>
    some (o155.1, o155.2)
  else
    some (o50.1, o50.2)

noncomputable def g_pagemenddraw_Codes_Page (c38 : pagemenddraw_Codes) (id39 : Int) : Option (api_Page × pagemenddraw_Codes) :=
  (g_pagemenddraw_Codes_Next c38 50).bind fun r40 =>
  (g_pagemenddraw_Codes_Next r40.2 10).bind fun r42 =>
  (g_pagemenddraw_Codes_Page_c1_body id39 r40 r42).bind fun o50 =>
  (g_pagemenddraw_Codes_Page_c2_body o50).bind fun o157 =>
  some (o157.2, o157.1)

noncomputable def g_pagemendlaw43_AuditDiffers_l2_body : ((List (Arr 16 api_Cell)) × (List (Arr 16 api_Cell)) × Int × pagemenddraw_Codes) → Option (Step ((List (Arr 16 api_Cell)) × (List (Arr 16 api_Cell)) × Int × pagemenddraw_Codes) ((List (Arr 16 api_Cell)) × (List (Arr 16 api_Cell)) × pagemenddraw_Codes)) := fun (v165, v166, v167, b168) =>
  bif decide (v167 > 0) then
    (g_pagemenddraw_Codes_Page b168 0).bind fun r177 =>
    (app v165 [r177.1.Cells]).bind fun l179 =>
    (app v166 [r177.1.Cells]).bind fun l181 =>
    some (.next (l179, l181, (IntKind.wrap .i64 (v167 - 1)), r177.2))
  else
    some (.done (v165, v166, b168))

noncomputable def g_pagemendlaw43_AuditDiffers_l3_body (o183 : (List (Arr 16 api_Cell)) × (List (Arr 16 api_Cell)) × pagemenddraw_Codes) : (Int × pagemenddraw_Codes × (List (Arr 16 api_Cell))) → Option (Step (Int × pagemenddraw_Codes × (List (Arr 16 api_Cell))) (pagemenddraw_Codes × (List (Arr 16 api_Cell)))) := fun (v200, b201, b202) =>
  bif decide (v200 > 0) then
    bif decide ((b202.length : Int) > 0) then
      (g_pagemenddraw_Codes_Next b201 (b202.length : Int)).bind fun r217 =>
      (g_pagemenddraw_Codes_Next r217.2 16).bind fun r219 =>
      (ix b202 r217.1).bind fun x221 =>
      (g_pagemenddraw_Codes_Cell r219.2).bind fun r223 =>
      (aget x221 r219.1).bind fun x225 =>
      some (.next ((IntKind.wrap .i64 (v200 - 1)), r223.2, (lput b202 r217.1 (aset x221 r219.1 r223.1))))
    else
      some (.done (b201, b202))
  else
    some (.done (b201, b202))

noncomputable def g_pagemendlaw43_AuditDiffers_c6_body (o183 : (List (Arr 16 api_Cell)) × (List (Arr 16 api_Cell)) × pagemenddraw_Codes) (o227 : pagemenddraw_Codes × (List (Arr 16 api_Cell))) (v230 : Int) (v263 : Int) (v264 : Int) (x281 : api_Cell) (x285 : api_Cell) : Option (Int) :=
  bif (!(eqC e_api_Cell x281 x285)) then
    some (IntKind.wrap .i64 (v263 + 1))
  else
    some v263

noncomputable def g_pagemendlaw43_AuditDiffers_l5_body (o183 : (List (Arr 16 api_Cell)) × (List (Arr 16 api_Cell)) × pagemenddraw_Codes) (o227 : pagemenddraw_Codes × (List (Arr 16 api_Cell))) (v230 : Int) : (Int × Int) → Option (Step (Int × Int) (Int)) := fun (v263, v264) =>
  bif decide (v264 < 16) then
    (ix o183.1 v230).bind fun x279 =>
    (aget x279 v264).bind fun x281 =>
    (ix o227.2 v230).bind fun x283 =>
    (aget x283 v264).bind fun x285 =>
    (g_pagemendlaw43_AuditDiffers_c6_body o183 o227 v230 v263 v264 x281 x285).bind fun o289 =>
    some (.next (o289, (IntKind.wrap .i64 (v264 + 1))))
  else
    some (.done v263)

noncomputable def g_pagemendlaw43_AuditDiffers_l4_body (o183 : (List (Arr 16 api_Cell)) × (List (Arr 16 api_Cell)) × pagemenddraw_Codes) (o227 : pagemenddraw_Codes × (List (Arr 16 api_Cell))) : (Int × Int) → Option (Step (Int × Int) (Int)) := fun (v229, v230) =>
  bif decide (v230 < (o183.1.length : Int)) then
    (loopO (g_pagemendlaw43_AuditDiffers_l5_body o183 o227 v230) (v229, 0)).bind fun o291 =>
    some (.next (o291, (IntKind.wrap .i64 (v230 + 1))))
  else
    some (.done v229)

noncomputable def g_audit_Differences_1 (l304 : (List (Arr 16 api_Cell))) (id305 : Int) : Option ((Arr 16 api_Cell)) :=
  bif decide (id305 < (l304.length : Int)) then
    (ix l304 id305).bind fun x307 =>
    some x307
  else
    some (Arr.all (api_Cell.mk false []))

noncomputable def g_audit_Differences_c3_body (a299 : (List (Arr 16 api_Cell))) (b300 : (List (Arr 16 api_Cell))) (x302 : Int) (r360 : (Arr 16 api_Cell)) (r362 : (Arr 16 api_Cell)) (out364 : (List api_Difference)) (x365 : Int) (x388 : api_Cell) (x390 : api_Cell) : Option ((List api_Difference)) :=
  bif (!(eqC e_api_Cell x388 x390)) then
    (aget r360 x365).bind fun x400 =>
    (aget r362 x365).bind fun x402 =>
    (app out364 [(api_Difference.mk (api_Lock.mk x302 x365) x400 x402)]).bind fun l404 =>
    some l404
  else
    some out364

noncomputable def g_audit_Differences_l2_body (a299 : (List (Arr 16 api_Cell))) (b300 : (List (Arr 16 api_Cell))) (x302 : Int) (r360 : (Arr 16 api_Cell)) (r362 : (Arr 16 api_Cell)) : ((List api_Difference) × Int) → Option (Step ((List api_Difference) × Int) ((List api_Difference))) := fun (out364, x365) =>
  bif decide (x365 < 16) then
    (aget r360 x365).bind fun x388 =>
    (aget r362 x365).bind fun x390 =>
    (g_audit_Differences_c3_body a299 b300 x302 r360 r362 out364 x365 x388 x390).bind fun o406 =>
    some (.next (o406, (IntKind.wrap .i64 (x365 + 1))))
  else
    some (.done out364)

noncomputable def g_audit_Differences_l1_body (a299 : (List (Arr 16 api_Cell))) (b300 : (List (Arr 16 api_Cell))) : ((List api_Difference) × Int) → Option (Step ((List api_Difference) × Int) ((List api_Difference))) := fun (out301, x302) =>
  bif decide (x302 < (if (b300.length : Int) > (a299.length : Int) then (b300.length : Int) else (a299.length : Int))) then
    (g_audit_Differences_1 a299 x302).bind fun r360 =>
    (g_audit_Differences_1 b300 x302).bind fun r362 =>
    (loopO (g_audit_Differences_l2_body a299 b300 x302 r360 r362) (out301, 0)).bind fun o408 =>
    some (.next (o408, (IntKind.wrap .i64 (x302 + 1))))
  else
    some (.done out301)

noncomputable def g_audit_Differences (a299 : (List (Arr 16 api_Cell))) (b300 : (List (Arr 16 api_Cell))) : Option ((List api_Difference)) :=
  (loopO (g_audit_Differences_l1_body a299 b300) (([] : List api_Difference), 0)).bind fun o410 =>
  some o410

noncomputable def g_pagemendlaw43_AuditDiffers_l7_body (o227 : pagemenddraw_Codes × (List (Arr 16 api_Cell))) (r416 : (List api_Difference)) (r418 : (List api_Difference)) (r420 : (List api_Difference)) : Int → Option (Step (Int) ((Bool) ⊕ (Unit))) := fun v425 =>
  bif decide (v425 < (r416.length : Int)) then
    (ix r416 v425).bind fun x438 =>
    (ix r418 v425).bind fun x440 =>
    bif (!(eqC e_api_Lock x438.Lock x440.Lock)) then
      some (.done (.inl false))
    else
    bif (!(eqC e_api_Cell x438.Want x440.Have)) then
      some (.done (.inl false))
    else
    bif (!(eqC e_api_Cell x438.Have x440.Want)) then
      some (.done (.inl false))
    else
      (ix r420 v425).bind fun x445 =>
      bif (!(eqC e_api_Difference x438 x445)) then
        some (.done (.inl false))
      else
        some (.next (IntKind.wrap .i64 (v425 + 1)))
  else
    some (.done (.inr ()))

noncomputable def g_pagemendlaw43_AuditDiffers (x1 : (List Int)) : Option (Bool) :=
  (g_pagemendlaw43_awake).bind fun r2 =>
  bif (!r2) then
    some false
  else
    (g_pagemendlaw43_AuditDiffers_c1_body x1).bind fun o11 =>
    (g_pagemenddraw_Codes_Next (pagemenddraw_Codes.mk o11 0) 4).bind fun r32 =>
    (loopO (g_pagemendlaw43_AuditDiffers_l2_body) (([] : List (Arr 16 api_Cell)), ([] : List (Arr 16 api_Cell)), r32.1, r32.2)).bind fun o183 =>
    (g_pagemenddraw_Codes_Next o183.2.2 3).bind fun r185 =>
    (loopO (g_pagemendlaw43_AuditDiffers_l3_body o183) (r185.1, r185.2, o183.2.1)).bind fun o227 =>
    (loopO (g_pagemendlaw43_AuditDiffers_l4_body o183 o227) (0, 0)).bind fun o293 =>
    (app ([] : (List (Arr 16 api_Cell))) o227.2).bind fun l295 =>
    (app l295 ([(Arr.all (api_Cell.mk false []))] : List (Arr 16 api_Cell))).bind fun l297 =>
    (g_audit_Differences o183.1 o227.2).bind fun r416 =>
    (g_audit_Differences o227.2 o183.1).bind fun r418 =>
    (g_audit_Differences o183.1 l297).bind fun r420 =>
    bif ((r416.length : Int) != o293) then
      some false
    else
    bif ((r418.length : Int) != o293) then
      some false
    else
    bif ((r420.length : Int) != o293) then
      some false
    else
      (loopO (g_pagemendlaw43_AuditDiffers_l7_body o227 r416 r418 r420) 0).bind fun o448 =>
      match o448 with
      | .inl o450 =>
        some o450
      | .inr o451 =>
        some true

end Go.Proofs.YtpjjoehccpkhoaaGreat
