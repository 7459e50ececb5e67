/-
  Proved here: the law WaitTimes of chapter 22 (behind an expiry nobody waits whose time has come; a later one takes no one twice) returns true for every input of at most 1048576 values and letters.
  Part Eqs of the texts. By an AI agent; no person has read it.
-/
import Derived.Test.YtbkkoleoejdflaaFns
import Derived.KernelRfl
import Derived.Test.YtbkkoleoejdflaaProg
set_option linter.all false
set_option linter.deprecated false
set_option maxRecDepth 100000
set_option linter.unusedVariables false
namespace Go.Mach
open Go.Proofs
theorem cmp_isNaN_int.eq (x0 : Int) : runBody cmp_isNaN_int.env Try.f36 cmp_isNaN_int.ps cmp_isNaN_int.rs cmp_isNaN_int.ann x0 = R.cmp_isNaN_int x0 := by kernel_rfl

theorem wait_Lists_Has.eq (l0 : (List ((List Int) × (List T_wait_Waiter.den)))) (agent1 : Int) : runBody wait_Lists_Has.env Try.f12 wait_Lists_Has.ps wait_Lists_Has.rs wait_Lists_Has.ann (l0, agent1) = R.wait_Lists_Has l0 agent1 := by kernel_rfl

theorem renlaw22_WaitFair.eq (who0 : (List Int)) (place1 : (List Bool)) (n2 : Int) : runBody renlaw22_WaitFair.env Try.f3 renlaw22_WaitFair.ps renlaw22_WaitFair.rs renlaw22_WaitFair.ann (who0, (place1, n2)) = R.renlaw22_WaitFair who0 place1 n2 := by kernel_rfl

end Go.Mach

set_option maxRecDepth 100000
set_option linter.unusedVariables false
namespace Go.Mach
open Go.Proofs
theorem cmp_Compare_int.eq (x0 : Int) (y1 : Int) : runBody cmp_Compare_int.env Try.f24 cmp_Compare_int.ps cmp_Compare_int.rs cmp_Compare_int.ann (x0, y1) = R.cmp_Compare_int x0 y1 := by kernel_rfl

theorem wait_Lists_Add.eq (l0 : (List ((List Int) × (List T_wait_Waiter.den)))) (block1 : Int) (at2 : Int) (w3 : T_wait_Waiter.den) : runBody wait_Lists_Add.env Try.f8 wait_Lists_Add.ps wait_Lists_Add.rs wait_Lists_Add.ann (l0, (block1, (at2, w3))) = R.wait_Lists_Add l0 block1 at2 w3 := by kernel_rfl

theorem wait_Lists_At.eq (l0 : (List ((List Int) × (List T_wait_Waiter.den)))) (block1 : Int) (at2 : Int) : runBody wait_Lists_At.env Try.f13 wait_Lists_At.ps wait_Lists_At.rs wait_Lists_At.ann (l0, (block1, at2)) = R.wait_Lists_At l0 block1 at2 := by kernel_rfl

end Go.Mach

set_option maxRecDepth 100000
set_option linter.unusedVariables false
namespace Go.Mach
open Go.Proofs
theorem slices_Compare_int.eq (s10 : (List Int)) (s21 : (List Int)) : runBody slices_Compare_int.env Try.f19 slices_Compare_int.ps slices_Compare_int.rs slices_Compare_int.ann (s10, s21) = R.slices_Compare_int s10 s21 := by kernel_rfl

theorem wait_Lists_set.eq (l0 : (List ((List Int) × (List T_wait_Waiter.den)))) (k1 : (Int × Int)) (w2 : (List T_wait_Waiter.den)) : runBody wait_Lists_set.env Try.f15 wait_Lists_set.ps wait_Lists_set.rs wait_Lists_set.ann (l0, (k1, w2)) = R.wait_Lists_set l0 k1 w2 := by kernel_rfl

theorem renlaw22_WaitOnce.eq (l0 : (List T_renlaw22_Op.den)) (blk1 : Int) (at2 : Int) (n3 : Int) : runBody renlaw22_WaitOnce.env Try.f4 renlaw22_WaitOnce.ps renlaw22_WaitOnce.rs renlaw22_WaitOnce.ann (l0, (blk1, (at2, n3))) = R.renlaw22_WaitOnce l0 blk1 at2 n3 := by kernel_rfl

end Go.Mach

set_option maxRecDepth 100000
set_option linter.unusedVariables false
namespace Go.Mach
open Go.Proofs
theorem wait_Lists_Places_1.eq (a0 : (Int × Int)) (b1 : (Int × Int)) : runBody wait_Lists_Places_1.env Try.f18 wait_Lists_Places_1.ps wait_Lists_Places_1.rs wait_Lists_Places_1.ann (a0, b1) = R.wait_Lists_Places_1 a0 b1 := by kernel_rfl

theorem wait_Lists_Wake.eq (l0 : (List ((List Int) × (List T_wait_Waiter.den)))) (block1 : Int) (at2 : Int) (n3 : Int) (all4 : Bool) : runBody wait_Lists_Wake.env Try.f9 wait_Lists_Wake.ps wait_Lists_Wake.rs wait_Lists_Wake.ann (l0, (block1, (at2, (n3, all4)))) = R.wait_Lists_Wake l0 block1 at2 n3 all4 := by kernel_rfl

theorem renlaw22_WaitTimes.eq (l0 : (List T_renlaw22_Op.den)) (now1 : Int) (later2 : Int) : runBody renlaw22_WaitTimes.env Try.f5 renlaw22_WaitTimes.ps renlaw22_WaitTimes.rs renlaw22_WaitTimes.ann (l0, (now1, later2)) = R.renlaw22_WaitTimes l0 now1 later2 := by kernel_rfl

end Go.Mach

set_option maxRecDepth 100000
set_option linter.unusedVariables false
namespace Go.Mach
open Go.Proofs
theorem wait_New.eq  : runBody wait_New.env Try.f7 wait_New.ps wait_New.rs wait_New.ann () = R.wait_New  := by kernel_rfl

theorem wait_Lists_Places.eq (l0 : (List ((List Int) × (List T_wait_Waiter.den)))) : runBody wait_Lists_Places.env Try.f11 wait_Lists_Places.ps wait_Lists_Places.rs wait_Lists_Places.ann l0 = R.wait_Lists_Places l0 := by kernel_rfl

end Go.Mach

set_option maxRecDepth 100000
set_option linter.unusedVariables false
namespace Go.Mach
open Go.Proofs
theorem wait_Lists_Has_1.eq (x0 : T_wait_Waiter.den) (a1 : Int) : runBody wait_Lists_Has_1.env Try.f21 wait_Lists_Has_1.ps wait_Lists_Has_1.rs wait_Lists_Has_1.ann (x0, a1) = R.wait_Lists_Has_1 x0 a1 := by kernel_rfl

theorem wait_Lists_Expire.eq (l0 : (List ((List Int) × (List T_wait_Waiter.den)))) (now1 : Int) : runBody wait_Lists_Expire.env Try.f14 wait_Lists_Expire.ps wait_Lists_Expire.rs wait_Lists_Expire.ann (l0, now1) = R.wait_Lists_Expire l0 now1 := by kernel_rfl

end Go.Mach

set_option maxRecDepth 100000
set_option linter.unusedVariables false
namespace Go.Mach
open Go.Proofs
theorem slices_IndexFunc_waitWaiter__wait_Lists_Has_1.eq (s0 : (List T_wait_Waiter.den)) (f1 : Int) : runBody slices_IndexFunc_waitWaiter__wait_Lists_Has_1.env Try.f25 slices_IndexFunc_waitWaiter__wait_Lists_Has_1.ps slices_IndexFunc_waitWaiter__wait_Lists_Has_1.rs slices_IndexFunc_waitWaiter__wait_Lists_Has_1.ann (s0, f1) = R.slices_IndexFunc_waitWaiter__wait_Lists_Has_1 s0 f1 := by kernel_rfl

theorem renref_Ints.eq (a0 : (List Int)) (b1 : (List Int)) : runBody renref_Ints.env Try.f10 renref_Ints.ps renref_Ints.rs renref_Ints.ann (a0, b1) = R.renref_Ints a0 b1 := by kernel_rfl

end Go.Mach

set_option maxRecDepth 100000
set_option linter.unusedVariables false
namespace Go.Mach
open Go.Proofs
theorem slices_ContainsFunc_waitWaiter__wait_Lists_Has_1.eq (s0 : (List T_wait_Waiter.den)) (f1 : Int) : runBody slices_ContainsFunc_waitWaiter__wait_Lists_Has_1.env Try.f20 slices_ContainsFunc_waitWaiter__wait_Lists_Has_1.ps slices_ContainsFunc_waitWaiter__wait_Lists_Has_1.rs slices_ContainsFunc_waitWaiter__wait_Lists_Has_1.ann (s0, f1) = R.slices_ContainsFunc_waitWaiter__wait_Lists_Has_1 s0 f1 := by kernel_rfl

theorem renlaw22_first.eq  : runBody renlaw22_first.env Try.f6 renlaw22_first.ps renlaw22_first.rs renlaw22_first.ann () = R.renlaw22_first  := by kernel_rfl

end Go.Mach
