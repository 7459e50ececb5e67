/-
  HeapPlaysUptoSaid: any series of up to 300 heap operations answers as the reference heap does
  Part Eqs of the texts. By an AI agent; no person has read it.
-/
import Derived.Test.YtcmodlcodhblcaaFns
import Derived.KernelRfl
import Derived.Test.YtcmodlcodhblcaaProg
set_option linter.all false
set_option linter.deprecated false
set_option maxRecDepth 100000
set_option linter.unusedVariables false
namespace Go.Mach
open Go.Proofs
theorem heap_New.eq (room0 : Int) : runBody (heap_New.env Try.prog) Try.f11 heap_New.ps heap_New.rs heap_New.ann room0 = R.heap_New room0 := by kernel_rfl

theorem slices_swapRangeCmpFunc_suint16__heap_Heap_Keys_1.eq (data0 : (List (List Int))) (a1 : Int) (b2 : Int) (n3 : Int) (cmp4 : Unit) : runBody (slices_swapRangeCmpFunc_suint16__heap_Heap_Keys_1.env Try.prog) Try.f101 slices_swapRangeCmpFunc_suint16__heap_Heap_Keys_1.ps slices_swapRangeCmpFunc_suint16__heap_Heap_Keys_1.rs slices_swapRangeCmpFunc_suint16__heap_Heap_Keys_1.ann (data0, (a1, (b2, (n3, cmp4)))) = R.slices_swapRangeCmpFunc_suint16__heap_Heap_Keys_1 data0 a1 b2 n3 cmp4 := by kernel_rfl

theorem heap_Heap_Len.eq (h0 : T_heap_Heap.den) : runBody (heap_Heap_Len.env Try.prog) Try.f21 heap_Heap_Len.ps heap_Heap_Len.rs heap_Heap_Len.ann h0 = R.heap_Heap_Len h0 := by kernel_rfl

theorem heap_Heap_slot_1.eq (s0 : T_heap_Slot.den) (a1 : (List UInt8)) : runBody (heap_Heap_slot_1.env Try.prog) Try.f84 heap_Heap_slot_1.ps heap_Heap_slot_1.rs heap_Heap_slot_1.ann (s0, a1) = R.heap_Heap_slot_1 s0 a1 := by kernel_rfl

theorem heap_Heap_Copy.eq (h0 : T_heap_Heap.den) : runBody (heap_Heap_Copy.env Try.prog) Try.f36 heap_Heap_Copy.ps heap_Heap_Copy.rs heap_Heap_Copy.ann h0 = R.heap_Heap_Copy h0 := by kernel_rfl

theorem renref9_Heap_Write.eq (h0 : T_heap_Heap.den) (ref1 : Int) (at2 : Int) (b3 : (List Int)) : runBody (renref9_Heap_Write.env Try.prog) Try.f67 renref9_Heap_Write.ps renref9_Heap_Write.rs renref9_Heap_Write.ann (h0, (ref1, (at2, b3))) = R.renref9_Heap_Write h0 ref1 at2 b3 := by kernel_rfl

end Go.Mach

set_option maxRecDepth 100000
set_option linter.unusedVariables false
namespace Go.Mach
open Go.Proofs
theorem heap_own.eq (v0 : T_heap_Value.den) : runBody (heap_own.env Try.prog) Try.f43 heap_own.ps heap_own.rs heap_own.ann v0 = R.heap_own v0 := by kernel_rfl

theorem slices_rotateCmpFunc_suint16__heap_Heap_Keys_1.eq (data0 : (List (List Int))) (a1 : Int) (m2 : Int) (b3 : Int) (cmp4 : Unit) : runBody (slices_rotateCmpFunc_suint16__heap_Heap_Keys_1.env Try.prog) Try.f99 slices_rotateCmpFunc_suint16__heap_Heap_Keys_1.ps slices_rotateCmpFunc_suint16__heap_Heap_Keys_1.rs slices_rotateCmpFunc_suint16__heap_Heap_Keys_1.ann (data0, (a1, (m2, (b3, cmp4)))) = R.slices_rotateCmpFunc_suint16__heap_Heap_Keys_1 data0 a1 m2 b3 cmp4 := by kernel_rfl

theorem renlaw9_Plain.eq (v0 : T_heap_Value.den) : runBody (renlaw9_Plain.env Try.prog) Try.f32 renlaw9_Plain.ps renlaw9_Plain.rs renlaw9_Plain.ann v0 = R.renlaw9_Plain v0 := by kernel_rfl

theorem slices_IndexFunc_heapSlot__heap_Heap_slot_1.eq (s0 : (List T_heap_Slot.den)) (f1 : (List UInt8)) : runBody (slices_IndexFunc_heapSlot__heap_Heap_slot_1.env Try.prog) Try.f83 slices_IndexFunc_heapSlot__heap_Heap_slot_1.ps slices_IndexFunc_heapSlot__heap_Heap_slot_1.rs slices_IndexFunc_heapSlot__heap_Heap_slot_1.ann (s0, f1) = R.slices_IndexFunc_heapSlot__heap_Heap_slot_1 s0 f1 := by kernel_rfl

theorem renref_CopyUnits.eq (u0 : (List Int)) : runBody (renref_CopyUnits.env Try.prog) Try.f88 renref_CopyUnits.ps renref_CopyUnits.rs renref_CopyUnits.ann u0 = R.renref_CopyUnits u0 := by kernel_rfl

theorem renref9_Heap_Own.eq (h0 : T_heap_Heap.den) (ref1 : Int) (key2 : (List Int)) : runBody (renref9_Heap_Own.env Try.prog) Try.f68 renref9_Heap_Own.ps renref9_Heap_Own.rs renref9_Heap_Own.ann (h0, (ref1, key2)) = R.renref9_Heap_Own h0 ref1 key2 := by kernel_rfl

end Go.Mach

set_option maxRecDepth 100000
set_option linter.unusedVariables false
namespace Go.Mach
open Go.Proofs
theorem heap_copied.eq (c0 : T_heap_Cell.den) : runBody (heap_copied.env Try.prog) Try.f40 heap_copied.ps heap_copied.rs heap_copied.ann c0 = R.heap_copied c0 := by kernel_rfl

theorem slices_symMergeCmpFunc_suint16__heap_Heap_Keys_1.eq (fu : Nat) (data0 : (List (List Int))) (a1 : Int) (m2 : Int) (b3 : Int) (cmp4 : Unit) : runBody (slices_symMergeCmpFunc_suint16__heap_Heap_Keys_1.env Try.prog fu) Try.f94 slices_symMergeCmpFunc_suint16__heap_Heap_Keys_1.ps slices_symMergeCmpFunc_suint16__heap_Heap_Keys_1.rs slices_symMergeCmpFunc_suint16__heap_Heap_Keys_1.ann (data0, (a1, (m2, (b3, cmp4)))) = R.slices_symMergeCmpFunc_suint16__heap_Heap_Keys_1 (fu + 1) data0 a1 m2 b3 cmp4 := by kernel_rfl

theorem renlaw9_cell.eq (c0 : T_heap_Cell.den) : runBody (renlaw9_cell.env Try.prog) Try.f23 renlaw9_cell.ps renlaw9_cell.rs renlaw9_cell.ann c0 = R.renlaw9_cell c0 := by kernel_rfl

theorem heap_Heap_slot.eq (h0 : T_heap_Heap.den) (scope1 : Int) (name2 : (List UInt8)) : runBody (heap_Heap_slot.env Try.prog) Try.f52 heap_Heap_slot.ps heap_Heap_slot.rs heap_Heap_slot.ann (h0, (scope1, name2)) = R.heap_Heap_slot h0 scope1 name2 := by kernel_rfl

theorem renref_CopyBig.eq (a0 : T_api_Big.den) : runBody (renref_CopyBig.env Try.prog) Try.f96 renref_CopyBig.ps renref_CopyBig.rs renref_CopyBig.ann a0 = R.renref_CopyBig a0 := by kernel_rfl

theorem renref9_Heap_Find.eq (h0 : T_heap_Heap.den) (ref1 : Int) (key2 : (List Int)) : runBody (renref9_Heap_Find.env Try.prog) Try.f69 renref9_Heap_Find.ps renref9_Heap_Find.rs renref9_Heap_Find.ann (h0, (ref1, key2)) = R.renref9_Heap_Find h0 ref1 key2 := by kernel_rfl

end Go.Mach

set_option maxRecDepth 100000
set_option linter.unusedVariables false
namespace Go.Mach
open Go.Proofs
theorem heap_Heap_Make.eq (h0 : T_heap_Heap.den) (c1 : T_heap_Cell.den) : runBody (heap_Heap_Make.env Try.prog) Try.f13 heap_Heap_Make.ps heap_Heap_Make.rs heap_Heap_Make.ann (h0, c1) = R.heap_Heap_Make h0 c1 := by kernel_rfl

theorem slices_stableCmpFunc_suint16__heap_Heap_Keys_1.eq (data0 : (List (List Int))) (n1 : Int) (cmp2 : Unit) : runBody (slices_stableCmpFunc_suint16__heap_Heap_Keys_1.env Try.prog) Try.f82 slices_stableCmpFunc_suint16__heap_Heap_Keys_1.ps slices_stableCmpFunc_suint16__heap_Heap_Keys_1.rs slices_stableCmpFunc_suint16__heap_Heap_Keys_1.ann (data0, (n1, cmp2)) = R.slices_stableCmpFunc_suint16__heap_Heap_Keys_1 data0 n1 cmp2 := by kernel_rfl

theorem renref_Num.eq (a0 : T_api_Num.den) (b1 : T_api_Num.den) : runBody (renref_Num.env Try.prog) Try.f58 renref_Num.ps renref_Num.rs renref_Num.ann (a0, b1) = R.renref_Num a0 b1 := by kernel_rfl

theorem heap_Heap_Declare.eq (h0 : T_heap_Heap.den) (scope1 : Int) (name2 : (List UInt8)) (v3 : T_heap_Value.den) (ready4 : Bool) (fixed5 : Bool) : runBody (heap_Heap_Declare.env Try.prog) Try.f28 heap_Heap_Declare.ps heap_Heap_Declare.rs heap_Heap_Declare.ann (h0, (scope1, (name2, (v3, (ready4, fixed5))))) = R.heap_Heap_Declare h0 scope1 name2 v3 ready4 fixed5 := by kernel_rfl

theorem renref9_Copied.eq (v0 : T_heap_Value.den) : runBody (renref9_Copied.env Try.prog) Try.f89 renref9_Copied.ps renref9_Copied.rs renref9_Copied.ann v0 = R.renref9_Copied v0 := by kernel_rfl

theorem renref9_Heap_Look.eq (h0 : T_heap_Heap.den) (scope1 : Int) (name2 : (List UInt8)) : runBody (renref9_Heap_Look.env Try.prog) Try.f70 renref9_Heap_Look.ps renref9_Heap_Look.rs renref9_Heap_Look.ann (h0, (scope1, name2)) = R.renref9_Heap_Look h0 scope1 name2 := by kernel_rfl

end Go.Mach

set_option maxRecDepth 100000
set_option linter.unusedVariables false
namespace Go.Mach
open Go.Proofs
theorem renref_Ascii.eq (s0 : (List UInt8)) : runBody (renref_Ascii.env Try.prog) Try.f37 renref_Ascii.ps renref_Ascii.rs renref_Ascii.ann s0 = R.renref_Ascii s0 := by kernel_rfl

theorem slices_SortStableFunc_suint16__heap_Heap_Keys_1.eq (x0 : (List (List Int))) (cmp1 : Unit) : runBody (slices_SortStableFunc_suint16__heap_Heap_Keys_1.env Try.prog) Try.f46 slices_SortStableFunc_suint16__heap_Heap_Keys_1.ps slices_SortStableFunc_suint16__heap_Heap_Keys_1.rs slices_SortStableFunc_suint16__heap_Heap_Keys_1.ann (x0, cmp1) = R.slices_SortStableFunc_suint16__heap_Heap_Keys_1 x0 cmp1 := by kernel_rfl

theorem renref_Limbs.eq (a0 : (List Int)) (b1 : (List Int)) : runBody (renref_Limbs.env Try.prog) Try.f85 renref_Limbs.ps renref_Limbs.rs renref_Limbs.ann (a0, b1) = R.renref_Limbs a0 b1 := by kernel_rfl

theorem heap_Heap_Look.eq (h0 : T_heap_Heap.den) (scope1 : Int) (name2 : (List UInt8)) : runBody (heap_Heap_Look.env Try.prog) Try.f29 heap_Heap_Look.ps heap_Heap_Look.rs heap_Heap_Look.ann (h0, (scope1, name2)) = R.heap_Heap_Look h0 scope1 name2 := by kernel_rfl

theorem renref_CopyBytes.eq (u0 : (List Int)) : runBody (renref_CopyBytes.env Try.prog) Try.f95 renref_CopyBytes.ps renref_CopyBytes.rs renref_CopyBytes.ann u0 = R.renref_CopyBytes u0 := by kernel_rfl

theorem renlaw9_does.eq (h0 : T_heap_Heap.den) (x1 : T_heap_Heap.den) (o2 : T_renlaw9_Op.den) : runBody (renlaw9_does.env Try.prog) Try.f38 renlaw9_does.ps renlaw9_does.rs renlaw9_does.ann (h0, (x1, o2)) = R.renlaw9_does h0 x1 o2 := by kernel_rfl

end Go.Mach

set_option maxRecDepth 100000
set_option linter.unusedVariables false
namespace Go.Mach
open Go.Proofs
theorem heap_Heap_has.eq (h0 : T_heap_Heap.den) (ref1 : Int) : runBody (heap_Heap_has.env Try.prog) Try.f41 heap_Heap_has.ps heap_Heap_has.rs heap_Heap_has.ann (h0, ref1) = R.heap_Heap_has h0 ref1 := by kernel_rfl

theorem heap_Heap_Keys.eq (h0 : T_heap_Heap.den) (ref1 : Int) : runBody (heap_Heap_Keys.env Try.prog) Try.f15 heap_Heap_Keys.ps heap_Heap_Keys.rs heap_Heap_Keys.ann (h0, ref1) = R.heap_Heap_Keys h0 ref1 := by kernel_rfl

theorem renref_Big.eq (a0 : T_api_Big.den) (b1 : T_api_Big.den) : runBody (renref_Big.env Try.prog) Try.f59 renref_Big.ps renref_Big.rs renref_Big.ann (a0, b1) = R.renref_Big a0 b1 := by kernel_rfl


theorem renref9_CopyCell.eq (c0 : T_heap_Cell.den) : runBody (renref9_CopyCell.env Try.prog) Try.f86 renref9_CopyCell.ps renref9_CopyCell.rs renref9_CopyCell.ann c0 = R.renref9_CopyCell c0 := by kernel_rfl

theorem renref3_digit.eq (c0 : Int) : runBody (renref3_digit.env Try.prog) Try.f100 renref3_digit.ps renref3_digit.rs renref3_digit.ann c0 = R.renref3_digit c0 := by kernel_rfl

end Go.Mach

set_option maxRecDepth 100000
set_option linter.unusedVariables false
namespace Go.Mach
open Go.Proofs
theorem slices_Equal_uint16.eq (s10 : (List Int)) (s21 : (List Int)) : runBody (slices_Equal_uint16.env Try.prog) Try.f49 slices_Equal_uint16.ps slices_Equal_uint16.rs slices_Equal_uint16.ann (s10, s21) = R.slices_Equal_uint16 s10 s21 := by kernel_rfl

theorem heap_Heap_Own.eq (h0 : T_heap_Heap.den) (ref1 : Int) (key2 : (List Int)) : runBody (heap_Heap_Own.env Try.prog) Try.f17 heap_Heap_Own.ps heap_Heap_Own.rs heap_Heap_Own.ann (h0, (ref1, key2)) = R.heap_Heap_Own h0 ref1 key2 := by kernel_rfl

theorem renref9_Same.eq (a0 : T_heap_Value.den) (b1 : T_heap_Value.den) : runBody (renref9_Same.env Try.prog) Try.f33 renref9_Same.ps renref9_Same.rs renref9_Same.ann (a0, b1) = R.renref9_Same a0 b1 := by kernel_rfl


theorem renref9_Heap_Make.eq (h0 : T_heap_Heap.den) (c1 : T_heap_Cell.den) : runBody (renref9_Heap_Make.env Try.prog) Try.f60 renref9_Heap_Make.ps renref9_Heap_Make.rs renref9_Heap_Make.ann (h0, c1) = R.renref9_Heap_Make h0 c1 := by kernel_rfl

theorem renref3_Digits.eq (u0 : (List Int)) : runBody (renref3_Digits.env Try.prog) Try.f97 renref3_Digits.ps renref3_Digits.rs renref3_Digits.ann u0 = R.renref3_Digits u0 := by kernel_rfl

end Go.Mach

set_option maxRecDepth 100000
set_option linter.unusedVariables false
namespace Go.Mach
open Go.Proofs
theorem text_Same.eq (a0 : (List Int)) (b1 : (List Int)) : runBody (text_Same.env Try.prog) Try.f79 text_Same.ps text_Same.rs text_Same.ann (a0, b1) = R.text_Same a0 b1 := by kernel_rfl

theorem heap_Heap_Find.eq (h0 : T_heap_Heap.den) (ref1 : Int) (key2 : (List Int)) : runBody (heap_Heap_Find.env Try.prog) Try.f25 heap_Heap_Find.ps heap_Heap_Find.rs heap_Heap_Find.ann (h0, (ref1, key2)) = R.heap_Heap_Find h0 ref1 key2 := by kernel_rfl

theorem renref_Bytes.eq (a0 : (List Int)) (b1 : (List Int)) : runBody (renref_Bytes.env Try.prog) Try.f50 renref_Bytes.ps renref_Bytes.rs renref_Bytes.ann (a0, b1) = R.renref_Bytes a0 b1 := by kernel_rfl


theorem renref9_Heap_Is.eq (h0 : T_heap_Heap.den) (ref1 : Int) : runBody (renref9_Heap_Is.env Try.prog) Try.f71 renref9_Heap_Is.ps renref9_Heap_Is.rs renref9_Heap_Is.ann (h0, ref1) = R.renref9_Heap_Is h0 ref1 := by kernel_rfl

theorem renref3_whole.eq (u0 : (List Int)) : runBody (renref3_whole.env Try.prog) Try.f98 renref3_whole.ps renref3_whole.rs renref3_whole.ann u0 = R.renref3_whole u0 := by kernel_rfl

end Go.Mach

set_option maxRecDepth 100000
set_option linter.unusedVariables false
namespace Go.Mach
open Go.Proofs
theorem heap_Heap_place_1.eq (p0 : T_heap_Prop.den) (a1 : (List Int)) : runBody (heap_Heap_place_1.env Try.prog) Try.f78 heap_Heap_place_1.ps heap_Heap_place_1.rs heap_Heap_place_1.ann (p0, a1) = R.heap_Heap_place_1 p0 a1 := by kernel_rfl

theorem renref_Units.eq (a0 : (List Int)) (b1 : (List Int)) : runBody (renref_Units.env Try.prog) Try.f16 renref_Units.ps renref_Units.rs renref_Units.ann (a0, b1) = R.renref_Units a0 b1 := by kernel_rfl

theorem renlaw9_sameCell.eq (a0 : T_heap_Cell.den) (b1 : T_heap_Cell.den) : runBody (renlaw9_sameCell.env Try.prog) Try.f22 renlaw9_sameCell.ps renlaw9_sameCell.rs renlaw9_sameCell.ann (a0, b1) = R.renlaw9_sameCell a0 b1 := by kernel_rfl


theorem renref9_own.eq (c0 : T_heap_Cell.den) (key1 : (List Int)) : runBody (renref9_own.env Try.prog) Try.f87 renref9_own.ps renref9_own.rs renref9_own.ann (c0, key1) = R.renref9_own c0 key1 := by kernel_rfl

theorem renref3_Key.eq (u0 : (List Int)) : runBody (renref3_Key.env Try.prog) Try.f91 renref3_Key.ps renref3_Key.rs renref3_Key.ann u0 = R.renref3_Key u0 := by kernel_rfl

end Go.Mach

set_option maxRecDepth 100000
set_option linter.unusedVariables false
namespace Go.Mach
open Go.Proofs
theorem slices_IndexFunc_heapProp__heap_Heap_place_1.eq (s0 : (List T_heap_Prop.den)) (f1 : (List Int)) : runBody (slices_IndexFunc_heapProp__heap_Heap_place_1.env Try.prog) Try.f77 slices_IndexFunc_heapProp__heap_Heap_place_1.ps slices_IndexFunc_heapProp__heap_Heap_place_1.rs slices_IndexFunc_heapProp__heap_Heap_place_1.ann (s0, f1) = R.slices_IndexFunc_heapProp__heap_Heap_place_1 s0 f1 := by kernel_rfl

theorem slices_Equal_uint32.eq (s10 : (List Int)) (s21 : (List Int)) : runBody (slices_Equal_uint32.env Try.prog) Try.f48 slices_Equal_uint32.ps slices_Equal_uint32.rs slices_Equal_uint32.ann (s10, s21) = R.slices_Equal_uint32 s10 s21 := by kernel_rfl

theorem heap_Heap_Room.eq (h0 : T_heap_Heap.den) : runBody (heap_Heap_Room.env Try.prog) Try.f24 heap_Heap_Room.ps heap_Heap_Room.rs heap_Heap_Room.ann h0 = R.heap_Heap_Room h0 := by kernel_rfl


theorem renref9_Heap_Put.eq (h0 : T_heap_Heap.den) (ref1 : Int) (key2 : (List Int)) (v3 : T_heap_Value.den) : runBody (renref9_Heap_Put.env Try.prog) Try.f61 renref9_Heap_Put.ps renref9_Heap_Put.rs renref9_Heap_Put.ann (h0, (ref1, (key2, v3))) = R.renref9_Heap_Put h0 ref1 key2 v3 := by kernel_rfl

theorem renref_Dec.eq (fu : Nat) (n0 : Int) : runBody (renref_Dec.env Try.prog fu) Try.f92 renref_Dec.ps renref_Dec.rs renref_Dec.ann n0 = R.renref_Dec (fu + 1) n0 := by kernel_rfl

end Go.Mach

set_option maxRecDepth 100000
set_option linter.unusedVariables false
namespace Go.Mach
open Go.Proofs
theorem heap_Heap_place.eq (h0 : T_heap_Heap.den) (ref1 : Int) (key2 : (List Int)) : runBody (heap_Heap_place.env Try.prog) Try.f42 heap_Heap_place.ps heap_Heap_place.rs heap_Heap_place.ann (h0, (ref1, key2)) = R.heap_Heap_place h0 ref1 key2 := by kernel_rfl

theorem heap_Same.eq (a0 : T_heap_Value.den) (b1 : T_heap_Value.den) : runBody (heap_Same.env Try.prog) Try.f18 heap_Same.ps heap_Same.rs heap_Same.ann (a0, b1) = R.heap_Same a0 b1 := by kernel_rfl



theorem renref9_Heap_Drop.eq (h0 : T_heap_Heap.den) (ref1 : Int) : runBody (renref9_Heap_Drop.env Try.prog) Try.f62 renref9_Heap_Drop.ps renref9_Heap_Drop.rs renref9_Heap_Drop.ann (h0, ref1) = R.renref9_Heap_Drop h0 ref1 := by kernel_rfl

theorem renref9_Heap_Keys.eq (h0 : T_heap_Heap.den) (ref1 : Int) : runBody (renref9_Heap_Keys.env Try.prog) Try.f73 renref9_Heap_Keys.ps renref9_Heap_Keys.rs renref9_Heap_Keys.ann (h0, ref1) = R.renref9_Heap_Keys h0 ref1 := by kernel_rfl

end Go.Mach

set_option maxRecDepth 100000
set_option linter.unusedVariables false
namespace Go.Mach
open Go.Proofs
theorem heap_Heap_Put.eq (h0 : T_heap_Heap.den) (ref1 : Int) (key2 : (List Int)) (v3 : T_heap_Value.den) : runBody (heap_Heap_Put.env Try.prog) Try.f14 heap_Heap_Put.ps heap_Heap_Put.rs heap_Heap_Put.ann (h0, (ref1, (key2, v3))) = R.heap_Heap_Put h0 ref1 key2 v3 := by kernel_rfl

theorem renlaw9_first.eq  : runBody (renlaw9_first.env Try.prog) Try.f10 renlaw9_first.ps renlaw9_first.rs renlaw9_first.ann () = R.renlaw9_first  := by kernel_rfl

theorem heap_Heap_Count.eq (h0 : T_heap_Heap.den) (ref1 : Int) : runBody (heap_Heap_Count.env Try.prog) Try.f51 heap_Heap_Count.ps heap_Heap_Count.rs heap_Heap_Count.ann (h0, ref1) = R.heap_Heap_Count h0 ref1 := by kernel_rfl


theorem renlaw9_Is.eq (a0 : T_heap_Value.den) (b1 : T_heap_Value.den) : runBody (renlaw9_Is.env Try.prog) Try.f63 renlaw9_Is.ps renlaw9_Is.rs renlaw9_Is.ann (a0, b1) = R.renlaw9_Is a0 b1 := by kernel_rfl

theorem renlaw9_sameKeys.eq (a0 : (List (List Int))) (b1 : (List (List Int))) : runBody (renlaw9_sameKeys.env Try.prog) Try.f72 renlaw9_sameKeys.ps renlaw9_sameKeys.rs renlaw9_sameKeys.ann (a0, b1) = R.renlaw9_sameKeys a0 b1 := by kernel_rfl

end Go.Mach

set_option maxRecDepth 100000
set_option linter.unusedVariables false
namespace Go.Mach
open Go.Proofs
theorem text_digit.eq (x0 : Int) : runBody (text_digit.env Try.prog) Try.f81 text_digit.ps text_digit.rs text_digit.ann x0 = R.text_digit x0 := by kernel_rfl

theorem renlaw9_Few.eq (v0 : T_heap_Value.den) : runBody (renlaw9_Few.env Try.prog) Try.f12 renlaw9_Few.ps renlaw9_Few.rs renlaw9_Few.ann v0 = R.renlaw9_Few v0 := by kernel_rfl

theorem heap_Heap_Drop.eq (h0 : T_heap_Heap.den) (ref1 : Int) : runBody (heap_Heap_Drop.env Try.prog) Try.f26 heap_Heap_Drop.ps heap_Heap_Drop.rs heap_Heap_Drop.ann (h0, ref1) = R.heap_Heap_Drop h0 ref1 := by kernel_rfl


theorem renref9_slot.eq (c0 : T_heap_Cell.den) (name1 : (List UInt8)) : runBody (renref9_slot.env Try.prog) Try.f90 renref9_slot.ps renref9_slot.rs renref9_slot.ann (c0, name1) = R.renref9_slot c0 name1 := by kernel_rfl

theorem renlaw9_same.eq (h0 : T_heap_Heap.den) (x1 : T_heap_Heap.den) : runBody (renlaw9_same.env Try.prog) Try.f39 renlaw9_same.ps renlaw9_same.rs renlaw9_same.ann (h0, x1) = R.renlaw9_same h0 x1 := by kernel_rfl

end Go.Mach

set_option maxRecDepth 100000
set_option linter.unusedVariables false
namespace Go.Mach
open Go.Proofs
theorem text_Key.eq (u0 : (List Int)) : runBody (text_Key.env Try.prog) Try.f45 text_Key.ps text_Key.rs text_Key.ann u0 = R.text_Key u0 := by kernel_rfl

theorem heap_Heap_Cell.eq (h0 : T_heap_Heap.den) (ref1 : Int) : runBody (heap_Heap_Cell.env Try.prog) Try.f19 heap_Heap_Cell.ps heap_Heap_Cell.rs heap_Heap_Cell.ann (h0, ref1) = R.heap_Heap_Cell h0 ref1 := by kernel_rfl

theorem renlaw9_HeapChains.eq (n0 : Int) (key1 : (List Int)) (a2 : Int) (b3 : Int) (v4 : T_heap_Value.den) (w5 : T_heap_Value.den) : runBody (renlaw9_HeapChains.env Try.prog) Try.f5 renlaw9_HeapChains.ps renlaw9_HeapChains.rs renlaw9_HeapChains.ann (n0, (key1, (a2, (b3, (v4, w5))))) = R.renlaw9_HeapChains n0 key1 a2 b3 v4 w5 := by kernel_rfl


theorem renref9_Heap_Declare.eq (h0 : T_heap_Heap.den) (scope1 : Int) (name2 : (List UInt8)) (v3 : T_heap_Value.den) (ready4 : Bool) (fixed5 : Bool) : runBody (renref9_Heap_Declare.env Try.prog) Try.f64 renref9_Heap_Declare.ps renref9_Heap_Declare.rs renref9_Heap_Declare.ann (h0, (scope1, (name2, (v3, (ready4, fixed5))))) = R.renref9_Heap_Declare h0 scope1 name2 v3 ready4 fixed5 := by kernel_rfl

theorem renlaw9_HeapPlays.eq (size0 : Int) (l1 : (List T_renlaw9_Op.den)) : runBody (renlaw9_HeapPlays.env Try.prog) Try.f9 renlaw9_HeapPlays.ps renlaw9_HeapPlays.rs renlaw9_HeapPlays.ann (size0, l1) = R.renlaw9_HeapPlays size0 l1 := by kernel_rfl

end Go.Mach

set_option maxRecDepth 100000
set_option linter.unusedVariables false
namespace Go.Mach
open Go.Proofs
theorem heap_Heap_Keys_1.eq (a0 : (List Int)) (b1 : (List Int)) : runBody (heap_Heap_Keys_1.env Try.prog) Try.f47 heap_Heap_Keys_1.ps heap_Heap_Keys_1.rs heap_Heap_Keys_1.ann (a0, b1) = R.heap_Heap_Keys_1 a0 b1 := by kernel_rfl


theorem heap_Heap_Write.eq (h0 : T_heap_Heap.den) (ref1 : Int) (at2 : Int) (b3 : (List Int)) : runBody (heap_Heap_Write.env Try.prog) Try.f27 heap_Heap_Write.ps heap_Heap_Write.rs heap_Heap_Write.ann (h0, (ref1, (at2, b3))) = R.heap_Heap_Write h0 ref1 at2 b3 := by kernel_rfl

theorem renlaw9_few.eq (l0 : (List T_renlaw9_Op.den)) : runBody (renlaw9_few.env Try.prog) Try.f34 renlaw9_few.ps renlaw9_few.rs renlaw9_few.ann l0 = R.renlaw9_few l0 := by kernel_rfl

theorem heap_Heap_Give.eq (h0 : T_heap_Heap.den) (scope1 : Int) (name2 : (List UInt8)) (v3 : T_heap_Value.den) (ready4 : Bool) : runBody (heap_Heap_Give.env Try.prog) Try.f65 heap_Heap_Give.ps heap_Heap_Give.rs heap_Heap_Give.ann (h0, (scope1, (name2, (v3, ready4)))) = R.heap_Heap_Give h0 scope1 name2 v3 ready4 := by kernel_rfl

end Go.Mach

set_option maxRecDepth 100000
set_option linter.unusedVariables false
namespace Go.Mach
open Go.Proofs
theorem slices_insertionSortCmpFunc_suint16__heap_Heap_Keys_1.eq (data0 : (List (List Int))) (a1 : Int) (b2 : Int) (cmp3 : Unit) : runBody (slices_insertionSortCmpFunc_suint16__heap_Heap_Keys_1.env Try.prog) Try.f93 slices_insertionSortCmpFunc_suint16__heap_Heap_Keys_1.ps slices_insertionSortCmpFunc_suint16__heap_Heap_Keys_1.rs slices_insertionSortCmpFunc_suint16__heap_Heap_Keys_1.ann (data0, (a1, (b2, cmp3))) = R.slices_insertionSortCmpFunc_suint16__heap_Heap_Keys_1 data0 a1 b2 cmp3 := by kernel_rfl

theorem renlaw9_weight.eq (c0 : T_heap_Cell.den) : runBody (renlaw9_weight.env Try.prog) Try.f20 renlaw9_weight.ps renlaw9_weight.rs renlaw9_weight.ann c0 = R.renlaw9_weight c0 := by kernel_rfl

theorem renlaw9_HeapBytes.eq (b0 : (List Int)) (x1 : (List Int)) (at2 : Int) : runBody (renlaw9_HeapBytes.env Try.prog) Try.f6 renlaw9_HeapBytes.ps renlaw9_HeapBytes.rs renlaw9_HeapBytes.ann (b0, (x1, at2)) = R.renlaw9_HeapBytes b0 x1 at2 := by kernel_rfl

theorem renref9_New.eq (room0 : Int) : runBody (renref9_New.env Try.prog) Try.f35 renref9_New.ps renref9_New.rs renref9_New.ann room0 = R.renref9_New room0 := by kernel_rfl

theorem renref9_Heap_Give.eq (h0 : T_heap_Heap.den) (scope1 : Int) (name2 : (List UInt8)) (v3 : T_heap_Value.den) (ready4 : Bool) : runBody (renref9_Heap_Give.env Try.prog) Try.f66 renref9_Heap_Give.ps renref9_Heap_Give.rs renref9_Heap_Give.ann (h0, (scope1, (name2, (v3, ready4)))) = R.renref9_Heap_Give h0 scope1 name2 v3 ready4 := by kernel_rfl

end Go.Mach
