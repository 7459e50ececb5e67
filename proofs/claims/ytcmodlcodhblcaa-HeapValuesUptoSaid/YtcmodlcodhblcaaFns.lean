/-
  HeapValuesUptoSaid: renlaw9.HeapValues answers true for every input of the given bulk, and leaves its arguments as they were.
  Part Fns of the texts. By an AI agent; no person has read it.
-/
import Derived.Test.YtcmodlcodhblcaaMachc
import Derived.KernelRfl
import Derived.Test.YtcmodlcodhblcaaProg
set_option linter.all false
set_option linter.deprecated false
set_option linter.unusedVariables false
set_option maxRecDepth 4000
namespace Go.Mach
abbrev T_runtime_errorAddressString : Ty := (.pair .str (.int .u64))
abbrev T_api_Num : Ty := (.pair (.int .i64) (.int .i64))
abbrev T_api_Big : Ty := (.pair .bool (.list (.int .u32)))
abbrev T_runtime_boundsError : Ty := (.pair (.int .i64) (.pair (.int .i64) (.pair .bool (.int .u8))))
abbrev T_heap_Value : Ty := (.pair (.int .i64) (.pair T_api_Num (.pair T_api_Big (.pair (.list (.int .u16)) (.int .i64)))))
abbrev T_heap_Prop : Ty := (.pair (.list (.int .u16)) T_heap_Value)
abbrev T_heap_Slot : Ty := (.pair .str (.pair T_heap_Value (.pair .bool .bool)))
abbrev T_heap_Cell : Ty := (.pair (.int .i64) (.pair (.int .i64) (.pair (.list T_heap_Prop) (.pair (.list T_heap_Slot) (.pair .str (.pair (.int .i64) (.pair (.int .i64) (.pair T_heap_Value (.pair (.int .i64) (.pair (.int .i64) (.pair (.int .i64) (.pair (.int .i64) (.list (.int .u8))))))))))))))
abbrev T_heap_Heap : Ty := (.pair (.int .i64) (.list T_heap_Cell))
abbrev T_renlaw9_Op : Ty := (.pair (.int .i64) (.pair (.int .i64) (.pair (.int .i64) (.pair T_heap_Cell (.pair (.list (.int .u16)) (.pair .str (.pair T_heap_Value (.pair .bool (.pair .bool (.list (.int .u8)))))))))))
@[reducible] def clonePs (e : Ty) : List Par := [.val false (.bor (.own (.frz e)))]
@[reducible] def cloneRs (e : Ty) : List VSh := [(false, .own (.frz e))]
def okClone (e : Ty) : outs (dens (cloneRs e)) (boxes (clonePs e)) → Bool := outsOk (oks (cloneRs e)) (boxes (clonePs e))
def cloneSpec (f : FuncId) (e : Ty) : Spec := ⟨f, clonePs e, cloneRs e, fun x => Res.ok x⟩
/-- k: an element's bytes, where its range word knows fewer. -/
def cloneSpecN (k : Nat) (f : FuncId) (e : Ty) : Spec := ⟨f, clonePs e, cloneRs e, fun x => Res.need (decide ((0 + x.length) * k ≤ 2 ^ 47)) (Res.ok x)⟩
@[reducible] def heap_New.ps : List Par := [.val false (.frz (.int .i64))]
@[reducible] def heap_New.rs : List VSh := [(false, (.box (.seq (.frz (.int .i64)) (.own (.seq (.frz (.int .i64)) (.seq (.frz (.int .i64)) (.seq (.own (.frz T_heap_Prop)) (.seq (.own (.frz T_heap_Slot)) (.seq (.frz .str) (.seq (.frz (.int .i64)) (.seq (.frz (.int .i64)) (.seq (.frz T_heap_Value) (.seq (.frz (.int .i64)) (.seq (.frz (.int .i64)) (.seq (.frz (.int .i64)) (.seq (.frz (.int .i64)) (.own (.frz (.int .u8)))))))))))))))))))]
def heap_New.okOut : outs (dens heap_New.rs) (boxes heap_New.ps) → Bool := outsOk (oks heap_New.rs) (boxes heap_New.ps)
/-- rendezvous/heap.New -/
def R.heap_New (room0 : Int) : Res (T_heap_Heap.den) :=
  Res.given (oks (heap_New.ps.map Par.v) room0) (Res.ok (((minI (maxI room0 0) 4096), ([] : List T_heap_Cell.den))))

@[reducible] def heap_own.ps : List Par := [.val true (.bor (.seq (.frz (.int .i64)) (.seq (.frz T_api_Num) (.seq (.seq (.frz .bool) (.own (.frz (.int .u32)))) (.seq (.own (.frz (.int .u16))) (.frz (.int .i64)))))))]
@[reducible] def heap_own.rs : List VSh := [(true, (.frz T_heap_Value))]
def heap_own.okOut : outs (dens heap_own.rs) (boxes heap_own.ps) → Bool := outsOk (oks heap_own.rs) (boxes heap_own.ps)
/-- rendezvous/heap.own -/
def R.heap_own (v0 : T_heap_Value.den) : Res (T_heap_Value.den) :=
  Res.given (oks (heap_own.ps.map Par.v) v0) (Res.bind (Res.ok v0.2.2.1.2) fun r1 => Res.given (okClone (.int .u32) r1) (Res.bind (Res.ok v0.2.2.2.1) fun r2 => Res.given (okClone (.int .u16) r2) (Res.ok ((v0.1, (v0.2.1, ((v0.2.2.1.1, r1), (r2, v0.2.2.2.2))))))))

@[reducible] def heap_copied.ps : List Par := [.val true (.bor (.seq (.frz (.int .i64)) (.seq (.frz (.int .i64)) (.seq (.own (.frz T_heap_Prop)) (.seq (.own (.frz T_heap_Slot)) (.seq (.frz .str) (.seq (.frz (.int .i64)) (.seq (.frz (.int .i64)) (.seq (.seq (.frz (.int .i64)) (.seq (.frz T_api_Num) (.seq (.seq (.frz .bool) (.own (.frz (.int .u32)))) (.seq (.own (.frz (.int .u16))) (.frz (.int .i64)))))) (.seq (.frz (.int .i64)) (.seq (.frz (.int .i64)) (.seq (.frz (.int .i64)) (.seq (.frz (.int .i64)) (.own (.frz (.int .u8))))))))))))))))]
@[reducible] def heap_copied.rs : List VSh := [(true, (.seq (.frz (.int .i64)) (.seq (.frz (.int .i64)) (.seq (.own (.frz T_heap_Prop)) (.seq (.own (.frz T_heap_Slot)) (.seq (.frz .str) (.seq (.frz (.int .i64)) (.seq (.frz (.int .i64)) (.seq (.frz T_heap_Value) (.seq (.frz (.int .i64)) (.seq (.frz (.int .i64)) (.seq (.frz (.int .i64)) (.seq (.frz (.int .i64)) (.own (.frz (.int .u8))))))))))))))))]
def heap_copied.okOut : outs (dens heap_copied.rs) (boxes heap_copied.ps) → Bool := outsOk (oks heap_copied.rs) (boxes heap_copied.ps)
/-- rendezvous/heap.copied -/
def R.heap_copied (c0 : T_heap_Cell.den) : Res (T_heap_Cell.den) :=
  Res.given (oks (heap_copied.ps.map Par.v) c0) (Res.bind (Res.need (decide ((0 + c0.2.2.1.length) * 112 ≤ 2 ^ 47)) (Res.ok c0.2.2.1)) fun r1 => Res.given (okClone T_heap_Prop r1) (Res.bind (Res.need (decide ((0 + c0.2.2.2.1.length) * 112 ≤ 2 ^ 47)) (Res.ok c0.2.2.2.1)) fun r2 => Res.given (okClone T_heap_Slot r2) (Res.bind (Res.ok c0.2.2.2.2.2.2.2.2.2.2.2.2) fun r3 => Res.given (okClone (.int .u8) r3) (Res.bind (R.heap_own c0.2.2.2.2.2.2.2.1) fun r4 => Res.given (heap_own.okOut r4) (Res.bind (Res.loop (α := (Int × (List T_heap_Prop.den))) (β := (List T_heap_Prop.den)) (fun x5 => Res.br (ilt x5.1 (r1.length : Int)) (Res.need (ile 0 x5.1 && ilt x5.1 x5.2.length) (Res.idx T_heap_Prop x5.2 (0 + Int.toNat x5.1) fun e6 => Res.bind (Res.ok e6.1) fun r7 => Res.given (okClone (.int .u16) r7) (Res.bind (R.heap_own e6.2) fun r8 => Res.given (heap_own.okOut r8) (Res.need (ile 0 x5.1 && ilt x5.1 x5.2.length) (Res.idx T_heap_Prop x5.2 (0 + Int.toNat x5.1) fun e9 => Res.ok (.next ((IntKind.wrap .i64 (x5.1 + 1), (List.set x5.2 (0 + Int.toNat x5.1) (r7, r8)))))))))) (Res.ok (.done (x5.2)))) fuel (0, r1)) fun x10 => Res.bind (Res.loop (α := (Int × (List T_heap_Slot.den))) (β := (List T_heap_Slot.den)) (fun x11 => Res.br (ilt x11.1 (r2.length : Int)) (Res.need (ile 0 x11.1 && ilt x11.1 x11.2.length) (Res.idx T_heap_Slot x11.2 (0 + Int.toNat x11.1) fun e12 => Res.bind (R.heap_own e12.2.1) fun r13 => Res.given (heap_own.okOut r13) (Res.need (ile 0 x11.1 && ilt x11.1 x11.2.length) (Res.idx T_heap_Slot x11.2 (0 + Int.toNat x11.1) fun e14 => Res.ok (.next ((IntKind.wrap .i64 (x11.1 + 1), (List.set x11.2 (0 + Int.toNat x11.1) (e14.1, (r13, e14.2.2)))))))))) (Res.ok (.done (x11.2)))) fuel (0, r2)) fun x15 => Res.ok ((c0.1, (c0.2.1, (x10, (x15, (c0.2.2.2.2.1, (c0.2.2.2.2.2.1, (c0.2.2.2.2.2.2.1, (r4, (c0.2.2.2.2.2.2.2.2.1, (c0.2.2.2.2.2.2.2.2.2.1, (c0.2.2.2.2.2.2.2.2.2.2.1, (c0.2.2.2.2.2.2.2.2.2.2.2.1, r3))))))))))))))))))

@[reducible] def heap_Heap_Make.ps : List Par := [.obj (.box (.seq (.frz (.int .i64)) (.own (.seq (.frz (.int .i64)) (.seq (.frz (.int .i64)) (.seq (.own (.frz T_heap_Prop)) (.seq (.own (.frz T_heap_Slot)) (.seq (.frz .str) (.seq (.frz (.int .i64)) (.seq (.frz (.int .i64)) (.seq (.frz T_heap_Value) (.seq (.frz (.int .i64)) (.seq (.frz (.int .i64)) (.seq (.frz (.int .i64)) (.seq (.frz (.int .i64)) (.own (.frz (.int .u8)))))))))))))))))), .val true (.bor (.seq (.frz (.int .i64)) (.seq (.frz (.int .i64)) (.seq (.own (.frz T_heap_Prop)) (.seq (.own (.frz T_heap_Slot)) (.seq (.frz .str) (.seq (.frz (.int .i64)) (.seq (.frz (.int .i64)) (.seq (.seq (.frz (.int .i64)) (.seq (.frz T_api_Num) (.seq (.seq (.frz .bool) (.own (.frz (.int .u32)))) (.seq (.own (.frz (.int .u16))) (.frz (.int .i64)))))) (.seq (.frz (.int .i64)) (.seq (.frz (.int .i64)) (.seq (.frz (.int .i64)) (.seq (.frz (.int .i64)) (.own (.frz (.int .u8))))))))))))))))]
@[reducible] def heap_Heap_Make.rs : List VSh := [(false, (.frz (.int .i64))), (false, (.frz .bool))]
def heap_Heap_Make.okOut : outs (dens heap_Heap_Make.rs) (boxes heap_Heap_Make.ps) → Bool := outsOk (oks heap_Heap_Make.rs) (boxes heap_Heap_Make.ps)
/-- (*rendezvous/heap.Heap).Make -/
def R.heap_Heap_Make (h0 : T_heap_Heap.den) (c1 : T_heap_Cell.den) : Res ((Int × Bool) × T_heap_Heap.den) :=
  Res.given (oks (heap_Heap_Make.ps.map Par.v) (h0, c1)) (Res.br (ile h0.1 (h0.2.length : Int)) (Res.ok (((0, false), h0))) (Res.bind (R.heap_copied c1) fun r1 => Res.given (heap_copied.okOut r1) (Res.need (decide ((h0.2.length + [r1].length) * 240 ≤ 2 ^ 47)) (Res.ok (((IntKind.wrap .i64 (((h0.2 ++ [r1]).length : Int) - 1), true), (h0.1, (h0.2 ++ [r1]))))))))

@[reducible] def renref_Ascii.ps : List Par := [.val false (.frz .str)]
@[reducible] def renref_Ascii.rs : List VSh := [(false, (.own (.frz (.int .u16))))]
def renref_Ascii.okOut : outs (dens renref_Ascii.rs) (boxes renref_Ascii.ps) → Bool := outsOk (oks renref_Ascii.rs) (boxes renref_Ascii.ps)
/-- rendezvous/renref.Ascii -/
def R.renref_Ascii (s0 : (List UInt8)) : Res ((List Int)) :=
  Res.given (oks (renref_Ascii.ps.map Par.v) s0) (Res.bind (Res.loop (α := ((List Int) × Int)) (β := (List Int)) (fun out1 => Res.br (ilt out1.2 (s0.length : Int)) (Res.idx (.int .u8) (nums s0) out1.2 fun e2 => Res.need (decide ((out1.1.length + [IntKind.wrap .u16 e2].length) * 2 ≤ 2 ^ 47)) (Res.ok (.next (((out1.1 ++ [IntKind.wrap .u16 e2]), IntKind.wrap .i64 (out1.2 + 1)))))) (Res.ok (.done (out1.1)))) fuel (([] : List Int), 0)) fun out3 => Res.ok (out3))

@[reducible] def heap_Heap_has.ps : List Par := [.val false (.bor (.box (.seq (.frz (.int .i64)) (.own (.seq (.frz (.int .i64)) (.seq (.frz (.int .i64)) (.seq (.own (.frz T_heap_Prop)) (.seq (.own (.frz T_heap_Slot)) (.seq (.frz .str) (.seq (.frz (.int .i64)) (.seq (.frz (.int .i64)) (.seq (.frz T_heap_Value) (.seq (.frz (.int .i64)) (.seq (.frz (.int .i64)) (.seq (.frz (.int .i64)) (.seq (.frz (.int .i64)) (.own (.frz (.int .u8))))))))))))))))))), .val false (.frz (.int .i64))]
@[reducible] def heap_Heap_has.rs : List VSh := [(false, (.frz .bool))]
def heap_Heap_has.okOut : outs (dens heap_Heap_has.rs) (boxes heap_Heap_has.ps) → Bool := outsOk (oks heap_Heap_has.rs) (boxes heap_Heap_has.ps)
/-- (*rendezvous/heap.Heap).has -/
def R.heap_Heap_has (h0 : T_heap_Heap.den) (ref1 : Int) : Res (Bool) :=
  Res.given (oks (heap_Heap_has.ps.map Par.v) (h0, ref1)) (Res.br (ile 0 ref1) (Res.ok ((ilt ref1 (h0.2.length : Int)))) (Res.ok (false)))

@[reducible] def slices_Equal_uint16.ps : List Par := [.val false (.bor (.own (.frz (.int .u16)))), .val false (.bor (.own (.frz (.int .u16))))]
@[reducible] def slices_Equal_uint16.rs : List VSh := [(false, (.frz .bool))]
def slices_Equal_uint16.okOut : outs (dens slices_Equal_uint16.rs) (boxes slices_Equal_uint16.ps) → Bool := outsOk (oks slices_Equal_uint16.rs) (boxes slices_Equal_uint16.ps)
/-- slices.Equal[[]uint16,uint16] -/
def R.slices_Equal_uint16 (s10 : (List Int)) (s21 : (List Int)) : Res (Bool) :=
  Res.given (oks (slices_Equal_uint16.ps.map Par.v) (s10, s21)) (Res.br (!((s10.length : Int) == (s21.length : Int))) (Res.ok (false)) (Res.bind (Res.loop (α := Int) (β := (Unit ⊕ Bool)) (fun x1 => Res.br (ilt x1 (s10.length : Int)) (Res.idxS (.frz (.int .u16)) s10 x1 fun e2 => Res.idxS (.frz (.int .u16)) s21 x1 fun e3 => Res.br (!(e2 == e3)) (Res.ok (.done (.inr false))) (Res.ok (.next (IntKind.wrap .i64 (x1 + 1))))) (Res.ok (.done (.inl ())))) fuel 0) fun x4 => Res.sum x4 (fun x5 => Res.ok (true)) (fun z6 => Res.ok (z6))))

@[reducible] def text_Same.ps : List Par := [.val false (.bor (.own (.frz (.int .u16)))), .val false (.bor (.own (.frz (.int .u16))))]
@[reducible] def text_Same.rs : List VSh := [(false, (.frz .bool))]
def text_Same.okOut : outs (dens text_Same.rs) (boxes text_Same.ps) → Bool := outsOk (oks text_Same.rs) (boxes text_Same.ps)
/-- rendezvous/text.Same -/
def R.text_Same (a0 : (List Int)) (b1 : (List Int)) : Res (Bool) :=
  Res.given (oks (text_Same.ps.map Par.v) (a0, b1)) (Res.bind (R.slices_Equal_uint16 a0 b1) fun r1 => Res.ok (r1))

@[reducible] def heap_Heap_place_1.ps : List Par := [.val true (.bor (.seq (.own (.frz (.int .u16))) (.seq (.frz (.int .i64)) (.seq (.frz T_api_Num) (.seq (.seq (.frz .bool) (.own (.frz (.int .u32)))) (.seq (.own (.frz (.int .u16))) (.frz (.int .i64)))))))), .val false (.bor (.box (.own (.frz (.int .u16)))))]
@[reducible] def heap_Heap_place_1.rs : List VSh := [(false, (.frz .bool))]
def heap_Heap_place_1.okOut : outs (dens heap_Heap_place_1.rs) (boxes heap_Heap_place_1.ps) → Bool := outsOk (oks heap_Heap_place_1.rs) (boxes heap_Heap_place_1.ps)
/-- (*rendezvous/heap.Heap).place$1 -/
def R.heap_Heap_place_1 (p0 : T_heap_Prop.den) (a1 : (List Int)) : Res (Bool) :=
  Res.given (oks (heap_Heap_place_1.ps.map Par.v) (p0, a1)) (Res.bind (R.text_Same p0.1 a1) fun r1 => Res.ok (r1))

@[reducible] def slices_IndexFunc_heapProp__heap_Heap_place_1.ps : List Par := [.val false (.bor (.own (.frz T_heap_Prop))), .val false (.bor (.clo 78 (.box (.own (.frz (.int .u16))))))]
@[reducible] def slices_IndexFunc_heapProp__heap_Heap_place_1.rs : List VSh := [(false, (.frz (.int .i64)))]
def slices_IndexFunc_heapProp__heap_Heap_place_1.okOut : outs (dens slices_IndexFunc_heapProp__heap_Heap_place_1.rs) (boxes slices_IndexFunc_heapProp__heap_Heap_place_1.ps) → Bool := outsOk (oks slices_IndexFunc_heapProp__heap_Heap_place_1.rs) (boxes slices_IndexFunc_heapProp__heap_Heap_place_1.ps)
/-- slices.IndexFunc[[]rendezvous/heap.Prop,rendezvous/heap.Prop] -/
def R.slices_IndexFunc_heapProp__heap_Heap_place_1 (s0 : (List T_heap_Prop.den)) (f1 : (List Int)) : Res (Int) :=
  Res.given (oks (slices_IndexFunc_heapProp__heap_Heap_place_1.ps.map Par.v) (s0, f1)) (Res.bind (Res.loop (α := Int) (β := (Unit ⊕ Int)) (fun x1 => Res.br (ilt x1 (s0.length : Int)) (Res.idxS (.frz T_heap_Prop) s0 x1 fun e2 => Res.bind (R.heap_Heap_place_1 e2 f1) fun r3 => Res.br r3 (Res.ok (.done (.inr x1))) (Res.ok (.next (IntKind.wrap .i64 (x1 + 1))))) (Res.ok (.done (.inl ())))) fuel 0) fun x4 => Res.sum x4 (fun x5 => Res.ok ((-1))) (fun z6 => Res.ok (z6)))

@[reducible] def heap_Heap_place.ps : List Par := [.val false (.bor (.box (.seq (.frz (.int .i64)) (.own (.seq (.frz (.int .i64)) (.seq (.frz (.int .i64)) (.seq (.own (.frz T_heap_Prop)) (.seq (.own (.frz T_heap_Slot)) (.seq (.frz .str) (.seq (.frz (.int .i64)) (.seq (.frz (.int .i64)) (.seq (.frz T_heap_Value) (.seq (.frz (.int .i64)) (.seq (.frz (.int .i64)) (.seq (.frz (.int .i64)) (.seq (.frz (.int .i64)) (.own (.frz (.int .u8))))))))))))))))))), .val false (.frz (.int .i64)), .val false (.bor (.own (.frz (.int .u16))))]
@[reducible] def heap_Heap_place.rs : List VSh := [(false, (.frz (.int .i64)))]
def heap_Heap_place.okOut : outs (dens heap_Heap_place.rs) (boxes heap_Heap_place.ps) → Bool := outsOk (oks heap_Heap_place.rs) (boxes heap_Heap_place.ps)
/-- (*rendezvous/heap.Heap).place -/
def R.heap_Heap_place (h0 : T_heap_Heap.den) (ref1 : Int) (key2 : (List Int)) : Res (Int) :=
  Res.given (oks (heap_Heap_place.ps.map Par.v) (h0, (ref1, key2))) (Res.idxS (.seq (.frz (.int .i64)) (.seq (.frz (.int .i64)) (.seq (.own (.frz T_heap_Prop)) (.seq (.own (.frz T_heap_Slot)) (.seq (.frz .str) (.seq (.frz (.int .i64)) (.seq (.frz (.int .i64)) (.seq (.frz T_heap_Value) (.seq (.frz (.int .i64)) (.seq (.frz (.int .i64)) (.seq (.frz (.int .i64)) (.seq (.frz (.int .i64)) (.own (.frz (.int .u8))))))))))))))) h0.2 ref1 fun e1 => Res.bind (R.slices_IndexFunc_heapProp__heap_Heap_place_1 e1.2.2.1 key2) fun r2 => Res.given (slices_IndexFunc_heapProp__heap_Heap_place_1.okOut r2) (Res.ok (r2)))

@[reducible] def heap_Heap_Put.ps : List Par := [.obj (.box (.seq (.frz (.int .i64)) (.own (.seq (.frz (.int .i64)) (.seq (.frz (.int .i64)) (.seq (.own (.frz T_heap_Prop)) (.seq (.own (.frz T_heap_Slot)) (.seq (.frz .str) (.seq (.frz (.int .i64)) (.seq (.frz (.int .i64)) (.seq (.frz T_heap_Value) (.seq (.frz (.int .i64)) (.seq (.frz (.int .i64)) (.seq (.frz (.int .i64)) (.seq (.frz (.int .i64)) (.own (.frz (.int .u8)))))))))))))))))), .val false (.frz (.int .i64)), .val false (.bor (.own (.frz (.int .u16)))), .val true (.bor (.seq (.frz (.int .i64)) (.seq (.frz T_api_Num) (.seq (.seq (.frz .bool) (.own (.frz (.int .u32)))) (.seq (.own (.frz (.int .u16))) (.frz (.int .i64)))))))]
@[reducible] def heap_Heap_Put.rs : List VSh := [(false, (.frz .bool))]
def heap_Heap_Put.okOut : outs (dens heap_Heap_Put.rs) (boxes heap_Heap_Put.ps) → Bool := outsOk (oks heap_Heap_Put.rs) (boxes heap_Heap_Put.ps)
/-- (*rendezvous/heap.Heap).Put -/
def R.heap_Heap_Put (h0 : T_heap_Heap.den) (ref1 : Int) (key2 : (List Int)) (v3 : T_heap_Value.den) : Res (Bool × T_heap_Heap.den) :=
  Res.given (oks (heap_Heap_Put.ps.map Par.v) (h0, (ref1, (key2, v3)))) (Res.bind (R.heap_Heap_has h0 ref1) fun r1 => Res.br (!r1) (Res.ok ((false, h0))) (Res.idxS (.seq (.frz (.int .i64)) (.seq (.frz (.int .i64)) (.seq (.own (.frz T_heap_Prop)) (.seq (.own (.frz T_heap_Slot)) (.seq (.frz .str) (.seq (.frz (.int .i64)) (.seq (.frz (.int .i64)) (.seq (.frz T_heap_Value) (.seq (.frz (.int .i64)) (.seq (.frz (.int .i64)) (.seq (.frz (.int .i64)) (.seq (.frz (.int .i64)) (.own (.frz (.int .u8))))))))))))))) h0.2 ref1 fun e2 => Res.bind (R.heap_Heap_place (h0.1, (List.set h0.2 (Int.toNat ref1) e2)) ref1 key2) fun r3 => Res.given (heap_Heap_place.okOut r3) (Res.br (ile 0 r3) (Res.need ((Int.toNat ref1) == (Int.toNat ref1)) (Res.bind (R.heap_own v3) fun r4 => Res.given (heap_own.okOut r4) (Res.need (ile 0 r3 && ilt r3 e2.2.2.1.length) (Res.idx T_heap_Prop e2.2.2.1 (0 + Int.toNat r3) fun e5 => Res.ok ((true, (h0.1, (List.set h0.2 (Int.toNat ref1) (e2.1, (e2.2.1, ((List.set e2.2.2.1 (0 + Int.toNat r3) (e5.1, r4)), e2.2.2.2))))))))))) (Res.need ((Int.toNat ref1) == (Int.toNat ref1)) (Res.bind (Res.ok key2) fun r6 => Res.given (okClone (.int .u16) r6) (Res.bind (R.heap_own v3) fun r7 => Res.given (heap_own.okOut r7) (Res.need (decide ((e2.2.2.1.length + [(r6, r7)].length) * 112 ≤ 2 ^ 47)) (Res.need ((Int.toNat ref1) == (Int.toNat ref1)) (Res.ok ((true, (h0.1, (List.set h0.2 (Int.toNat ref1) (e2.1, (e2.2.1, ((e2.2.2.1 ++ [(r6, r7)]), e2.2.2.2))))))))))))))))

@[reducible] def text_digit.ps : List Par := [.val false (.frz (.int .u16))]
@[reducible] def text_digit.rs : List VSh := [(false, (.frz .bool))]
def text_digit.okOut : outs (dens text_digit.rs) (boxes text_digit.ps) → Bool := outsOk (oks text_digit.rs) (boxes text_digit.ps)
/-- rendezvous/text.digit -/
def R.text_digit (x0 : Int) : Res (Bool) :=
  Res.given (oks (text_digit.ps.map Par.v) x0) (Res.br (ile 48 x0) (Res.ok ((ile x0 57))) (Res.ok (false)))

@[reducible] def text_Key.ps : List Par := [.val false (.bor (.own (.frz (.int .u16))))]
@[reducible] def text_Key.rs : List VSh := [(false, (.frz (.int .i64))), (false, (.frz .bool))]
def text_Key.okOut : outs (dens text_Key.rs) (boxes text_Key.ps) → Bool := outsOk (oks text_Key.rs) (boxes text_Key.ps)
/-- rendezvous/text.Key -/
def R.text_Key (u0 : (List Int)) : Res ((Int × Bool)) :=
  Res.given (oks (text_Key.ps.map Par.v) u0) (Res.bind (α := Bool) (Res.br ((u0.length : Int) == 0) (Res.ok (true)) (Res.br (ilt 10 (u0.length : Int)) (Res.ok (true)) (Res.idxS (.frz (.int .u16)) u0 0 fun e1 => Res.br (e1 == 48) (Res.ok ((ilt 1 (u0.length : Int)))) (Res.ok (false))))) fun x2 => Res.br x2 (Res.ok ((0, false))) (Res.bind (Res.loop (α := (Int × Int)) (β := (Int ⊕ (Int × Bool))) (fun n3 => Res.br (ilt n3.2 (u0.length : Int)) (Res.idxS (.frz (.int .u16)) u0 n3.2 fun e4 => Res.bind (R.text_digit e4) fun r5 => Res.br (!r5) (Res.ok (.done (.inr (0, false)))) (Res.ok (.next ((IntKind.wrap .i64 ((IntKind.wrap .i64 (10 * n3.1)) + (IntKind.wrap .i64 (IntKind.wrap .u16 (e4 - 48)))), IntKind.wrap .i64 (n3.2 + 1)))))) (Res.ok (.done (.inl n3.1)))) fuel (0, 0)) fun n6 => Res.sum n6 (fun n7 => Res.br (ilt 4294967294 n7) (Res.ok ((0, false))) (Res.ok ((n7, true)))) (fun z8 => Res.ok (z8))))

@[reducible] def heap_Heap_Keys_1.ps : List Par := [.val false (.bor (.own (.frz (.int .u16)))), .val false (.bor (.own (.frz (.int .u16))))]
@[reducible] def heap_Heap_Keys_1.rs : List VSh := [(false, (.frz (.int .i64)))]
def heap_Heap_Keys_1.okOut : outs (dens heap_Heap_Keys_1.rs) (boxes heap_Heap_Keys_1.ps) → Bool := outsOk (oks heap_Heap_Keys_1.rs) (boxes heap_Heap_Keys_1.ps)
/-- (*rendezvous/heap.Heap).Keys$1 -/
def R.heap_Heap_Keys_1 (a0 : (List Int)) (b1 : (List Int)) : Res (Int) :=
  Res.given (oks (heap_Heap_Keys_1.ps.map Par.v) (a0, b1)) (Res.bind (R.text_Key a0) fun r1 => Res.given (text_Key.okOut r1) (Res.bind (R.text_Key b1) fun r2 => Res.given (text_Key.okOut r2) (Res.ok (IntKind.wrap .i64 (r1.1 - r2.1)))))

@[reducible] def slices_insertionSortCmpFunc_suint16__heap_Heap_Keys_1.ps : List Par := [.obj (.own (.frz (.list (.int .u16)))), .val false (.frz (.int .i64)), .val false (.frz (.int .i64)), .val false (.bor (.clo 47 .nil))]
@[reducible] def slices_insertionSortCmpFunc_suint16__heap_Heap_Keys_1.rs : List VSh := []
def slices_insertionSortCmpFunc_suint16__heap_Heap_Keys_1.okOut : outs (dens slices_insertionSortCmpFunc_suint16__heap_Heap_Keys_1.rs) (boxes slices_insertionSortCmpFunc_suint16__heap_Heap_Keys_1.ps) → Bool := outsOk (oks slices_insertionSortCmpFunc_suint16__heap_Heap_Keys_1.rs) (boxes slices_insertionSortCmpFunc_suint16__heap_Heap_Keys_1.ps)
/-- slices.insertionSortCmpFunc[[]uint16] -/
def R.slices_insertionSortCmpFunc_suint16__heap_Heap_Keys_1 (data0 : (List (List Int))) (a1 : Int) (b2 : Int) (cmp3 : Unit) : Res (Unit × (List (List Int))) :=
  Res.given (oks (slices_insertionSortCmpFunc_suint16__heap_Heap_Keys_1.ps.map Par.v) (data0, (a1, (b2, cmp3)))) (Res.bind (Res.loop (α := (Int × (List (List Int)))) (β := (List (List Int))) (fun i1 => Res.br (ilt i1.1 b2) (Res.bind (Res.loop (α := (Int × (List (List Int)))) (β := (List (List Int))) (fun j2 => Res.bind (α := Bool) (Res.br (ilt a1 j2.1) (Res.need (ile 0 j2.1 && ilt j2.1 j2.2.length) (Res.idx (.list (.int .u16)) j2.2 (0 + Int.toNat j2.1) fun e3 => Res.need (ile 0 (IntKind.wrap .i64 (j2.1 - 1)) && ilt (IntKind.wrap .i64 (j2.1 - 1)) j2.2.length) (Res.idx (.list (.int .u16)) j2.2 (0 + Int.toNat (IntKind.wrap .i64 (j2.1 - 1))) fun e4 => Res.bind (R.heap_Heap_Keys_1 e3 e4) fun r5 => Res.given (heap_Heap_Keys_1.okOut r5) (Res.ok ((ilt r5 0)))))) (Res.ok (false))) fun x6 => Res.br x6 (Res.need (ile 0 (IntKind.wrap .i64 (j2.1 - 1)) && ilt (IntKind.wrap .i64 (j2.1 - 1)) j2.2.length) (Res.idx (.list (.int .u16)) j2.2 (0 + Int.toNat (IntKind.wrap .i64 (j2.1 - 1))) fun e7 => Res.need (ile 0 j2.1 && ilt j2.1 j2.2.length) (Res.idx (.list (.int .u16)) j2.2 (0 + Int.toNat j2.1) fun e8 => Res.need (ile 0 j2.1 && ilt j2.1 j2.2.length) (Res.idx (.list (.int .u16)) j2.2 (0 + Int.toNat j2.1) fun e9 => Res.need (ile 0 (IntKind.wrap .i64 (j2.1 - 1)) && ilt (IntKind.wrap .i64 (j2.1 - 1)) (List.set j2.2 (0 + Int.toNat j2.1) e7).length) (Res.idx (.list (.int .u16)) (List.set j2.2 (0 + Int.toNat j2.1) e7) (0 + Int.toNat (IntKind.wrap .i64 (j2.1 - 1))) fun e10 => Res.ok (.next ((IntKind.wrap .i64 (j2.1 - 1), (List.set (List.set j2.2 (0 + Int.toNat j2.1) e7) (0 + Int.toNat (IntKind.wrap .i64 (j2.1 - 1))) e8))))))))) (Res.ok (.done (j2.2)))) fuel i1) fun x11 => Res.ok (.next ((IntKind.wrap .i64 (i1.1 + 1), x11)))) (Res.ok (.done (i1.2)))) fuel (IntKind.wrap .i64 (a1 + 1), data0)) fun x12 => Res.ok (((), x12)))

@[reducible] def slices_swapRangeCmpFunc_suint16__heap_Heap_Keys_1.ps : List Par := [.obj (.own (.frz (.list (.int .u16)))), .val false (.frz (.int .i64)), .val false (.frz (.int .i64)), .val false (.frz (.int .i64)), .val false (.bor (.clo 47 .nil))]
@[reducible] def slices_swapRangeCmpFunc_suint16__heap_Heap_Keys_1.rs : List VSh := []
def slices_swapRangeCmpFunc_suint16__heap_Heap_Keys_1.okOut : outs (dens slices_swapRangeCmpFunc_suint16__heap_Heap_Keys_1.rs) (boxes slices_swapRangeCmpFunc_suint16__heap_Heap_Keys_1.ps) → Bool := outsOk (oks slices_swapRangeCmpFunc_suint16__heap_Heap_Keys_1.rs) (boxes slices_swapRangeCmpFunc_suint16__heap_Heap_Keys_1.ps)
/-- slices.swapRangeCmpFunc[[]uint16] -/
def R.slices_swapRangeCmpFunc_suint16__heap_Heap_Keys_1 (data0 : (List (List Int))) (a1 : Int) (b2 : Int) (n3 : Int) (cmp4 : Unit) : Res (Unit × (List (List Int))) :=
  Res.given (oks (slices_swapRangeCmpFunc_suint16__heap_Heap_Keys_1.ps.map Par.v) (data0, (a1, (b2, (n3, cmp4))))) (Res.bind (Res.loop (α := (Int × (List (List Int)))) (β := (List (List Int))) (fun i1 => Res.br (ilt i1.1 n3) (Res.need (ile 0 (IntKind.wrap .i64 (b2 + i1.1)) && ilt (IntKind.wrap .i64 (b2 + i1.1)) i1.2.length) (Res.idx (.list (.int .u16)) i1.2 (0 + Int.toNat (IntKind.wrap .i64 (b2 + i1.1))) fun e2 => Res.need (ile 0 (IntKind.wrap .i64 (a1 + i1.1)) && ilt (IntKind.wrap .i64 (a1 + i1.1)) i1.2.length) (Res.idx (.list (.int .u16)) i1.2 (0 + Int.toNat (IntKind.wrap .i64 (a1 + i1.1))) fun e3 => Res.need (ile 0 (IntKind.wrap .i64 (a1 + i1.1)) && ilt (IntKind.wrap .i64 (a1 + i1.1)) i1.2.length) (Res.idx (.list (.int .u16)) i1.2 (0 + Int.toNat (IntKind.wrap .i64 (a1 + i1.1))) fun e4 => Res.need (ile 0 (IntKind.wrap .i64 (b2 + i1.1)) && ilt (IntKind.wrap .i64 (b2 + i1.1)) (List.set i1.2 (0 + Int.toNat (IntKind.wrap .i64 (a1 + i1.1))) e2).length) (Res.idx (.list (.int .u16)) (List.set i1.2 (0 + Int.toNat (IntKind.wrap .i64 (a1 + i1.1))) e2) (0 + Int.toNat (IntKind.wrap .i64 (b2 + i1.1))) fun e5 => Res.ok (.next ((IntKind.wrap .i64 (i1.1 + 1), (List.set (List.set i1.2 (0 + Int.toNat (IntKind.wrap .i64 (a1 + i1.1))) e2) (0 + Int.toNat (IntKind.wrap .i64 (b2 + i1.1))) e3))))))))) (Res.ok (.done (i1.2)))) fuel (0, data0)) fun x6 => Res.ok (((), x6)))

@[reducible] def slices_rotateCmpFunc_suint16__heap_Heap_Keys_1.ps : List Par := [.obj (.own (.frz (.list (.int .u16)))), .val false (.frz (.int .i64)), .val false (.frz (.int .i64)), .val false (.frz (.int .i64)), .val false (.bor (.clo 47 .nil))]
@[reducible] def slices_rotateCmpFunc_suint16__heap_Heap_Keys_1.rs : List VSh := []
def slices_rotateCmpFunc_suint16__heap_Heap_Keys_1.okOut : outs (dens slices_rotateCmpFunc_suint16__heap_Heap_Keys_1.rs) (boxes slices_rotateCmpFunc_suint16__heap_Heap_Keys_1.ps) → Bool := outsOk (oks slices_rotateCmpFunc_suint16__heap_Heap_Keys_1.rs) (boxes slices_rotateCmpFunc_suint16__heap_Heap_Keys_1.ps)
/-- slices.rotateCmpFunc[[]uint16] -/
def R.slices_rotateCmpFunc_suint16__heap_Heap_Keys_1 (data0 : (List (List Int))) (a1 : Int) (m2 : Int) (b3 : Int) (cmp4 : Unit) : Res (Unit × (List (List Int))) :=
  Res.given (oks (slices_rotateCmpFunc_suint16__heap_Heap_Keys_1.ps.map Par.v) (data0, (a1, (m2, (b3, cmp4))))) (Res.bind (Res.loop (α := (Int × (Int × (List (List Int))))) (β := (Int × (List (List Int)))) (fun i1 => Res.br (!(i1.1 == i1.2.1)) (Res.br (ilt i1.2.1 i1.1) (Res.bind (R.slices_swapRangeCmpFunc_suint16__heap_Heap_Keys_1 i1.2.2 (IntKind.wrap .i64 (m2 - i1.1)) m2 i1.2.1 ()) fun r2 => Res.given (slices_swapRangeCmpFunc_suint16__heap_Heap_Keys_1.okOut r2) (Res.ok (.next ((IntKind.wrap .i64 (i1.1 - i1.2.1), (i1.2.1, r2.2)))))) (Res.bind (R.slices_swapRangeCmpFunc_suint16__heap_Heap_Keys_1 i1.2.2 (IntKind.wrap .i64 (m2 - i1.1)) (IntKind.wrap .i64 ((IntKind.wrap .i64 (m2 + i1.2.1)) - i1.1)) i1.1 ()) fun r3 => Res.given (slices_swapRangeCmpFunc_suint16__heap_Heap_Keys_1.okOut r3) (Res.ok (.next ((i1.1, (IntKind.wrap .i64 (i1.2.1 - i1.1), r3.2))))))) (Res.ok (.done ((i1.1, i1.2.2))))) fuel (IntKind.wrap .i64 (m2 - a1), (IntKind.wrap .i64 (b3 - m2), data0))) fun i4 => Res.bind (R.slices_swapRangeCmpFunc_suint16__heap_Heap_Keys_1 i4.2 (IntKind.wrap .i64 (m2 - i4.1)) m2 i4.1 ()) fun r5 => Res.given (slices_swapRangeCmpFunc_suint16__heap_Heap_Keys_1.okOut r5) (Res.ok (((), r5.2))))

@[reducible] def slices_symMergeCmpFunc_suint16__heap_Heap_Keys_1.ps : List Par := [.obj (.own (.frz (.list (.int .u16)))), .val false (.frz (.int .i64)), .val false (.frz (.int .i64)), .val false (.frz (.int .i64)), .val false (.bor (.clo 47 .nil))]
@[reducible] def slices_symMergeCmpFunc_suint16__heap_Heap_Keys_1.rs : List VSh := []
def slices_symMergeCmpFunc_suint16__heap_Heap_Keys_1.okOut : outs (dens slices_symMergeCmpFunc_suint16__heap_Heap_Keys_1.rs) (boxes slices_symMergeCmpFunc_suint16__heap_Heap_Keys_1.ps) → Bool := outsOk (oks slices_symMergeCmpFunc_suint16__heap_Heap_Keys_1.rs) (boxes slices_symMergeCmpFunc_suint16__heap_Heap_Keys_1.ps)
/-- slices.symMergeCmpFunc[[]uint16] -/
def R.slices_symMergeCmpFunc_suint16__heap_Heap_Keys_1 : Nat → (List (List Int)) → Int → Int → Int → Unit → Res (Unit × (List (List Int)))
  | 0, _, _, _, _, _ => .stuck
  | fu + 1, data0, a1, m2, b3, cmp4 => Res.given (oks (slices_symMergeCmpFunc_suint16__heap_Heap_Keys_1.ps.map Par.v) (data0, (a1, (m2, (b3, cmp4))))) (Res.br ((IntKind.wrap .i64 (m2 - a1)) == 1) (Res.bind (Res.loop (α := (Int × Int)) (β := Int) (fun i1 => Res.br (ilt i1.1 i1.2) (Res.need (ile 0 1) (Res.need (ile 0 (IntKind.wrap .i64 (ishr .u64 (IntKind.wrap .u64 (IntKind.wrap .i64 (i1.1 + i1.2))) 1)) && ilt (IntKind.wrap .i64 (ishr .u64 (IntKind.wrap .u64 (IntKind.wrap .i64 (i1.1 + i1.2))) 1)) data0.length) (Res.idx (.list (.int .u16)) data0 (0 + Int.toNat (IntKind.wrap .i64 (ishr .u64 (IntKind.wrap .u64 (IntKind.wrap .i64 (i1.1 + i1.2))) 1))) fun e2 => Res.need (ile 0 a1 && ilt a1 data0.length) (Res.idx (.list (.int .u16)) data0 (0 + Int.toNat a1) fun e3 => Res.bind (R.heap_Heap_Keys_1 e2 e3) fun r4 => Res.given (heap_Heap_Keys_1.okOut r4) (Res.br (ilt r4 0) (Res.ok (.next ((IntKind.wrap .i64 ((IntKind.wrap .i64 (ishr .u64 (IntKind.wrap .u64 (IntKind.wrap .i64 (i1.1 + i1.2))) 1)) + 1), i1.2)))) (Res.ok (.next ((i1.1, IntKind.wrap .i64 (ishr .u64 (IntKind.wrap .u64 (IntKind.wrap .i64 (i1.1 + i1.2))) 1)))))))))) (Res.ok (.done (i1.1)))) fuel (m2, b3)) fun i5 => Res.bind (Res.loop (α := (Int × (List (List Int)))) (β := (List (List Int))) (fun k6 => Res.br (ilt k6.1 (IntKind.wrap .i64 (i5 - 1))) (Res.need (ile 0 (IntKind.wrap .i64 (k6.1 + 1)) && ilt (IntKind.wrap .i64 (k6.1 + 1)) k6.2.length) (Res.idx (.list (.int .u16)) k6.2 (0 + Int.toNat (IntKind.wrap .i64 (k6.1 + 1))) fun e7 => Res.need (ile 0 k6.1 && ilt k6.1 k6.2.length) (Res.idx (.list (.int .u16)) k6.2 (0 + Int.toNat k6.1) fun e8 => Res.need (ile 0 k6.1 && ilt k6.1 k6.2.length) (Res.idx (.list (.int .u16)) k6.2 (0 + Int.toNat k6.1) fun e9 => Res.need (ile 0 (IntKind.wrap .i64 (k6.1 + 1)) && ilt (IntKind.wrap .i64 (k6.1 + 1)) (List.set k6.2 (0 + Int.toNat k6.1) e7).length) (Res.idx (.list (.int .u16)) (List.set k6.2 (0 + Int.toNat k6.1) e7) (0 + Int.toNat (IntKind.wrap .i64 (k6.1 + 1))) fun e10 => Res.ok (.next ((IntKind.wrap .i64 (k6.1 + 1), (List.set (List.set k6.2 (0 + Int.toNat k6.1) e7) (0 + Int.toNat (IntKind.wrap .i64 (k6.1 + 1))) e8))))))))) (Res.ok (.done (k6.2)))) fuel (a1, data0)) fun x11 => Res.ok (((), x11))) (Res.br ((IntKind.wrap .i64 (b3 - m2)) == 1) (Res.bind (Res.loop (α := (Int × Int)) (β := Int) (fun i12 => Res.br (ilt i12.1 i12.2) (Res.need (ile 0 1) (Res.need (ile 0 m2 && ilt m2 data0.length) (Res.idx (.list (.int .u16)) data0 (0 + Int.toNat m2) fun e13 => Res.need (ile 0 (IntKind.wrap .i64 (ishr .u64 (IntKind.wrap .u64 (IntKind.wrap .i64 (i12.1 + i12.2))) 1)) && ilt (IntKind.wrap .i64 (ishr .u64 (IntKind.wrap .u64 (IntKind.wrap .i64 (i12.1 + i12.2))) 1)) data0.length) (Res.idx (.list (.int .u16)) data0 (0 + Int.toNat (IntKind.wrap .i64 (ishr .u64 (IntKind.wrap .u64 (IntKind.wrap .i64 (i12.1 + i12.2))) 1))) fun e14 => Res.bind (R.heap_Heap_Keys_1 e13 e14) fun r15 => Res.given (heap_Heap_Keys_1.okOut r15) (Res.br (!(ilt r15 0)) (Res.ok (.next ((IntKind.wrap .i64 ((IntKind.wrap .i64 (ishr .u64 (IntKind.wrap .u64 (IntKind.wrap .i64 (i12.1 + i12.2))) 1)) + 1), i12.2)))) (Res.ok (.next ((i12.1, IntKind.wrap .i64 (ishr .u64 (IntKind.wrap .u64 (IntKind.wrap .i64 (i12.1 + i12.2))) 1)))))))))) (Res.ok (.done (i12.1)))) fuel (a1, m2)) fun i16 => Res.bind (Res.loop (α := (Int × (List (List Int)))) (β := (List (List Int))) (fun k17 => Res.br (ilt i16 k17.1) (Res.need (ile 0 (IntKind.wrap .i64 (k17.1 - 1)) && ilt (IntKind.wrap .i64 (k17.1 - 1)) k17.2.length) (Res.idx (.list (.int .u16)) k17.2 (0 + Int.toNat (IntKind.wrap .i64 (k17.1 - 1))) fun e18 => Res.need (ile 0 k17.1 && ilt k17.1 k17.2.length) (Res.idx (.list (.int .u16)) k17.2 (0 + Int.toNat k17.1) fun e19 => Res.need (ile 0 k17.1 && ilt k17.1 k17.2.length) (Res.idx (.list (.int .u16)) k17.2 (0 + Int.toNat k17.1) fun e20 => Res.need (ile 0 (IntKind.wrap .i64 (k17.1 - 1)) && ilt (IntKind.wrap .i64 (k17.1 - 1)) (List.set k17.2 (0 + Int.toNat k17.1) e18).length) (Res.idx (.list (.int .u16)) (List.set k17.2 (0 + Int.toNat k17.1) e18) (0 + Int.toNat (IntKind.wrap .i64 (k17.1 - 1))) fun e21 => Res.ok (.next ((IntKind.wrap .i64 (k17.1 - 1), (List.set (List.set k17.2 (0 + Int.toNat k17.1) e18) (0 + Int.toNat (IntKind.wrap .i64 (k17.1 - 1))) e19))))))))) (Res.ok (.done (k17.2)))) fuel (m2, data0)) fun x22 => Res.ok (((), x22))) (Res.need (ile 0 1) (Res.bind (α := (Int × Int)) (Res.br (ilt (IntKind.wrap .i64 (ishr .u64 (IntKind.wrap .u64 (IntKind.wrap .i64 (a1 + b3))) 1)) m2) (Res.ok ((IntKind.wrap .i64 ((IntKind.wrap .i64 ((IntKind.wrap .i64 (ishr .u64 (IntKind.wrap .u64 (IntKind.wrap .i64 (a1 + b3))) 1)) + m2)) - b3), IntKind.wrap .i64 (ishr .u64 (IntKind.wrap .u64 (IntKind.wrap .i64 (a1 + b3))) 1)))) (Res.ok ((a1, m2)))) fun start23 => Res.bind (Res.loop (α := (Int × Int)) (β := Int) (fun start24 => Res.br (ilt start24.1 start24.2) (Res.need (ile 0 1) (Res.need (ile 0 (IntKind.wrap .i64 ((IntKind.wrap .i64 ((IntKind.wrap .i64 ((IntKind.wrap .i64 (ishr .u64 (IntKind.wrap .u64 (IntKind.wrap .i64 (a1 + b3))) 1)) + m2)) - 1)) - (IntKind.wrap .i64 (ishr .u64 (IntKind.wrap .u64 (IntKind.wrap .i64 (start24.1 + start24.2))) 1)))) && ilt (IntKind.wrap .i64 ((IntKind.wrap .i64 ((IntKind.wrap .i64 ((IntKind.wrap .i64 (ishr .u64 (IntKind.wrap .u64 (IntKind.wrap .i64 (a1 + b3))) 1)) + m2)) - 1)) - (IntKind.wrap .i64 (ishr .u64 (IntKind.wrap .u64 (IntKind.wrap .i64 (start24.1 + start24.2))) 1)))) data0.length) (Res.idx (.list (.int .u16)) data0 (0 + Int.toNat (IntKind.wrap .i64 ((IntKind.wrap .i64 ((IntKind.wrap .i64 ((IntKind.wrap .i64 (ishr .u64 (IntKind.wrap .u64 (IntKind.wrap .i64 (a1 + b3))) 1)) + m2)) - 1)) - (IntKind.wrap .i64 (ishr .u64 (IntKind.wrap .u64 (IntKind.wrap .i64 (start24.1 + start24.2))) 1))))) fun e25 => Res.need (ile 0 (IntKind.wrap .i64 (ishr .u64 (IntKind.wrap .u64 (IntKind.wrap .i64 (start24.1 + start24.2))) 1)) && ilt (IntKind.wrap .i64 (ishr .u64 (IntKind.wrap .u64 (IntKind.wrap .i64 (start24.1 + start24.2))) 1)) data0.length) (Res.idx (.list (.int .u16)) data0 (0 + Int.toNat (IntKind.wrap .i64 (ishr .u64 (IntKind.wrap .u64 (IntKind.wrap .i64 (start24.1 + start24.2))) 1))) fun e26 => Res.bind (R.heap_Heap_Keys_1 e25 e26) fun r27 => Res.given (heap_Heap_Keys_1.okOut r27) (Res.br (!(ilt r27 0)) (Res.ok (.next ((IntKind.wrap .i64 ((IntKind.wrap .i64 (ishr .u64 (IntKind.wrap .u64 (IntKind.wrap .i64 (start24.1 + start24.2))) 1)) + 1), start24.2)))) (Res.ok (.next ((start24.1, IntKind.wrap .i64 (ishr .u64 (IntKind.wrap .u64 (IntKind.wrap .i64 (start24.1 + start24.2))) 1)))))))))) (Res.ok (.done (start24.1)))) fuel start23) fun start28 => Res.bind (α := (List (List Int))) (Res.bind (α := Bool) (Res.br (ilt start28 m2) (Res.ok ((ilt m2 (IntKind.wrap .i64 ((IntKind.wrap .i64 ((IntKind.wrap .i64 (ishr .u64 (IntKind.wrap .u64 (IntKind.wrap .i64 (a1 + b3))) 1)) + m2)) - start28))))) (Res.ok (false))) fun x29 => Res.br x29 (Res.bind (R.slices_rotateCmpFunc_suint16__heap_Heap_Keys_1 data0 start28 m2 (IntKind.wrap .i64 ((IntKind.wrap .i64 ((IntKind.wrap .i64 (ishr .u64 (IntKind.wrap .u64 (IntKind.wrap .i64 (a1 + b3))) 1)) + m2)) - start28)) ()) fun r30 => Res.given (slices_rotateCmpFunc_suint16__heap_Heap_Keys_1.okOut r30) (Res.ok (r30.2))) (Res.ok (data0))) fun x31 => Res.bind (α := (List (List Int))) (Res.bind (α := Bool) (Res.br (ilt a1 start28) (Res.ok ((ilt start28 (IntKind.wrap .i64 (ishr .u64 (IntKind.wrap .u64 (IntKind.wrap .i64 (a1 + b3))) 1))))) (Res.ok (false))) fun x32 => Res.br x32 (Res.bind (R.slices_symMergeCmpFunc_suint16__heap_Heap_Keys_1 fu x31 a1 start28 (IntKind.wrap .i64 (ishr .u64 (IntKind.wrap .u64 (IntKind.wrap .i64 (a1 + b3))) 1)) ()) fun r33 => Res.given (slices_symMergeCmpFunc_suint16__heap_Heap_Keys_1.okOut r33) (Res.ok (r33.2))) (Res.ok (x31))) fun x34 => Res.bind (α := Bool) (Res.br (ilt (IntKind.wrap .i64 (ishr .u64 (IntKind.wrap .u64 (IntKind.wrap .i64 (a1 + b3))) 1)) (IntKind.wrap .i64 ((IntKind.wrap .i64 ((IntKind.wrap .i64 (ishr .u64 (IntKind.wrap .u64 (IntKind.wrap .i64 (a1 + b3))) 1)) + m2)) - start28))) (Res.ok ((ilt (IntKind.wrap .i64 ((IntKind.wrap .i64 ((IntKind.wrap .i64 (ishr .u64 (IntKind.wrap .u64 (IntKind.wrap .i64 (a1 + b3))) 1)) + m2)) - start28)) b3))) (Res.ok (false))) fun x35 => Res.br x35 (Res.bind (R.slices_symMergeCmpFunc_suint16__heap_Heap_Keys_1 fu x34 (IntKind.wrap .i64 (ishr .u64 (IntKind.wrap .u64 (IntKind.wrap .i64 (a1 + b3))) 1)) (IntKind.wrap .i64 ((IntKind.wrap .i64 ((IntKind.wrap .i64 (ishr .u64 (IntKind.wrap .u64 (IntKind.wrap .i64 (a1 + b3))) 1)) + m2)) - start28)) b3 ()) fun r36 => Res.given (slices_symMergeCmpFunc_suint16__heap_Heap_Keys_1.okOut r36) (Res.ok (((), r36.2)))) (Res.ok (((), x34)))))))

@[reducible] def slices_stableCmpFunc_suint16__heap_Heap_Keys_1.ps : List Par := [.obj (.own (.frz (.list (.int .u16)))), .val false (.frz (.int .i64)), .val false (.bor (.clo 47 .nil))]
@[reducible] def slices_stableCmpFunc_suint16__heap_Heap_Keys_1.rs : List VSh := []
def slices_stableCmpFunc_suint16__heap_Heap_Keys_1.okOut : outs (dens slices_stableCmpFunc_suint16__heap_Heap_Keys_1.rs) (boxes slices_stableCmpFunc_suint16__heap_Heap_Keys_1.ps) → Bool := outsOk (oks slices_stableCmpFunc_suint16__heap_Heap_Keys_1.rs) (boxes slices_stableCmpFunc_suint16__heap_Heap_Keys_1.ps)
/-- slices.stableCmpFunc[[]uint16] -/
def R.slices_stableCmpFunc_suint16__heap_Heap_Keys_1 (data0 : (List (List Int))) (n1 : Int) (cmp2 : Unit) : Res (Unit × (List (List Int))) :=
  Res.given (oks (slices_stableCmpFunc_suint16__heap_Heap_Keys_1.ps.map Par.v) (data0, (n1, cmp2))) (Res.bind (Res.loop (α := (Int × (Int × (List (List Int))))) (β := (Int × (List (List Int)))) (fun a1 => Res.br (ile a1.2.1 n1) (Res.bind (R.slices_insertionSortCmpFunc_suint16__heap_Heap_Keys_1 a1.2.2 a1.1 a1.2.1 ()) fun r2 => Res.given (slices_insertionSortCmpFunc_suint16__heap_Heap_Keys_1.okOut r2) (Res.ok (.next ((a1.2.1, (IntKind.wrap .i64 (a1.2.1 + 20), r2.2)))))) (Res.ok (.done ((a1.1, a1.2.2))))) fuel (0, (20, data0))) fun a3 => Res.bind (R.slices_insertionSortCmpFunc_suint16__heap_Heap_Keys_1 a3.2 a3.1 n1 ()) fun r4 => Res.given (slices_insertionSortCmpFunc_suint16__heap_Heap_Keys_1.okOut r4) (Res.bind (Res.loop (α := (Int × (List (List Int)))) (β := (List (List Int))) (fun blockSize5 => Res.br (ilt blockSize5.1 n1) (Res.bind (Res.loop (α := (Int × (Int × (List (List Int))))) (β := (Int × (List (List Int)))) (fun a6 => Res.br (ile a6.2.1 n1) (Res.bind (R.slices_symMergeCmpFunc_suint16__heap_Heap_Keys_1 fuel a6.2.2 a6.1 (IntKind.wrap .i64 (a6.1 + blockSize5.1)) a6.2.1 ()) fun r7 => Res.given (slices_symMergeCmpFunc_suint16__heap_Heap_Keys_1.okOut r7) (Res.ok (.next ((a6.2.1, (IntKind.wrap .i64 (a6.2.1 + (IntKind.wrap .i64 (2 * blockSize5.1))), r7.2)))))) (Res.ok (.done ((a6.1, a6.2.2))))) fuel (0, (IntKind.wrap .i64 (2 * blockSize5.1), blockSize5.2))) fun a8 => Res.br (ilt (IntKind.wrap .i64 (a8.1 + blockSize5.1)) n1) (Res.bind (R.slices_symMergeCmpFunc_suint16__heap_Heap_Keys_1 fuel a8.2 a8.1 (IntKind.wrap .i64 (a8.1 + blockSize5.1)) n1 ()) fun r9 => Res.given (slices_symMergeCmpFunc_suint16__heap_Heap_Keys_1.okOut r9) (Res.ok (.next ((IntKind.wrap .i64 (blockSize5.1 * 2), r9.2))))) (Res.ok (.next ((IntKind.wrap .i64 (blockSize5.1 * 2), a8.2))))) (Res.ok (.done (blockSize5.2)))) fuel (20, r4.2)) fun x10 => Res.ok (((), x10))))

@[reducible] def slices_SortStableFunc_suint16__heap_Heap_Keys_1.ps : List Par := [.obj (.own (.frz (.list (.int .u16)))), .val false (.bor (.clo 47 .nil))]
@[reducible] def slices_SortStableFunc_suint16__heap_Heap_Keys_1.rs : List VSh := []
def slices_SortStableFunc_suint16__heap_Heap_Keys_1.okOut : outs (dens slices_SortStableFunc_suint16__heap_Heap_Keys_1.rs) (boxes slices_SortStableFunc_suint16__heap_Heap_Keys_1.ps) → Bool := outsOk (oks slices_SortStableFunc_suint16__heap_Heap_Keys_1.rs) (boxes slices_SortStableFunc_suint16__heap_Heap_Keys_1.ps)
/-- slices.SortStableFunc[[][]uint16,[]uint16] -/
def R.slices_SortStableFunc_suint16__heap_Heap_Keys_1 (x0 : (List (List Int))) (cmp1 : Unit) : Res (Unit × (List (List Int))) :=
  Res.given (oks (slices_SortStableFunc_suint16__heap_Heap_Keys_1.ps.map Par.v) (x0, cmp1)) (Res.bind (R.slices_stableCmpFunc_suint16__heap_Heap_Keys_1 x0 (x0.length : Int) ()) fun r1 => Res.given (slices_stableCmpFunc_suint16__heap_Heap_Keys_1.okOut r1) (Res.ok (((), r1.2))))

@[reducible] def heap_Heap_Keys.ps : List Par := [.val false (.bor (.box (.seq (.frz (.int .i64)) (.own (.seq (.frz (.int .i64)) (.seq (.frz (.int .i64)) (.seq (.own (.frz T_heap_Prop)) (.seq (.own (.frz T_heap_Slot)) (.seq (.frz .str) (.seq (.frz (.int .i64)) (.seq (.frz (.int .i64)) (.seq (.frz T_heap_Value) (.seq (.frz (.int .i64)) (.seq (.frz (.int .i64)) (.seq (.frz (.int .i64)) (.seq (.frz (.int .i64)) (.own (.frz (.int .u8))))))))))))))))))), .val false (.frz (.int .i64))]
@[reducible] def heap_Heap_Keys.rs : List VSh := [(false, (.own (.frz (.list (.int .u16)))))]
def heap_Heap_Keys.okOut : outs (dens heap_Heap_Keys.rs) (boxes heap_Heap_Keys.ps) → Bool := outsOk (oks heap_Heap_Keys.rs) (boxes heap_Heap_Keys.ps)
/-- (*rendezvous/heap.Heap).Keys -/
def R.heap_Heap_Keys (h0 : T_heap_Heap.den) (ref1 : Int) : Res ((List (List Int))) :=
  Res.given (oks (heap_Heap_Keys.ps.map Par.v) (h0, ref1)) (Res.bind (R.heap_Heap_has h0 ref1) fun r1 => Res.br (!r1) (Res.ok (([] : List (List Int)))) (Res.idxS (.seq (.frz (.int .i64)) (.seq (.frz (.int .i64)) (.seq (.own (.frz T_heap_Prop)) (.seq (.own (.frz T_heap_Slot)) (.seq (.frz .str) (.seq (.frz (.int .i64)) (.seq (.frz (.int .i64)) (.seq (.frz T_heap_Value) (.seq (.frz (.int .i64)) (.seq (.frz (.int .i64)) (.seq (.frz (.int .i64)) (.seq (.frz (.int .i64)) (.own (.frz (.int .u8))))))))))))))) h0.2 ref1 fun e2 => Res.bind (Res.loop (α := ((List (List Int)) × ((List (List Int)) × Int))) (β := ((List (List Int)) × (List (List Int)))) (fun places3 => Res.br (ilt places3.2.2 (e2.2.2.1.length : Int)) (Res.idxS (.frz T_heap_Prop) e2.2.2.1 places3.2.2 fun e4 => Res.bind (Res.ok e4.1) fun r5 => Res.given (okClone (.int .u16) r5) (Res.bind (R.text_Key r5) fun r6 => Res.given (text_Key.okOut r6) (Res.br r6.2 (Res.need (decide ((places3.1.length + [r5].length) * 24 ≤ 2 ^ 47)) (Res.ok (.next (((places3.1 ++ [r5]), (places3.2.1, IntKind.wrap .i64 (places3.2.2 + 1))))))) (Res.need (decide ((places3.2.1.length + [r5].length) * 24 ≤ 2 ^ 47)) (Res.ok (.next ((places3.1, ((places3.2.1 ++ [r5]), IntKind.wrap .i64 (places3.2.2 + 1)))))))))) (Res.ok (.done ((places3.1, places3.2.1))))) fuel (([] : List (List Int)), (([] : List (List Int)), 0))) fun places7 => Res.bind (R.slices_SortStableFunc_suint16__heap_Heap_Keys_1 places7.1 ()) fun r8 => Res.given (slices_SortStableFunc_suint16__heap_Heap_Keys_1.okOut r8) (Res.need (decide ((r8.2.length + places7.2.length) * 24 ≤ 2 ^ 47)) (Res.ok ((r8.2 ++ places7.2))))))

@[reducible] def heap_Heap_Own.ps : List Par := [.val false (.bor (.box (.seq (.frz (.int .i64)) (.own (.seq (.frz (.int .i64)) (.seq (.frz (.int .i64)) (.seq (.own (.frz T_heap_Prop)) (.seq (.own (.frz T_heap_Slot)) (.seq (.frz .str) (.seq (.frz (.int .i64)) (.seq (.frz (.int .i64)) (.seq (.frz T_heap_Value) (.seq (.frz (.int .i64)) (.seq (.frz (.int .i64)) (.seq (.frz (.int .i64)) (.seq (.frz (.int .i64)) (.own (.frz (.int .u8))))))))))))))))))), .val false (.frz (.int .i64)), .val false (.bor (.own (.frz (.int .u16))))]
@[reducible] def heap_Heap_Own.rs : List VSh := [(true, (.frz T_heap_Value)), (false, (.frz .bool))]
def heap_Heap_Own.okOut : outs (dens heap_Heap_Own.rs) (boxes heap_Heap_Own.ps) → Bool := outsOk (oks heap_Heap_Own.rs) (boxes heap_Heap_Own.ps)
/-- (*rendezvous/heap.Heap).Own -/
def R.heap_Heap_Own (h0 : T_heap_Heap.den) (ref1 : Int) (key2 : (List Int)) : Res ((T_heap_Value.den × Bool)) :=
  Res.given (oks (heap_Heap_Own.ps.map Par.v) (h0, (ref1, key2))) (Res.bind (R.heap_Heap_has h0 ref1) fun r1 => Res.br (!r1) (Res.ok (((0, ((0, 0), ((false, ([] : List Int)), (([] : List Int), 0)))), false))) (Res.bind (R.heap_Heap_place h0 ref1 key2) fun r2 => Res.given (heap_Heap_place.okOut r2) (Res.br (ilt r2 0) (Res.ok (((0, ((0, 0), ((false, ([] : List Int)), (([] : List Int), 0)))), false))) (Res.idxS (.seq (.frz (.int .i64)) (.seq (.frz (.int .i64)) (.seq (.own (.frz T_heap_Prop)) (.seq (.own (.frz T_heap_Slot)) (.seq (.frz .str) (.seq (.frz (.int .i64)) (.seq (.frz (.int .i64)) (.seq (.frz T_heap_Value) (.seq (.frz (.int .i64)) (.seq (.frz (.int .i64)) (.seq (.frz (.int .i64)) (.seq (.frz (.int .i64)) (.own (.frz (.int .u8))))))))))))))) h0.2 ref1 fun e3 => Res.idxS (.frz T_heap_Prop) e3.2.2.1 r2 fun e4 => Res.bind (R.heap_own e4.2) fun r5 => Res.given (heap_own.okOut r5) (Res.ok ((r5, true)))))))

@[reducible] def heap_Heap_Find.ps : List Par := [.val false (.bor (.box (.seq (.frz (.int .i64)) (.own (.seq (.frz (.int .i64)) (.seq (.frz (.int .i64)) (.seq (.own (.frz T_heap_Prop)) (.seq (.own (.frz T_heap_Slot)) (.seq (.frz .str) (.seq (.frz (.int .i64)) (.seq (.frz (.int .i64)) (.seq (.frz T_heap_Value) (.seq (.frz (.int .i64)) (.seq (.frz (.int .i64)) (.seq (.frz (.int .i64)) (.seq (.frz (.int .i64)) (.own (.frz (.int .u8))))))))))))))))))), .val false (.frz (.int .i64)), .val false (.bor (.own (.frz (.int .u16))))]
@[reducible] def heap_Heap_Find.rs : List VSh := [(true, (.frz T_heap_Value)), (false, (.frz (.int .i64))), (false, (.frz .bool))]
def heap_Heap_Find.okOut : outs (dens heap_Heap_Find.rs) (boxes heap_Heap_Find.ps) → Bool := outsOk (oks heap_Heap_Find.rs) (boxes heap_Heap_Find.ps)
/-- (*rendezvous/heap.Heap).Find -/
def R.heap_Heap_Find (h0 : T_heap_Heap.den) (ref1 : Int) (key2 : (List Int)) : Res ((T_heap_Value.den × (Int × Bool))) :=
  Res.given (oks (heap_Heap_Find.ps.map Par.v) (h0, (ref1, key2))) (Res.bind (Res.loop (α := (Int × Int)) (β := (Unit ⊕ (Int × (Bool × (Int × (Int × (Int × (Bool × ((List Int) × ((List Int) × Int)))))))))) (fun ref1 => Res.br (ilt ref1.2 (h0.2.length : Int)) (Res.bind (R.heap_Heap_Own h0 ref1.1 key2) fun r2 => Res.given (heap_Heap_Own.okOut r2) (Res.br r2.2 (Res.ok (.done (.inr (0, (true, (r2.1.1, (r2.1.2.1.1, (r2.1.2.1.2, (r2.1.2.2.1.1, (r2.1.2.2.1.2, r2.1.2.2.2)))))))))) (Res.bind (R.heap_Heap_has h0 ref1.1) fun r3 => Res.br (!r3) (Res.ok (.done (.inr ((-2), (false, (0, (0, (0, (false, (([] : List Int), (([] : List Int), 0))))))))))) (Res.idxS (.seq (.frz (.int .i64)) (.seq (.frz (.int .i64)) (.seq (.own (.frz T_heap_Prop)) (.seq (.own (.frz T_heap_Slot)) (.seq (.frz .str) (.seq (.frz (.int .i64)) (.seq (.frz (.int .i64)) (.seq (.frz T_heap_Value) (.seq (.frz (.int .i64)) (.seq (.frz (.int .i64)) (.seq (.frz (.int .i64)) (.seq (.frz (.int .i64)) (.own (.frz (.int .u8))))))))))))))) h0.2 ref1.1 fun e4 => Res.br (ilt e4.2.1 0) (Res.ok (.done (.inr (e4.2.1, (false, (0, (0, (0, (false, (([] : List Int), (([] : List Int), 0))))))))))) (Res.ok (.next ((e4.2.1, IntKind.wrap .i64 (ref1.2 + 1))))))))) (Res.ok (.done (.inl ())))) fuel (ref1, 0)) fun x5 => Res.sum x5 (fun x6 => Res.ok (((0, ((0, 0), ((false, ([] : List Int)), (([] : List Int), 0)))), ((-2), false)))) (fun z7 => Res.ok (((z7.2.2.1, ((z7.2.2.2.1, z7.2.2.2.2.1), ((z7.2.2.2.2.2.1, z7.2.2.2.2.2.2.1), z7.2.2.2.2.2.2.2))), (z7.1, z7.2.1)))))

@[reducible] def renref_Units.ps : List Par := [.val false (.bor (.own (.frz (.int .u16)))), .val false (.bor (.own (.frz (.int .u16))))]
@[reducible] def renref_Units.rs : List VSh := [(false, (.frz .bool))]
def renref_Units.okOut : outs (dens renref_Units.rs) (boxes renref_Units.ps) → Bool := outsOk (oks renref_Units.rs) (boxes renref_Units.ps)
/-- rendezvous/renref.Units -/
def R.renref_Units (a0 : (List Int)) (b1 : (List Int)) : Res (Bool) :=
  Res.given (oks (renref_Units.ps.map Par.v) (a0, b1)) (Res.br (!((a0.length : Int) == (b1.length : Int))) (Res.ok (false)) (Res.bind (Res.loop (α := Int) (β := (Unit ⊕ Bool)) (fun i1 => Res.br (ilt i1 (a0.length : Int)) (Res.idxS (.frz (.int .u16)) a0 i1 fun e2 => Res.idxS (.frz (.int .u16)) b1 i1 fun e3 => Res.br (!(e2 == e3)) (Res.ok (.done (.inr false))) (Res.ok (.next (IntKind.wrap .i64 (i1 + 1))))) (Res.ok (.done (.inl ())))) fuel 0) fun x4 => Res.sum x4 (fun x5 => Res.ok (true)) (fun z6 => Res.ok (z6))))

@[reducible] def slices_Equal_uint32.ps : List Par := [.val false (.bor (.own (.frz (.int .u32)))), .val false (.bor (.own (.frz (.int .u32))))]
@[reducible] def slices_Equal_uint32.rs : List VSh := [(false, (.frz .bool))]
def slices_Equal_uint32.okOut : outs (dens slices_Equal_uint32.rs) (boxes slices_Equal_uint32.ps) → Bool := outsOk (oks slices_Equal_uint32.rs) (boxes slices_Equal_uint32.ps)
/-- slices.Equal[[]uint32,uint32] -/
def R.slices_Equal_uint32 (s10 : (List Int)) (s21 : (List Int)) : Res (Bool) :=
  Res.given (oks (slices_Equal_uint32.ps.map Par.v) (s10, s21)) (Res.br (!((s10.length : Int) == (s21.length : Int))) (Res.ok (false)) (Res.bind (Res.loop (α := Int) (β := (Unit ⊕ Bool)) (fun x1 => Res.br (ilt x1 (s10.length : Int)) (Res.idxS (.frz (.int .u32)) s10 x1 fun e2 => Res.idxS (.frz (.int .u32)) s21 x1 fun e3 => Res.br (!(e2 == e3)) (Res.ok (.done (.inr false))) (Res.ok (.next (IntKind.wrap .i64 (x1 + 1))))) (Res.ok (.done (.inl ())))) fuel 0) fun x4 => Res.sum x4 (fun x5 => Res.ok (true)) (fun z6 => Res.ok (z6))))

@[reducible] def heap_Same.ps : List Par := [.val true (.bor (.seq (.frz (.int .i64)) (.seq (.frz T_api_Num) (.seq (.seq (.frz .bool) (.own (.frz (.int .u32)))) (.seq (.own (.frz (.int .u16))) (.frz (.int .i64))))))), .val true (.bor (.seq (.frz (.int .i64)) (.seq (.frz T_api_Num) (.seq (.seq (.frz .bool) (.own (.frz (.int .u32)))) (.seq (.own (.frz (.int .u16))) (.frz (.int .i64)))))))]
@[reducible] def heap_Same.rs : List VSh := [(false, (.frz .bool))]
def heap_Same.okOut : outs (dens heap_Same.rs) (boxes heap_Same.ps) → Bool := outsOk (oks heap_Same.rs) (boxes heap_Same.ps)
/-- rendezvous/heap.Same -/
def R.heap_Same (a0 : T_heap_Value.den) (b1 : T_heap_Value.den) : Res (Bool) :=
  Res.given (oks (heap_Same.ps.map Par.v) (a0, b1)) (Res.br (a0.1 == b1.1) (Res.br ((a0.2.1.1 == b1.2.1.1) && ((a0.2.1.2 == b1.2.1.2) && true)) (Res.br (a0.2.2.1.1 == b1.2.2.1.1) (Res.bind (R.slices_Equal_uint32 a0.2.2.1.2 b1.2.2.1.2) fun r1 => Res.br r1 (Res.bind (R.slices_Equal_uint16 a0.2.2.2.1 b1.2.2.2.1) fun r2 => Res.br r2 (Res.ok ((a0.2.2.2.2 == b1.2.2.2.2))) (Res.ok (false))) (Res.ok (false))) (Res.ok (false))) (Res.ok (false))) (Res.ok (false)))

@[reducible] def renlaw9_first.ps : List Par := []
@[reducible] def renlaw9_first.rs : List VSh := [(false, (.frz .bool))]
def renlaw9_first.okOut : outs (dens renlaw9_first.rs) (boxes renlaw9_first.ps) → Bool := outsOk (oks renlaw9_first.rs) (boxes renlaw9_first.ps)
/-- rendezvous/renlaw9.first -/
def R.renlaw9_first  : Res (Bool) :=
  Res.given (oks (renlaw9_first.ps.map Par.v) ()) (Res.bind (R.heap_New 2) fun r1 => Res.given (heap_New.okOut r1) (Res.bind (R.heap_Heap_Make r1 (1, ((-1), (([] : List T_heap_Prop.den), (([] : List T_heap_Slot.den), (([] : List UInt8), (0, (0, ((0, ((0, 0), ((false, ([] : List Int)), (([] : List Int), 0)))), (0, (0, (0, (0, ([] : List Int)))))))))))))) fun r2 => Res.given (heap_Heap_Make.okOut r2) (Res.bind (R.renref_Ascii [98]) fun r3 => Res.given (renref_Ascii.okOut r3) (Res.bind (R.heap_Heap_Put r2.2 0 r3 (3, ((0, 5), ((false, ([] : List Int)), (([] : List Int), 0))))) fun r4 => Res.given (heap_Heap_Put.okOut r4) (Res.bind (R.renref_Ascii [49, 48]) fun r5 => Res.given (renref_Ascii.okOut r5) (Res.bind (R.heap_Heap_Put r4.2 0 r5 (3, ((0, 5), ((false, ([] : List Int)), (([] : List Int), 0))))) fun r6 => Res.given (heap_Heap_Put.okOut r6) (Res.bind (R.renref_Ascii [57]) fun r7 => Res.given (renref_Ascii.okOut r7) (Res.bind (R.heap_Heap_Put r6.2 0 r7 (3, ((0, 5), ((false, ([] : List Int)), (([] : List Int), 0))))) fun r8 => Res.given (heap_Heap_Put.okOut r8) (Res.bind (R.heap_Heap_Keys r8.2 0) fun r9 => Res.given (heap_Heap_Keys.okOut r9) (Res.bind (R.heap_Heap_Make r8.2 (1, (0, (([] : List T_heap_Prop.den), (([] : List T_heap_Slot.den), (([] : List UInt8), (0, (0, ((0, ((0, 0), ((false, ([] : List Int)), (([] : List Int), 0)))), (0, (0, (0, (0, ([] : List Int)))))))))))))) fun r10 => Res.given (heap_Heap_Make.okOut r10) (Res.bind (R.renref_Ascii [98]) fun r11 => Res.given (renref_Ascii.okOut r11) (Res.bind (R.heap_Heap_Find r10.2 1 r11) fun r12 => Res.given (heap_Heap_Find.okOut r12) (Res.bind (R.renref_Ascii [99]) fun r13 => Res.given (renref_Ascii.okOut r13) (Res.bind (R.heap_Heap_Find r10.2 1 r13) fun r14 => Res.given (heap_Heap_Find.okOut r14) (Res.bind (R.heap_Heap_Make r10.2 (1, (0, (([] : List T_heap_Prop.den), (([] : List T_heap_Slot.den), (([] : List UInt8), (0, (0, ((0, ((0, 0), ((false, ([] : List Int)), (([] : List Int), 0)))), (0, (0, (0, (0, ([] : List Int)))))))))))))) fun r15 => Res.given (heap_Heap_Make.okOut r15) (Res.br (r2.1.1 == 0) (Res.br r2.1.2 (Res.br (r10.1.1 == 1) (Res.br r10.1.2 (Res.br ((r9.length : Int) == 3) (Res.need (ile 0 0 && ilt 0 r9.length) (Res.idx (.list (.int .u16)) r9 (0 + Int.toNat 0) fun e16 => Res.bind (R.renref_Ascii [57]) fun r17 => Res.given (renref_Ascii.okOut r17) (Res.bind (R.renref_Units e16 r17) fun r18 => Res.br r18 (Res.need (ile 0 2 && ilt 2 r9.length) (Res.idx (.list (.int .u16)) r9 (0 + Int.toNat 2) fun e19 => Res.bind (R.renref_Ascii [98]) fun r20 => Res.given (renref_Ascii.okOut r20) (Res.bind (R.renref_Units e19 r20) fun r21 => Res.br r21 (Res.br r12.2.2 (Res.bind (R.heap_Same r12.1 (3, ((0, 5), ((false, ([] : List Int)), (([] : List Int), 0))))) fun r22 => Res.br r22 (Res.br (!r14.2.2) (Res.br (r14.2.1 == (-1)) (Res.ok ((!r15.1.2))) (Res.ok (false))) (Res.ok (false))) (Res.ok (false))) (Res.ok (false))) (Res.ok (false))))) (Res.ok (false))))) (Res.ok (false))) (Res.ok (false))) (Res.ok (false))) (Res.ok (false))) (Res.ok (false))))))))))))))))))

@[reducible] def renlaw9_Few.ps : List Par := [.val true (.bor (.seq (.frz (.int .i64)) (.seq (.frz T_api_Num) (.seq (.seq (.frz .bool) (.own (.frz (.int .u32)))) (.seq (.own (.frz (.int .u16))) (.frz (.int .i64)))))))]
@[reducible] def renlaw9_Few.rs : List VSh := [(false, (.frz .bool))]
def renlaw9_Few.okOut : outs (dens renlaw9_Few.rs) (boxes renlaw9_Few.ps) → Bool := outsOk (oks renlaw9_Few.rs) (boxes renlaw9_Few.ps)
/-- rendezvous/renlaw9.Few -/
def R.renlaw9_Few (v0 : T_heap_Value.den) : Res (Bool) :=
  Res.given (oks (renlaw9_Few.ps.map Par.v) v0) (Res.br (ile (v0.2.2.2.1.length : Int) 20000) (Res.ok ((ile (v0.2.2.1.2.length : Int) 40))) (Res.ok (false)))

@[reducible] def heap_Heap_Cell.ps : List Par := [.val false (.bor (.box (.seq (.frz (.int .i64)) (.own (.seq (.frz (.int .i64)) (.seq (.frz (.int .i64)) (.seq (.own (.frz T_heap_Prop)) (.seq (.own (.frz T_heap_Slot)) (.seq (.frz .str) (.seq (.frz (.int .i64)) (.seq (.frz (.int .i64)) (.seq (.frz T_heap_Value) (.seq (.frz (.int .i64)) (.seq (.frz (.int .i64)) (.seq (.frz (.int .i64)) (.seq (.frz (.int .i64)) (.own (.frz (.int .u8))))))))))))))))))), .val false (.frz (.int .i64))]
@[reducible] def heap_Heap_Cell.rs : List VSh := [(true, (.frz T_heap_Cell)), (false, (.frz .bool))]
def heap_Heap_Cell.okOut : outs (dens heap_Heap_Cell.rs) (boxes heap_Heap_Cell.ps) → Bool := outsOk (oks heap_Heap_Cell.rs) (boxes heap_Heap_Cell.ps)
/-- (*rendezvous/heap.Heap).Cell -/
def R.heap_Heap_Cell (h0 : T_heap_Heap.den) (ref1 : Int) : Res ((T_heap_Cell.den × Bool)) :=
  Res.given (oks (heap_Heap_Cell.ps.map Par.v) (h0, ref1)) (Res.bind (R.heap_Heap_has h0 ref1) fun r1 => Res.br (!r1) (Res.ok (((0, (0, (([] : List T_heap_Prop.den), (([] : List T_heap_Slot.den), (([] : List UInt8), (0, (0, ((0, ((0, 0), ((false, ([] : List Int)), (([] : List Int), 0)))), (0, (0, (0, (0, ([] : List Int))))))))))))), false))) (Res.idxS (.seq (.frz (.int .i64)) (.seq (.frz (.int .i64)) (.seq (.own (.frz T_heap_Prop)) (.seq (.own (.frz T_heap_Slot)) (.seq (.frz .str) (.seq (.frz (.int .i64)) (.seq (.frz (.int .i64)) (.seq (.frz T_heap_Value) (.seq (.frz (.int .i64)) (.seq (.frz (.int .i64)) (.seq (.frz (.int .i64)) (.seq (.frz (.int .i64)) (.own (.frz (.int .u8))))))))))))))) h0.2 ref1 fun e2 => Res.bind (R.heap_copied e2) fun r3 => Res.given (heap_copied.okOut r3) (Res.ok ((r3, true)))))

@[reducible] def renlaw9_Plain.ps : List Par := [.val true (.frz T_heap_Value)]
@[reducible] def renlaw9_Plain.rs : List VSh := [(true, (.frz T_heap_Value))]
def renlaw9_Plain.okOut : outs (dens renlaw9_Plain.rs) (boxes renlaw9_Plain.ps) → Bool := outsOk (oks renlaw9_Plain.rs) (boxes renlaw9_Plain.ps)
/-- rendezvous/renlaw9.Plain -/
def R.renlaw9_Plain (v0 : T_heap_Value.den) : Res (T_heap_Value.den) :=
  Res.given (oks (renlaw9_Plain.ps.map Par.v) v0) (Res.ok (v0))

@[reducible] def renref_Num.ps : List Par := [.val true (.frz T_api_Num), .val true (.frz T_api_Num)]
@[reducible] def renref_Num.rs : List VSh := [(false, (.frz .bool))]
def renref_Num.okOut : outs (dens renref_Num.rs) (boxes renref_Num.ps) → Bool := outsOk (oks renref_Num.rs) (boxes renref_Num.ps)
/-- rendezvous/renref.Num -/
def R.renref_Num (a0 : T_api_Num.den) (b1 : T_api_Num.den) : Res (Bool) :=
  Res.given (oks (renref_Num.ps.map Par.v) (a0, b1)) (Res.br (a0.1 == b1.1) (Res.ok ((a0.2 == b1.2))) (Res.ok (false)))

@[reducible] def renref_Limbs.ps : List Par := [.val false (.bor (.own (.frz (.int .u32)))), .val false (.bor (.own (.frz (.int .u32))))]
@[reducible] def renref_Limbs.rs : List VSh := [(false, (.frz .bool))]
def renref_Limbs.okOut : outs (dens renref_Limbs.rs) (boxes renref_Limbs.ps) → Bool := outsOk (oks renref_Limbs.rs) (boxes renref_Limbs.ps)
/-- rendezvous/renref.Limbs -/
def R.renref_Limbs (a0 : (List Int)) (b1 : (List Int)) : Res (Bool) :=
  Res.given (oks (renref_Limbs.ps.map Par.v) (a0, b1)) (Res.br (!((a0.length : Int) == (b1.length : Int))) (Res.ok (false)) (Res.bind (Res.loop (α := Int) (β := (Unit ⊕ Bool)) (fun i1 => Res.br (ilt i1 (a0.length : Int)) (Res.idxS (.frz (.int .u32)) a0 i1 fun e2 => Res.idxS (.frz (.int .u32)) b1 i1 fun e3 => Res.br (!(e2 == e3)) (Res.ok (.done (.inr false))) (Res.ok (.next (IntKind.wrap .i64 (i1 + 1))))) (Res.ok (.done (.inl ())))) fuel 0) fun x4 => Res.sum x4 (fun x5 => Res.ok (true)) (fun z6 => Res.ok (z6))))

@[reducible] def renref_Big.ps : List Par := [.val true (.bor (.seq (.frz .bool) (.own (.frz (.int .u32))))), .val true (.bor (.seq (.frz .bool) (.own (.frz (.int .u32)))))]
@[reducible] def renref_Big.rs : List VSh := [(false, (.frz .bool))]
def renref_Big.okOut : outs (dens renref_Big.rs) (boxes renref_Big.ps) → Bool := outsOk (oks renref_Big.rs) (boxes renref_Big.ps)
/-- rendezvous/renref.Big -/
def R.renref_Big (a0 : T_api_Big.den) (b1 : T_api_Big.den) : Res (Bool) :=
  Res.given (oks (renref_Big.ps.map Par.v) (a0, b1)) (Res.br (a0.1 == b1.1) (Res.bind (R.renref_Limbs a0.2 b1.2) fun r1 => Res.ok (r1)) (Res.ok (false)))

@[reducible] def renref9_Same.ps : List Par := [.val true (.bor (.seq (.frz (.int .i64)) (.seq (.frz T_api_Num) (.seq (.seq (.frz .bool) (.own (.frz (.int .u32)))) (.seq (.own (.frz (.int .u16))) (.frz (.int .i64))))))), .val true (.bor (.seq (.frz (.int .i64)) (.seq (.frz T_api_Num) (.seq (.seq (.frz .bool) (.own (.frz (.int .u32)))) (.seq (.own (.frz (.int .u16))) (.frz (.int .i64)))))))]
@[reducible] def renref9_Same.rs : List VSh := [(false, (.frz .bool))]
def renref9_Same.okOut : outs (dens renref9_Same.rs) (boxes renref9_Same.ps) → Bool := outsOk (oks renref9_Same.rs) (boxes renref9_Same.ps)
/-- rendezvous/renref9.Same -/
def R.renref9_Same (a0 : T_heap_Value.den) (b1 : T_heap_Value.den) : Res (Bool) :=
  Res.given (oks (renref9_Same.ps.map Par.v) (a0, b1)) (Res.br (a0.1 == b1.1) (Res.bind (R.renref_Num a0.2.1 b1.2.1) fun r1 => Res.br r1 (Res.bind (R.renref_Big a0.2.2.1 b1.2.2.1) fun r2 => Res.br r2 (Res.bind (R.renref_Units a0.2.2.2.1 b1.2.2.2.1) fun r3 => Res.br r3 (Res.ok ((a0.2.2.2.2 == b1.2.2.2.2))) (Res.ok (false))) (Res.ok (false))) (Res.ok (false))) (Res.ok (false)))

@[reducible] def heap_Heap_Count.ps : List Par := [.val false (.bor (.box (.seq (.frz (.int .i64)) (.own (.seq (.frz (.int .i64)) (.seq (.frz (.int .i64)) (.seq (.own (.frz T_heap_Prop)) (.seq (.own (.frz T_heap_Slot)) (.seq (.frz .str) (.seq (.frz (.int .i64)) (.seq (.frz (.int .i64)) (.seq (.frz T_heap_Value) (.seq (.frz (.int .i64)) (.seq (.frz (.int .i64)) (.seq (.frz (.int .i64)) (.seq (.frz (.int .i64)) (.own (.frz (.int .u8))))))))))))))))))), .val false (.frz (.int .i64))]
@[reducible] def heap_Heap_Count.rs : List VSh := [(false, (.frz (.int .i64)))]
def heap_Heap_Count.okOut : outs (dens heap_Heap_Count.rs) (boxes heap_Heap_Count.ps) → Bool := outsOk (oks heap_Heap_Count.rs) (boxes heap_Heap_Count.ps)
/-- (*rendezvous/heap.Heap).Count -/
def R.heap_Heap_Count (h0 : T_heap_Heap.den) (ref1 : Int) : Res (Int) :=
  Res.given (oks (heap_Heap_Count.ps.map Par.v) (h0, ref1)) (Res.bind (R.heap_Heap_has h0 ref1) fun r1 => Res.br (!r1) (Res.ok (0)) (Res.idxS (.seq (.frz (.int .i64)) (.seq (.frz (.int .i64)) (.seq (.own (.frz T_heap_Prop)) (.seq (.own (.frz T_heap_Slot)) (.seq (.frz .str) (.seq (.frz (.int .i64)) (.seq (.frz (.int .i64)) (.seq (.frz T_heap_Value) (.seq (.frz (.int .i64)) (.seq (.frz (.int .i64)) (.seq (.frz (.int .i64)) (.seq (.frz (.int .i64)) (.own (.frz (.int .u8))))))))))))))) h0.2 ref1 fun e2 => Res.ok ((e2.2.2.1.length : Int))))

@[reducible] def heap_Heap_Drop.ps : List Par := [.obj (.box (.seq (.frz (.int .i64)) (.own (.seq (.frz (.int .i64)) (.seq (.frz (.int .i64)) (.seq (.own (.frz T_heap_Prop)) (.seq (.own (.frz T_heap_Slot)) (.seq (.frz .str) (.seq (.frz (.int .i64)) (.seq (.frz (.int .i64)) (.seq (.frz T_heap_Value) (.seq (.frz (.int .i64)) (.seq (.frz (.int .i64)) (.seq (.frz (.int .i64)) (.seq (.frz (.int .i64)) (.own (.frz (.int .u8)))))))))))))))))), .val false (.frz (.int .i64))]
@[reducible] def heap_Heap_Drop.rs : List VSh := [(true, (.frz T_heap_Value)), (false, (.frz .bool))]
def heap_Heap_Drop.okOut : outs (dens heap_Heap_Drop.rs) (boxes heap_Heap_Drop.ps) → Bool := outsOk (oks heap_Heap_Drop.rs) (boxes heap_Heap_Drop.ps)
/-- (*rendezvous/heap.Heap).Drop -/
def R.heap_Heap_Drop (h0 : T_heap_Heap.den) (ref1 : Int) : Res ((T_heap_Value.den × Bool) × T_heap_Heap.den) :=
  Res.given (oks (heap_Heap_Drop.ps.map Par.v) (h0, ref1)) (Res.bind (R.heap_Heap_Count h0 ref1) fun r1 => Res.given (heap_Heap_Count.okOut r1) (Res.br (r1 == 0) (Res.ok ((((0, ((0, 0), ((false, ([] : List Int)), (([] : List Int), 0)))), false), h0))) (Res.idxS (.seq (.frz (.int .i64)) (.seq (.frz (.int .i64)) (.seq (.own (.frz T_heap_Prop)) (.seq (.own (.frz T_heap_Slot)) (.seq (.frz .str) (.seq (.frz (.int .i64)) (.seq (.frz (.int .i64)) (.seq (.frz T_heap_Value) (.seq (.frz (.int .i64)) (.seq (.frz (.int .i64)) (.seq (.frz (.int .i64)) (.seq (.frz (.int .i64)) (.own (.frz (.int .u8))))))))))))))) h0.2 ref1 fun e2 => Res.need ((Int.toNat ref1) == (Int.toNat ref1)) (Res.need ((Int.toNat ref1) == (Int.toNat ref1)) (Res.need (ile 0 (IntKind.wrap .i64 ((e2.2.2.1.length : Int) - 1)) && ilt (IntKind.wrap .i64 ((e2.2.2.1.length : Int) - 1)) e2.2.2.1.length) (Res.idx T_heap_Prop e2.2.2.1 (0 + Int.toNat (IntKind.wrap .i64 ((e2.2.2.1.length : Int) - 1))) fun e3 => Res.need ((Int.toNat ref1) == (Int.toNat ref1)) (Res.need (ile 0 (IntKind.wrap .i64 ((e2.2.2.1.length : Int) - 1)) && ile (IntKind.wrap .i64 ((e2.2.2.1.length : Int) - 1)) e2.2.2.1.length) (Res.need ((Int.toNat ref1) == (Int.toNat ref1)) (Res.bind (R.heap_own e3.2) fun r4 => Res.given (heap_own.okOut r4) (Res.ok (((r4, true), (h0.1, (List.set h0.2 (Int.toNat ref1) (e2.1, (e2.2.1, ((List.take (Int.toNat (IntKind.wrap .i64 ((e2.2.2.1.length : Int) - 1))) (List.drop 0 e2.2.2.1)), e2.2.2.2)))))))))))))))))

@[reducible] def renlaw9_HeapChains.ps : List Par := [.val false (.frz (.int .i64)), .val false (.bor (.own (.frz (.int .u16)))), .val false (.frz (.int .i64)), .val false (.frz (.int .i64)), .val true (.bor (.seq (.frz (.int .i64)) (.seq (.frz T_api_Num) (.seq (.seq (.frz .bool) (.own (.frz (.int .u32)))) (.seq (.own (.frz (.int .u16))) (.frz (.int .i64))))))), .val true (.bor (.seq (.frz (.int .i64)) (.seq (.frz T_api_Num) (.seq (.seq (.frz .bool) (.own (.frz (.int .u32)))) (.seq (.own (.frz (.int .u16))) (.frz (.int .i64)))))))]
@[reducible] def renlaw9_HeapChains.rs : List VSh := [(false, (.frz .bool))]
def renlaw9_HeapChains.okOut : outs (dens renlaw9_HeapChains.rs) (boxes renlaw9_HeapChains.ps) → Bool := outsOk (oks renlaw9_HeapChains.rs) (boxes renlaw9_HeapChains.ps)
/-- rendezvous/renlaw9.HeapChains -/
def R.renlaw9_HeapChains (n0 : Int) (key1 : (List Int)) (a2 : Int) (b3 : Int) (v4 : T_heap_Value.den) (w5 : T_heap_Value.den) : Res (Bool) :=
  Res.given (oks (renlaw9_HeapChains.ps.map Par.v) (n0, (key1, (a2, (b3, (v4, w5)))))) (Res.bind (R.renlaw9_first) fun r1 => Res.br (!r1) (Res.ok (false)) (Res.bind (R.heap_New 100) fun r2 => Res.given (heap_New.okOut r2) (Res.bind (α := Bool) (Res.br (ilt n0 1) (Res.ok (true)) (Res.br (ilt 100 n0) (Res.ok (true)) (Res.br (ilt 2000 (key1.length : Int)) (Res.ok (true)) (Res.bind (R.renlaw9_Few v4) fun r3 => Res.br (!r3) (Res.ok (true)) (Res.bind (R.renlaw9_Few w5) fun r4 => Res.br (!r4) (Res.ok (true)) (Res.br (ilt a2 0) (Res.ok (true)) (Res.br (ile b3 a2) (Res.ok (true)) (Res.ok ((ile n0 b3)))))))))) fun x5 => Res.br x5 (Res.bind (R.renlaw9_first) fun r6 => Res.ok (r6)) (Res.bind (Res.loop (α := (Int × T_heap_Heap.den)) (β := T_heap_Heap.den) (fun i7 => Res.br (ilt i7.1 n0) (Res.bind (R.heap_Heap_Make i7.2 (1, (IntKind.wrap .i64 (i7.1 - 1), (([] : List T_heap_Prop.den), (([] : List T_heap_Slot.den), (([] : List UInt8), (0, (0, ((0, ((0, 0), ((false, ([] : List Int)), (([] : List Int), 0)))), (0, (0, (0, (0, ([] : List Int)))))))))))))) fun r8 => Res.given (heap_Heap_Make.okOut r8) (Res.ok (.next ((IntKind.wrap .i64 (i7.1 + 1), r8.2))))) (Res.ok (.done (i7.2)))) fuel (0, r2)) fun x9 => Res.bind (R.heap_Heap_Put x9 a2 key1 v4) fun r10 => Res.given (heap_Heap_Put.okOut r10) (Res.bind (R.heap_Heap_Put r10.2 b3 key1 w5) fun r11 => Res.given (heap_Heap_Put.okOut r11) (Res.bind (Res.loop (α := Int) (β := (Unit ⊕ Bool)) (fun i12 => Res.br (ilt i12 n0) (Res.bind (R.heap_Heap_Find r11.2 i12 key1) fun r13 => Res.given (heap_Heap_Find.okOut r13) (Res.bind (α := Bool) (Res.br (!(r13.2.2 == (ile a2 i12))) (Res.ok (true)) (Res.br (!r13.2.2) (Res.br (!(r13.2.1 == (-1))) (Res.ok (true)) (Res.br r13.2.2 (Res.br (ilt i12 b3) (Res.bind (R.heap_Same r13.1 v4) fun r14 => Res.br (!r14) (Res.ok (true)) (Res.br r13.2.2 (Res.br (ile b3 i12) (Res.bind (R.heap_Same r13.1 w5) fun r15 => Res.ok ((!r15))) (Res.ok (false))) (Res.ok (false)))) (Res.br r13.2.2 (Res.br (ile b3 i12) (Res.bind (R.heap_Same r13.1 w5) fun r16 => Res.ok ((!r16))) (Res.ok (false))) (Res.ok (false)))) (Res.br r13.2.2 (Res.br (ile b3 i12) (Res.bind (R.heap_Same r13.1 w5) fun r17 => Res.ok ((!r17))) (Res.ok (false))) (Res.ok (false))))) (Res.br r13.2.2 (Res.br (ilt i12 b3) (Res.bind (R.heap_Same r13.1 v4) fun r18 => Res.br (!r18) (Res.ok (true)) (Res.br r13.2.2 (Res.br (ile b3 i12) (Res.bind (R.heap_Same r13.1 w5) fun r19 => Res.ok ((!r19))) (Res.ok (false))) (Res.ok (false)))) (Res.br r13.2.2 (Res.br (ile b3 i12) (Res.bind (R.heap_Same r13.1 w5) fun r20 => Res.ok ((!r20))) (Res.ok (false))) (Res.ok (false)))) (Res.br r13.2.2 (Res.br (ile b3 i12) (Res.bind (R.heap_Same r13.1 w5) fun r21 => Res.ok ((!r21))) (Res.ok (false))) (Res.ok (false)))))) fun x22 => Res.br x22 (Res.ok (.done (.inr false))) (Res.ok (.next (IntKind.wrap .i64 (i12 + 1)))))) (Res.ok (.done (.inl ())))) fuel 0) fun x23 => Res.sum x23 (fun x24 => Res.bind (R.heap_Heap_Drop r11.2 b3) fun r26 => Res.given (heap_Heap_Drop.okOut r26) (Res.bind (R.heap_Heap_Find r26.2 (IntKind.wrap .i64 (n0 - 1)) key1) fun r27 => Res.given (heap_Heap_Find.okOut r27) (Res.bind (R.renlaw9_first) fun r28 => Res.br r28 (Res.br r26.1.2 (Res.bind (R.heap_Same r26.1.1 w5) fun r29 => Res.br r29 (Res.br r27.2.2 (Res.bind (R.heap_Same r27.1 v4) fun r30 => Res.ok (r30)) (Res.ok (false))) (Res.ok (false))) (Res.ok (false))) (Res.ok (false))))) (fun z25 => Res.ok (z25))))))))

@[reducible] def heap_zero.ps : List Par := [.val true (.bor (.seq (.frz (.int .i64)) (.seq (.frz T_api_Num) (.seq (.seq (.frz .bool) (.own (.frz (.int .u32)))) (.seq (.own (.frz (.int .u16))) (.frz (.int .i64)))))))]
@[reducible] def heap_zero.rs : List VSh := [(false, (.frz .bool))]
def heap_zero.okOut : outs (dens heap_zero.rs) (boxes heap_zero.ps) → Bool := outsOk (oks heap_zero.rs) (boxes heap_zero.ps)
/-- rendezvous/heap.zero -/
def R.heap_zero (v0 : T_heap_Value.den) : Res (Bool) :=
  Res.given (oks (heap_zero.ps.map Par.v) v0) (Res.br ((v0.2.1.1 == 0) && ((v0.2.1.2 == 0) && true)) (Res.br (!v0.2.2.1.1) (Res.br ((v0.2.2.1.2.length : Int) == 0) (Res.br ((v0.2.2.2.1.length : Int) == 0) (Res.ok ((v0.2.2.2.2 == 0))) (Res.ok (false))) (Res.ok (false))) (Res.ok (false))) (Res.ok (false)))

@[reducible] def num_May.ps : List Par := [.val true (.frz T_api_Num)]
@[reducible] def num_May.rs : List VSh := [(false, (.frz .bool))]
def num_May.okOut : outs (dens num_May.rs) (boxes num_May.ps) → Bool := outsOk (oks num_May.rs) (boxes num_May.ps)
/-- rendezvous/num.May -/
def R.num_May (a0 : T_api_Num.den) : Res (Bool) :=
  Res.given (oks (num_May.ps.map Par.v) a0) (Res.br (a0.1 == 0) (Res.br (ile (-9007199254740991) a0.2) (Res.ok ((ile a0.2 9007199254740991))) (Res.ok (false))) (Res.bind (α := Bool) (Res.br (a0.1 == 1) (Res.ok ((a0.1 == 1))) (Res.br (a0.1 == 2) (Res.ok ((a0.1 == 2))) (Res.br (a0.1 == 3) (Res.ok ((a0.1 == 3))) (Res.ok ((a0.1 == 4)))))) fun x1 => Res.br x1 (Res.ok ((a0.2 == 0))) (Res.ok (false))))

@[reducible] def big_May.ps : List Par := [.val true (.bor (.seq (.frz .bool) (.own (.frz (.int .u32)))))]
@[reducible] def big_May.rs : List VSh := [(false, (.frz .bool))]
def big_May.okOut : outs (dens big_May.rs) (boxes big_May.ps) → Bool := outsOk (oks big_May.rs) (boxes big_May.ps)
/-- rendezvous/big.May -/
def R.big_May (a0 : T_api_Big.den) : Res (Bool) :=
  Res.given (oks (big_May.ps.map Par.v) a0) (Res.br (ile (a0.2.length : Int) 8) (Res.br ((a0.2.length : Int) == 0) (Res.br (!a0.1) (Res.ok (true)) (Res.br (ilt 0 (a0.2.length : Int)) (Res.idxS (.frz (.int .u32)) a0.2 (IntKind.wrap .i64 ((a0.2.length : Int) - 1)) fun e1 => Res.ok ((!(e1 == 0)))) (Res.ok (false)))) (Res.br (ilt 0 (a0.2.length : Int)) (Res.idxS (.frz (.int .u32)) a0.2 (IntKind.wrap .i64 ((a0.2.length : Int) - 1)) fun e2 => Res.ok ((!(e2 == 0)))) (Res.ok (false)))) (Res.ok (false)))

@[reducible] def heap_May.ps : List Par := [.val true (.bor (.seq (.frz (.int .i64)) (.seq (.frz T_api_Num) (.seq (.seq (.frz .bool) (.own (.frz (.int .u32)))) (.seq (.own (.frz (.int .u16))) (.frz (.int .i64)))))))]
@[reducible] def heap_May.rs : List VSh := [(false, (.frz .bool))]
def heap_May.okOut : outs (dens heap_May.rs) (boxes heap_May.ps) → Bool := outsOk (oks heap_May.rs) (boxes heap_May.ps)
/-- rendezvous/heap.May -/
def R.heap_May (v0 : T_heap_Value.den) : Res (Bool) :=
  Res.given (oks (heap_May.ps.map Par.v) v0) (Res.bind (α := Bool) (Res.br (v0.1 == 0) (Res.ok ((v0.1 == 0))) (Res.ok ((v0.1 == 1)))) fun x1 => Res.br x1 (Res.bind (R.heap_zero v0) fun r2 => Res.ok (r2)) (Res.br (v0.1 == 2) (Res.bind (R.heap_zero (v0.1, (v0.2.1, (v0.2.2.1, (v0.2.2.2.1, 0))))) fun r3 => Res.br r3 (Res.br (v0.2.2.2.2 == 0) (Res.ok (true)) (Res.ok ((v0.2.2.2.2 == 1)))) (Res.ok (false))) (Res.br (v0.1 == 3) (Res.bind (R.heap_zero (v0.1, ((0, 0), v0.2.2))) fun r4 => Res.br r4 (Res.bind (R.num_May v0.2.1) fun r5 => Res.ok (r5)) (Res.ok (false))) (Res.br (v0.1 == 4) (Res.bind (R.heap_zero (v0.1, (v0.2.1, ((false, ([] : List Int)), v0.2.2.2)))) fun r6 => Res.br r6 (Res.bind (R.big_May v0.2.2.1) fun r7 => Res.ok (r7)) (Res.ok (false))) (Res.br (v0.1 == 5) (Res.bind (R.heap_zero (v0.1, (v0.2.1, (v0.2.2.1, (([] : List Int), v0.2.2.2.2))))) fun r8 => Res.br r8 (Res.ok ((ile (v0.2.2.2.1.length : Int) 4096))) (Res.ok (false))) (Res.br (v0.1 == 6) (Res.bind (R.heap_zero (v0.1, (v0.2.1, (v0.2.2.1, (v0.2.2.2.1, 0))))) fun r9 => Res.br r9 (Res.ok ((ile 0 v0.2.2.2.2))) (Res.ok (false))) (Res.ok (false))))))))

@[reducible] def renref1_May.ps : List Par := [.val true (.frz T_api_Num)]
@[reducible] def renref1_May.rs : List VSh := [(false, (.frz .bool))]
def renref1_May.okOut : outs (dens renref1_May.rs) (boxes renref1_May.ps) → Bool := outsOk (oks renref1_May.rs) (boxes renref1_May.ps)
/-- rendezvous/renref1.May -/
def R.renref1_May (a0 : T_api_Num.den) : Res (Bool) :=
  Res.given (oks (renref1_May.ps.map Par.v) a0) (Res.br (a0.1 == 0) (Res.br (ile (-9007199254740991) a0.2) (Res.ok ((ile a0.2 9007199254740991))) (Res.ok (false))) (Res.br (ile 1 a0.1) (Res.br (ile a0.1 4) (Res.ok ((a0.2 == 0))) (Res.ok (false))) (Res.ok (false))))

@[reducible] def renref2_May.ps : List Par := [.val true (.bor (.seq (.frz .bool) (.own (.frz (.int .u32)))))]
@[reducible] def renref2_May.rs : List VSh := [(false, (.frz .bool))]
def renref2_May.okOut : outs (dens renref2_May.rs) (boxes renref2_May.ps) → Bool := outsOk (oks renref2_May.rs) (boxes renref2_May.ps)
/-- rendezvous/renref2.May -/
def R.renref2_May (a0 : T_api_Big.den) : Res (Bool) :=
  Res.given (oks (renref2_May.ps.map Par.v) a0) (Res.br (ile (a0.2.length : Int) 8) (Res.br ((a0.2.length : Int) == 0) (Res.br (!a0.1) (Res.ok (true)) (Res.br (ilt 0 (a0.2.length : Int)) (Res.idxS (.frz (.int .u32)) a0.2 (IntKind.wrap .i64 ((a0.2.length : Int) - 1)) fun e1 => Res.ok ((!(e1 == 0)))) (Res.ok (false)))) (Res.br (ilt 0 (a0.2.length : Int)) (Res.idxS (.frz (.int .u32)) a0.2 (IntKind.wrap .i64 ((a0.2.length : Int) - 1)) fun e2 => Res.ok ((!(e2 == 0)))) (Res.ok (false)))) (Res.ok (false)))

@[reducible] def renref9_May.ps : List Par := [.val true (.bor (.seq (.frz (.int .i64)) (.seq (.frz T_api_Num) (.seq (.seq (.frz .bool) (.own (.frz (.int .u32)))) (.seq (.own (.frz (.int .u16))) (.frz (.int .i64)))))))]
@[reducible] def renref9_May.rs : List VSh := [(false, (.frz .bool))]
def renref9_May.okOut : outs (dens renref9_May.rs) (boxes renref9_May.ps) → Bool := outsOk (oks renref9_May.rs) (boxes renref9_May.ps)
/-- rendezvous/renref9.May -/
def R.renref9_May (v0 : T_heap_Value.den) : Res (Bool) :=
  Res.given (oks (renref9_May.ps.map Par.v) v0) (Res.bind (α := Bool) (Res.br (v0.1 == 0) (Res.ok ((v0.1 == 0))) (Res.ok ((v0.1 == 1)))) fun x1 => Res.br x1 (Res.bind (R.renref9_Same v0 (v0.1, ((0, 0), ((false, ([] : List Int)), (([] : List Int), 0))))) fun r2 => Res.ok (r2)) (Res.br (v0.1 == 2) (Res.bind (α := Bool) (Res.br (!(v0.2.2.2.2 == 0)) (Res.ok ((!(v0.2.2.2.2 == 1)))) (Res.ok (false))) fun x3 => Res.br x3 (Res.ok (false)) (Res.bind (R.renref9_Same v0 (v0.1, ((0, 0), ((false, ([] : List Int)), (([] : List Int), v0.2.2.2.2))))) fun r4 => Res.ok (r4))) (Res.br (v0.1 == 3) (Res.bind (R.renref1_May v0.2.1) fun r5 => Res.br (!r5) (Res.ok (false)) (Res.bind (R.renref9_Same v0 (v0.1, (v0.2.1, ((false, ([] : List Int)), (([] : List Int), 0))))) fun r6 => Res.ok (r6))) (Res.br (v0.1 == 4) (Res.bind (R.renref2_May v0.2.2.1) fun r7 => Res.br (!r7) (Res.ok (false)) (Res.bind (R.renref9_Same v0 (v0.1, ((0, 0), (v0.2.2.1, (([] : List Int), 0))))) fun r8 => Res.ok (r8))) (Res.br (v0.1 == 5) (Res.br (ilt 4096 (v0.2.2.2.1.length : Int)) (Res.ok (false)) (Res.bind (R.renref9_Same v0 (v0.1, ((0, 0), ((false, ([] : List Int)), (v0.2.2.2.1, 0))))) fun r9 => Res.ok (r9))) (Res.br (v0.1 == 6) (Res.br (ilt v0.2.2.2.2 0) (Res.ok (false)) (Res.bind (R.renref9_Same v0 (v0.1, ((0, 0), ((false, ([] : List Int)), (([] : List Int), v0.2.2.2.2))))) fun r10 => Res.ok (r10))) (Res.ok (false))))))))

@[reducible] def renlaw9_HeapValues.ps : List Par := [.val true (.frz T_heap_Value), .val true (.frz T_heap_Value)]
@[reducible] def renlaw9_HeapValues.rs : List VSh := [(false, (.frz .bool))]
def renlaw9_HeapValues.okOut : outs (dens renlaw9_HeapValues.rs) (boxes renlaw9_HeapValues.ps) → Bool := outsOk (oks renlaw9_HeapValues.rs) (boxes renlaw9_HeapValues.ps)
/-- rendezvous/renlaw9.HeapValues -/
def R.renlaw9_HeapValues (a0 : T_heap_Value.den) (b1 : T_heap_Value.den) : Res (Bool) :=
  Res.given (oks (renlaw9_HeapValues.ps.map Par.v) (a0, b1)) (Res.bind (R.renlaw9_first) fun r1 => Res.br (!r1) (Res.ok (false)) (Res.bind (α := Bool) (Res.bind (R.renlaw9_Few a0) fun r2 => Res.br (!r2) (Res.ok (true)) (Res.bind (R.renlaw9_Few b1) fun r3 => Res.ok ((!r3)))) fun x4 => Res.br x4 (Res.bind (R.renlaw9_first) fun r5 => Res.ok (r5)) (Res.bind (R.renlaw9_first) fun r6 => Res.br r6 (Res.bind (R.heap_May a0) fun r7 => Res.bind (R.renlaw9_Plain a0) fun r8 => Res.given (renlaw9_Plain.okOut r8) (Res.bind (R.renref9_May r8) fun r9 => Res.br (r7 == r9) (Res.bind (R.heap_Same a0 b1) fun r10 => Res.bind (R.renlaw9_Plain a0) fun r11 => Res.given (renlaw9_Plain.okOut r11) (Res.bind (R.renlaw9_Plain b1) fun r12 => Res.given (renlaw9_Plain.okOut r12) (Res.bind (R.renref9_Same r11 r12) fun r13 => Res.br (r10 == r13) (Res.bind (R.heap_Same a0 a0) fun r14 => Res.ok (r14)) (Res.ok (false))))) (Res.ok (false)))) (Res.ok (false)))))

end Go.Mach

set_option linter.unusedVariables false
namespace Go.Mach
def owned : List (TypeId × Sh) := [(41, (.seq (.frz (.int .i64)) (.seq (.frz (.int .i64)) (.seq (.own (.frz T_heap_Prop)) (.seq (.own (.frz T_heap_Slot)) (.seq (.frz .str) (.seq (.frz (.int .i64)) (.seq (.frz (.int .i64)) (.seq (.frz T_heap_Value) (.seq (.frz (.int .i64)) (.seq (.frz (.int .i64)) (.seq (.frz (.int .i64)) (.seq (.frz (.int .i64)) (.own (.frz (.int .u8)))))))))))))))), (58, (.seq (.frz (.int .i64)) (.seq (.frz (.int .i64)) (.seq (.own (.frz T_heap_Prop)) (.seq (.own (.frz T_heap_Slot)) (.seq (.frz .str) (.seq (.frz (.int .i64)) (.seq (.frz (.int .i64)) (.seq (.frz T_heap_Value) (.seq (.frz (.int .i64)) (.seq (.frz (.int .i64)) (.seq (.frz (.int .i64)) (.seq (.frz (.int .i64)) (.own (.frz (.int .u8))))))))))))))))]
def heap_New.spec : Spec := ⟨11, heap_New.ps, heap_New.rs, fun x => R.heap_New x⟩
def heap_New.env (P : Program) : Env := ⟨P, [], etyOf P owned, false⟩
def heap_New.ann : Ann := .none

def heap_own.spec : Spec := ⟨43, heap_own.ps, heap_own.rs, fun x => R.heap_own x⟩
def heap_own.env (P : Program) : Env := ⟨P, [cloneSpec 44 (.int .u16), cloneSpec 80 (.int .u32)], etyOf P owned, false⟩
def heap_own.ann : Ann := .none

def heap_copied.spec : Spec := ⟨40, heap_copied.ps, heap_copied.rs, fun x => R.heap_copied x⟩
def heap_copied.env (P : Program) : Env := ⟨P, [cloneSpec 44 (.int .u16), cloneSpecN 112 74 T_heap_Prop, cloneSpecN 112 75 T_heap_Slot, cloneSpec 76 (.int .u8), heap_own.spec], etyOf P owned, false⟩
def heap_copied.ann : Ann := (.two .none (.two .none (.two (.two .none (.two (.loop ⟨[(26, (false, (.frz (.int .i64))))], [3, 4, 27, 28, 29, 30, 31, 32, 33, 34, 35, 36, 37, 38, 39, 40, 41, 42], [(7, (.own (.frz T_heap_Prop)))], []⟩ [(.ext 0, ⟨[], [3, 4, 26, 27, 28, 29, 30, 31, 32, 33, 34, 35, 36, 37, 38, 39, 40, 41, 42], [(7, (.own (.frz T_heap_Prop)))], []⟩)] .none) .none)) (.two (.two .none (.two (.loop ⟨[(46, (false, (.frz (.int .i64))))], [5, 6, 47, 48, 49, 50, 51, 52, 53, 54, 55, 56, 57, 58, 59], [(8, (.own (.frz T_heap_Slot)))], []⟩ [(.ext 2, ⟨[], [5, 6, 46, 47, 48, 49, 50, 51, 52, 53, 54, 55, 56, 57, 58, 59], [(8, (.own (.frz T_heap_Slot)))], []⟩)] .none) .none)) .none))))

def heap_Heap_Make.spec : Spec := ⟨13, heap_Heap_Make.ps, heap_Heap_Make.rs, fun x => R.heap_Heap_Make x.1 x.2⟩
def heap_Heap_Make.env (P : Program) : Env := ⟨P, [heap_copied.spec], etyOf P owned, false⟩
def heap_Heap_Make.ann : Ann := .none

def renref_Ascii.spec : Spec := ⟨37, renref_Ascii.ps, renref_Ascii.rs, fun x => R.renref_Ascii x⟩
def renref_Ascii.env (P : Program) : Env := ⟨P, [], etyOf P owned, false⟩
def renref_Ascii.ann : Ann := (.two .none (.two .none (.two (.two .none (.two (.loop ⟨[(3, (false, (.own (.frz (.int .u16))))), (4, (false, (.frz (.int .i64))))], [5, 6, 7, 8, 9, 10, 11, 12, 13, 14, 15, 16, 17], [], []⟩ [(.ext 0, ⟨[(3, (false, (.own (.frz (.int .u16)))))], [4, 5, 6, 7, 8, 9, 10, 11, 12, 13, 14, 15, 16, 17], [], []⟩)] .none) .none)) .none)))

def heap_Heap_has.spec : Spec := ⟨41, heap_Heap_has.ps, heap_Heap_has.rs, fun x => R.heap_Heap_has x.1 x.2⟩
def heap_Heap_has.env (P : Program) : Env := ⟨P, [], etyOf P owned, false⟩
def heap_Heap_has.ann : Ann := .none

def slices_Equal_uint16.spec : Spec := ⟨49, slices_Equal_uint16.ps, slices_Equal_uint16.rs, fun x => R.slices_Equal_uint16 x.1 x.2⟩
def slices_Equal_uint16.env (P : Program) : Env := ⟨P, [], etyOf P owned, false⟩
def slices_Equal_uint16.ann : Ann := (.two .none (.two .none (.two (.two .none (.two (.loop ⟨[(13, (false, (.frz (.int .i64))))], [4, 5, 14, 15, 16, 17, 18, 19, 20, 21, 22, 23, 24, 25], [], []⟩ [(.ext 0, ⟨[], [4, 5, 13, 14, 15, 16, 17, 18, 19, 20, 21, 22, 23, 24, 25], [], []⟩), (.ret, ⟨[(4, (false, (.frz .bool)))], [5, 13, 14, 15, 16, 17, 18, 19, 20, 21, 22, 23, 24, 25], [], []⟩)] .none) .none)) .none)))

def text_Same.spec : Spec := ⟨79, text_Same.ps, text_Same.rs, fun x => R.text_Same x.1 x.2⟩
def text_Same.env (P : Program) : Env := ⟨P, [slices_Equal_uint16.spec], etyOf P owned, false⟩
def text_Same.ann : Ann := .none

def heap_Heap_place_1.spec : Spec := ⟨78, heap_Heap_place_1.ps, heap_Heap_place_1.rs, fun x => R.heap_Heap_place_1 x.1 x.2⟩
def heap_Heap_place_1.env (P : Program) : Env := ⟨P, [text_Same.spec], etyOf P owned, false⟩
def heap_Heap_place_1.ann : Ann := .none

def slices_IndexFunc_heapProp__heap_Heap_place_1.spec : Spec := ⟨77, slices_IndexFunc_heapProp__heap_Heap_place_1.ps, slices_IndexFunc_heapProp__heap_Heap_place_1.rs, fun x => R.slices_IndexFunc_heapProp__heap_Heap_place_1 x.1 x.2⟩
def slices_IndexFunc_heapProp__heap_Heap_place_1.env (P : Program) : Env := ⟨P, [heap_Heap_place_1.spec], etyOf P owned, false⟩
def slices_IndexFunc_heapProp__heap_Heap_place_1.ann : Ann := (.two .none (.two (.two .none (.two (.loop ⟨[(8, (false, (.frz (.int .i64))))], [4, 5, 9, 10, 11, 12, 13, 14, 15, 16, 17, 18], [], []⟩ [(.ext 0, ⟨[], [4, 5, 8, 9, 10, 11, 12, 13, 14, 15, 16, 17, 18], [], []⟩), (.ret, ⟨[(4, (false, (.frz (.int .i64))))], [5, 8, 9, 10, 11, 12, 13, 14, 15, 16, 17, 18], [], []⟩)] .none) .none)) .none))

def heap_Heap_place.spec : Spec := ⟨42, heap_Heap_place.ps, heap_Heap_place.rs, fun x => R.heap_Heap_place x.1 x.2.1 x.2.2⟩
def heap_Heap_place.env (P : Program) : Env := ⟨P, [slices_IndexFunc_heapProp__heap_Heap_place_1.spec], etyOf P owned, false⟩
def heap_Heap_place.ann : Ann := .none

def heap_Heap_Put.spec : Spec := ⟨14, heap_Heap_Put.ps, heap_Heap_Put.rs, fun x => R.heap_Heap_Put x.1 x.2.1 x.2.2.1 x.2.2.2⟩
def heap_Heap_Put.env (P : Program) : Env := ⟨P, [cloneSpec 44 (.int .u16), heap_Heap_has.spec, heap_Heap_place.spec, heap_own.spec], etyOf P owned, false⟩
def heap_Heap_Put.ann : Ann := .none

def text_digit.spec : Spec := ⟨81, text_digit.ps, text_digit.rs, fun x => R.text_digit x⟩
def text_digit.env (P : Program) : Env := ⟨P, [], etyOf P owned, false⟩
def text_digit.ann : Ann := .none

def text_Key.spec : Spec := ⟨45, text_Key.ps, text_Key.rs, fun x => R.text_Key x⟩
def text_Key.env (P : Program) : Env := ⟨P, [text_digit.spec], etyOf P owned, false⟩
def text_Key.ann : Ann := (.two .none (.two (.two (.piece [(.nrm, ⟨[(25, (false, (.frz .bool)))], [7, 8, 9, 10, 11, 12, 13, 14, 15, 16, 17, 18, 19, 20, 21, 22, 23, 24], [], []⟩)] .none) .none) (.two .none (.two (.two .none (.two (.loop ⟨[(4, (false, (.frz (.int .i64)))), (28, (false, (.frz (.int .i64))))], [2, 3, 6, 29, 30, 31, 32, 33, 34, 35, 36, 37, 38, 39, 40, 41], [], []⟩ [(.ext 0, ⟨[(4, (false, (.frz (.int .i64))))], [2, 3, 6, 28, 29, 30, 31, 32, 33, 34, 35, 36, 37, 38, 39, 40, 41], [], []⟩), (.ret, ⟨[(2, (false, (.frz (.int .i64)))), (3, (false, (.frz .bool)))], [4, 6, 28, 29, 30, 31, 32, 33, 34, 35, 36, 37, 38, 39, 40, 41], [], []⟩)] .none) .none)) .none))))

def heap_Heap_Keys_1.spec : Spec := ⟨47, heap_Heap_Keys_1.ps, heap_Heap_Keys_1.rs, fun x => R.heap_Heap_Keys_1 x.1 x.2⟩
def heap_Heap_Keys_1.env (P : Program) : Env := ⟨P, [text_Key.spec], etyOf P owned, false⟩
def heap_Heap_Keys_1.ann : Ann := .none

def slices_insertionSortCmpFunc_suint16__heap_Heap_Keys_1.spec : Spec := ⟨93, slices_insertionSortCmpFunc_suint16__heap_Heap_Keys_1.ps, slices_insertionSortCmpFunc_suint16__heap_Heap_Keys_1.rs, fun x => R.slices_insertionSortCmpFunc_suint16__heap_Heap_Keys_1 x.1 x.2.1 x.2.2.1 x.2.2.2⟩
def slices_insertionSortCmpFunc_suint16__heap_Heap_Keys_1.env (P : Program) : Env := ⟨P, [heap_Heap_Keys_1.spec], etyOf P owned, false⟩
def slices_insertionSortCmpFunc_suint16__heap_Heap_Keys_1.ann : Ann := (.two .none (.two (.loop ⟨[(8, (false, (.frz (.int .i64))))], [9, 12, 13, 14, 15, 16, 17, 18, 19, 20, 21, 22, 23, 24, 25, 26, 27, 28, 29, 30, 31, 32, 33, 34, 35, 36, 37, 38, 39, 40, 41, 42, 43, 44, 45, 46, 47, 48, 49, 50, 51, 52], [(0, (.own (.frz (.list (.int .u16)))))], []⟩ [(.ext 0, ⟨[], [8, 9, 12, 13, 14, 15, 16, 17, 18, 19, 20, 21, 22, 23, 24, 25, 26, 27, 28, 29, 30, 31, 32, 33, 34, 35, 36, 37, 38, 39, 40, 41, 42, 43, 44, 45, 46, 47, 48, 49, 50, 51, 52], [(0, (.own (.frz (.list (.int .u16)))))], []⟩)] (.two .none (.two (.two (.two .none (.two (.loop ⟨[(9, (false, (.frz (.int .i64))))], [18, 19, 20, 21, 22, 23, 24, 25, 26, 27, 28, 29, 30, 31, 32, 33, 34, 35, 36, 37, 38, 39, 40, 41, 42, 43, 44, 45, 46, 47, 48, 49, 50, 51, 52], [(0, (.own (.frz (.list (.int .u16)))))], []⟩ [(.ext 2, ⟨[], [9, 18, 19, 20, 21, 22, 23, 24, 25, 26, 27, 28, 29, 30, 31, 32, 33, 34, 35, 36, 37, 38, 39, 40, 41, 42, 43, 44, 45, 46, 47, 48, 49, 50, 51, 52], [(0, (.own (.frz (.list (.int .u16)))))], []⟩)] (.two (.two (.piece [(.nrm, ⟨[(34, (false, (.frz .bool)))], [18, 19, 20, 21, 22, 23, 24, 25, 26, 27, 28, 29, 30, 31, 32, 33], [], []⟩)] .none) .none) .none)) .none)) .none) .none))) .none))

def slices_swapRangeCmpFunc_suint16__heap_Heap_Keys_1.spec : Spec := ⟨101, slices_swapRangeCmpFunc_suint16__heap_Heap_Keys_1.ps, slices_swapRangeCmpFunc_suint16__heap_Heap_Keys_1.rs, fun x => R.slices_swapRangeCmpFunc_suint16__heap_Heap_Keys_1 x.1 x.2.1 x.2.2.1 x.2.2.2.1 x.2.2.2.2⟩
def slices_swapRangeCmpFunc_suint16__heap_Heap_Keys_1.env (P : Program) : Env := ⟨P, [], etyOf P owned, false⟩
def slices_swapRangeCmpFunc_suint16__heap_Heap_Keys_1.ann : Ann := (.two .none (.two (.loop ⟨[(10, (false, (.frz (.int .i64))))], [11, 12, 13, 14, 15, 16, 17, 18, 19, 20, 21, 22, 23, 24, 25, 26, 27, 28, 29, 30, 31, 32, 33, 34, 35, 36, 37], [(0, (.own (.frz (.list (.int .u16)))))], []⟩ [(.ext 0, ⟨[], [10, 11, 12, 13, 14, 15, 16, 17, 18, 19, 20, 21, 22, 23, 24, 25, 26, 27, 28, 29, 30, 31, 32, 33, 34, 35, 36, 37], [(0, (.own (.frz (.list (.int .u16)))))], []⟩)] .none) .none))

def slices_rotateCmpFunc_suint16__heap_Heap_Keys_1.spec : Spec := ⟨99, slices_rotateCmpFunc_suint16__heap_Heap_Keys_1.ps, slices_rotateCmpFunc_suint16__heap_Heap_Keys_1.rs, fun x => R.slices_rotateCmpFunc_suint16__heap_Heap_Keys_1 x.1 x.2.1 x.2.2.1 x.2.2.2.1 x.2.2.2.2⟩
def slices_rotateCmpFunc_suint16__heap_Heap_Keys_1.env (P : Program) : Env := ⟨P, [slices_swapRangeCmpFunc_suint16__heap_Heap_Keys_1.spec], etyOf P owned, false⟩
def slices_rotateCmpFunc_suint16__heap_Heap_Keys_1.ann : Ann := (.two .none (.two .none (.two (.two (.loop ⟨[(10, (false, (.frz (.int .i64)))), (11, (false, (.frz (.int .i64))))], [18, 19, 20, 21, 22, 23, 24, 25, 26, 27, 28, 29, 30, 31, 32, 33, 34, 35, 36, 37, 38, 39, 40, 41, 42, 43, 44, 45, 46, 47, 48, 49], [(0, (.own (.frz (.list (.int .u16)))))], []⟩ [(.ext 0, ⟨[(10, (false, (.frz (.int .i64))))], [11, 18, 19, 20, 21, 22, 23, 24, 25, 26, 27, 28, 29, 30, 31, 32, 33, 34, 35, 36, 37, 38, 39, 40, 41, 42, 43, 44, 45, 46, 47, 48, 49], [(0, (.own (.frz (.list (.int .u16)))))], []⟩)] .none) .none) .none)))

def slices_symMergeCmpFunc_suint16__heap_Heap_Keys_1.spec (fu : Nat) : Spec := ⟨94, slices_symMergeCmpFunc_suint16__heap_Heap_Keys_1.ps, slices_symMergeCmpFunc_suint16__heap_Heap_Keys_1.rs, fun x => R.slices_symMergeCmpFunc_suint16__heap_Heap_Keys_1 fu x.1 x.2.1 x.2.2.1 x.2.2.2.1 x.2.2.2.2⟩
def slices_symMergeCmpFunc_suint16__heap_Heap_Keys_1.env (P : Program) (fu : Nat) : Env := ⟨P, [(slices_symMergeCmpFunc_suint16__heap_Heap_Keys_1.spec fu), heap_Heap_Keys_1.spec, slices_rotateCmpFunc_suint16__heap_Heap_Keys_1.spec], etyOf P owned, false⟩
def slices_symMergeCmpFunc_suint16__heap_Heap_Keys_1.ann : Ann := (.two (.two .none (.two (.two .none (.two .none (.two (.two (.loop ⟨[(10, (false, (.frz (.int .i64)))), (11, (false, (.frz (.int .i64))))], [12, 31, 32, 33, 34, 35, 36, 37, 38, 39, 40, 41, 42, 43, 44, 45, 46, 47, 48, 49, 50, 51, 52, 53], [], []⟩ [(.ext 0, ⟨[(10, (false, (.frz (.int .i64))))], [11, 12, 31, 32, 33, 34, 35, 36, 37, 38, 39, 40, 41, 42, 43, 44, 45, 46, 47, 48, 49, 50, 51, 52, 53], [], []⟩)] .none) .none) (.two (.two .none (.two (.loop ⟨[(13, (false, (.frz (.int .i64))))], [55, 56, 57, 58, 59, 60, 61, 62, 63, 64, 65, 66, 67, 68, 69, 70, 71, 72, 73, 74, 75, 76], [(0, (.own (.frz (.list (.int .u16)))))], []⟩ [(.ext 2, ⟨[], [13, 55, 56, 57, 58, 59, 60, 61, 62, 63, 64, 65, 66, 67, 68, 69, 70, 71, 72, 73, 74, 75, 76], [(0, (.own (.frz (.list (.int .u16)))))], []⟩)] .none) .none)) .none)))) .none)) (.two (.two .none (.two (.two .none (.two .none (.two (.two (.loop ⟨[(14, (false, (.frz (.int .i64)))), (15, (false, (.frz (.int .i64))))], [16, 83, 84, 85, 86, 87, 88, 89, 90, 91, 92, 93, 94, 95, 96, 97, 98, 99, 100, 101, 102, 103, 104, 105, 106], [], []⟩ [(.ext 4, ⟨[(14, (false, (.frz (.int .i64))))], [15, 16, 83, 84, 85, 86, 87, 88, 89, 90, 91, 92, 93, 94, 95, 96, 97, 98, 99, 100, 101, 102, 103, 104, 105, 106], [], []⟩)] .none) .none) (.two (.two .none (.two (.loop ⟨[(17, (false, (.frz (.int .i64))))], [108, 109, 110, 111, 112, 113, 114, 115, 116, 117, 118, 119, 120, 121, 122, 123, 124, 125, 126, 127, 128], [(0, (.own (.frz (.list (.int .u16)))))], []⟩ [(.ext 6, ⟨[], [17, 108, 109, 110, 111, 112, 113, 114, 115, 116, 117, 118, 119, 120, 121, 122, 123, 124, 125, 126, 127, 128], [(0, (.own (.frz (.list (.int .u16)))))], []⟩)] .none) .none)) .none)))) .none)) (.two .none (.two .none (.two .none (.two (.piece [(.nrm, ⟨[(20, (false, (.frz (.int .i64)))), (21, (false, (.frz (.int .i64))))], [138, 139, 140, 141, 142, 143, 144, 145, 146], [], []⟩)] .none) (.two .none (.two (.two (.loop ⟨[(20, (false, (.frz (.int .i64)))), (21, (false, (.frz (.int .i64))))], [23, 149, 150, 151, 152, 153, 154, 155, 156, 157, 158, 159, 160, 161, 162, 163, 164, 165, 166, 167, 168, 169, 170, 171, 172, 173, 174], [], []⟩ [(.ext 8, ⟨[(20, (false, (.frz (.int .i64))))], [21, 23, 149, 150, 151, 152, 153, 154, 155, 156, 157, 158, 159, 160, 161, 162, 163, 164, 165, 166, 167, 168, 169, 170, 171, 172, 173, 174], [], []⟩)] .none) .none) (.two .none (.two (.piece [(.nrm, ⟨[], [178, 179, 180, 181, 182, 183, 184, 185, 186, 187, 188, 189, 190, 191], [(0, (.own (.frz (.list (.int .u16)))))], []⟩)] (.two (.piece [(.nrm, ⟨[(185, (false, (.frz .bool)))], [178, 179, 180, 181, 182, 183, 184], [], []⟩)] .none) .none)) (.two (.piece [(.nrm, ⟨[], [192, 193, 194, 195, 196, 197, 198, 199, 200, 201, 202, 203, 204, 205], [(0, (.own (.frz (.list (.int .u16)))))], []⟩)] (.two (.piece [(.nrm, ⟨[(199, (false, (.frz .bool)))], [192, 193, 194, 195, 196, 197, 198], [], []⟩)] .none) .none)) (.two (.piece [(.nrm, ⟨[(213, (false, (.frz .bool)))], [206, 207, 208, 209, 210, 211, 212], [], []⟩)] .none) .none))))))))))))

def slices_stableCmpFunc_suint16__heap_Heap_Keys_1.spec : Spec := ⟨82, slices_stableCmpFunc_suint16__heap_Heap_Keys_1.ps, slices_stableCmpFunc_suint16__heap_Heap_Keys_1.rs, fun x => R.slices_stableCmpFunc_suint16__heap_Heap_Keys_1 x.1 x.2.1 x.2.2⟩
def slices_stableCmpFunc_suint16__heap_Heap_Keys_1.env (P : Program) : Env := ⟨P, [(slices_symMergeCmpFunc_suint16__heap_Heap_Keys_1.spec fuel), slices_insertionSortCmpFunc_suint16__heap_Heap_Keys_1.spec], etyOf P owned, false⟩
def slices_stableCmpFunc_suint16__heap_Heap_Keys_1.ann : Ann := (.two .none (.two .none (.two (.two (.loop ⟨[(7, (false, (.frz (.int .i64)))), (8, (false, (.frz (.int .i64))))], [11, 12, 13, 14, 15, 16, 17, 18, 19, 20, 21, 22], [(0, (.own (.frz (.list (.int .u16)))))], []⟩ [(.ext 0, ⟨[(7, (false, (.frz (.int .i64))))], [8, 11, 12, 13, 14, 15, 16, 17, 18, 19, 20, 21, 22], [(0, (.own (.frz (.list (.int .u16)))))], []⟩)] .none) .none) (.two .none (.two (.loop ⟨[(6, (false, (.frz (.int .i64))))], [7, 8, 9, 28, 29, 30, 31, 32, 33, 34, 35, 36, 37, 38, 39, 40, 41, 42, 43, 44, 45, 46, 47, 48, 49, 50, 51, 52, 53, 54, 55, 56, 57, 58, 59, 60, 61, 62], [(0, (.own (.frz (.list (.int .u16)))))], []⟩ [(.ext 2, ⟨[], [6, 7, 8, 9, 28, 29, 30, 31, 32, 33, 34, 35, 36, 37, 38, 39, 40, 41, 42, 43, 44, 45, 46, 47, 48, 49, 50, 51, 52, 53, 54, 55, 56, 57, 58, 59, 60, 61, 62], [(0, (.own (.frz (.list (.int .u16)))))], []⟩)] (.two .none (.two (.two .none (.two (.two (.loop ⟨[(7, (false, (.frz (.int .i64)))), (8, (false, (.frz (.int .i64))))], [33, 34, 35, 36, 37, 38, 39, 40, 41, 42, 43, 44, 45, 46, 47, 48], [(0, (.own (.frz (.list (.int .u16)))))], []⟩ [(.ext 4, ⟨[(7, (false, (.frz (.int .i64))))], [8, 33, 34, 35, 36, 37, 38, 39, 40, 41, 42, 43, 44, 45, 46, 47, 48], [(0, (.own (.frz (.list (.int .u16)))))], []⟩)] .none) .none) .none)) .none))) .none)))))

def slices_SortStableFunc_suint16__heap_Heap_Keys_1.spec : Spec := ⟨46, slices_SortStableFunc_suint16__heap_Heap_Keys_1.ps, slices_SortStableFunc_suint16__heap_Heap_Keys_1.rs, fun x => R.slices_SortStableFunc_suint16__heap_Heap_Keys_1 x.1 x.2⟩
def slices_SortStableFunc_suint16__heap_Heap_Keys_1.env (P : Program) : Env := ⟨P, [slices_stableCmpFunc_suint16__heap_Heap_Keys_1.spec], etyOf P owned, false⟩
def slices_SortStableFunc_suint16__heap_Heap_Keys_1.ann : Ann := .none

def heap_Heap_Keys.spec : Spec := ⟨15, heap_Heap_Keys.ps, heap_Heap_Keys.rs, fun x => R.heap_Heap_Keys x.1 x.2⟩
def heap_Heap_Keys.env (P : Program) : Env := ⟨P, [cloneSpec 44 (.int .u16), heap_Heap_has.spec, slices_SortStableFunc_suint16__heap_Heap_Keys_1.spec, text_Key.spec], etyOf P owned, false⟩
def heap_Heap_Keys.ann : Ann := (.two .none (.two .none (.two .none (.two (.two .none (.two (.loop ⟨[(5, (false, (.own (.frz (.list (.int .u16)))))), (6, (false, (.own (.frz (.list (.int .u16)))))), (25, (false, (.frz (.int .i64))))], [8, 9, 10, 11, 26, 27, 28, 29, 30, 31, 32, 33, 34, 35, 36, 37, 38, 39, 40, 41, 42, 43, 44, 45, 46], [], []⟩ [(.ext 0, ⟨[(5, (false, (.own (.frz (.list (.int .u16)))))), (6, (false, (.own (.frz (.list (.int .u16))))))], [8, 9, 10, 11, 25, 26, 27, 28, 29, 30, 31, 32, 33, 34, 35, 36, 37, 38, 39, 40, 41, 42, 43, 44, 45, 46], [], []⟩)] .none) .none)) .none))))

def heap_Heap_Own.spec : Spec := ⟨17, heap_Heap_Own.ps, heap_Heap_Own.rs, fun x => R.heap_Heap_Own x.1 x.2.1 x.2.2⟩
def heap_Heap_Own.env (P : Program) : Env := ⟨P, [heap_Heap_has.spec, heap_Heap_place.spec, heap_own.spec], etyOf P owned, false⟩
def heap_Heap_Own.ann : Ann := .none

def heap_Heap_Find.spec : Spec := ⟨25, heap_Heap_Find.ps, heap_Heap_Find.rs, fun x => R.heap_Heap_Find x.1 x.2.1 x.2.2⟩
def heap_Heap_Find.env (P : Program) : Env := ⟨P, [heap_Heap_Own.spec, heap_Heap_has.spec], etyOf P owned, false⟩
def heap_Heap_Find.ann : Ann := (.two .none (.two (.two .none (.two (.loop ⟨[(1, (false, (.frz (.int .i64)))), (16, (false, (.frz (.int .i64))))], [7, 8, 9, 10, 17, 18, 19, 20, 21, 22, 23, 24, 25, 26, 27, 28, 29, 30, 31, 32, 33, 34, 35, 36, 37, 38, 39, 40, 41, 42, 43, 44], [], []⟩ [(.ext 0, ⟨[], [1, 7, 8, 9, 10, 16, 17, 18, 19, 20, 21, 22, 23, 24, 25, 26, 27, 28, 29, 30, 31, 32, 33, 34, 35, 36, 37, 38, 39, 40, 41, 42, 43, 44], [], []⟩), (.ret, ⟨[(7, (false, (.frz (.int .i64)))), (8, (false, (.frz .bool)))], [1, 9, 10, 16, 17, 18, 19, 20, 21, 22, 23, 24, 25, 26, 27, 28, 29, 30, 31, 32, 33, 34, 35, 36, 37, 38, 39, 40, 41, 42, 43, 44], [(3, (.box (.seq (.frz (.int .i64)) (.seq (.frz (.int .i64)) (.seq (.frz (.int .i64)) (.seq (.frz .bool) (.seq (.frz (.list (.int .u32))) (.seq (.frz (.list (.int .u16))) (.frz (.int .i64))))))))))], []⟩)] .none) .none)) .none))

def renref_Units.spec : Spec := ⟨16, renref_Units.ps, renref_Units.rs, fun x => R.renref_Units x.1 x.2⟩
def renref_Units.env (P : Program) : Env := ⟨P, [], etyOf P owned, false⟩
def renref_Units.ann : Ann := (.two .none (.two .none (.two (.two .none (.two (.loop ⟨[(5, (false, (.frz (.int .i64))))], [4, 11, 12, 13, 14, 15, 16, 17, 18, 19, 20, 21, 22, 23, 24, 25], [], []⟩ [(.ext 0, ⟨[], [4, 5, 11, 12, 13, 14, 15, 16, 17, 18, 19, 20, 21, 22, 23, 24, 25], [], []⟩), (.ret, ⟨[(4, (false, (.frz .bool)))], [5, 11, 12, 13, 14, 15, 16, 17, 18, 19, 20, 21, 22, 23, 24, 25], [], []⟩)] .none) .none)) .none)))

def slices_Equal_uint32.spec : Spec := ⟨48, slices_Equal_uint32.ps, slices_Equal_uint32.rs, fun x => R.slices_Equal_uint32 x.1 x.2⟩
def slices_Equal_uint32.env (P : Program) : Env := ⟨P, [], etyOf P owned, false⟩
def slices_Equal_uint32.ann : Ann := (.two .none (.two .none (.two (.two .none (.two (.loop ⟨[(13, (false, (.frz (.int .i64))))], [4, 5, 14, 15, 16, 17, 18, 19, 20, 21, 22, 23, 24, 25], [], []⟩ [(.ext 0, ⟨[], [4, 5, 13, 14, 15, 16, 17, 18, 19, 20, 21, 22, 23, 24, 25], [], []⟩), (.ret, ⟨[(4, (false, (.frz .bool)))], [5, 13, 14, 15, 16, 17, 18, 19, 20, 21, 22, 23, 24, 25], [], []⟩)] .none) .none)) .none)))

def heap_Same.spec : Spec := ⟨18, heap_Same.ps, heap_Same.rs, fun x => R.heap_Same x.1 x.2⟩
def heap_Same.env (P : Program) : Env := ⟨P, [slices_Equal_uint16.spec, slices_Equal_uint32.spec], etyOf P owned, false⟩
def heap_Same.ann : Ann := .none

def renlaw9_first.spec : Spec := ⟨10, renlaw9_first.ps, renlaw9_first.rs, fun _ => R.renlaw9_first⟩
def renlaw9_first.env (P : Program) : Env := ⟨P, [heap_Heap_Find.spec, heap_Heap_Keys.spec, heap_Heap_Make.spec, heap_Heap_Put.spec, heap_New.spec, heap_Same.spec, renref_Ascii.spec, renref_Units.spec], etyOf P owned, false⟩
def renlaw9_first.ann : Ann := .none

def renlaw9_Few.spec : Spec := ⟨12, renlaw9_Few.ps, renlaw9_Few.rs, fun x => R.renlaw9_Few x⟩
def renlaw9_Few.env (P : Program) : Env := ⟨P, [], etyOf P owned, false⟩
def renlaw9_Few.ann : Ann := .none

def heap_Heap_Cell.spec : Spec := ⟨19, heap_Heap_Cell.ps, heap_Heap_Cell.rs, fun x => R.heap_Heap_Cell x.1 x.2⟩
def heap_Heap_Cell.env (P : Program) : Env := ⟨P, [heap_Heap_has.spec, heap_copied.spec], etyOf P owned, false⟩
def heap_Heap_Cell.ann : Ann := .none

def renlaw9_Plain.spec : Spec := ⟨32, renlaw9_Plain.ps, renlaw9_Plain.rs, fun x => R.renlaw9_Plain x⟩
def renlaw9_Plain.env (P : Program) : Env := ⟨P, [], etyOf P owned, false⟩
def renlaw9_Plain.ann : Ann := .none

def renref_Num.spec : Spec := ⟨58, renref_Num.ps, renref_Num.rs, fun x => R.renref_Num x.1 x.2⟩
def renref_Num.env (P : Program) : Env := ⟨P, [], etyOf P owned, false⟩
def renref_Num.ann : Ann := .none

def renref_Limbs.spec : Spec := ⟨85, renref_Limbs.ps, renref_Limbs.rs, fun x => R.renref_Limbs x.1 x.2⟩
def renref_Limbs.env (P : Program) : Env := ⟨P, [], etyOf P owned, false⟩
def renref_Limbs.ann : Ann := (.two .none (.two .none (.two (.two .none (.two (.loop ⟨[(5, (false, (.frz (.int .i64))))], [4, 11, 12, 13, 14, 15, 16, 17, 18, 19, 20, 21, 22, 23, 24, 25], [], []⟩ [(.ext 0, ⟨[], [4, 5, 11, 12, 13, 14, 15, 16, 17, 18, 19, 20, 21, 22, 23, 24, 25], [], []⟩), (.ret, ⟨[(4, (false, (.frz .bool)))], [5, 11, 12, 13, 14, 15, 16, 17, 18, 19, 20, 21, 22, 23, 24, 25], [], []⟩)] .none) .none)) .none)))

def renref_Big.spec : Spec := ⟨59, renref_Big.ps, renref_Big.rs, fun x => R.renref_Big x.1 x.2⟩
def renref_Big.env (P : Program) : Env := ⟨P, [renref_Limbs.spec], etyOf P owned, false⟩
def renref_Big.ann : Ann := .none

def renref9_Same.spec : Spec := ⟨33, renref9_Same.ps, renref9_Same.rs, fun x => R.renref9_Same x.1 x.2⟩
def renref9_Same.env (P : Program) : Env := ⟨P, [renref_Big.spec, renref_Num.spec, renref_Units.spec], etyOf P owned, false⟩
def renref9_Same.ann : Ann := .none

def heap_Heap_Count.spec : Spec := ⟨51, heap_Heap_Count.ps, heap_Heap_Count.rs, fun x => R.heap_Heap_Count x.1 x.2⟩
def heap_Heap_Count.env (P : Program) : Env := ⟨P, [heap_Heap_has.spec], etyOf P owned, false⟩
def heap_Heap_Count.ann : Ann := .none

def heap_Heap_Drop.spec : Spec := ⟨26, heap_Heap_Drop.ps, heap_Heap_Drop.rs, fun x => R.heap_Heap_Drop x.1 x.2⟩
def heap_Heap_Drop.env (P : Program) : Env := ⟨P, [heap_Heap_Count.spec, heap_own.spec], etyOf P owned, false⟩
def heap_Heap_Drop.ann : Ann := .none

def renlaw9_HeapChains.spec : Spec := ⟨5, renlaw9_HeapChains.ps, renlaw9_HeapChains.rs, fun x => R.renlaw9_HeapChains x.1 x.2.1 x.2.2.1 x.2.2.2.1 x.2.2.2.2.1 x.2.2.2.2.2⟩
def renlaw9_HeapChains.env (P : Program) : Env := ⟨P, [heap_Heap_Drop.spec, heap_Heap_Find.spec, heap_Heap_Make.spec, heap_Heap_Put.spec, heap_New.spec, heap_Same.spec, renlaw9_Few.spec, renlaw9_first.spec], etyOf P owned, false⟩
def renlaw9_HeapChains.ann : Ann := (.two .none (.two .none (.two .none (.two (.two (.piece [(.nrm, ⟨[(65, (false, (.frz .bool)))], [27, 28, 29, 30, 31, 32, 33, 34, 35, 36, 37, 38, 39, 40, 41, 42, 43, 44, 45, 46, 47, 48, 49, 50, 51, 52, 53, 54, 55, 56, 57, 58, 59, 60, 61, 62, 63, 64], [], []⟩)] .none) .none) (.two (.two .none (.two (.loop ⟨[(14, (false, (.frz (.int .i64))))], [71, 72, 73, 74, 75, 76, 77, 78, 79, 80], [(8, (.box (.seq (.frz (.int .i64)) (.own (.seq (.frz (.int .i64)) (.seq (.frz (.int .i64)) (.seq (.own (.frz T_heap_Prop)) (.seq (.own (.frz T_heap_Slot)) (.seq (.frz .str) (.seq (.frz (.int .i64)) (.seq (.frz (.int .i64)) (.seq (.frz T_heap_Value) (.seq (.frz (.int .i64)) (.seq (.frz (.int .i64)) (.seq (.frz (.int .i64)) (.seq (.frz (.int .i64)) (.own (.frz (.int .u8)))))))))))))))))))], [7]⟩ [(.ext 0, ⟨[], [14, 71, 72, 73, 74, 75, 76, 77, 78, 79, 80], [(8, (.box (.seq (.frz (.int .i64)) (.own (.seq (.frz (.int .i64)) (.seq (.frz (.int .i64)) (.seq (.own (.frz T_heap_Prop)) (.seq (.own (.frz T_heap_Slot)) (.seq (.frz .str) (.seq (.frz (.int .i64)) (.seq (.frz (.int .i64)) (.seq (.frz T_heap_Value) (.seq (.frz (.int .i64)) (.seq (.frz (.int .i64)) (.seq (.frz (.int .i64)) (.seq (.frz (.int .i64)) (.own (.frz (.int .u8)))))))))))))))))))], [7]⟩)] .none) .none)) (.two .none (.two .none (.two (.two .none (.two (.loop ⟨[(15, (false, (.frz (.int .i64))))], [12, 16, 17, 18, 91, 92, 93, 94, 95, 96, 97, 98, 99, 100, 101, 102, 103, 104, 105, 106, 107, 108, 109, 110, 111, 112, 113, 114, 115, 116, 117, 118, 119, 120, 121, 122, 123, 124, 125, 126, 127, 128, 129, 130, 131, 132, 133, 134, 135, 136, 137, 138, 139, 140, 141, 142, 143, 144], [], []⟩ [(.ext 2, ⟨[], [12, 15, 16, 17, 18, 91, 92, 93, 94, 95, 96, 97, 98, 99, 100, 101, 102, 103, 104, 105, 106, 107, 108, 109, 110, 111, 112, 113, 114, 115, 116, 117, 118, 119, 120, 121, 122, 123, 124, 125, 126, 127, 128, 129, 130, 131, 132, 133, 134, 135, 136, 137, 138, 139, 140, 141, 142, 143, 144], [], []⟩), (.ret, ⟨[(12, (false, (.frz .bool)))], [15, 16, 17, 18, 91, 92, 93, 94, 95, 96, 97, 98, 99, 100, 101, 102, 103, 104, 105, 106, 107, 108, 109, 110, 111, 112, 113, 114, 115, 116, 117, 118, 119, 120, 121, 122, 123, 124, 125, 126, 127, 128, 129, 130, 131, 132, 133, 134, 135, 136, 137, 138, 139, 140, 141, 142, 143, 144], [], []⟩)] (.two .none (.two (.two (.two .none (.two (.piece [(.nrm, ⟨[(144, (false, (.frz .bool)))], [104, 105, 106, 107, 108, 109, 110, 111, 112, 113, 114, 115, 116, 117, 118, 119, 120, 121, 122, 123, 124, 125, 126, 127, 128, 129, 130, 131, 132, 133, 134, 135, 136, 137, 138, 139, 140, 141, 142, 143], [], []⟩)] .none) .none)) .none) .none))) .none)) .none))))))))

def heap_zero.spec : Spec := ⟨53, heap_zero.ps, heap_zero.rs, fun x => R.heap_zero x⟩
def heap_zero.env (P : Program) : Env := ⟨P, [], etyOf P owned, false⟩
def heap_zero.ann : Ann := .none

def num_May.spec : Spec := ⟨54, num_May.ps, num_May.rs, fun x => R.num_May x⟩
def num_May.env (P : Program) : Env := ⟨P, [], etyOf P owned, false⟩
def num_May.ann : Ann := (.two .none (.two (.two .none (.two (.two .none (.two .none (.two (.piece [(.nrm, ⟨[(15, (false, (.frz .bool)))], [16, 17, 18, 19], [], []⟩)] .none) .none))) .none)) .none))

def big_May.spec : Spec := ⟨55, big_May.ps, big_May.rs, fun x => R.big_May x⟩
def big_May.env (P : Program) : Env := ⟨P, [], etyOf P owned, false⟩
def big_May.ann : Ann := .none

def heap_May.spec : Spec := ⟨30, heap_May.ps, heap_May.rs, fun x => R.heap_May x⟩
def heap_May.env (P : Program) : Env := ⟨P, [big_May.spec, heap_zero.spec, num_May.spec], etyOf P owned, false⟩
def heap_May.ann : Ann := (.two .none (.two .none (.two (.two .none (.two (.two (.piece [(.nrm, ⟨[(7, (false, (.frz .bool)))], [8, 9], [], []⟩)] .none) .none) .none)) .none)))

def renref1_May.spec : Spec := ⟨56, renref1_May.ps, renref1_May.rs, fun x => R.renref1_May x⟩
def renref1_May.env (P : Program) : Env := ⟨P, [], etyOf P owned, false⟩
def renref1_May.ann : Ann := .none

def renref2_May.spec : Spec := ⟨57, renref2_May.ps, renref2_May.rs, fun x => R.renref2_May x⟩
def renref2_May.env (P : Program) : Env := ⟨P, [], etyOf P owned, false⟩
def renref2_May.ann : Ann := .none

def renref9_May.spec : Spec := ⟨31, renref9_May.ps, renref9_May.rs, fun x => R.renref9_May x⟩
def renref9_May.env (P : Program) : Env := ⟨P, [renref1_May.spec, renref2_May.spec, renref9_Same.spec], etyOf P owned, false⟩
def renref9_May.ann : Ann := (.two .none (.two .none (.two (.two .none (.two (.two (.piece [(.nrm, ⟨[(9, (false, (.frz .bool)))], [10, 11], [], []⟩)] .none) (.two .none (.two .none (.two (.two .none (.two (.piece [(.nrm, ⟨[(24, (false, (.frz .bool)))], [17, 18, 19, 20, 21, 22, 23], [], []⟩)] .none) .none)) .none)))) .none)) .none)))

def renlaw9_HeapValues.spec : Spec := ⟨8, renlaw9_HeapValues.ps, renlaw9_HeapValues.rs, fun x => R.renlaw9_HeapValues x.1 x.2⟩
def renlaw9_HeapValues.env (P : Program) : Env := ⟨P, [heap_May.spec, heap_Same.spec, renlaw9_Few.spec, renlaw9_Plain.spec, renlaw9_first.spec, renref9_May.spec, renref9_Same.spec], etyOf P owned, false⟩
def renlaw9_HeapValues.ann : Ann := (.two .none (.two .none (.two (.two (.piece [(.nrm, ⟨[(14, (false, (.frz .bool)))], [7, 8, 9, 10, 11, 12, 13], [], []⟩)] .none) .none) .none)))

end Go.Mach

set_option maxRecDepth 100000
namespace Go.Mach
open Go.Proofs
/-- Where the element's bytes are what its range word knows, the room is there. -/
theorem clone_room {P : Program} {f : FuncId} {e : Ty} {g : List e.den → Bool} (h : Contract P (cloneSp f e g)) (hg : ∀ xs : List e.den, lenOkS (.frz e) xs.length = true → g xs = true) : Contract P (cloneSpec f e) := by
  refine ⟨h.fn, h.obj, fun w Z Y S args x Ψ hsat hZ hY hS hV => ?_⟩
  refine h.run w Z Y S args x Ψ ?_ hZ hY hS hV
  have hok : lenOkS (.frz e) (List.length (show List e.den from x)) = true := hV.ok
  show (Res.need (g x) (Res.ok x)).sat Ψ
  rw [hg x hok]
  exact hsat
theorem room_of {P : Program} {el : TypeId} {e : Ty} {k : Nat} (hb : P.bytesOf el = k) (he : e.minB = k) (n : Nat) (h : lenOkS (.frz e) n = true) : roomFor P el (0 + n) = true := by
  unfold roomFor
  rw [Nat.zero_add, hb, ← he]
  exact h
theorem clone_ok_44 : Contract Try.prog (cloneSpec 44 (.int .u16)) := clone_room
  (clone_contract (g := fun xs => roomFor Try.prog 98 (0 + xs.length)) (fn := Try.f44) (T := 28) (B := 4) (el := 98) (ety := etyOf Try.prog owned) (by kernel_rfl) (by kernel_rfl) (by kernel_rfl) (by kernel_rfl) (by kernel_rfl) (by kernel_rfl) (by kernel_rfl) (fun xs => by kernel_rfl))
  fun xs h => room_of (k := 2) (by kernel_rfl) rfl xs.length h
theorem clone_ok_76 : Contract Try.prog (cloneSpec 76 (.int .u8)) := clone_room
  (clone_contract (g := fun xs => roomFor Try.prog 5 (0 + xs.length)) (fn := Try.f76) (T := 39) (B := 4) (el := 5) (ety := etyOf Try.prog owned) (by kernel_rfl) (by kernel_rfl) (by kernel_rfl) (by kernel_rfl) (by kernel_rfl) (by kernel_rfl) (by kernel_rfl) (fun xs => by kernel_rfl))
  fun xs h => room_of (k := 1) (by kernel_rfl) rfl xs.length h
theorem clone_ok_80 : Contract Try.prog (cloneSpec 80 (.int .u32)) := clone_room
  (clone_contract (g := fun xs => roomFor Try.prog 103 (0 + xs.length)) (fn := Try.f80) (T := 25) (B := 4) (el := 103) (ety := etyOf Try.prog owned) (by kernel_rfl) (by kernel_rfl) (by kernel_rfl) (by kernel_rfl) (by kernel_rfl) (by kernel_rfl) (by kernel_rfl) (fun xs => by kernel_rfl))
  fun xs h => room_of (k := 4) (by kernel_rfl) rfl xs.length h
theorem clone_ok_74 : Contract Try.prog (cloneSpecN 112 74 T_heap_Prop) :=
  clone_contract (g := fun xs => decide ((0 + xs.length) * 112 ≤ 2 ^ 47)) (fn := Try.f74) (T := 37) (B := 4) (el := 96) (ety := etyOf Try.prog owned) (by kernel_rfl) (by kernel_rfl) (by kernel_rfl) (by kernel_rfl) (by kernel_rfl) (by kernel_rfl) (by kernel_rfl) (fun xs => by kernel_rfl)
theorem clone_ok_75 : Contract Try.prog (cloneSpecN 112 75 T_heap_Slot) :=
  clone_contract (g := fun xs => decide ((0 + xs.length) * 112 ≤ 2 ^ 47)) (fn := Try.f75) (T := 38) (B := 4) (el := 69) (ety := etyOf Try.prog owned) (by kernel_rfl) (by kernel_rfl) (by kernel_rfl) (by kernel_rfl) (by kernel_rfl) (by kernel_rfl) (by kernel_rfl) (fun xs => by kernel_rfl)
end Go.Mach
