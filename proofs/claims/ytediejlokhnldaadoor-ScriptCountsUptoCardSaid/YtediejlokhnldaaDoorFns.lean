/-
  Proved here: the lines of any log of at most 40 events and 20000 bytes are one an event and one a pair, and each event's begins with its number (renlaw26.ScriptCounts), where what is read is of bulk at most 1048576 and the library's variables are laid as the program's text lays them.
  Part Fns of the texts. By an AI agent; no person has read it.
-/
import Derived.Test.YtediejlokhnldaaDoorMachd
import Derived.Lib.AtoiAll
import Derived.Lib.ItoaNum
import Derived.Lib.IndexMore
import Derived.KernelRfl
import Derived.Test.YtediejlokhnldaaDoorProg
import Derived.Shelf.Strconv.ErrVarAll
import Derived.Shelf.Strconv.Itoa3
import Derived.Shelf.Strings.Shaped
import Derived.Shelf.Strings.Builder1
import Derived.Shelf.RegionOpenPlain
import Derived.Lib.Strings
import Derived.Lib.Slices
import Derived.Lib.Walk
import Derived.Lib.Builder
import Derived.Lib.AppendStr
import Derived.Lib.UnsafeStr
import Derived.WalkKit
set_option linter.all false
set_option linter.deprecated false
/-
  What the library's functions compute: strings.Cut, strconv.Itoa, strconv.Atoi.
-/
namespace Go.Mach
def cutSRun (s sep : List UInt8) : Res (List UInt8 × List UInt8 × Bool) := Res.need (decide (s.length < 4294967281)) (.ok (Lib.cut s sep))
@[reducible] def cutS.ps : List Par := [.val false (.frz .str), .val false (.frz .str)]
@[reducible] def cutS.rs : List VSh := [(false, .frz .str), (false, .frz .str), (false, .frz .bool)]
def cutS.okOut : outs (dens cutS.rs) (boxes cutS.ps) → Bool := outsOk (oks cutS.rs) (boxes cutS.ps)
def cutSSpec (f : FuncId) : Spec := ⟨f, cutS.ps, cutS.rs, fun x => cutSRun x.1 x.2⟩
def itoaSRun (n : Int) : Res (List UInt8) := .ok (Lib.itoa n)
@[reducible] def itoaS.ps : List Par := [.val false (.frz (.int .i64))]
@[reducible] def itoaS.rs : List VSh := [(false, .frz .str)]
def itoaS.okOut : outs (dens itoaS.rs) (boxes itoaS.ps) → Bool := outsOk (oks itoaS.rs) (boxes itoaS.ps)
def itoaSSpec (f : FuncId) : Spec := ⟨f, itoaS.ps, itoaS.rs, fun x => itoaSRun x⟩
/-- The number; is the error nil? -/
def atoiSRun (s : List UInt8) : Res (Int × Bool) :=
  match Lib.atoiAll s with
  | .ok v => .ok (v, true)
  | .range => .ok (Lib.atoiSat s, false)
  | _ => .ok (0, false)
@[reducible] def atoiS.ps : List Par := [.val false (.frz .str)]
@[reducible] def atoiS.rs : List VSh := [(false, .frz (.int .i64)), (false, .err)]
def atoiS.okOut : outs (dens atoiS.rs) (boxes atoiS.ps) → Bool := outsOk (oks atoiS.rs) (boxes atoiS.ps)
def atoiSSpec (f : FuncId) : Spec := ⟨f, atoiS.ps, atoiS.rs, fun x => atoiSRun x⟩
end Go.Mach

/-
  What the methods of strings.Builder compute.
-/
namespace Go.Mach
abbrev sbS : Sh := .sb (93, 5)
def sbLenRun (xs : List UInt8) : Res (Int × List UInt8) := Res.need (strOk xs.length) (.ok ((xs.length : Int), xs))
@[reducible] def sbLen.ps : List Par := [.obj sbS]
@[reducible] def sbLen.rs : List VSh := [(false, .frz (.int .i64))]
def sbLen.okOut : outs (dens sbLen.rs) (boxes sbLen.ps) → Bool := outsOk (oks sbLen.rs) (boxes sbLen.ps)
def sbLenSpec (f : FuncId) : Spec := ⟨f, sbLen.ps, sbLen.rs, fun x => sbLenRun x⟩
def sbByteRun (xs : List UInt8) (c : Int) : Res (Bool × List UInt8) := Res.need (strOk (xs.length + 1)) (.ok (true, xs ++ [UInt8.ofNat c.toNat]))
@[reducible] def sbByte.ps : List Par := [.obj sbS, .val false (.frz (.int .u8))]
@[reducible] def sbByte.rs : List VSh := [(false, .err)]
def sbByte.okOut : outs (dens sbByte.rs) (boxes sbByte.ps) → Bool := outsOk (oks sbByte.rs) (boxes sbByte.ps)
def sbByteSpec (f : FuncId) : Spec := ⟨f, sbByte.ps, sbByte.rs, fun x => sbByteRun x.1 x.2⟩
def sbStrRun (xs s : List UInt8) : Res ((Int × Bool) × List UInt8) := Res.need (strOk (xs.length + s.length)) (.ok (((s.length : Int), true), xs ++ s))
@[reducible] def sbStr.ps : List Par := [.obj sbS, .val false (.frz .str)]
@[reducible] def sbStr.rs : List VSh := [(false, .frz (.int .i64)), (false, .err)]
def sbStr.okOut : outs (dens sbStr.rs) (boxes sbStr.ps) → Bool := outsOk (oks sbStr.rs) (boxes sbStr.ps)
def sbStrSpec (f : FuncId) : Spec := ⟨f, sbStr.ps, sbStr.rs, fun x => sbStrRun x.1 x.2⟩
def sbGetRun (xs : List UInt8) : Res (List UInt8) := Res.need (strOk xs.length) (.ok xs)
@[reducible] def sbGet.ps : List Par := [.val false sbS]
@[reducible] def sbGet.rs : List VSh := [(false, .frz .str)]
def sbGet.okOut : outs (dens sbGet.rs) (boxes sbGet.ps) → Bool := outsOk (oks sbGet.rs) (boxes sbGet.ps)
def sbGetSpec (f : FuncId) : Spec := ⟨f, sbGet.ps, sbGet.rs, fun x => sbGetRun x⟩
end Go.Mach

set_option linter.unusedVariables false
set_option maxRecDepth 4000
namespace Go.Mach
abbrev T_runtime_errorAddressString : Ty := (.pair .str (.int .u64))
abbrev T_cluster_Act : Ty := (.pair (.int .i64) (.pair (.int .i64) (.int .i64)))
abbrev T_runtime_boundsError : Ty := (.pair (.int .i64) (.pair (.int .i64) (.pair .bool (.int .u8))))
abbrev T_cluster_Opts : Ty := (.pair (.int .i64) (.pair (.int .i64) T_cluster_Act))
abbrev T_event_Event : Ty := (.pair (.int .i64) (.pair (.int .i64) (.pair .bool (.pair .bool (.pair (.int .i64) (.pair (.int .i64) (.pair (.int .i64) (.pair (.list (.int .u8)) (.pair (.list (.int .u8)) (.list (.int .i64)))))))))))
abbrev T_event_Log : Ty := (.pair (.list T_event_Event) (.list (.pair (.int .i64) (.int .i64))))
@[reducible] def clonePs (e : Ty) : List Par := [.val false (.bor (.own (.frz e)))]
@[reducible] def cloneRs (e : Ty) : List VSh := [(false, .own (.frz e))]
def okClone (e : Ty) : outs (dens (cloneRs e)) (boxes (clonePs e)) → Bool := outsOk (oks (cloneRs e)) (boxes (clonePs e))
def cloneSpec (f : FuncId) (e : Ty) : Spec := ⟨f, clonePs e, cloneRs e, fun x => Res.ok x⟩
/-- k: an element's bytes, where its range word knows fewer. -/
def cloneSpecN (k : Nat) (f : FuncId) (e : Ty) : Spec := ⟨f, clonePs e, cloneRs e, fun x => Res.need (decide ((0 + x.length) * k ≤ 2 ^ 47)) (Res.ok x)⟩
@[reducible] def script_words.ps : List Par := []
@[reducible] def script_words.rs : List VSh := [(false, (.own (.frz .str)))]
def script_words.okOut : outs (dens script_words.rs) (boxes script_words.ps) → Bool := outsOk (oks script_words.rs) (boxes script_words.ps)
/-- rendezvous/script.words -/
noncomputable def R.script_words  : Res ((List (List UInt8))) :=
  Res.given (oks (script_words.ps.map Par.v) ()) (Res.ok ([[115, 116, 101, 112], [102, 108, 117, 115, 104], [116, 101, 97, 114], [116, 105, 99, 107]]))

@[reducible] def script_Parse.ps : List Par := [.val false (.frz .str)]
@[reducible] def script_Parse.rs : List VSh := [(true, (.frz T_cluster_Act)), (false, (.frz (.int .i64)))]
def script_Parse.okOut : outs (dens script_Parse.rs) (boxes script_Parse.ps) → Bool := outsOk (oks script_Parse.rs) (boxes script_Parse.ps)
/-- rendezvous/script.Parse -/
noncomputable def R.script_Parse (s0 : (List UInt8)) : Res ((T_cluster_Act.den × Int)) :=
  Res.given (oks (script_Parse.ps.map Par.v) s0) (Res.bind (cutSRun s0 [32]) fun r1 => Res.given (cutS.okOut r1) (Res.bind (α := T_cluster_Act.den) (Res.br ([115, 116, 101, 112] == r1.1) (Res.ok ((1, (0, 0)))) (Res.ok ((0, (0, 0))))) fun x2 => Res.bind (α := T_cluster_Act.den) (Res.br ([102, 108, 117, 115, 104] == r1.1) (Res.ok ((2, x2.2))) (Res.ok (x2))) fun x3 => Res.bind (α := T_cluster_Act.den) (Res.br ([116, 101, 97, 114] == r1.1) (Res.ok ((3, x3.2))) (Res.ok (x3))) fun x4 => Res.bind (α := T_cluster_Act.den) (Res.br ([116, 105, 99, 107] == r1.1) (Res.ok ((4, x4.2))) (Res.ok (x4))) fun x5 => Res.br (x5.1 == 0) (Res.ok (((0, (0, 0)), 8))) (Res.bind (α := Bool) (Res.br (!r1.2.2) (Res.ok (true)) (Res.ok ((r1.2.1 == ([] : List UInt8))))) fun x6 => Res.br x6 (Res.ok (((0, (0, 0)), 12))) (Res.bind (atoiSRun r1.2.1) fun r7 => Res.given (atoiS.okOut r7) (Res.bind (α := Bool) (Res.br (!r7.2) (Res.ok (true)) (Res.bind (itoaSRun r7.1) fun r8 => Res.given (itoaS.okOut r8) (Res.ok ((!(r8 == r1.2.1)))))) fun x9 => Res.br x9 (Res.ok (((0, (0, 0)), 2))) (Res.br (x5.1 == 4) (Res.ok (((x5.1, (x5.2.1, r7.1)), 0))) (Res.ok (((x5.1, (r7.1, x5.2.2)), 0)))))))))

@[reducible] def script_Print.ps : List Par := [.val true (.frz T_cluster_Act)]
@[reducible] def script_Print.rs : List VSh := [(false, (.frz .str))]
def script_Print.okOut : outs (dens script_Print.rs) (boxes script_Print.ps) → Bool := outsOk (oks script_Print.rs) (boxes script_Print.ps)
/-- rendezvous/script.Print -/
noncomputable def R.script_Print (a0 : T_cluster_Act.den) : Res ((List UInt8)) :=
  Res.given (oks (script_Print.ps.map Par.v) a0) (Res.bind (α := Bool) (Res.br (ilt a0.1 1) (Res.ok (true)) (Res.ok ((ilt 4 a0.1)))) fun x1 => Res.br x1 (Res.ok ([63])) (Res.bind (α := Int) (Res.br (a0.1 == 4) (Res.ok (a0.2.2)) (Res.ok (a0.2.1))) fun n2 => Res.need (ile 0 (IntKind.wrap .i64 (a0.1 - 1)) && ilt (IntKind.wrap .i64 (a0.1 - 1)) [[115, 116, 101, 112], [102, 108, 117, 115, 104], [116, 101, 97, 114], [116, 105, 99, 107]].length) (Res.idx .str [[115, 116, 101, 112], [102, 108, 117, 115, 104], [116, 101, 97, 114], [116, 105, 99, 107]] (0 + Int.toNat (IntKind.wrap .i64 (a0.1 - 1))) fun e3 => Res.need (strOk (e3.length + [32].length)) (Res.bind (itoaSRun n2) fun r4 => Res.given (itoaS.okOut r4) (Res.need (strOk ((e3 ++ [32]).length + r4.length)) (Res.ok (((e3 ++ [32]) ++ r4))))))))

@[reducible] def renlaw26_first.ps : List Par := []
@[reducible] def renlaw26_first.rs : List VSh := [(false, (.frz .bool))]
def renlaw26_first.okOut : outs (dens renlaw26_first.rs) (boxes renlaw26_first.ps) → Bool := outsOk (oks renlaw26_first.rs) (boxes renlaw26_first.ps)
/-- rendezvous/renlaw26.first -/
noncomputable def R.renlaw26_first  : Res (Bool) :=
  Res.given (oks (renlaw26_first.ps.map Par.v) ()) (Res.bind (R.script_Parse [115, 116, 101, 112, 32, 50]) fun r1 => Res.given (script_Parse.okOut r1) (Res.bind (R.script_Parse [116, 105, 99, 107]) fun r2 => Res.given (script_Parse.okOut r2) (Res.bind (R.script_Parse [115, 116, 101, 112, 32, 48, 50]) fun r3 => Res.given (script_Parse.okOut r3) (Res.bind (R.script_Parse [103, 111, 32, 49]) fun r4 => Res.given (script_Parse.okOut r4) (Res.br (r1.2 == 0) (Res.br (r1.1.1 == 1) (Res.br (r1.1.2.1 == 2) (Res.br (r2.2 == 12) (Res.br (r3.2 == 2) (Res.br (r4.2 == 8) (Res.bind (R.script_Print (4, (0, 7))) fun r5 => Res.given (script_Print.okOut r5) (Res.ok ((r5 == [116, 105, 99, 107, 32, 55])))) (Res.ok (false))) (Res.ok (false))) (Res.ok (false))) (Res.ok (false))) (Res.ok (false))) (Res.ok (false)))))))

@[reducible] def renref24_words.ps : List Par := []
@[reducible] def renref24_words.rs : List VSh := [(false, (.own (.frz .str)))]
def renref24_words.okOut : outs (dens renref24_words.rs) (boxes renref24_words.ps) → Bool := outsOk (oks renref24_words.rs) (boxes renref24_words.ps)
/-- rendezvous/renref24.words -/
noncomputable def R.renref24_words  : Res ((List (List UInt8))) :=
  Res.given (oks (renref24_words.ps.map Par.v) ()) (Res.ok ([([] : List UInt8), [115, 116, 101, 112], [102, 108, 117, 115, 104], [116, 101, 97, 114], [116, 105, 99, 107]]))

@[reducible] def renref_Dec.ps : List Par := [.val false (.frz (.int .i64))]
@[reducible] def renref_Dec.rs : List VSh := [(false, (.frz .str))]
def renref_Dec.okOut : outs (dens renref_Dec.rs) (boxes renref_Dec.ps) → Bool := outsOk (oks renref_Dec.rs) (boxes renref_Dec.ps)
/-- rendezvous/renref.Dec -/
noncomputable def R.renref_Dec : Nat → Int → Res ((List UInt8))
  | 0, _ => .stuck
  | fu + 1, n0 => Res.given (oks (renref_Dec.ps.map Par.v) n0) (Res.br (ilt n0 0) (Res.need (!(10 == 0)) (Res.br ((IntKind.wrap .i64 (Int.tdiv n0 10)) == 0) (Res.need (!(10 == 0)) (Res.need (strOk ([45].length + (byts [IntKind.wrap .u8 (IntKind.wrap .i64 (48 - (Int.tmod n0 10)))]).length)) (Res.ok (([45] ++ (byts [IntKind.wrap .u8 (IntKind.wrap .i64 (48 - (Int.tmod n0 10)))])))))) (Res.need (!(10 == 0)) (Res.bind (R.renref_Dec fu (IntKind.wrap .i64 (0 - (IntKind.wrap .i64 (Int.tdiv n0 10))))) fun r1 => Res.given (renref_Dec.okOut r1) (Res.need (strOk ([45].length + r1.length)) (Res.need (!(10 == 0)) (Res.need (strOk (([45] ++ r1).length + (byts [IntKind.wrap .u8 (IntKind.wrap .i64 (48 - (Int.tmod n0 10)))]).length)) (Res.ok ((([45] ++ r1) ++ (byts [IntKind.wrap .u8 (IntKind.wrap .i64 (48 - (Int.tmod n0 10)))]))))))))))) (Res.br (ilt n0 10) (Res.ok (byts [IntKind.wrap .u8 (IntKind.wrap .i64 (48 + n0))])) (Res.need (!(10 == 0)) (Res.bind (R.renref_Dec fu (IntKind.wrap .i64 (Int.tdiv n0 10))) fun r2 => Res.given (renref_Dec.okOut r2) (Res.need (!(10 == 0)) (Res.need (strOk (r2.length + (byts [IntKind.wrap .u8 (IntKind.wrap .i64 (48 + (Int.tmod n0 10)))]).length)) (Res.ok ((r2 ++ (byts [IntKind.wrap .u8 (IntKind.wrap .i64 (48 + (Int.tmod n0 10)))]))))))))))

@[reducible] def renref24_number.ps : List Par := [.val false (.frz .str)]
@[reducible] def renref24_number.rs : List VSh := [(false, (.frz (.int .i64))), (false, (.frz .bool))]
def renref24_number.okOut : outs (dens renref24_number.rs) (boxes renref24_number.ps) → Bool := outsOk (oks renref24_number.rs) (boxes renref24_number.ps)
/-- rendezvous/renref24.number -/
noncomputable def R.renref24_number (s0 : (List UInt8)) : Res ((Int × Bool)) :=
  Res.given (oks (renref24_number.ps.map Par.v) s0) (Res.bind (α := Bool) (Res.br (ilt 0 (s0.length : Int)) (Res.idx (.int .u8) (nums s0) 0 fun e1 => Res.ok ((e1 == 45))) (Res.ok (false))) fun neg2 => Res.bind (α := (List UInt8)) (Res.br neg2 (Res.need (ile 0 1 && ile 1 s0.length) (Res.ok ((List.drop (Int.toNat 1) s0)))) (Res.ok (s0))) fun d3 => Res.bind (α := Bool) (Res.br (ilt (d3.length : Int) 1) (Res.ok (true)) (Res.ok ((ilt 19 (d3.length : Int))))) fun x4 => Res.br x4 (Res.ok ((0, false))) (Res.bind (Res.loop (α := (Int × Int)) (β := (Int ⊕ (Int × Bool))) (fun n5 => Res.br (ilt n5.2 (d3.length : Int)) (Res.idx (.int .u8) (nums d3) n5.2 fun e6 => Res.bind (α := Bool) (Res.br (ilt (IntKind.wrap .i64 ((IntKind.wrap .i64 e6) - 48)) 0) (Res.ok (true)) (Res.br (ilt 9 (IntKind.wrap .i64 ((IntKind.wrap .i64 e6) - 48))) (Res.ok (true)) (Res.need (!(10 == 0)) (Res.ok ((ilt n5.1 (IntKind.wrap .i64 (Int.tdiv (IntKind.wrap .i64 ((-9223372036854775808) + (IntKind.wrap .i64 ((IntKind.wrap .i64 e6) - 48)))) 10)))))))) fun x7 => Res.br x7 (Res.ok (.done (.inr (0, false)))) (Res.ok (.next ((IntKind.wrap .i64 ((IntKind.wrap .i64 (10 * n5.1)) - (IntKind.wrap .i64 ((IntKind.wrap .i64 e6) - 48))), IntKind.wrap .i64 (n5.2 + 1)))))) (Res.ok (.done (.inl n5.1)))) fuel (0, 0)) fun n8 => Res.sum n8 (fun n9 => Res.bind (α := (Int ⊕ (Int × Bool))) (Res.br (!neg2) (Res.br (n9 == (-9223372036854775808)) (Res.ok (.inr (0, false))) (Res.ok (.inl (IntKind.wrap .i64 (0 - n9))))) (Res.ok (.inl n9))) fun n11 => Res.sum n11 (fun n12 => Res.bind (R.renref_Dec fuel n12) fun r14 => Res.given (renref_Dec.okOut r14) (Res.ok ((n12, (r14 == s0))))) (fun z13 => Res.ok (z13))) (fun z10 => Res.ok (z10))))

@[reducible] def renref24_Parse.ps : List Par := [.val false (.frz .str)]
@[reducible] def renref24_Parse.rs : List VSh := [(true, (.frz T_cluster_Act)), (false, (.frz (.int .i64)))]
def renref24_Parse.okOut : outs (dens renref24_Parse.rs) (boxes renref24_Parse.ps) → Bool := outsOk (oks renref24_Parse.rs) (boxes renref24_Parse.ps)
/-- rendezvous/renref24.Parse -/
noncomputable def R.renref24_Parse (s0 : (List UInt8)) : Res ((T_cluster_Act.den × Int)) :=
  Res.given (oks (renref24_Parse.ps.map Par.v) s0) (Res.bind (Res.loop (α := Int) (β := Int) (fun k1 => Res.bind (α := Bool) (Res.br (ilt k1 (s0.length : Int)) (Res.idx (.int .u8) (nums s0) k1 fun e2 => Res.ok ((!(e2 == 32)))) (Res.ok (false))) fun x3 => Res.br x3 (Res.ok (.next (IntKind.wrap .i64 (k1 + 1)))) (Res.ok (.done (k1)))) fuel 0) fun k4 => Res.bind (α := Int) (Res.need (ile 0 k4 && ile k4 s0.length) (Res.br ([115, 116, 101, 112] == (List.take (Int.toNat k4) s0)) (Res.ok (1)) (Res.ok (0)))) fun kind5 => Res.bind (α := Int) (Res.need (ile 0 k4 && ile k4 s0.length) (Res.br ([102, 108, 117, 115, 104] == (List.take (Int.toNat k4) s0)) (Res.ok (2)) (Res.ok (kind5)))) fun kind6 => Res.bind (α := Int) (Res.need (ile 0 k4 && ile k4 s0.length) (Res.br ([116, 101, 97, 114] == (List.take (Int.toNat k4) s0)) (Res.ok (3)) (Res.ok (kind6)))) fun kind7 => Res.bind (α := Int) (Res.need (ile 0 k4 && ile k4 s0.length) (Res.br ([116, 105, 99, 107] == (List.take (Int.toNat k4) s0)) (Res.ok (4)) (Res.ok (kind7)))) fun kind8 => Res.br (kind8 == 0) (Res.ok (((0, (0, 0)), 8))) (Res.br (ile (s0.length : Int) (IntKind.wrap .i64 (k4 + 1))) (Res.ok (((0, (0, 0)), 12))) (Res.need (ile 0 (IntKind.wrap .i64 (k4 + 1)) && ile (IntKind.wrap .i64 (k4 + 1)) s0.length) (Res.bind (R.renref24_number (List.drop (Int.toNat (IntKind.wrap .i64 (k4 + 1))) s0)) fun r9 => Res.given (renref24_number.okOut r9) (Res.br (!r9.2) (Res.ok (((0, (0, 0)), 2))) (Res.br (kind8 == 4) (Res.ok (((kind8, (0, r9.1)), 0))) (Res.ok (((kind8, (r9.1, 0)), 0)))))))))

@[reducible] def renref24_Print.ps : List Par := [.val true (.frz T_cluster_Act)]
@[reducible] def renref24_Print.rs : List VSh := [(false, (.frz .str))]
def renref24_Print.okOut : outs (dens renref24_Print.rs) (boxes renref24_Print.ps) → Bool := outsOk (oks renref24_Print.rs) (boxes renref24_Print.ps)
/-- rendezvous/renref24.Print -/
noncomputable def R.renref24_Print (a0 : T_cluster_Act.den) : Res ((List UInt8)) :=
  Res.given (oks (renref24_Print.ps.map Par.v) a0) (Res.bind (α := Bool) (Res.br (ilt a0.1 1) (Res.ok (true)) (Res.ok ((ilt 4 a0.1)))) fun x1 => Res.br x1 (Res.ok ([63])) (Res.bind (α := Int) (Res.br (a0.1 == 4) (Res.ok (a0.2.2)) (Res.ok (a0.2.1))) fun n2 => Res.need (ile 0 a0.1 && ilt a0.1 [([] : List UInt8), [115, 116, 101, 112], [102, 108, 117, 115, 104], [116, 101, 97, 114], [116, 105, 99, 107]].length) (Res.idx .str [([] : List UInt8), [115, 116, 101, 112], [102, 108, 117, 115, 104], [116, 101, 97, 114], [116, 105, 99, 107]] (0 + Int.toNat a0.1) fun e3 => Res.need (strOk (e3.length + [32].length)) (Res.bind (R.renref_Dec fuel n2) fun r4 => Res.given (renref_Dec.okOut r4) (Res.need (strOk ((e3 ++ [32]).length + r4.length)) (Res.ok (((e3 ++ [32]) ++ r4))))))))

@[reducible] def renlaw26_same.ps : List Par := [.val true (.frz T_cluster_Act), .val true (.frz T_cluster_Act)]
@[reducible] def renlaw26_same.rs : List VSh := [(false, (.frz .bool))]
def renlaw26_same.okOut : outs (dens renlaw26_same.rs) (boxes renlaw26_same.ps) → Bool := outsOk (oks renlaw26_same.rs) (boxes renlaw26_same.ps)
/-- rendezvous/renlaw26.same -/
noncomputable def R.renlaw26_same (a0 : T_cluster_Act.den) (b1 : T_cluster_Act.den) : Res (Bool) :=
  Res.given (oks (renlaw26_same.ps.map Par.v) (a0, b1)) (Res.br (a0.1 == b1.1) (Res.br (a0.2.1 == b1.2.1) (Res.ok ((a0.2.2 == b1.2.2))) (Res.ok (false))) (Res.ok (false)))

@[reducible] def renlaw26_ScriptLines.ps : List Par := [.val true (.frz T_cluster_Act), .val false (.frz .str)]
@[reducible] def renlaw26_ScriptLines.rs : List VSh := [(false, (.frz .bool))]
def renlaw26_ScriptLines.okOut : outs (dens renlaw26_ScriptLines.rs) (boxes renlaw26_ScriptLines.ps) → Bool := outsOk (oks renlaw26_ScriptLines.rs) (boxes renlaw26_ScriptLines.ps)
/-- rendezvous/renlaw26.ScriptLines -/
noncomputable def R.renlaw26_ScriptLines (a0 : T_cluster_Act.den) (s1 : (List UInt8)) : Res (Bool) :=
  Res.given (oks (renlaw26_ScriptLines.ps.map Par.v) (a0, s1)) (Res.bind (R.renlaw26_first) fun r1 => Res.br (!r1) (Res.ok (false)) (Res.br (ilt 2000 (s1.length : Int)) (Res.bind (R.renlaw26_first) fun r2 => Res.ok (r2)) (Res.bind (R.script_Parse s1) fun r3 => Res.given (script_Parse.okOut r3) (Res.bind (R.renref24_Parse s1) fun r4 => Res.given (renref24_Parse.okOut r4) (Res.bind (R.renlaw26_first) fun r5 => Res.br r5 (Res.bind (R.script_Print a0) fun r6 => Res.given (script_Print.okOut r6) (Res.bind (R.renref24_Print a0) fun r7 => Res.given (renref24_Print.okOut r7) (Res.br (r6 == r7) (Res.bind (R.renlaw26_same r3.1 r4.1) fun r8 => Res.br r8 (Res.ok ((r3.2 == r4.2))) (Res.ok (false))) (Res.ok (false))))) (Res.ok (false)))))))

@[reducible] def renlaw26_ScriptBack.ps : List Par := [.val true (.frz T_cluster_Act), .val false (.frz .str)]
@[reducible] def renlaw26_ScriptBack.rs : List VSh := [(false, (.frz .bool))]
def renlaw26_ScriptBack.okOut : outs (dens renlaw26_ScriptBack.rs) (boxes renlaw26_ScriptBack.ps) → Bool := outsOk (oks renlaw26_ScriptBack.rs) (boxes renlaw26_ScriptBack.ps)
/-- rendezvous/renlaw26.ScriptBack -/
noncomputable def R.renlaw26_ScriptBack (a0 : T_cluster_Act.den) (s1 : (List UInt8)) : Res (Bool) :=
  Res.given (oks (renlaw26_ScriptBack.ps.map Par.v) (a0, s1)) (Res.bind (R.renlaw26_first) fun r1 => Res.br (!r1) (Res.ok (false)) (Res.br (ilt 2000 (s1.length : Int)) (Res.bind (R.renlaw26_first) fun r2 => Res.ok (r2)) (Res.bind (R.script_Parse s1) fun r3 => Res.given (script_Parse.okOut r3) (Res.bind (α := Bool) (Res.br (r3.2 == 0) (Res.bind (R.script_Print r3.1) fun r4 => Res.given (script_Print.okOut r4) (Res.ok ((!(r4 == s1))))) (Res.ok (false))) fun x5 => Res.br x5 (Res.ok (false)) (Res.bind (R.script_Print a0) fun r6 => Res.given (script_Print.okOut r6) (Res.bind (R.script_Parse r6) fun r7 => Res.given (script_Parse.okOut r7) (Res.bind (α := Bool) (Res.br (ilt a0.1 1) (Res.ok (true)) (Res.ok ((ilt 4 a0.1)))) fun x8 => Res.br x8 (Res.bind (R.renlaw26_first) fun r9 => Res.br r9 (Res.ok ((r7.2 == 8))) (Res.ok (false))) (Res.bind (α := Int) (Res.br (a0.1 == 4) (Res.ok (a0.2.2)) (Res.ok (a0.2.1))) fun n10 => Res.bind (α := Bool) (Res.br (ile n10 (-1000000000000000000)) (Res.ok (true)) (Res.ok ((ile 1000000000000000000 n10)))) fun x11 => Res.br x11 (Res.bind (R.renlaw26_first) fun r12 => Res.ok (r12)) (Res.br (a0.1 == 4) (Res.bind (R.renlaw26_first) fun r13 => Res.br r13 (Res.br (r7.2 == 0) (Res.br (r7.1.1 == a0.1) (Res.br (r7.1.2.2 == n10) (Res.ok ((r7.1.2.1 == 0))) (Res.ok (false))) (Res.ok (false))) (Res.ok (false))) (Res.ok (false))) (Res.bind (R.renlaw26_first) fun r14 => Res.br r14 (Res.br (r7.2 == 0) (Res.br (r7.1.1 == a0.1) (Res.br (r7.1.2.1 == n10) (Res.ok ((r7.1.2.2 == 0))) (Res.ok (false))) (Res.ok (false))) (Res.ok (false))) (Res.ok (false))))))))))))

@[reducible] def script_act.ps : List Par := [.val false (.frz (.int .i64)), .val false (.frz (.int .i64))]
@[reducible] def script_act.rs : List VSh := [(true, (.frz T_cluster_Act))]
def script_act.okOut : outs (dens script_act.rs) (boxes script_act.ps) → Bool := outsOk (oks script_act.rs) (boxes script_act.ps)
/-- rendezvous/script.act -/
noncomputable def R.script_act (k0 : Int) (z1 : Int) : Res (T_cluster_Act.den) :=
  Res.given (oks (script_act.ps.map Par.v) (k0, z1)) (Res.need (!(8 == 0)) (Res.br ((Int.tmod k0 8) == 5) (Res.need (!(4 == 0)) (Res.ok ((2, (Int.tmod z1 4, 0))))) (Res.br ((Int.tmod k0 8) == 6) (Res.need (!(4 == 0)) (Res.ok ((3, (Int.tmod z1 4, 0))))) (Res.br ((Int.tmod k0 8) == 7) (Res.ok ((4, (0, IntKind.wrap .i64 (1 + z1))))) (Res.need (!(4 == 0)) (Res.ok ((1, (Int.tmod z1 4, 0)))))))))

@[reducible] def script_Acts.ps : List Par := [.val false (.bor (.own (.frz (.int .u8))))]
@[reducible] def script_Acts.rs : List VSh := [(false, (.own (.frz T_cluster_Act)))]
def script_Acts.okOut : outs (dens script_Acts.rs) (boxes script_Acts.ps) → Bool := outsOk (oks script_Acts.rs) (boxes script_Acts.ps)
/-- rendezvous/script.Acts -/
noncomputable def R.script_Acts (b0 : (List Int)) : Res ((List T_cluster_Act.den)) :=
  Res.given (oks (script_Acts.ps.map Par.v) b0) (Res.bind (Res.loop (α := ((List T_cluster_Act.den) × Int)) (β := (List T_cluster_Act.den)) (fun l1 => Res.bind (α := Bool) (Res.br (ilt (IntKind.wrap .i64 (l1.2 + 1)) (b0.length : Int)) (Res.ok ((ilt (l1.1.length : Int) 2000))) (Res.ok (false))) fun x2 => Res.br x2 (Res.idxS (.frz (.int .u8)) b0 l1.2 fun e3 => Res.idxS (.frz (.int .u8)) b0 (IntKind.wrap .i64 (l1.2 + 1)) fun e4 => Res.bind (R.script_act (IntKind.wrap .i64 e3) (IntKind.wrap .i64 e4)) fun r5 => Res.given (script_act.okOut r5) (Res.need (decide ((l1.1.length + [r5].length) * 24 ≤ 2 ^ 47)) (Res.ok (.next (((l1.1 ++ [r5]), IntKind.wrap .i64 (l1.2 + 2))))))) (Res.ok (.done (l1.1)))) fuel (([] : List T_cluster_Act.den), 0)) fun l6 => Res.ok (l6))

@[reducible] def renlaw26_ScriptCuts.ps : List Par := [.val false (.bor (.own (.frz (.int .u8)))), .val false (.frz (.int .i64))]
@[reducible] def renlaw26_ScriptCuts.rs : List VSh := [(false, (.frz .bool))]
def renlaw26_ScriptCuts.okOut : outs (dens renlaw26_ScriptCuts.rs) (boxes renlaw26_ScriptCuts.ps) → Bool := outsOk (oks renlaw26_ScriptCuts.rs) (boxes renlaw26_ScriptCuts.ps)
/-- rendezvous/renlaw26.ScriptCuts -/
noncomputable def R.renlaw26_ScriptCuts (b0 : (List Int)) (at1 : Int) : Res (Bool) :=
  Res.given (oks (renlaw26_ScriptCuts.ps.map Par.v) (b0, at1)) (Res.bind (R.renlaw26_first) fun r1 => Res.br (!r1) (Res.ok (false)) (Res.bind (α := Bool) (Res.br (ilt 2000 (b0.length : Int)) (Res.ok (true)) (Res.br (ilt at1 0) (Res.ok (true)) (Res.ok ((ilt (b0.length : Int) at1))))) fun x2 => Res.br x2 (Res.bind (R.renlaw26_first) fun r3 => Res.ok (r3)) (Res.bind (R.script_Acts b0) fun r4 => Res.given (script_Acts.okOut r4) (Res.need (ile 0 at1 && ile at1 b0.length) (Res.bind (R.script_Acts (List.take (Int.toNat at1) (List.drop 0 b0))) fun r5 => Res.given (script_Acts.okOut r5) (Res.bind (α := Bool) (Res.br (ilt (r4.length : Int) (r5.length : Int)) (Res.ok (true)) (Res.need (!(2 == 0)) (Res.ok ((!((r5.length : Int) == (minI (IntKind.wrap .i64 (Int.tdiv at1 2)) 2000))))))) fun x6 => Res.br x6 (Res.ok (false)) (Res.bind (Res.loop (α := Int) (β := (Unit ⊕ Bool)) (fun i7 => Res.br (ilt i7 (r4.length : Int)) (Res.bind (α := Bool) (Res.br (ilt i7 (r5.length : Int)) (Res.need (ile 0 i7 && ilt i7 r4.length) (Res.idx T_cluster_Act r4 (0 + Int.toNat i7) fun e8 => Res.need (ile 0 i7 && ilt i7 r5.length) (Res.idx T_cluster_Act r5 (0 + Int.toNat i7) fun e9 => Res.br (!((e8.1 == e9.1) && ((e8.2.1 == e9.2.1) && ((e8.2.2 == e9.2.2) && true)))) (Res.ok (true)) (Res.need (ile 0 i7 && ilt i7 r4.length) (Res.idx T_cluster_Act r4 (0 + Int.toNat i7) fun e10 => Res.br (ilt e10.1 1) (Res.ok (true)) (Res.need (ile 0 i7 && ilt i7 r4.length) (Res.idx T_cluster_Act r4 (0 + Int.toNat i7) fun e11 => Res.br (ilt 4 e11.1) (Res.ok (true)) (Res.need (ile 0 i7 && ilt i7 r4.length) (Res.idx T_cluster_Act r4 (0 + Int.toNat i7) fun e12 => Res.br (ilt e12.2.1 0) (Res.ok (true)) (Res.need (ile 0 i7 && ilt i7 r4.length) (Res.idx T_cluster_Act r4 (0 + Int.toNat i7) fun e13 => Res.br (ilt 3 e13.2.1) (Res.ok (true)) (Res.need (ile 0 i7 && ilt i7 r4.length) (Res.idx T_cluster_Act r4 (0 + Int.toNat i7) fun e14 => Res.br (ilt e14.2.2 0) (Res.ok (true)) (Res.need (ile 0 i7 && ilt i7 r4.length) (Res.idx T_cluster_Act r4 (0 + Int.toNat i7) fun e15 => Res.ok ((ilt 256 e15.2.2))))))))))))))))) (Res.need (ile 0 i7 && ilt i7 r4.length) (Res.idx T_cluster_Act r4 (0 + Int.toNat i7) fun e16 => Res.br (ilt e16.1 1) (Res.ok (true)) (Res.need (ile 0 i7 && ilt i7 r4.length) (Res.idx T_cluster_Act r4 (0 + Int.toNat i7) fun e17 => Res.br (ilt 4 e17.1) (Res.ok (true)) (Res.need (ile 0 i7 && ilt i7 r4.length) (Res.idx T_cluster_Act r4 (0 + Int.toNat i7) fun e18 => Res.br (ilt e18.2.1 0) (Res.ok (true)) (Res.need (ile 0 i7 && ilt i7 r4.length) (Res.idx T_cluster_Act r4 (0 + Int.toNat i7) fun e19 => Res.br (ilt 3 e19.2.1) (Res.ok (true)) (Res.need (ile 0 i7 && ilt i7 r4.length) (Res.idx T_cluster_Act r4 (0 + Int.toNat i7) fun e20 => Res.br (ilt e20.2.2 0) (Res.ok (true)) (Res.need (ile 0 i7 && ilt i7 r4.length) (Res.idx T_cluster_Act r4 (0 + Int.toNat i7) fun e21 => Res.ok ((ilt 256 e21.2.2))))))))))))))) fun x22 => Res.br x22 (Res.ok (.done (.inr false))) (Res.ok (.next (IntKind.wrap .i64 (i7 + 1))))) (Res.ok (.done (.inl ())))) fuel 0) fun x23 => Res.sum x23 (fun x24 => Res.bind (R.renlaw26_first) fun r26 => Res.ok (r26)) (fun z25 => Res.ok (z25)))))))))

@[reducible] def renref_CopyBytes.ps : List Par := [.val false (.bor (.own (.frz (.int .u8))))]
@[reducible] def renref_CopyBytes.rs : List VSh := [(false, (.own (.frz (.int .u8))))]
def renref_CopyBytes.okOut : outs (dens renref_CopyBytes.rs) (boxes renref_CopyBytes.ps) → Bool := outsOk (oks renref_CopyBytes.rs) (boxes renref_CopyBytes.ps)
/-- rendezvous/renref.CopyBytes -/
noncomputable def R.renref_CopyBytes (u0 : (List Int)) : Res ((List Int)) :=
  Res.given (oks (renref_CopyBytes.ps.map Par.v) u0) (Res.need (decide ((([] : List Int).length + u0.length) * 1 ≤ 2 ^ 47)) (Res.ok ((([] : List Int) ++ u0))))

@[reducible] def script_Opts.ps : List Par := [.val false (.bor (.own (.frz (.int .u8))))]
@[reducible] def script_Opts.rs : List VSh := [(true, (.frz T_cluster_Opts)), (false, (.own (.frz (.int .u8))))]
def script_Opts.okOut : outs (dens script_Opts.rs) (boxes script_Opts.ps) → Bool := outsOk (oks script_Opts.rs) (boxes script_Opts.ps)
/-- rendezvous/script.Opts -/
noncomputable def R.script_Opts (b0 : (List Int)) : Res ((T_cluster_Opts.den × (List Int))) :=
  Res.given (oks (script_Opts.ps.map Par.v) b0) (Res.bind (α := T_cluster_Opts.den) (Res.br (ilt 0 (b0.length : Int)) (Res.idxS (.frz (.int .u8)) b0 0 fun e1 => Res.ok ((IntKind.wrap .i64 e1, (0, (0, (0, 0)))))) (Res.ok ((0, (0, (0, (0, 0))))))) fun x2 => Res.bind (α := T_cluster_Opts.den) (Res.br (ilt 1 (b0.length : Int)) (Res.idxS (.frz (.int .u8)) b0 1 fun e3 => Res.ok ((x2.1, (IntKind.wrap .i64 e3, x2.2.2)))) (Res.ok (x2))) fun x4 => Res.bind (α := T_cluster_Opts.den) (Res.br (ilt 2 (b0.length : Int)) (Res.idxS (.frz (.int .u8)) b0 2 fun e5 => Res.ok ((x4.1, (x4.2.1, (IntKind.wrap .i64 e5, x4.2.2.2))))) (Res.ok (x4))) fun x6 => Res.bind (α := T_cluster_Opts.den) (Res.br (ilt 3 (b0.length : Int)) (Res.idxS (.frz (.int .u8)) b0 3 fun e7 => Res.ok ((x6.1, (x6.2.1, (x6.2.2.1, (IntKind.wrap .i64 e7, x6.2.2.2.2)))))) (Res.ok (x6))) fun x8 => Res.bind (α := T_cluster_Opts.den) (Res.br (ilt 4 (b0.length : Int)) (Res.idxS (.frz (.int .u8)) b0 4 fun e9 => Res.ok ((x8.1, (x8.2.1, (x8.2.2.1, (x8.2.2.2.1, IntKind.wrap .i64 e9)))))) (Res.ok (x8))) fun x10 => Res.need (!(4 == 0)) (Res.need (!(5 == 0)) (Res.need (!(64 == 0)) (Res.need (ile 0 (minI (b0.length : Int) 5) && ile (minI (b0.length : Int) 5) b0.length) (Res.need (decide ((([] : List Int).length + (List.take (b0.length - (Int.toNat (minI (b0.length : Int) 5))) (List.drop (0 + (Int.toNat (minI (b0.length : Int) 5))) b0)).length) * 1 ≤ 2 ^ 47)) (Res.ok (((IntKind.wrap .i64 (1 + (Int.tmod x10.1 4)), (Int.tmod x10.2.1 5, (IntKind.wrap .i64 (64 + x10.2.2.1), (IntKind.wrap .i64 (40 + (Int.tmod x10.2.2.2.1 64)), IntKind.wrap .i64 (400 + (IntKind.wrap .i64 (16 * x10.2.2.2.2))))))), (([] : List Int) ++ (List.take (b0.length - (Int.toNat (minI (b0.length : Int) 5))) (List.drop (0 + (Int.toNat (minI (b0.length : Int) 5))) b0)))))))))))

@[reducible] def renref24_at.ps : List Par := [.val false (.bor (.own (.frz (.int .u8)))), .val false (.frz (.int .i64))]
@[reducible] def renref24_at.rs : List VSh := [(false, (.frz (.int .i64)))]
def renref24_at.okOut : outs (dens renref24_at.rs) (boxes renref24_at.ps) → Bool := outsOk (oks renref24_at.rs) (boxes renref24_at.ps)
/-- rendezvous/renref24.at -/
noncomputable def R.renref24_at (b0 : (List Int)) (i1 : Int) : Res (Int) :=
  Res.given (oks (renref24_at.ps.map Par.v) (b0, i1)) (Res.br (ilt i1 (b0.length : Int)) (Res.idxS (.frz (.int .u8)) b0 i1 fun e1 => Res.ok (IntKind.wrap .i64 e1)) (Res.ok (0)))

@[reducible] def renref24_OptsOf.ps : List Par := [.val false (.bor (.own (.frz (.int .u8))))]
@[reducible] def renref24_OptsOf.rs : List VSh := [(true, (.frz T_cluster_Opts)), (false, (.own (.frz (.int .u8))))]
def renref24_OptsOf.okOut : outs (dens renref24_OptsOf.rs) (boxes renref24_OptsOf.ps) → Bool := outsOk (oks renref24_OptsOf.rs) (boxes renref24_OptsOf.ps)
/-- rendezvous/renref24.OptsOf -/
noncomputable def R.renref24_OptsOf (b0 : (List Int)) : Res ((T_cluster_Opts.den × (List Int))) :=
  Res.given (oks (renref24_OptsOf.ps.map Par.v) b0) (Res.bind (R.renref24_at b0 0) fun r1 => Res.given (renref24_at.okOut r1) (Res.need (!(4 == 0)) (Res.bind (R.renref24_at b0 1) fun r2 => Res.given (renref24_at.okOut r2) (Res.need (!(5 == 0)) (Res.bind (R.renref24_at b0 2) fun r3 => Res.given (renref24_at.okOut r3) (Res.bind (R.renref24_at b0 3) fun r4 => Res.given (renref24_at.okOut r4) (Res.need (!(64 == 0)) (Res.bind (R.renref24_at b0 4) fun r5 => Res.given (renref24_at.okOut r5) (Res.br (ile (b0.length : Int) 5) (Res.ok (((IntKind.wrap .i64 (1 + (Int.tmod r1 4)), (Int.tmod r2 5, (IntKind.wrap .i64 (64 + r3), (IntKind.wrap .i64 (40 + (Int.tmod r4 64)), IntKind.wrap .i64 (400 + (IntKind.wrap .i64 (16 * r5))))))), ([] : List Int)))) (Res.need (ile 0 5 && ile 5 b0.length) (Res.bind (R.renref_CopyBytes (List.take (b0.length - (Int.toNat 5)) (List.drop (0 + (Int.toNat 5)) b0))) fun r6 => Res.given (renref_CopyBytes.okOut r6) (Res.ok (((IntKind.wrap .i64 (1 + (Int.tmod r1 4)), (Int.tmod r2 5, (IntKind.wrap .i64 (64 + r3), (IntKind.wrap .i64 (40 + (Int.tmod r4 64)), IntKind.wrap .i64 (400 + (IntKind.wrap .i64 (16 * r5))))))), r6))))))))))))))

@[reducible] def renref24_Acts.ps : List Par := [.val false (.bor (.own (.frz (.int .u8))))]
@[reducible] def renref24_Acts.rs : List VSh := [(false, (.own (.frz T_cluster_Act)))]
def renref24_Acts.okOut : outs (dens renref24_Acts.rs) (boxes renref24_Acts.ps) → Bool := outsOk (oks renref24_Acts.rs) (boxes renref24_Acts.ps)
/-- rendezvous/renref24.Acts -/
noncomputable def R.renref24_Acts (b0 : (List Int)) : Res ((List T_cluster_Act.den)) :=
  Res.given (oks (renref24_Acts.ps.map Par.v) b0) (Res.bind (Res.loop (α := ((List T_cluster_Act.den) × Int)) (β := (List T_cluster_Act.den)) (fun out1 => Res.bind (α := Bool) (Res.br (ilt (IntKind.wrap .i64 ((IntKind.wrap .i64 (2 * out1.2)) + 1)) (b0.length : Int)) (Res.ok ((ilt out1.2 2000))) (Res.ok (false))) fun x2 => Res.br x2 (Res.idxS (.frz (.int .u8)) b0 (IntKind.wrap .i64 (2 * out1.2)) fun e3 => Res.need (!(8 == 0)) (Res.idxS (.frz (.int .u8)) b0 (IntKind.wrap .i64 ((IntKind.wrap .i64 (2 * out1.2)) + 1)) fun e4 => Res.br ((Int.tmod (IntKind.wrap .i64 e3) 8) == 5) (Res.need (!(4 == 0)) (Res.need (decide ((out1.1.length + [(2, (Int.tmod (IntKind.wrap .i64 e4) 4, 0))].length) * 24 ≤ 2 ^ 47)) (Res.ok (.next (((out1.1 ++ [(2, (Int.tmod (IntKind.wrap .i64 e4) 4, 0))]), IntKind.wrap .i64 (out1.2 + 1))))))) (Res.br ((Int.tmod (IntKind.wrap .i64 e3) 8) == 6) (Res.need (!(4 == 0)) (Res.need (decide ((out1.1.length + [(3, (Int.tmod (IntKind.wrap .i64 e4) 4, 0))].length) * 24 ≤ 2 ^ 47)) (Res.ok (.next (((out1.1 ++ [(3, (Int.tmod (IntKind.wrap .i64 e4) 4, 0))]), IntKind.wrap .i64 (out1.2 + 1))))))) (Res.br ((Int.tmod (IntKind.wrap .i64 e3) 8) == 7) (Res.need (decide ((out1.1.length + [(4, (0, IntKind.wrap .i64 (1 + (IntKind.wrap .i64 e4))))].length) * 24 ≤ 2 ^ 47)) (Res.ok (.next (((out1.1 ++ [(4, (0, IntKind.wrap .i64 (1 + (IntKind.wrap .i64 e4))))]), IntKind.wrap .i64 (out1.2 + 1)))))) (Res.need (!(4 == 0)) (Res.need (decide ((out1.1.length + [(1, (Int.tmod (IntKind.wrap .i64 e4) 4, 0))].length) * 24 ≤ 2 ^ 47)) (Res.ok (.next (((out1.1 ++ [(1, (Int.tmod (IntKind.wrap .i64 e4) 4, 0))]), IntKind.wrap .i64 (out1.2 + 1))))))))))) (Res.ok (.done (out1.1)))) fuel (([] : List T_cluster_Act.den), 0)) fun out5 => Res.ok (out5))

@[reducible] def renlaw12_Limits.ps : List Par := [.val true (.frz T_cluster_Act)]
@[reducible] def renlaw12_Limits.rs : List VSh := [(true, (.frz T_cluster_Act))]
def renlaw12_Limits.okOut : outs (dens renlaw12_Limits.rs) (boxes renlaw12_Limits.ps) → Bool := outsOk (oks renlaw12_Limits.rs) (boxes renlaw12_Limits.ps)
/-- rendezvous/renlaw12.Limits -/
noncomputable def R.renlaw12_Limits (l0 : T_cluster_Act.den) : Res (T_cluster_Act.den) :=
  Res.given (oks (renlaw12_Limits.ps.map Par.v) l0) (Res.ok (l0))

@[reducible] def renlaw24_Opts.ps : List Par := [.val true (.frz T_cluster_Opts)]
@[reducible] def renlaw24_Opts.rs : List VSh := [(true, (.frz T_cluster_Opts))]
def renlaw24_Opts.okOut : outs (dens renlaw24_Opts.rs) (boxes renlaw24_Opts.ps) → Bool := outsOk (oks renlaw24_Opts.rs) (boxes renlaw24_Opts.ps)
/-- rendezvous/renlaw24.Opts -/
noncomputable def R.renlaw24_Opts (o0 : T_cluster_Opts.den) : Res (T_cluster_Opts.den) :=
  Res.given (oks (renlaw24_Opts.ps.map Par.v) o0) (Res.bind (R.renlaw12_Limits o0.2.2) fun r1 => Res.given (renlaw12_Limits.okOut r1) (Res.ok ((o0.1, (o0.2.1, r1)))))

@[reducible] def renref_Bytes.ps : List Par := [.val false (.bor (.own (.frz (.int .u8)))), .val false (.bor (.own (.frz (.int .u8))))]
@[reducible] def renref_Bytes.rs : List VSh := [(false, (.frz .bool))]
def renref_Bytes.okOut : outs (dens renref_Bytes.rs) (boxes renref_Bytes.ps) → Bool := outsOk (oks renref_Bytes.rs) (boxes renref_Bytes.ps)
/-- rendezvous/renref.Bytes -/
noncomputable def R.renref_Bytes (a0 : (List Int)) (b1 : (List Int)) : Res (Bool) :=
  Res.given (oks (renref_Bytes.ps.map Par.v) (a0, b1)) (Res.ok (((byts a0) == (byts b1))))

@[reducible] def eval_May.ps : List Par := [.val true (.frz T_cluster_Act)]
@[reducible] def eval_May.rs : List VSh := [(false, (.frz .bool))]
def eval_May.okOut : outs (dens eval_May.rs) (boxes eval_May.ps) → Bool := outsOk (oks eval_May.rs) (boxes eval_May.ps)
/-- rendezvous/eval.May -/
noncomputable def R.eval_May (lim0 : T_cluster_Act.den) : Res (Bool) :=
  Res.given (oks (eval_May.ps.map Par.v) lim0) (Res.br (ile 0 lim0.1) (Res.br (ile lim0.1 4096) (Res.br (ile 1 lim0.2.1) (Res.br (ile lim0.2.1 200) (Res.br (ile 0 lim0.2.2) (Res.ok ((ile lim0.2.2 100000))) (Res.ok (false))) (Res.ok (false))) (Res.ok (false))) (Res.ok (false))) (Res.ok (false)))

@[reducible] def cluster_May.ps : List Par := [.val true (.frz T_cluster_Opts)]
@[reducible] def cluster_May.rs : List VSh := [(false, (.frz .bool))]
def cluster_May.okOut : outs (dens cluster_May.rs) (boxes cluster_May.ps) → Bool := outsOk (oks cluster_May.rs) (boxes cluster_May.ps)
/-- rendezvous/cluster.May -/
noncomputable def R.cluster_May (o0 : T_cluster_Opts.den) : Res (Bool) :=
  Res.given (oks (cluster_May.ps.map Par.v) o0) (Res.br (ile 1 o0.1) (Res.br (ile o0.1 64) (Res.br (ile 0 o0.2.1) (Res.br (ile o0.2.1 64) (Res.bind (R.eval_May o0.2.2) fun r1 => Res.ok (r1)) (Res.ok (false))) (Res.ok (false))) (Res.ok (false))) (Res.ok (false)))

@[reducible] def renlaw26_ScriptBytes.ps : List Par := [.val false (.bor (.own (.frz (.int .u8))))]
@[reducible] def renlaw26_ScriptBytes.rs : List VSh := [(false, (.frz .bool))]
def renlaw26_ScriptBytes.okOut : outs (dens renlaw26_ScriptBytes.rs) (boxes renlaw26_ScriptBytes.ps) → Bool := outsOk (oks renlaw26_ScriptBytes.rs) (boxes renlaw26_ScriptBytes.ps)
/-- rendezvous/renlaw26.ScriptBytes -/
noncomputable def R.renlaw26_ScriptBytes (b0 : (List Int)) : Res (Bool) :=
  Res.given (oks (renlaw26_ScriptBytes.ps.map Par.v) b0) (Res.bind (R.renlaw26_first) fun r1 => Res.br (!r1) (Res.ok (false)) (Res.br (ilt 2000 (b0.length : Int)) (Res.bind (R.renlaw26_first) fun r2 => Res.ok (r2)) (Res.bind (R.renref_CopyBytes b0) fun r3 => Res.given (renref_CopyBytes.okOut r3) (Res.bind (R.script_Opts r3) fun r4 => Res.given (script_Opts.okOut r4) (Res.bind (R.renref24_OptsOf b0) fun r5 => Res.given (renref24_OptsOf.okOut r5) (Res.bind (R.script_Acts r3) fun r6 => Res.given (script_Acts.okOut r6) (Res.bind (R.renref24_Acts b0) fun r7 => Res.given (renref24_Acts.okOut r7) (Res.bind (α := Bool) (Res.bind (R.renlaw24_Opts r4.1) fun r8 => Res.given (renlaw24_Opts.okOut r8) (Res.br (!((r8.1 == r5.1.1) && ((r8.2.1 == r5.1.2.1) && (((r8.2.2.1 == r5.1.2.2.1) && ((r8.2.2.2.1 == r5.1.2.2.2.1) && ((r8.2.2.2.2 == r5.1.2.2.2.2) && true))) && true)))) (Res.ok (true)) (Res.bind (R.renref_Bytes r4.2 r5.2) fun r9 => Res.br (!r9) (Res.ok (true)) (Res.br (!((r6.length : Int) == (r7.length : Int))) (Res.ok (true)) (Res.bind (R.renref_Bytes r3 b0) fun r10 => Res.ok ((!r10))))))) fun x11 => Res.br x11 (Res.ok (false)) (Res.bind (Res.loop (α := Int) (β := (Unit ⊕ Bool)) (fun i12 => Res.br (ilt i12 (r6.length : Int)) (Res.need (ile 0 i12 && ilt i12 r6.length) (Res.idx T_cluster_Act r6 (0 + Int.toNat i12) fun e13 => Res.need (ile 0 i12 && ilt i12 r7.length) (Res.idx T_cluster_Act r7 (0 + Int.toNat i12) fun e14 => Res.bind (R.renlaw26_same e13 e14) fun r15 => Res.br (!r15) (Res.ok (.done (.inr false))) (Res.ok (.next (IntKind.wrap .i64 (i12 + 1))))))) (Res.ok (.done (.inl ())))) fuel 0) fun x16 => Res.sum x16 (fun x17 => Res.bind (R.renlaw26_first) fun r19 => Res.br r19 (Res.bind (R.cluster_May r4.1) fun r20 => Res.ok (r20)) (Res.ok (false))) (fun z18 => Res.ok (z18)))))))))))

@[reducible] def renlaw14_Few.ps : List Par := [.val true (.bor (.seq (.own (.frz T_event_Event)) (.own (.frz (.pair (.int .i64) (.int .i64)))))), .val false (.frz (.int .i64))]
@[reducible] def renlaw14_Few.rs : List VSh := [(false, (.frz .bool))]
def renlaw14_Few.okOut : outs (dens renlaw14_Few.rs) (boxes renlaw14_Few.ps) → Bool := outsOk (oks renlaw14_Few.rs) (boxes renlaw14_Few.ps)
/-- rendezvous/renlaw14.Few -/
noncomputable def R.renlaw14_Few (l0 : T_event_Log.den) (most1 : Int) : Res (Bool) :=
  Res.given (oks (renlaw14_Few.ps.map Par.v) (l0, most1)) (Res.bind (Res.loop (α := (Int × Int)) (β := Int) (fun n1 => Res.bind (α := Bool) (Res.br (ilt n1.2 (l0.1.length : Int)) (Res.ok ((ile n1.2 most1))) (Res.ok (false))) fun x2 => Res.br x2 (Res.idxS (.frz T_event_Event) l0.1 n1.2 fun e3 => Res.idxS (.frz T_event_Event) l0.1 n1.2 fun e4 => Res.idxS (.frz T_event_Event) l0.1 n1.2 fun e5 => Res.ok (.next ((IntKind.wrap .i64 ((IntKind.wrap .i64 ((IntKind.wrap .i64 (n1.1 + (minI (e3.2.2.2.2.2.2.2.1.length : Int) 20001))) + (minI (e4.2.2.2.2.2.2.2.2.1.length : Int) 20001))) + (minI (e5.2.2.2.2.2.2.2.2.2.length : Int) 20001)), IntKind.wrap .i64 (n1.2 + 1))))) (Res.ok (.done (n1.1)))) fuel (0, 0)) fun n6 => Res.br (ile (l0.1.length : Int) most1) (Res.br (ile (l0.2.length : Int) most1) (Res.ok ((ile n6 20000))) (Res.ok (false))) (Res.ok (false)))

@[reducible] def script_line_word.ps : List Par := [.obj (.sb (93, 5)), .val false (.frz .str)]
@[reducible] def script_line_word.rs : List VSh := []
def script_line_word.okOut : outs (dens script_line_word.rs) (boxes script_line_word.ps) → Bool := outsOk (oks script_line_word.rs) (boxes script_line_word.ps)
/-- (*rendezvous/script.line).word -/
noncomputable def R.script_line_word (l0 : (List UInt8)) (s1 : (List UInt8)) : Res (Unit × (List UInt8)) :=
  Res.given (oks (script_line_word.ps.map Par.v) (l0, s1)) (Res.bind (sbLenRun l0) fun r1 => Res.given (sbLen.okOut r1) (Res.br (ilt 0 r1.1) (Res.bind (sbByteRun r1.2 32) fun r2 => Res.given (sbByte.okOut r2) (Res.bind (sbStrRun r2.2 s1) fun r3 => Res.given (sbStr.okOut r3) (Res.ok (((), r3.2))))) (Res.bind (sbStrRun r1.2 s1) fun r4 => Res.given (sbStr.okOut r4) (Res.ok (((), r4.2))))))

@[reducible] def script_line_number.ps : List Par := [.obj (.sb (93, 5)), .val false (.bor (.own (.frz (.int .i64))))]
@[reducible] def script_line_number.rs : List VSh := []
def script_line_number.okOut : outs (dens script_line_number.rs) (boxes script_line_number.ps) → Bool := outsOk (oks script_line_number.rs) (boxes script_line_number.ps)
/-- (*rendezvous/script.line).number -/
noncomputable def R.script_line_number (l0 : (List UInt8)) (n1 : (List Int)) : Res (Unit × (List UInt8)) :=
  Res.given (oks (script_line_number.ps.map Par.v) (l0, n1)) (Res.bind (Res.loop (α := (Int × (List UInt8))) (β := (List UInt8)) (fun x1 => Res.br (ilt x1.1 (n1.length : Int)) (Res.idxS (.frz (.int .i64)) n1 x1.1 fun e2 => Res.bind (itoaSRun e2) fun r3 => Res.given (itoaS.okOut r3) (Res.bind (R.script_line_word x1.2 r3) fun r4 => Res.given (script_line_word.okOut r4) (Res.ok (.next ((IntKind.wrap .i64 (x1.1 + 1), r4.2)))))) (Res.ok (.done (x1.2)))) fuel (0, l0)) fun x5 => Res.ok (((), x5)))

@[reducible] def script_kind.ps : List Par := [.val false (.frz (.int .i64))]
@[reducible] def script_kind.rs : List VSh := [(false, (.frz .str))]
def script_kind.okOut : outs (dens script_kind.rs) (boxes script_kind.ps) → Bool := outsOk (oks script_kind.rs) (boxes script_kind.ps)
/-- rendezvous/script.kind -/
noncomputable def R.script_kind (k0 : Int) : Res ((List UInt8)) :=
  Res.given (oks (script_kind.ps.map Par.v) k0) (Res.br (k0 == 0) (Res.ok ([115, 121, 110, 99])) (Res.br (k0 == 1) (Res.ok ([108, 111, 97, 100])) (Res.br (k0 == 2) (Res.ok ([115, 116, 111, 114, 101])) (Res.br (k0 == 3) (Res.ok ([99, 104, 97, 110, 103, 101])) (Res.ok ([63]))))))

@[reducible] def script_line_bytes.ps : List Par := [.obj (.sb (93, 5)), .val false (.frz .str), .val false (.bor (.own (.frz (.int .u8))))]
@[reducible] def script_line_bytes.rs : List VSh := []
def script_line_bytes.okOut : outs (dens script_line_bytes.rs) (boxes script_line_bytes.ps) → Bool := outsOk (oks script_line_bytes.rs) (boxes script_line_bytes.ps)
/-- (*rendezvous/script.line).bytes -/
noncomputable def R.script_line_bytes (l0 : (List UInt8)) (s1 : (List UInt8)) (b2 : (List Int)) : Res (Unit × (List UInt8)) :=
  Res.given (oks (script_line_bytes.ps.map Par.v) (l0, (s1, b2))) (Res.bind (α := (List UInt8)) (Res.br (ilt 0 (b2.length : Int)) (Res.bind (R.script_line_word l0 s1) fun r1 => Res.given (script_line_word.okOut r1) (Res.ok (r1.2))) (Res.ok (l0))) fun x2 => Res.bind (Res.loop (α := (Int × (List UInt8))) (β := (List UInt8)) (fun x3 => Res.br (ilt x3.1 (b2.length : Int)) (Res.idxS (.frz (.int .u8)) b2 x3.1 fun e4 => Res.bind (R.script_line_number x3.2 [IntKind.wrap .i64 e4]) fun r5 => Res.given (script_line_number.okOut r5) (Res.ok (.next ((IntKind.wrap .i64 (x3.1 + 1), r5.2))))) (Res.ok (.done (x3.2)))) fuel (0, x2)) fun x6 => Res.ok (((), x6)))

@[reducible] def script_Events.ps : List Par := [.val true (.bor (.seq (.own (.frz T_event_Event)) (.own (.frz (.pair (.int .i64) (.int .i64))))))]
@[reducible] def script_Events.rs : List VSh := [(false, (.own (.frz .str)))]
def script_Events.okOut : outs (dens script_Events.rs) (boxes script_Events.ps) → Bool := outsOk (oks script_Events.rs) (boxes script_Events.ps)
/-- rendezvous/script.Events -/
noncomputable def R.script_Events (l0 : T_event_Log.den) : Res ((List (List UInt8))) :=
  Res.given (oks (script_Events.ps.map Par.v) l0) (Res.bind (Res.loop (α := ((List (List UInt8)) × Int)) (β := (List (List UInt8))) (fun out1 => Res.br (ilt out1.2 (l0.1.length : Int)) (Res.idxS (.frz T_event_Event) l0.1 out1.2 fun e2 => Res.bind (R.script_line_number ([] : List UInt8) [out1.2, e2.1]) fun r3 => Res.given (script_line_number.okOut r3) (Res.bind (R.script_kind e2.2.1) fun r4 => Res.given (script_kind.okOut r4) (Res.bind (R.script_line_word r3.2 r4) fun r5 => Res.given (script_line_word.okOut r5) (Res.bind (α := (List UInt8)) (Res.br (!(e2.2.1 == 0)) (Res.bind (R.script_line_number r5.2 [e2.2.2.2.2.1, e2.2.2.2.2.2.1, e2.2.2.2.2.2.2.1]) fun r6 => Res.given (script_line_number.okOut r6) (Res.ok (r6.2))) (Res.ok (r5.2))) fun x7 => Res.bind (α := (List UInt8)) (Res.br e2.2.2.1 (Res.bind (R.script_line_word x7 [115, 101, 113]) fun r8 => Res.given (script_line_word.okOut r8) (Res.ok (r8.2))) (Res.ok (x7))) fun x9 => Res.bind (α := (List UInt8)) (Res.br e2.2.2.2.1 (Res.bind (R.script_line_word x9 [119, 104, 111, 108, 101]) fun r10 => Res.given (script_line_word.okOut r10) (Res.ok (r10.2))) (Res.ok (x9))) fun x11 => Res.bind (R.script_line_bytes x11 [114, 101, 97, 100] e2.2.2.2.2.2.2.2.1) fun r12 => Res.given (script_line_bytes.okOut r12) (Res.bind (α := (List UInt8)) (Res.br (ilt 0 (e2.2.2.2.2.2.2.2.2.2.length : Int)) (Res.bind (R.script_line_word r12.2 [102, 114, 111, 109]) fun r13 => Res.given (script_line_word.okOut r13) (Res.bind (R.script_line_number r13.2 e2.2.2.2.2.2.2.2.2.2) fun r14 => Res.given (script_line_number.okOut r14) (Res.ok (r14.2)))) (Res.ok (r12.2))) fun x15 => Res.bind (R.script_line_bytes x15 [119, 114, 111, 116, 101] e2.2.2.2.2.2.2.2.2.1) fun r16 => Res.given (script_line_bytes.okOut r16) (Res.bind (sbGetRun r16.2) fun r17 => Res.given (sbGet.okOut r17) (Res.need (decide ((out1.1.length + [r17].length) * 16 ≤ 2 ^ 47)) (Res.ok (.next (((out1.1 ++ [r17]), IntKind.wrap .i64 (out1.2 + 1)))))))))))) (Res.ok (.done (out1.1)))) fuel (([] : List (List UInt8)), 0)) fun out18 => Res.bind (Res.loop (α := ((List (List UInt8)) × Int)) (β := (List (List UInt8))) (fun out19 => Res.br (ilt out19.2 (l0.2.length : Int)) (Res.idxS (.frz (.pair (.int .i64) (.int .i64))) l0.2 out19.2 fun e20 => Res.bind (itoaSRun e20.1) fun r21 => Res.given (itoaS.okOut r21) (Res.need (strOk ([101, 100, 103, 101, 32].length + r21.length)) (Res.need (strOk (([101, 100, 103, 101, 32] ++ r21).length + [32].length)) (Res.bind (itoaSRun e20.2) fun r22 => Res.given (itoaS.okOut r22) (Res.need (strOk ((([101, 100, 103, 101, 32] ++ r21) ++ [32]).length + r22.length)) (Res.need (decide ((out19.1.length + [((([101, 100, 103, 101, 32] ++ r21) ++ [32]) ++ r22)].length) * 16 ≤ 2 ^ 47)) (Res.ok (.next (((out19.1 ++ [((([101, 100, 103, 101, 32] ++ r21) ++ [32]) ++ r22)]), IntKind.wrap .i64 (out19.2 + 1))))))))))) (Res.ok (.done (out19.1)))) fuel (out18, 0)) fun out23 => Res.ok (out23))

@[reducible] def renlaw14_Event.ps : List Par := [.val true (.frz T_event_Event)]
@[reducible] def renlaw14_Event.rs : List VSh := [(true, (.frz T_event_Event))]
def renlaw14_Event.okOut : outs (dens renlaw14_Event.rs) (boxes renlaw14_Event.ps) → Bool := outsOk (oks renlaw14_Event.rs) (boxes renlaw14_Event.ps)
/-- rendezvous/renlaw14.Event -/
noncomputable def R.renlaw14_Event (e0 : T_event_Event.den) : Res (T_event_Event.den) :=
  Res.given (oks (renlaw14_Event.ps.map Par.v) e0) (Res.ok (e0))

@[reducible] def renlaw14_Log.ps : List Par := [.val true (.frz T_event_Log)]
@[reducible] def renlaw14_Log.rs : List VSh := [(true, (.frz T_event_Log))]
def renlaw14_Log.okOut : outs (dens renlaw14_Log.rs) (boxes renlaw14_Log.ps) → Bool := outsOk (oks renlaw14_Log.rs) (boxes renlaw14_Log.ps)
/-- rendezvous/renlaw14.Log -/
noncomputable def R.renlaw14_Log (l0 : T_event_Log.den) : Res (T_event_Log.den) :=
  Res.given (oks (renlaw14_Log.ps.map Par.v) l0) (Res.bind (Res.loop (α := (Int × T_event_Log.den)) (β := T_event_Log.den) (fun i1 => Res.br (ilt i1.1 (l0.1.length : Int)) (Res.idx T_event_Event l0.1 i1.1 fun e2 => Res.bind (R.renlaw14_Event e2) fun r3 => Res.given (renlaw14_Event.okOut r3) (Res.need (decide ((i1.2.1.length + [r3].length) * 120 ≤ 2 ^ 47)) (Res.ok (.next ((IntKind.wrap .i64 (i1.1 + 1), ((i1.2.1 ++ [r3]), i1.2.2))))))) (Res.ok (.done (i1.2)))) fuel (0, (([] : List T_event_Event.den), ([] : List (Int × Int))))) fun x4 => Res.ok ((x4.1, l0.2)))

@[reducible] def renref24_bytes.ps : List Par := [.val false (.frz .str), .val false (.bor (.own (.frz (.int .u8))))]
@[reducible] def renref24_bytes.rs : List VSh := [(false, (.frz .str))]
def renref24_bytes.okOut : outs (dens renref24_bytes.rs) (boxes renref24_bytes.ps) → Bool := outsOk (oks renref24_bytes.rs) (boxes renref24_bytes.ps)
/-- rendezvous/renref24.bytes -/
noncomputable def R.renref24_bytes (word0 : (List UInt8)) (b1 : (List Int)) : Res ((List UInt8)) :=
  Res.given (oks (renref24_bytes.ps.map Par.v) (word0, b1)) (Res.bind (Res.loop (α := ((List UInt8) × Int)) (β := (List UInt8)) (fun s1 => Res.br (ilt s1.2 (b1.length : Int)) (Res.idxS (.frz (.int .u8)) b1 s1.2 fun e2 => Res.bind (R.renref_Dec fuel (IntKind.wrap .i64 e2)) fun r3 => Res.given (renref_Dec.okOut r3) (Res.need (strOk ([32].length + r3.length)) (Res.need (strOk (s1.1.length + ([32] ++ r3).length)) (Res.ok (.next (((s1.1 ++ ([32] ++ r3)), IntKind.wrap .i64 (s1.2 + 1)))))))) (Res.ok (.done (s1.1)))) fuel (([] : List UInt8), 0)) fun s4 => Res.br (s4 == ([] : List UInt8)) (Res.ok (([] : List UInt8))) (Res.need (strOk ([32].length + word0.length)) (Res.need (strOk (([32] ++ word0).length + s4.length)) (Res.ok ((([32] ++ word0) ++ s4))))))

@[reducible] def renref24_Events.ps : List Par := [.val true (.bor (.seq (.own (.frz T_event_Event)) (.own (.frz (.pair (.int .i64) (.int .i64))))))]
@[reducible] def renref24_Events.rs : List VSh := [(false, (.own (.frz .str)))]
def renref24_Events.okOut : outs (dens renref24_Events.rs) (boxes renref24_Events.ps) → Bool := outsOk (oks renref24_Events.rs) (boxes renref24_Events.ps)
/-- rendezvous/renref24.Events -/
noncomputable def R.renref24_Events (l0 : T_event_Log.den) : Res ((List (List UInt8))) :=
  Res.given (oks (renref24_Events.ps.map Par.v) l0) (Res.bind (Res.loop (α := ((List (List UInt8)) × Int)) (β := (List (List UInt8))) (fun out1 => Res.br (ilt out1.2 (l0.1.length : Int)) (Res.idxS (.frz T_event_Event) l0.1 out1.2 fun e2 => Res.bind (α := (List UInt8)) (Res.bind (α := Bool) (Res.br (ile 0 e2.2.1) (Res.ok ((ile e2.2.1 3))) (Res.ok (false))) fun x3 => Res.br x3 (Res.need (ile 0 e2.2.1 && ilt e2.2.1 [[115, 121, 110, 99], [108, 111, 97, 100], [115, 116, 111, 114, 101], [99, 104, 97, 110, 103, 101]].length) (Res.idx .str [[115, 121, 110, 99], [108, 111, 97, 100], [115, 116, 111, 114, 101], [99, 104, 97, 110, 103, 101]] (0 + Int.toNat e2.2.1) fun e4 => Res.ok (e4))) (Res.ok ([63]))) fun k5 => Res.bind (R.renref_Dec fuel out1.2) fun r6 => Res.given (renref_Dec.okOut r6) (Res.need (strOk (r6.length + [32].length)) (Res.bind (R.renref_Dec fuel e2.1) fun r7 => Res.given (renref_Dec.okOut r7) (Res.need (strOk ((r6 ++ [32]).length + r7.length)) (Res.need (strOk (((r6 ++ [32]) ++ r7).length + [32].length)) (Res.need (strOk ((((r6 ++ [32]) ++ r7) ++ [32]).length + k5.length)) (Res.bind (α := (List UInt8)) (Res.br (!(e2.2.1 == 0)) (Res.bind (R.renref_Dec fuel e2.2.2.2.2.1) fun r8 => Res.given (renref_Dec.okOut r8) (Res.need (strOk ([32].length + r8.length)) (Res.need (strOk (([32] ++ r8).length + [32].length)) (Res.bind (R.renref_Dec fuel e2.2.2.2.2.2.1) fun r9 => Res.given (renref_Dec.okOut r9) (Res.need (strOk ((([32] ++ r8) ++ [32]).length + r9.length)) (Res.need (strOk (((([32] ++ r8) ++ [32]) ++ r9).length + [32].length)) (Res.bind (R.renref_Dec fuel e2.2.2.2.2.2.2.1) fun r10 => Res.given (renref_Dec.okOut r10) (Res.need (strOk ((((([32] ++ r8) ++ [32]) ++ r9) ++ [32]).length + r10.length)) (Res.need (strOk (((((r6 ++ [32]) ++ r7) ++ [32]) ++ k5).length + ((((([32] ++ r8) ++ [32]) ++ r9) ++ [32]) ++ r10).length)) (Res.ok ((((((r6 ++ [32]) ++ r7) ++ [32]) ++ k5) ++ ((((([32] ++ r8) ++ [32]) ++ r9) ++ [32]) ++ r10))))))))))))) (Res.ok (((((r6 ++ [32]) ++ r7) ++ [32]) ++ k5)))) fun s11 => Res.bind (α := (List UInt8)) (Res.br e2.2.2.1 (Res.need (strOk (s11.length + [32, 115, 101, 113].length)) (Res.ok ((s11 ++ [32, 115, 101, 113])))) (Res.ok (s11))) fun s12 => Res.bind (α := (List UInt8)) (Res.br e2.2.2.2.1 (Res.need (strOk (s12.length + [32, 119, 104, 111, 108, 101].length)) (Res.ok ((s12 ++ [32, 119, 104, 111, 108, 101])))) (Res.ok (s12))) fun s13 => Res.bind (R.renref24_bytes [114, 101, 97, 100] e2.2.2.2.2.2.2.2.1) fun r14 => Res.given (renref24_bytes.okOut r14) (Res.need (strOk (s13.length + r14.length)) (Res.bind (Res.loop (α := ((List UInt8) × Int)) (β := (List UInt8)) (fun f15 => Res.br (ilt f15.2 (e2.2.2.2.2.2.2.2.2.2.length : Int)) (Res.idx (.int .i64) e2.2.2.2.2.2.2.2.2.2 f15.2 fun e16 => Res.bind (R.renref_Dec fuel e16) fun r17 => Res.given (renref_Dec.okOut r17) (Res.need (strOk ([32].length + r17.length)) (Res.need (strOk (f15.1.length + ([32] ++ r17).length)) (Res.ok (.next (((f15.1 ++ ([32] ++ r17)), IntKind.wrap .i64 (f15.2 + 1)))))))) (Res.ok (.done (f15.1)))) fuel (([] : List UInt8), 0)) fun f18 => Res.bind (α := (List UInt8)) (Res.br (!(f18 == ([] : List UInt8))) (Res.need (strOk ([32, 102, 114, 111, 109].length + f18.length)) (Res.need (strOk ((s13 ++ r14).length + ([32, 102, 114, 111, 109] ++ f18).length)) (Res.ok (((s13 ++ r14) ++ ([32, 102, 114, 111, 109] ++ f18)))))) (Res.ok ((s13 ++ r14)))) fun s19 => Res.bind (R.renref24_bytes [119, 114, 111, 116, 101] e2.2.2.2.2.2.2.2.2.1) fun r20 => Res.given (renref24_bytes.okOut r20) (Res.need (strOk (s19.length + r20.length)) (Res.need (decide ((out1.1.length + [(s19 ++ r20)].length) * 16 ≤ 2 ^ 47)) (Res.ok (.next (((out1.1 ++ [(s19 ++ r20)]), IntKind.wrap .i64 (out1.2 + 1)))))))))))))))) (Res.ok (.done (out1.1)))) fuel (([] : List (List UInt8)), 0)) fun out21 => Res.bind (Res.loop (α := ((List (List UInt8)) × Int)) (β := (List (List UInt8))) (fun out22 => Res.br (ilt out22.2 (l0.2.length : Int)) (Res.idxS (.frz (.pair (.int .i64) (.int .i64))) l0.2 out22.2 fun e23 => Res.bind (R.renref_Dec fuel e23.1) fun r24 => Res.given (renref_Dec.okOut r24) (Res.need (strOk ([101, 100, 103, 101, 32].length + r24.length)) (Res.need (strOk (([101, 100, 103, 101, 32] ++ r24).length + [32].length)) (Res.idxS (.frz (.pair (.int .i64) (.int .i64))) l0.2 out22.2 fun e25 => Res.bind (R.renref_Dec fuel e25.2) fun r26 => Res.given (renref_Dec.okOut r26) (Res.need (strOk ((([101, 100, 103, 101, 32] ++ r24) ++ [32]).length + r26.length)) (Res.need (decide ((out22.1.length + [((([101, 100, 103, 101, 32] ++ r24) ++ [32]) ++ r26)].length) * 16 ≤ 2 ^ 47)) (Res.ok (.next (((out22.1 ++ [((([101, 100, 103, 101, 32] ++ r24) ++ [32]) ++ r26)]), IntKind.wrap .i64 (out22.2 + 1))))))))))) (Res.ok (.done (out22.1)))) fuel (out21, 0)) fun out27 => Res.ok (out27))

@[reducible] def renref_Texts.ps : List Par := [.val false (.bor (.own (.frz .str))), .val false (.bor (.own (.frz .str)))]
@[reducible] def renref_Texts.rs : List VSh := [(false, (.frz .bool))]
def renref_Texts.okOut : outs (dens renref_Texts.rs) (boxes renref_Texts.ps) → Bool := outsOk (oks renref_Texts.rs) (boxes renref_Texts.ps)
/-- rendezvous/renref.Texts -/
noncomputable def R.renref_Texts (a0 : (List (List UInt8))) (b1 : (List (List UInt8))) : Res (Bool) :=
  Res.given (oks (renref_Texts.ps.map Par.v) (a0, b1)) (Res.br (!((a0.length : Int) == (b1.length : Int))) (Res.ok (false)) (Res.bind (Res.loop (α := Int) (β := (Unit ⊕ Bool)) (fun i1 => Res.br (ilt i1 (a0.length : Int)) (Res.idxS (.frz .str) a0 i1 fun e2 => Res.idxS (.frz .str) b1 i1 fun e3 => Res.br (!(e2 == e3)) (Res.ok (.done (.inr false))) (Res.ok (.next (IntKind.wrap .i64 (i1 + 1))))) (Res.ok (.done (.inl ())))) fuel 0) fun x4 => Res.sum x4 (fun x5 => Res.ok (true)) (fun z6 => Res.ok (z6))))

@[reducible] def renlaw26_ScriptEvents.ps : List Par := [.val true (.frz T_event_Log)]
@[reducible] def renlaw26_ScriptEvents.rs : List VSh := [(false, (.frz .bool))]
def renlaw26_ScriptEvents.okOut : outs (dens renlaw26_ScriptEvents.rs) (boxes renlaw26_ScriptEvents.ps) → Bool := outsOk (oks renlaw26_ScriptEvents.rs) (boxes renlaw26_ScriptEvents.ps)
/-- rendezvous/renlaw26.ScriptEvents -/
noncomputable def R.renlaw26_ScriptEvents (l0 : T_event_Log.den) : Res (Bool) :=
  Res.given (oks (renlaw26_ScriptEvents.ps.map Par.v) l0) (Res.bind (R.renlaw26_first) fun r1 => Res.br (!r1) (Res.ok (false)) (Res.bind (R.renlaw14_Few l0 40) fun r2 => Res.br (!r2) (Res.bind (R.renlaw26_first) fun r3 => Res.ok (r3)) (Res.bind (R.renlaw26_first) fun r4 => Res.br r4 (Res.bind (R.script_Events l0) fun r5 => Res.given (script_Events.okOut r5) (Res.bind (R.renlaw14_Log l0) fun r6 => Res.given (renlaw14_Log.okOut r6) (Res.bind (R.renref24_Events r6) fun r7 => Res.given (renref24_Events.okOut r7) (Res.bind (R.renref_Texts r5 r7) fun r8 => Res.ok (r8))))) (Res.ok (false)))))

@[reducible] def renlaw26_ScriptCounts.ps : List Par := [.val true (.bor (.seq (.own (.frz T_event_Event)) (.own (.frz (.pair (.int .i64) (.int .i64))))))]
@[reducible] def renlaw26_ScriptCounts.rs : List VSh := [(false, (.frz .bool))]
def renlaw26_ScriptCounts.okOut : outs (dens renlaw26_ScriptCounts.rs) (boxes renlaw26_ScriptCounts.ps) → Bool := outsOk (oks renlaw26_ScriptCounts.rs) (boxes renlaw26_ScriptCounts.ps)
/-- rendezvous/renlaw26.ScriptCounts -/
noncomputable def R.renlaw26_ScriptCounts (l0 : T_event_Log.den) : Res (Bool) :=
  Res.given (oks (renlaw26_ScriptCounts.ps.map Par.v) l0) (Res.bind (R.renlaw26_first) fun r1 => Res.br (!r1) (Res.ok (false)) (Res.bind (R.renlaw14_Few l0 40) fun r2 => Res.br (!r2) (Res.bind (R.renlaw26_first) fun r3 => Res.ok (r3)) (Res.bind (R.script_Events l0) fun r4 => Res.given (script_Events.okOut r4) (Res.br (!((r4.length : Int) == (IntKind.wrap .i64 ((l0.1.length : Int) + (l0.2.length : Int))))) (Res.ok (false)) (Res.bind (Res.loop (α := Int) (β := (Unit ⊕ Bool)) (fun i5 => Res.br (ilt i5 (l0.1.length : Int)) (Res.bind (R.renref_Dec fuel i5) fun r6 => Res.given (renref_Dec.okOut r6) (Res.need (strOk (r6.length + [32].length)) (Res.bind (α := Bool) (Res.need (ile 0 i5 && ilt i5 r4.length) (Res.idx .str r4 (0 + Int.toNat i5) fun e7 => Res.br (ilt (e7.length : Int) ((r6 ++ [32]).length : Int)) (Res.ok (true)) (Res.need (ile 0 i5 && ilt i5 r4.length) (Res.idx .str r4 (0 + Int.toNat i5) fun e8 => Res.need (ile 0 ((r6 ++ [32]).length : Int) && ile ((r6 ++ [32]).length : Int) e8.length) (Res.ok ((!((List.take (Int.toNat ((r6 ++ [32]).length : Int)) e8) == (r6 ++ [32]))))))))) fun x9 => Res.br x9 (Res.ok (.done (.inr false))) (Res.ok (.next (IntKind.wrap .i64 (i5 + 1))))))) (Res.ok (.done (.inl ())))) fuel 0) fun x10 => Res.sum x10 (fun x11 => Res.bind (R.renlaw26_first) fun r13 => Res.ok (r13)) (fun z12 => Res.ok (z12)))))))

end Go.Mach

set_option linter.unusedVariables false
namespace Go.Mach
open Go.Proofs
def owned : List (TypeId × Sh) := []
noncomputable def script_words.spec : Spec := ⟨30, script_words.ps, script_words.rs, fun _ => R.script_words⟩
noncomputable def script_words.env : Env := { P := Tryd.prog, specs := [], ety := etyOf Tryd.prog owned }
def script_words.ann : Ann := .none

noncomputable def script_Parse.spec : Spec := ⟨10, script_Parse.ps, script_Parse.rs, fun x => R.script_Parse x⟩
noncomputable def script_Parse.env : Env := { P := Tryd.prog, specs := [atoiSSpec 31, cutSSpec 29, itoaSSpec 32, script_words.spec], ety := etyOf Tryd.prog owned }
def script_Parse.ann : Ann := (.two .none (.two .none (.two .none (.two (.two .none (.two (.unr (.two .none (.two .none (.two (.piece [(.nrm, ⟨[], [8, 9, 22, 23, 24, 25, 26, 27, 28, 29, 30], [(1, (.box (.seq (.frz (.int .i64)) (.seq (.frz (.int .i64)) (.frz (.int .i64))))))], []⟩)] .none) .none))) (.unr (.two .none (.two .none (.two (.piece [(.nrm, ⟨[], [8, 9, 22, 23, 24, 25, 26, 27, 28, 29, 30], [(1, (.box (.seq (.frz (.int .i64)) (.seq (.frz (.int .i64)) (.frz (.int .i64))))))], []⟩)] .none) .none))) (.unr (.two .none (.two .none (.two (.piece [(.nrm, ⟨[], [8, 9, 22, 23, 24, 25, 26, 27, 28, 29, 30], [(1, (.box (.seq (.frz (.int .i64)) (.seq (.frz (.int .i64)) (.frz (.int .i64))))))], []⟩)] .none) .none))) (.unr (.two .none (.two .none (.two (.piece [(.nrm, ⟨[], [8, 9, 22, 23, 24, 25, 26, 27, 28, 29, 30], [(1, (.box (.seq (.frz (.int .i64)) (.seq (.frz (.int .i64)) (.frz (.int .i64))))))], []⟩)] .none) .none))) (.unr .none .none))))) .none)) (.two (.two (.two .none (.two .none (.two (.piece [(.nrm, ⟨[(37, (false, (.frz .bool)))], [38, 39, 40, 41, 42, 43], [], []⟩)] .none) .none))) .none) (.two .none (.two (.two (.piece [(.nrm, ⟨[(57, (false, (.frz .bool)))], [50, 51, 52, 53, 54, 55, 56], [], []⟩)] .none) .none) .none)))))))

noncomputable def script_Print.spec : Spec := ⟨12, script_Print.ps, script_Print.rs, fun x => R.script_Print x⟩
noncomputable def script_Print.env : Env := { P := Tryd.prog, specs := [itoaSSpec 32, script_words.spec], ety := etyOf Tryd.prog owned }
def script_Print.ann : Ann := (.two .none (.two (.two (.piece [(.nrm, ⟨[(11, (false, (.frz .bool)))], [4, 5, 6, 7, 8, 9, 10], [], []⟩)] .none) .none) (.two .none (.two (.piece [(.nrm, ⟨[(3, (false, (.frz (.int .i64))))], [14, 15, 16, 17, 18], [], []⟩)] .none) .none))))

noncomputable def renlaw26_first.spec : Spec := ⟨9, renlaw26_first.ps, renlaw26_first.rs, fun _ => R.renlaw26_first⟩
noncomputable def renlaw26_first.env : Env := { P := Tryd.prog, specs := [script_Parse.spec, script_Print.spec], ety := etyOf Tryd.prog owned }
def renlaw26_first.ann : Ann := .none

noncomputable def renref24_words.spec : Spec := ⟨33, renref24_words.ps, renref24_words.rs, fun _ => R.renref24_words⟩
noncomputable def renref24_words.env : Env := { P := Tryd.prog, specs := [], ety := etyOf Tryd.prog owned }
def renref24_words.ann : Ann := .none

noncomputable def renref_Dec.spec (fu : Nat) : Spec := ⟨28, renref_Dec.ps, renref_Dec.rs, fun x => R.renref_Dec fu x⟩
noncomputable def renref_Dec.env (fu : Nat) : Env := { P := Tryd.prog, specs := [(renref_Dec.spec fu)], ety := etyOf Tryd.prog owned }
def renref_Dec.ann : Ann := .none

noncomputable def renref24_number.spec : Spec := ⟨34, renref24_number.ps, renref24_number.rs, fun x => R.renref24_number x⟩
noncomputable def renref24_number.env : Env := { P := Tryd.prog, specs := [(renref_Dec.spec fuel)], ety := etyOf Tryd.prog owned }
def renref24_number.ann : Ann := (.two .none (.two (.piece [(.nrm, ⟨[(4, (false, (.frz .bool)))], [9, 10, 11, 12, 13, 14, 15, 16], [], []⟩)] .none) (.two .none (.two (.piece [(.nrm, ⟨[(5, (false, (.frz .str)))], [18, 19, 20], [], []⟩)] .none) (.two (.two (.piece [(.nrm, ⟨[(28, (false, (.frz .bool)))], [21, 22, 23, 24, 25, 26, 27], [], []⟩)] .none) .none) (.two .none (.two (.two .none (.two (.loop ⟨[(6, (false, (.frz (.int .i64)))), (7, (false, (.frz (.int .i64))))], [2, 3, 8, 29, 30, 31, 32, 33, 34, 35, 36, 37, 38, 39, 40, 41, 42, 43, 44, 45, 46, 47, 48, 49, 50, 51, 52, 53, 54, 55, 56], [], []⟩ [(.ext 0, ⟨[(6, (false, (.frz (.int .i64))))], [2, 3, 7, 8, 29, 30, 31, 32, 33, 34, 35, 36, 37, 38, 39, 40, 41, 42, 43, 44, 45, 46, 47, 48, 49, 50, 51, 52, 53, 54, 55, 56], [], []⟩), (.ret, ⟨[(2, (false, (.frz (.int .i64)))), (3, (false, (.frz .bool)))], [6, 7, 8, 29, 30, 31, 32, 33, 34, 35, 36, 37, 38, 39, 40, 41, 42, 43, 44, 45, 46, 47, 48, 49, 50, 51, 52, 53, 54, 55, 56], [], []⟩)] (.two .none (.two (.two (.two .none (.two (.two (.piece [(.nrm, ⟨[(52, (false, (.frz .bool)))], [40, 41, 42, 43, 44, 45, 46, 47, 48, 49, 50, 51], [], []⟩)] .none) .none) .none)) .none) .none))) .none)) (.two (.piece [(.nrm, ⟨[(6, (false, (.frz (.int .i64))))], [57, 58, 59, 60, 61, 62], [], []⟩), (.ret, ⟨[(2, (false, (.frz (.int .i64)))), (3, (false, (.frz .bool)))], [57, 58, 59, 60], [], []⟩)] .none) .none))))))))

noncomputable def renref24_Parse.spec : Spec := ⟨11, renref24_Parse.ps, renref24_Parse.rs, fun x => R.renref24_Parse x⟩
noncomputable def renref24_Parse.env : Env := { P := Tryd.prog, specs := [renref24_number.spec, renref24_words.spec], ety := etyOf Tryd.prog owned }
def renref24_Parse.ann : Ann := (.two .none (.two .none (.two (.two (.loop ⟨[(4, (false, (.frz (.int .i64))))], [9, 10, 11, 12, 13, 14, 15, 16, 17, 18, 19, 20], [], []⟩ [(.ext 0, ⟨[(4, (false, (.frz (.int .i64))))], [9, 10, 11, 12, 13, 14, 15, 16, 17, 18, 19, 20], [], []⟩)] (.two (.two (.piece [(.nrm, ⟨[(18, (false, (.frz .bool)))], [9, 10, 11, 12, 13, 14, 15, 16, 17], [], []⟩)] .none) .none) .none)) .none) (.two .none (.two (.two .none (.two (.unr (.two .none (.two (.piece [(.nrm, ⟨[(5, (false, (.frz (.int .i64))))], [25, 26, 27, 28, 29, 30, 31, 32, 33], [], []⟩)] .none) .none)) (.unr (.two .none (.two (.piece [(.nrm, ⟨[(5, (false, (.frz (.int .i64))))], [25, 26, 27, 28, 29, 30, 31, 32, 33], [], []⟩)] .none) .none)) (.unr (.two .none (.two (.piece [(.nrm, ⟨[(5, (false, (.frz (.int .i64))))], [25, 26, 27, 28, 29, 30, 31, 32, 33], [], []⟩)] .none) .none)) (.unr (.two .none (.two (.piece [(.nrm, ⟨[(5, (false, (.frz (.int .i64))))], [25, 26, 27, 28, 29, 30, 31, 32, 33], [], []⟩)] .none) .none)) (.unr .none .none))))) .none)) .none)))))

noncomputable def renref24_Print.spec : Spec := ⟨13, renref24_Print.ps, renref24_Print.rs, fun x => R.renref24_Print x⟩
noncomputable def renref24_Print.env : Env := { P := Tryd.prog, specs := [(renref_Dec.spec fuel), renref24_words.spec], ety := etyOf Tryd.prog owned }
def renref24_Print.ann : Ann := (.two .none (.two (.two (.piece [(.nrm, ⟨[(11, (false, (.frz .bool)))], [4, 5, 6, 7, 8, 9, 10], [], []⟩)] .none) .none) (.two .none (.two (.piece [(.nrm, ⟨[(3, (false, (.frz (.int .i64))))], [14, 15, 16, 17, 18], [], []⟩)] .none) .none))))

noncomputable def renlaw26_same.spec : Spec := ⟨14, renlaw26_same.ps, renlaw26_same.rs, fun x => R.renlaw26_same x.1 x.2⟩
noncomputable def renlaw26_same.env : Env := { P := Tryd.prog, specs := [], ety := etyOf Tryd.prog owned }
def renlaw26_same.ann : Ann := .none

noncomputable def renlaw26_ScriptLines.spec : Spec := ⟨3, renlaw26_ScriptLines.ps, renlaw26_ScriptLines.rs, fun x => R.renlaw26_ScriptLines x.1 x.2⟩
noncomputable def renlaw26_ScriptLines.env : Env := { P := Tryd.prog, specs := [renlaw26_first.spec, renlaw26_same.spec, renref24_Parse.spec, renref24_Print.spec, script_Parse.spec, script_Print.spec], ety := etyOf Tryd.prog owned }
def renlaw26_ScriptLines.ann : Ann := .none

noncomputable def renlaw26_ScriptBack.spec : Spec := ⟨4, renlaw26_ScriptBack.ps, renlaw26_ScriptBack.rs, fun x => R.renlaw26_ScriptBack x.1 x.2⟩
noncomputable def renlaw26_ScriptBack.env : Env := { P := Tryd.prog, specs := [renlaw26_first.spec, script_Parse.spec, script_Print.spec], ety := etyOf Tryd.prog owned }
def renlaw26_ScriptBack.ann : Ann := (.two .none (.two .none (.two .none (.two .none (.two (.two (.piece [(.nrm, ⟨[(28, (false, (.frz .bool)))], [21, 22, 23, 24, 25, 26, 27], [], []⟩)] .none) .none) (.two .none (.two (.two (.piece [(.nrm, ⟨[(42, (false, (.frz .bool)))], [35, 36, 37, 38, 39, 40, 41], [], []⟩)] .none) .none) (.two .none (.two (.piece [(.nrm, ⟨[(9, (false, (.frz (.int .i64))))], [50, 51, 52, 53, 54], [], []⟩)] .none) (.two (.two (.piece [(.nrm, ⟨[(60, (false, (.frz .bool)))], [55, 56, 57, 58, 59], [], []⟩)] .none) .none) .none))))))))))

noncomputable def script_act.spec : Spec := ⟨35, script_act.ps, script_act.rs, fun x => R.script_act x.1 x.2⟩
noncomputable def script_act.env : Env := { P := Tryd.prog, specs := [], ety := etyOf Tryd.prog owned }
def script_act.ann : Ann := .none

noncomputable def script_Acts.spec : Spec := ⟨15, script_Acts.ps, script_Acts.rs, fun x => R.script_Acts x⟩
noncomputable def script_Acts.env : Env := { P := Tryd.prog, specs := [script_act.spec], ety := etyOf Tryd.prog owned }
def script_Acts.ann : Ann := (.two .none (.two .none (.two (.two .none (.two (.loop ⟨[(3, (false, (.own (.frz T_cluster_Act)))), (4, (false, (.frz (.int .i64))))], [5, 6, 7, 8, 9, 10, 11, 12, 13, 14, 15, 16, 17, 18, 19, 20, 21, 22, 23, 24, 25, 26, 27, 28, 29, 30, 31], [], []⟩ [(.ext 0, ⟨[(3, (false, (.own (.frz T_cluster_Act))))], [4, 5, 6, 7, 8, 9, 10, 11, 12, 13, 14, 15, 16, 17, 18, 19, 20, 21, 22, 23, 24, 25, 26, 27, 28, 29, 30, 31], [], []⟩)] (.two (.two (.piece [(.nrm, ⟨[(14, (false, (.frz .bool)))], [5, 6, 7, 8, 9, 10, 11, 12, 13], [], []⟩)] .none) .none) .none)) .none)) .none)))

noncomputable def renlaw26_ScriptCuts.spec : Spec := ⟨5, renlaw26_ScriptCuts.ps, renlaw26_ScriptCuts.rs, fun x => R.renlaw26_ScriptCuts x.1 x.2⟩
noncomputable def renlaw26_ScriptCuts.env : Env := { P := Tryd.prog, specs := [renlaw26_first.spec, script_Acts.spec], ety := etyOf Tryd.prog owned }
def renlaw26_ScriptCuts.ann : Ann := (.two .none (.two .none (.two (.two (.piece [(.nrm, ⟨[(22, (false, (.frz .bool)))], [10, 11, 12, 13, 14, 15, 16, 17, 18, 19, 20, 21], [], []⟩)] .none) .none) (.two .none (.two (.two (.piece [(.nrm, ⟨[(42, (false, (.frz .bool)))], [30, 31, 32, 33, 34, 35, 36, 37, 38, 39, 40, 41], [], []⟩)] .none) .none) (.two (.two .none (.two (.loop ⟨[(7, (false, (.frz (.int .i64))))], [4, 43, 44, 45, 46, 47, 48, 49, 50, 51, 52, 53, 54, 55, 56, 57, 58, 59, 60, 61, 62, 63, 64, 65, 66, 67, 68, 69, 70, 71, 72, 73, 74, 75, 76, 77, 78, 79, 80, 81, 82, 83, 84, 85, 86, 87, 88, 89, 90, 91, 92, 93, 94, 95, 96, 97, 98, 99, 100, 101, 102, 103, 104, 105, 106, 107, 108, 109, 110, 111], [], []⟩ [(.ext 0, ⟨[], [4, 7, 43, 44, 45, 46, 47, 48, 49, 50, 51, 52, 53, 54, 55, 56, 57, 58, 59, 60, 61, 62, 63, 64, 65, 66, 67, 68, 69, 70, 71, 72, 73, 74, 75, 76, 77, 78, 79, 80, 81, 82, 83, 84, 85, 86, 87, 88, 89, 90, 91, 92, 93, 94, 95, 96, 97, 98, 99, 100, 101, 102, 103, 104, 105, 106, 107, 108, 109, 110, 111], [], []⟩), (.ret, ⟨[(4, (false, (.frz .bool)))], [7, 43, 44, 45, 46, 47, 48, 49, 50, 51, 52, 53, 54, 55, 56, 57, 58, 59, 60, 61, 62, 63, 64, 65, 66, 67, 68, 69, 70, 71, 72, 73, 74, 75, 76, 77, 78, 79, 80, 81, 82, 83, 84, 85, 86, 87, 88, 89, 90, 91, 92, 93, 94, 95, 96, 97, 98, 99, 100, 101, 102, 103, 104, 105, 106, 107, 108, 109, 110, 111], [], []⟩)] (.two .none (.two (.two (.two (.piece [(.nrm, ⟨[(111, (false, (.frz .bool)))], [49, 50, 51, 52, 53, 54, 55, 56, 57, 58, 59, 60, 61, 62, 63, 64, 65, 66, 67, 68, 69, 70, 71, 72, 73, 74, 75, 76, 77, 78, 79, 80, 81, 82, 83, 84, 85, 86, 87, 88, 89, 90, 91, 92, 93, 94, 95, 96, 97, 98, 99, 100, 101, 102, 103, 104, 105, 106, 107, 108, 109, 110], [], []⟩)] .none) .none) .none) .none))) .none)) .none))))))

noncomputable def renref_CopyBytes.spec : Spec := ⟨16, renref_CopyBytes.ps, renref_CopyBytes.rs, fun x => R.renref_CopyBytes x⟩
noncomputable def renref_CopyBytes.env : Env := { P := Tryd.prog, specs := [], ety := etyOf Tryd.prog owned }
def renref_CopyBytes.ann : Ann := .none

noncomputable def script_Opts.spec : Spec := ⟨17, script_Opts.ps, script_Opts.rs, fun x => R.script_Opts x⟩
noncomputable def script_Opts.env : Env := { P := Tryd.prog, specs := [], ety := etyOf Tryd.prog owned }
def script_Opts.ann : Ann := (.two .none (.two .none (.two (.two .none (.two (.unr (.two .none (.two .none (.two (.piece [(.nrm, ⟨[], [5, 9, 10, 11, 12, 13, 14, 15, 16, 17, 18, 19, 20], [(2, (.box (.seq (.frz (.int .i64)) (.seq (.frz (.int .i64)) (.seq (.frz (.int .i64)) (.seq (.frz (.int .i64)) (.frz (.int .i64))))))))], []⟩)] .none) .none))) (.unr (.two .none (.two .none (.two (.piece [(.nrm, ⟨[], [5, 9, 10, 11, 12, 13, 14, 15, 16, 17, 18, 19, 20], [(2, (.box (.seq (.frz (.int .i64)) (.seq (.frz (.int .i64)) (.seq (.frz (.int .i64)) (.seq (.frz (.int .i64)) (.frz (.int .i64))))))))], []⟩)] .none) .none))) (.unr (.two .none (.two .none (.two (.piece [(.nrm, ⟨[], [5, 9, 10, 11, 12, 13, 14, 15, 16, 17, 18, 19, 20], [(2, (.box (.seq (.frz (.int .i64)) (.seq (.frz (.int .i64)) (.seq (.frz (.int .i64)) (.seq (.frz (.int .i64)) (.frz (.int .i64))))))))], []⟩)] .none) .none))) (.unr (.two .none (.two .none (.two (.piece [(.nrm, ⟨[], [5, 9, 10, 11, 12, 13, 14, 15, 16, 17, 18, 19, 20], [(2, (.box (.seq (.frz (.int .i64)) (.seq (.frz (.int .i64)) (.seq (.frz (.int .i64)) (.seq (.frz (.int .i64)) (.frz (.int .i64))))))))], []⟩)] .none) .none))) (.unr (.two .none (.two .none (.two (.piece [(.nrm, ⟨[], [5, 9, 10, 11, 12, 13, 14, 15, 16, 17, 18, 19, 20], [(2, (.box (.seq (.frz (.int .i64)) (.seq (.frz (.int .i64)) (.seq (.frz (.int .i64)) (.seq (.frz (.int .i64)) (.frz (.int .i64))))))))], []⟩)] .none) .none))) (.unr .none .none)))))) .none)) .none)))

noncomputable def renref24_at.spec : Spec := ⟨36, renref24_at.ps, renref24_at.rs, fun x => R.renref24_at x.1 x.2⟩
noncomputable def renref24_at.env : Env := { P := Tryd.prog, specs := [], ety := etyOf Tryd.prog owned }
def renref24_at.ann : Ann := .none

noncomputable def renref24_OptsOf.spec : Spec := ⟨18, renref24_OptsOf.ps, renref24_OptsOf.rs, fun x => R.renref24_OptsOf x⟩
noncomputable def renref24_OptsOf.env : Env := { P := Tryd.prog, specs := [renref24_at.spec, renref_CopyBytes.spec], ety := etyOf Tryd.prog owned }
def renref24_OptsOf.ann : Ann := .none

noncomputable def renref24_Acts.spec : Spec := ⟨19, renref24_Acts.ps, renref24_Acts.rs, fun x => R.renref24_Acts x⟩
noncomputable def renref24_Acts.env : Env := { P := Tryd.prog, specs := [], ety := etyOf Tryd.prog owned }
def renref24_Acts.ann : Ann := (.two .none (.two .none (.two (.two .none (.two (.loop ⟨[(3, (false, (.own (.frz T_cluster_Act)))), (4, (false, (.frz (.int .i64))))], [5, 6, 7, 8, 9, 10, 11, 12, 13, 14, 15, 16, 17, 18, 19, 20, 21, 22, 23, 24, 25, 26, 27, 28, 29, 30, 31, 32, 33, 34, 35, 36, 37, 38, 39, 40, 41, 42, 43, 44, 45, 46, 47, 48, 49, 50, 51, 52, 53, 54, 55, 56, 57, 58, 59, 60, 61, 62, 63], [], []⟩ [(.ext 0, ⟨[(3, (false, (.own (.frz T_cluster_Act))))], [4, 5, 6, 7, 8, 9, 10, 11, 12, 13, 14, 15, 16, 17, 18, 19, 20, 21, 22, 23, 24, 25, 26, 27, 28, 29, 30, 31, 32, 33, 34, 35, 36, 37, 38, 39, 40, 41, 42, 43, 44, 45, 46, 47, 48, 49, 50, 51, 52, 53, 54, 55, 56, 57, 58, 59, 60, 61, 62, 63], [], []⟩)] (.two (.two (.piece [(.nrm, ⟨[(16, (false, (.frz .bool)))], [7, 8, 9, 10, 11, 12, 13, 14, 15], [], []⟩)] .none) .none) .none)) .none)) .none)))

noncomputable def renlaw12_Limits.spec : Spec := ⟨37, renlaw12_Limits.ps, renlaw12_Limits.rs, fun x => R.renlaw12_Limits x⟩
noncomputable def renlaw12_Limits.env : Env := { P := Tryd.prog, specs := [], ety := etyOf Tryd.prog owned }
def renlaw12_Limits.ann : Ann := .none

noncomputable def renlaw24_Opts.spec : Spec := ⟨20, renlaw24_Opts.ps, renlaw24_Opts.rs, fun x => R.renlaw24_Opts x⟩
noncomputable def renlaw24_Opts.env : Env := { P := Tryd.prog, specs := [renlaw12_Limits.spec], ety := etyOf Tryd.prog owned }
def renlaw24_Opts.ann : Ann := .none

noncomputable def renref_Bytes.spec : Spec := ⟨21, renref_Bytes.ps, renref_Bytes.rs, fun x => R.renref_Bytes x.1 x.2⟩
noncomputable def renref_Bytes.env : Env := { P := Tryd.prog, specs := [], ety := etyOf Tryd.prog owned }
def renref_Bytes.ann : Ann := .none

noncomputable def eval_May.spec : Spec := ⟨38, eval_May.ps, eval_May.rs, fun x => R.eval_May x⟩
noncomputable def eval_May.env : Env := { P := Tryd.prog, specs := [], ety := etyOf Tryd.prog owned }
def eval_May.ann : Ann := .none

noncomputable def cluster_May.spec : Spec := ⟨22, cluster_May.ps, cluster_May.rs, fun x => R.cluster_May x⟩
noncomputable def cluster_May.env : Env := { P := Tryd.prog, specs := [eval_May.spec], ety := etyOf Tryd.prog owned }
def cluster_May.ann : Ann := .none

noncomputable def renlaw26_ScriptBytes.spec : Spec := ⟨6, renlaw26_ScriptBytes.ps, renlaw26_ScriptBytes.rs, fun x => R.renlaw26_ScriptBytes x⟩
noncomputable def renlaw26_ScriptBytes.env : Env := { P := Tryd.prog, specs := [cluster_May.spec, renlaw24_Opts.spec, renlaw26_first.spec, renlaw26_same.spec, renref24_Acts.spec, renref24_OptsOf.spec, renref_Bytes.spec, renref_CopyBytes.spec, script_Acts.spec, script_Opts.spec], ety := etyOf Tryd.prog owned }
def renlaw26_ScriptBytes.ann : Ann := (.two .none (.two .none (.two .none (.two .none (.two .none (.two .none (.two .none (.two (.two (.piece [(.nrm, ⟨[(55, (false, (.frz .bool)))], [33, 34, 35, 36, 37, 38, 39, 40, 41, 42, 43, 44, 45, 46, 47, 48, 49, 50, 51, 52, 53, 54], [], []⟩)] .none) .none) (.two (.two .none (.two (.loop ⟨[(10, (false, (.frz (.int .i64))))], [2, 56, 57, 58, 59, 60, 61, 62, 63, 64, 65, 66, 67, 68, 69, 70, 71], [], []⟩ [(.ext 0, ⟨[], [2, 10, 56, 57, 58, 59, 60, 61, 62, 63, 64, 65, 66, 67, 68, 69, 70, 71], [], []⟩), (.ret, ⟨[(2, (false, (.frz .bool)))], [10, 56, 57, 58, 59, 60, 61, 62, 63, 64, 65, 66, 67, 68, 69, 70, 71], [], []⟩)] .none) .none)) .none)))))))))

noncomputable def renlaw14_Few.spec : Spec := ⟨23, renlaw14_Few.ps, renlaw14_Few.rs, fun x => R.renlaw14_Few x.1 x.2⟩
noncomputable def renlaw14_Few.env : Env := { P := Tryd.prog, specs := [], ety := etyOf Tryd.prog owned }
def renlaw14_Few.ann : Ann := (.two .none (.two .none (.two (.two .none (.two (.loop ⟨[(5, (false, (.frz (.int .i64)))), (6, (false, (.frz (.int .i64))))], [7, 8, 9, 10, 11, 12, 13, 14, 15, 16, 17, 18, 19, 20, 21, 22, 23, 24, 25, 26, 27, 28, 29, 30, 31, 32, 33, 34, 35, 36, 37, 38, 39, 40, 41, 42, 43, 44, 45, 46], [], []⟩ [(.ext 0, ⟨[(5, (false, (.frz (.int .i64))))], [6, 7, 8, 9, 10, 11, 12, 13, 14, 15, 16, 17, 18, 19, 20, 21, 22, 23, 24, 25, 26, 27, 28, 29, 30, 31, 32, 33, 34, 35, 36, 37, 38, 39, 40, 41, 42, 43, 44, 45, 46], [], []⟩)] (.two (.two (.piece [(.nrm, ⟨[(16, (false, (.frz .bool)))], [7, 8, 9, 10, 11, 12, 13, 14, 15], [], []⟩)] .none) .none) .none)) .none)) .none)))

noncomputable def script_line_word.spec : Spec := ⟨40, script_line_word.ps, script_line_word.rs, fun x => R.script_line_word x.1 x.2⟩
noncomputable def script_line_word.env : Env := { P := Tryd.prog, specs := [sbByteSpec 51, sbLenSpec 50, sbStrSpec 52], ety := etyOf Tryd.prog owned }
def script_line_word.ann : Ann := .none

noncomputable def script_line_number.spec : Spec := ⟨39, script_line_number.ps, script_line_number.rs, fun x => R.script_line_number x.1 x.2⟩
noncomputable def script_line_number.env : Env := { P := Tryd.prog, specs := [itoaSSpec 32, script_line_word.spec], ety := etyOf Tryd.prog owned }
def script_line_number.ann : Ann := (.two .none (.two (.loop ⟨[(8, (false, (.frz (.int .i64))))], [5, 9, 10, 11, 12, 13, 14, 15, 16], [(0, (.sb (93, 5)))], []⟩ [(.ext 0, ⟨[], [5, 8, 9, 10, 11, 12, 13, 14, 15, 16], [(0, (.sb (93, 5)))], []⟩)] .none) .none))

noncomputable def script_kind.spec : Spec := ⟨41, script_kind.ps, script_kind.rs, fun x => R.script_kind x⟩
noncomputable def script_kind.env : Env := { P := Tryd.prog, specs := [], ety := etyOf Tryd.prog owned }
def script_kind.ann : Ann := .none

noncomputable def script_line_bytes.spec : Spec := ⟨42, script_line_bytes.ps, script_line_bytes.rs, fun x => R.script_line_bytes x.1 x.2.1 x.2.2⟩
noncomputable def script_line_bytes.env : Env := { P := Tryd.prog, specs := [script_line_number.spec, script_line_word.spec], ety := etyOf Tryd.prog owned }
def script_line_bytes.ann : Ann := (.two (.piece [(.nrm, ⟨[], [8, 9, 10, 11, 12, 13], [(0, (.sb (93, 5)))], []⟩)] .none) (.two .none (.two (.loop ⟨[(16, (false, (.frz (.int .i64))))], [7, 17, 18, 19, 20, 21, 22, 23, 24, 25], [(0, (.sb (93, 5)))], []⟩ [(.ext 0, ⟨[], [7, 16, 17, 18, 19, 20, 21, 22, 23, 24, 25], [(0, (.sb (93, 5)))], []⟩)] .none) .none)))

noncomputable def script_Events.spec : Spec := ⟨25, script_Events.ps, script_Events.rs, fun x => R.script_Events x⟩
noncomputable def script_Events.env : Env := { P := Tryd.prog, specs := [itoaSSpec 32, sbGetSpec 43, script_kind.spec, script_line_bytes.spec, script_line_number.spec, script_line_word.spec], ety := etyOf Tryd.prog owned, sbs := [(93, 5)] }
def script_Events.ann : Ann := (.two .none (.two .none (.two (.two .none (.two (.loop ⟨[(3, (false, (.own (.frz .str)))), (12, (false, (.frz (.int .i64))))], [4, 5, 6, 13, 14, 15, 16, 17, 18, 19, 20, 21, 22, 23, 24, 25, 26, 27, 28, 29, 30, 31, 32, 33, 34, 35, 36, 37, 38, 39, 40, 41, 42, 43, 44, 45, 46, 47, 48, 49, 50, 51, 52, 53, 54, 55, 56, 57, 58, 59, 60, 61, 62], [], []⟩ [(.ext 0, ⟨[(3, (false, (.own (.frz .str))))], [4, 5, 6, 12, 13, 14, 15, 16, 17, 18, 19, 20, 21, 22, 23, 24, 25, 26, 27, 28, 29, 30, 31, 32, 33, 34, 35, 36, 37, 38, 39, 40, 41, 42, 43, 44, 45, 46, 47, 48, 49, 50, 51, 52, 53, 54, 55, 56, 57, 58, 59, 60, 61, 62], [], []⟩)] (.two .none (.two .none (.two (.two (.two .none (.two .none (.two .none (.two .none (.two (.piece [(.nrm, ⟨[], [26, 27, 28, 29, 30, 31, 32, 33, 34, 35, 36], [(6, (.sb (93, 5)))], []⟩)] .none) (.two (.piece [(.nrm, ⟨[], [37, 38, 39], [(6, (.sb (93, 5)))], []⟩)] .none) (.two (.piece [(.nrm, ⟨[], [40, 41, 42], [(6, (.sb (93, 5)))], []⟩)] .none) (.two .none (.two (.piece [(.nrm, ⟨[], [46, 47, 48, 49, 50, 51, 52, 53], [(6, (.sb (93, 5)))], []⟩)] .none) .none))))))))) .none) .none)))) .none)) (.two (.two .none (.two (.loop ⟨[(3, (false, (.own (.frz .str)))), (66, (false, (.frz (.int .i64))))], [8, 67, 68, 69, 70, 71, 72, 73, 74, 75, 76, 77, 78, 79, 80, 81, 82], [], [3]⟩ [(.ext 2, ⟨[(3, (false, (.own (.frz .str))))], [8, 66, 67, 68, 69, 70, 71, 72, 73, 74, 75, 76, 77, 78, 79, 80, 81, 82], [], [3]⟩)] .none) .none)) .none))))

noncomputable def renlaw14_Event.spec : Spec := ⟨45, renlaw14_Event.ps, renlaw14_Event.rs, fun x => R.renlaw14_Event x⟩
noncomputable def renlaw14_Event.env : Env := { P := Tryd.prog, specs := [], ety := etyOf Tryd.prog owned }
def renlaw14_Event.ann : Ann := .none

noncomputable def renlaw14_Log.spec : Spec := ⟨27, renlaw14_Log.ps, renlaw14_Log.rs, fun x => R.renlaw14_Log x⟩
noncomputable def renlaw14_Log.env : Env := { P := Tryd.prog, specs := [renlaw14_Event.spec], ety := etyOf Tryd.prog owned }
def renlaw14_Log.ann : Ann := (.two .none (.two .none (.two (.two .none (.two (.loop ⟨[(4, (false, (.frz (.int .i64))))], [5, 6, 7, 8, 9, 10, 11, 12, 13, 14, 15, 16, 17, 18, 19, 20, 21, 22], [(2, (.box (.seq (.own (.frz T_event_Event)) (.own (.frz (.pair (.int .i64) (.int .i64)))))))], []⟩ [(.ext 0, ⟨[], [4, 5, 6, 7, 8, 9, 10, 11, 12, 13, 14, 15, 16, 17, 18, 19, 20, 21, 22], [(2, (.box (.seq (.own (.frz T_event_Event)) (.own (.frz (.pair (.int .i64) (.int .i64)))))))], []⟩)] .none) .none)) .none)))

noncomputable def renref24_bytes.spec : Spec := ⟨44, renref24_bytes.ps, renref24_bytes.rs, fun x => R.renref24_bytes x.1 x.2⟩
noncomputable def renref24_bytes.env : Env := { P := Tryd.prog, specs := [(renref_Dec.spec fuel)], ety := etyOf Tryd.prog owned }
def renref24_bytes.ann : Ann := (.two .none (.two .none (.two (.two .none (.two (.loop ⟨[(5, (false, (.frz .str))), (6, (false, (.frz (.int .i64))))], [7, 8, 9, 10, 11, 12, 13, 14, 15, 16, 17, 18, 19, 20, 21], [], []⟩ [(.ext 0, ⟨[(5, (false, (.frz .str)))], [6, 7, 8, 9, 10, 11, 12, 13, 14, 15, 16, 17, 18, 19, 20, 21], [], []⟩)] .none) .none)) .none)))

noncomputable def renref24_Events.spec : Spec := ⟨26, renref24_Events.ps, renref24_Events.rs, fun x => R.renref24_Events x⟩
noncomputable def renref24_Events.env : Env := { P := Tryd.prog, specs := [(renref_Dec.spec fuel), renref24_bytes.spec], ety := etyOf Tryd.prog owned }
def renref24_Events.ann : Ann := (.two .none (.two .none (.two (.two .none (.two (.loop ⟨[(3, (false, (.own (.frz .str)))), (4, (false, (.frz (.int .i64))))], [5, 6, 7, 8, 9, 11, 12, 13, 14, 15, 16, 17, 18, 19, 20, 21, 22, 23, 24, 25, 26, 27, 28, 29, 30, 31, 32, 33, 34, 35, 36, 37, 38, 39, 40, 41, 42, 43, 44, 45, 46, 47, 48, 49, 50, 51, 52, 53, 54, 55, 56, 57, 58, 59, 60, 61, 62, 63, 64, 65, 66, 67, 68, 69, 70, 71, 72, 73, 74, 75, 76, 77, 78, 79, 80, 81, 82, 83, 84, 85, 86, 87, 88, 89, 90, 91, 92, 93, 94, 95, 96, 97, 98, 99, 100, 101, 102, 103, 104, 105, 106, 107], [], []⟩ [(.ext 0, ⟨[(3, (false, (.own (.frz .str))))], [4, 5, 6, 7, 8, 9, 11, 12, 13, 14, 15, 16, 17, 18, 19, 20, 21, 22, 23, 24, 25, 26, 27, 28, 29, 30, 31, 32, 33, 34, 35, 36, 37, 38, 39, 40, 41, 42, 43, 44, 45, 46, 47, 48, 49, 50, 51, 52, 53, 54, 55, 56, 57, 58, 59, 60, 61, 62, 63, 64, 65, 66, 67, 68, 69, 70, 71, 72, 73, 74, 75, 76, 77, 78, 79, 80, 81, 82, 83, 84, 85, 86, 87, 88, 89, 90, 91, 92, 93, 94, 95, 96, 97, 98, 99, 100, 101, 102, 103, 104, 105, 106, 107], [], []⟩)] (.two .none (.two (.two (.two .none (.two .none (.two (.piece [(.nrm, ⟨[(6, (false, (.frz .str)))], [23, 24, 25, 26, 27, 28, 29, 30, 31, 32, 33, 34, 35], [], []⟩)] (.two (.piece [(.nrm, ⟨[(30, (false, (.frz .bool)))], [23, 24, 25, 26, 27, 28, 29], [], []⟩)] .none) .none)) (.two .none (.two (.piece [(.nrm, ⟨[(7, (false, (.frz .str)))], [46, 47, 48, 49, 50, 51, 52, 53, 54, 55, 56, 57, 58, 59, 60, 61, 62, 63, 64], [], []⟩)] .none) (.two (.piece [(.nrm, ⟨[(7, (false, (.frz .str)))], [65, 66, 67, 68], [], []⟩)] .none) (.two (.piece [(.nrm, ⟨[(7, (false, (.frz .str)))], [69, 70, 71, 72], [], []⟩)] .none) (.two .none (.two .none (.two (.two .none (.two (.loop ⟨[(8, (false, (.frz .str))), (9, (false, (.frz (.int .i64))))], [78, 79, 80, 81, 82, 83, 84, 85, 86, 87, 88, 89, 90, 91, 92, 93], [], []⟩ [(.ext 2, ⟨[(8, (false, (.frz .str)))], [9, 78, 79, 80, 81, 82, 83, 84, 85, 86, 87, 88, 89, 90, 91, 92, 93], [], []⟩)] .none) .none)) (.two (.piece [(.nrm, ⟨[(7, (false, (.frz .str)))], [94, 95, 96, 97, 98, 99], [], []⟩)] .none) .none))))))))))) .none) .none))) .none)) (.two (.two .none (.two (.loop ⟨[(3, (false, (.own (.frz .str)))), (10, (false, (.frz (.int .i64))))], [108, 109, 110, 111, 112, 113, 114, 115, 116, 117, 118, 119, 120, 121, 122, 123, 124, 125, 126, 127, 128, 129, 130, 131, 132, 133, 134], [], [3]⟩ [(.ext 4, ⟨[(3, (false, (.own (.frz .str))))], [10, 108, 109, 110, 111, 112, 113, 114, 115, 116, 117, 118, 119, 120, 121, 122, 123, 124, 125, 126, 127, 128, 129, 130, 131, 132, 133, 134], [], [3]⟩)] .none) .none)) .none))))

noncomputable def renref_Texts.spec : Spec := ⟨24, renref_Texts.ps, renref_Texts.rs, fun x => R.renref_Texts x.1 x.2⟩
noncomputable def renref_Texts.env : Env := { P := Tryd.prog, specs := [], ety := etyOf Tryd.prog owned }
def renref_Texts.ann : Ann := (.two .none (.two .none (.two (.two .none (.two (.loop ⟨[(5, (false, (.frz (.int .i64))))], [4, 11, 12, 13, 14, 15, 16, 17, 18, 19, 20, 21, 22, 23, 24, 25], [], []⟩ [(.ext 0, ⟨[], [4, 5, 11, 12, 13, 14, 15, 16, 17, 18, 19, 20, 21, 22, 23, 24, 25], [], []⟩), (.ret, ⟨[(4, (false, (.frz .bool)))], [5, 11, 12, 13, 14, 15, 16, 17, 18, 19, 20, 21, 22, 23, 24, 25], [], []⟩)] .none) .none)) .none)))

noncomputable def renlaw26_ScriptEvents.spec : Spec := ⟨7, renlaw26_ScriptEvents.ps, renlaw26_ScriptEvents.rs, fun x => R.renlaw26_ScriptEvents x⟩
noncomputable def renlaw26_ScriptEvents.env : Env := { P := Tryd.prog, specs := [renlaw14_Few.spec, renlaw14_Log.spec, renlaw26_first.spec, renref24_Events.spec, renref_Texts.spec, script_Events.spec], ety := etyOf Tryd.prog owned }
def renlaw26_ScriptEvents.ann : Ann := .none

noncomputable def renlaw26_ScriptCounts.spec : Spec := ⟨8, renlaw26_ScriptCounts.ps, renlaw26_ScriptCounts.rs, fun x => R.renlaw26_ScriptCounts x⟩
noncomputable def renlaw26_ScriptCounts.env : Env := { P := Tryd.prog, specs := [(renref_Dec.spec fuel), renlaw14_Few.spec, renlaw26_first.spec, script_Events.spec], ety := etyOf Tryd.prog owned }
def renlaw26_ScriptCounts.ann : Ann := (.two .none (.two .none (.two .none (.two .none (.two .none (.two (.two .none (.two (.loop ⟨[(4, (false, (.frz (.int .i64))))], [2, 5, 24, 25, 26, 27, 28, 29, 30, 31, 32, 33, 34, 35, 36, 37, 38, 39, 40, 41, 42, 43, 44, 45, 46, 47, 48, 49, 50, 51, 52], [], []⟩ [(.ext 0, ⟨[], [2, 4, 5, 24, 25, 26, 27, 28, 29, 30, 31, 32, 33, 34, 35, 36, 37, 38, 39, 40, 41, 42, 43, 44, 45, 46, 47, 48, 49, 50, 51, 52], [], []⟩), (.ret, ⟨[(2, (false, (.frz .bool)))], [4, 5, 24, 25, 26, 27, 28, 29, 30, 31, 32, 33, 34, 35, 36, 37, 38, 39, 40, 41, 42, 43, 44, 45, 46, 47, 48, 49, 50, 51, 52], [], []⟩)] (.two .none (.two (.two (.two .none (.two (.piece [(.nrm, ⟨[(52, (false, (.frz .bool)))], [34, 35, 36, 37, 38, 39, 40, 41, 42, 43, 44, 45, 46, 47, 48, 49, 50, 51], [], []⟩)] .none) .none)) .none) .none))) .none)) .none))))))

end Go.Mach

/-
  The library's functions as this program holds them, for the kit's contracts on strings.Cut, strconv.Itoa and strconv.Atoi.
-/
namespace Go.Mach
open Go.Proofs Go.Shelf
def cutLay_ren : Go.Shelf.Ren := ⟨fun | 145 => 29 | 220 => 46 | 219 => 53 | 217 => 61 | 225 => 62 | 224 => 63 | 267 => 64 | 266 => 73 | 314 => 74 | n => n, fun | 9 => 9 | 4 => 4 | 59 => 72 | 3 => 3 | 5 => 5 | 46 => 117 | 146 => 133 | 51 => 132 | n => n, fun | 1 => 0 | n => n⟩
theorem cutLay : Go.Proofs.Lays.n145 Tryd.prog cutLay_ren := {
    mixed := by kernel_rfl,
    f145 := Tryd.func29.trans (congrArg some (by kernel_rfl)),
    f217 := Tryd.func61.trans (congrArg some (by kernel_rfl)),
    f219 := Tryd.func53.trans (congrArg some (by kernel_rfl)),
    f220 := Tryd.func46.trans (congrArg some (by kernel_rfl)),
    f224 := Tryd.func63.trans (congrArg some (by kernel_rfl)),
    f225 := Tryd.func62.trans (congrArg some (by kernel_rfl)),
    f266 := Tryd.func73.trans (congrArg some (by kernel_rfl)),
    f267 := Tryd.func64.trans (congrArg some (by kernel_rfl)),
    f314 := Tryd.func74.trans (congrArg some (by kernel_rfl)),
    t3 := Tryd.underlying3,
    a3 := Tryd.isAgg3,
    z3 := Tryd.sizeOf3,
    v3 := Tryd.zeroValue3,
    t4 := Tryd.underlying4,
    a4 := Tryd.isAgg4,
    z4 := Tryd.sizeOf4,
    v4 := Tryd.zeroValue4,
    t5 := Tryd.underlying5,
    a5 := Tryd.isAgg5,
    z5 := Tryd.sizeOf5,
    v5 := Tryd.zeroValue5,
    t9 := Tryd.underlying9,
    a9 := Tryd.isAgg9,
    z9 := Tryd.sizeOf9,
    v9 := Tryd.zeroValue9,
    t46 := Tryd.underlying117,
    a46 := Tryd.isAgg117,
    z46 := Tryd.sizeOf117,
    v46 := Tryd.zeroValue117,
    t51 := Tryd.underlying132,
    a51 := Tryd.isAgg132,
    z51 := Tryd.sizeOf132,
    v51 := Tryd.zeroValue132,
    t59 := Tryd.underlying72,
    a59 := Tryd.isAgg72,
    z59 := Tryd.sizeOf72,
    v59 := Tryd.zeroValue72,
    t146 := Tryd.underlying133,
    a146 := Tryd.isAgg133,
    z146 := Tryd.sizeOf133,
    v146 := Tryd.zeroValue133,
    g1 := by kernel_rfl }
def itoaLay_ren : Go.Shelf.Ren := ⟨fun | 171 => 32 | 243 => 49 | 246 => 59 | 283 => 68 | 284 => 69 | 285 => 70 | 286 => 71 | 129 => 78 | 317 => 77 | 318 => 79 | 319 => 80 | 320 => 81 | 337 => 82 | 338 => 83 | n => n, fun | 3 => 3 | 9 => 9 | 2 => 2 | 4 => 4 | 171 => 125 | 0 => 0 | 53 => 118 | 37 => 35 | 5 => 5 | 173 => 128 | 212 => 141 | 51 => 132 | 20 => 20 | 213 => 142 | 46 => 117 | 232 => 146 | 233 => 147 | n => n, fun | 17 => 3 | 18 => 4 | 19 => 5 | n => n⟩
theorem itoaLay : Go.Proofs.LaysM.n171 Tryd.prog itoaLay_ren := {
    mixed := by kernel_rfl,
    f129 := Tryd.func78.trans (congrArg some (by kernel_rfl)),
    f171 := Tryd.func32.trans (congrArg some (by kernel_rfl)),
    f243 := Tryd.func49.trans (congrArg some (by kernel_rfl)),
    f246 := Tryd.func59.trans (congrArg some (by kernel_rfl)),
    f283 := Tryd.func68.trans (congrArg some (by kernel_rfl)),
    f284 := Tryd.func69.trans (congrArg some (by kernel_rfl)),
    f285 := Tryd.func70.trans (congrArg some (by kernel_rfl)),
    f286 := Tryd.func71.trans (congrArg some (by kernel_rfl)),
    f317 := Tryd.func77.trans (congrArg some (by kernel_rfl)),
    f318 := Tryd.func79.trans (congrArg some (by kernel_rfl)),
    f319 := Tryd.func80.trans (congrArg some (by kernel_rfl)),
    f320 := Tryd.func81.trans (congrArg some (by kernel_rfl)),
    f337 := Tryd.func82.trans (congrArg some (by kernel_rfl)),
    f338 := Tryd.func83.trans (congrArg some (by kernel_rfl)),
    t0 := Tryd.underlying0,
    a0 := Tryd.isAgg0,
    z0 := Tryd.sizeOf0,
    v0 := Tryd.zeroValue0,
    t2 := Tryd.underlying2,
    a2 := Tryd.isAgg2,
    z2 := Tryd.sizeOf2,
    v2 := Tryd.zeroValue2,
    t3 := Tryd.underlying3,
    a3 := Tryd.isAgg3,
    z3 := Tryd.sizeOf3,
    v3 := Tryd.zeroValue3,
    t4 := Tryd.underlying4,
    a4 := Tryd.isAgg4,
    z4 := Tryd.sizeOf4,
    v4 := Tryd.zeroValue4,
    t5 := Tryd.underlying5,
    a5 := Tryd.isAgg5,
    z5 := Tryd.sizeOf5,
    v5 := Tryd.zeroValue5,
    t9 := Tryd.underlying9,
    a9 := Tryd.isAgg9,
    z9 := Tryd.sizeOf9,
    v9 := Tryd.zeroValue9,
    t20 := Tryd.underlying20,
    a20 := Tryd.isAgg20,
    z20 := Tryd.sizeOf20,
    v20 := Tryd.zeroValue20,
    t37 := Tryd.underlying35,
    a37 := Tryd.isAgg35,
    z37 := Tryd.sizeOf35,
    v37 := Tryd.zeroValue35,
    t46 := Tryd.underlying117,
    a46 := Tryd.isAgg117,
    z46 := Tryd.sizeOf117,
    v46 := Tryd.zeroValue117,
    t51 := Tryd.underlying132,
    a51 := Tryd.isAgg132,
    z51 := Tryd.sizeOf132,
    v51 := Tryd.zeroValue132,
    t53 := Tryd.underlying118,
    a53 := Tryd.isAgg118,
    z53 := Tryd.sizeOf118,
    v53 := Tryd.zeroValue118,
    t171 := Tryd.underlying125,
    a171 := Tryd.isAgg125,
    z171 := Tryd.sizeOf125,
    v171 := Tryd.zeroValue125,
    t173 := Tryd.underlying128,
    a173 := Tryd.isAgg128,
    z173 := Tryd.sizeOf128,
    v173 := Tryd.zeroValue128,
    t212 := Tryd.underlying141,
    a212 := Tryd.isAgg141,
    z212 := Tryd.sizeOf141,
    v212 := Tryd.zeroValue141,
    t213 := Tryd.underlying142,
    a213 := Tryd.isAgg142,
    z213 := Tryd.sizeOf142,
    t232 := Tryd.underlying146,
    a232 := Tryd.isAgg146,
    z232 := Tryd.sizeOf146,
    v232 := Tryd.zeroValue146,
    t233 := Tryd.underlying147,
    a233 := Tryd.isAgg147,
    z233 := Tryd.sizeOf147,
    v233 := Tryd.zeroValue147,
    g17 := by kernel_rfl,
    g18 := by kernel_rfl,
    g19 := by kernel_rfl,
    i0 := by kernel_rfl,
    i2 := by kernel_rfl,
    i3 := by kernel_rfl,
    i4 := by kernel_rfl,
    i5 := by kernel_rfl,
    i9 := by kernel_rfl,
    i20 := by kernel_rfl,
    i37 := by kernel_rfl,
    i46 := by kernel_rfl,
    i51 := by kernel_rfl,
    i53 := by kernel_rfl,
    i171 := by kernel_rfl,
    i173 := by kernel_rfl,
    i212 := by kernel_rfl,
    i232 := by kernel_rfl,
    i233 := by kernel_rfl,
    m17 := by kernel_rfl,
    m18 := by kernel_rfl,
    m19 := by kernel_rfl }
def atoiLay_ren : Go.Shelf.Ren := ⟨fun | 172 => 31 | 244 => 47 | 245 => 48 | 247 => 54 | 279 => 55 | 280 => 56 | 281 => 57 | 282 => 58 | 287 => 65 | 316 => 66 | 171 => 32 | 205 => 67 | 321 => 75 | 322 => 76 | 243 => 49 | 246 => 59 | 283 => 68 | 284 => 69 | 285 => 70 | 286 => 71 | 129 => 78 | 317 => 77 | 318 => 79 | 319 => 80 | 320 => 81 | 337 => 82 | 338 => 83 | n => n, fun | 9 => 9 | 3 => 3 | 75 => 76 | 76 => 77 | 4 => 4 | 5 => 5 | 167 => 108 | 37 => 35 | 0 => 0 | 85 => 109 | 2 => 2 | 168 => 111 | 53 => 118 | 175 => 119 | 46 => 117 | 210 => 123 | 127 => 106 | 145 => 139 | 143 => 137 | 21 => 21 | 171 => 125 | 173 => 128 | 212 => 141 | 51 => 132 | 20 => 20 | 213 => 142 | 232 => 146 | 233 => 147 | 80 => 97 | n => n, fun | 15 => 1 | 16 => 2 | 17 => 3 | 18 => 4 | 19 => 5 | n => n⟩
theorem atoiLay : Go.Proofs.LaysC.n172 Tryd.prog atoiLay_ren := {
    mixed := by kernel_rfl,
    f129 := Tryd.func78.trans (congrArg some (by kernel_rfl)),
    f171 := Tryd.func32.trans (congrArg some (by kernel_rfl)),
    f172 := Tryd.func31.trans (congrArg some (by kernel_rfl)),
    f205 := Tryd.func67.trans (congrArg some (by kernel_rfl)),
    f243 := Tryd.func49.trans (congrArg some (by kernel_rfl)),
    f244 := Tryd.func47.trans (congrArg some (by kernel_rfl)),
    f245 := Tryd.func48.trans (congrArg some (by kernel_rfl)),
    f246 := Tryd.func59.trans (congrArg some (by kernel_rfl)),
    f247 := Tryd.func54.trans (congrArg some (by kernel_rfl)),
    f279 := Tryd.func55.trans (congrArg some (by kernel_rfl)),
    f280 := Tryd.func56.trans (congrArg some (by kernel_rfl)),
    f281 := Tryd.func57.trans (congrArg some (by kernel_rfl)),
    f282 := Tryd.func58.trans (congrArg some (by kernel_rfl)),
    f283 := Tryd.func68.trans (congrArg some (by kernel_rfl)),
    f284 := Tryd.func69.trans (congrArg some (by kernel_rfl)),
    f285 := Tryd.func70.trans (congrArg some (by kernel_rfl)),
    f286 := Tryd.func71.trans (congrArg some (by kernel_rfl)),
    f287 := Tryd.func65.trans (congrArg some (by kernel_rfl)),
    f316 := Tryd.func66.trans (congrArg some (by kernel_rfl)),
    f317 := Tryd.func77.trans (congrArg some (by kernel_rfl)),
    f318 := Tryd.func79.trans (congrArg some (by kernel_rfl)),
    f319 := Tryd.func80.trans (congrArg some (by kernel_rfl)),
    f320 := Tryd.func81.trans (congrArg some (by kernel_rfl)),
    f321 := Tryd.func75.trans (congrArg some (by kernel_rfl)),
    f322 := Tryd.func76.trans (congrArg some (by kernel_rfl)),
    f337 := Tryd.func82.trans (congrArg some (by kernel_rfl)),
    f338 := Tryd.func83.trans (congrArg some (by kernel_rfl)),
    t0 := Tryd.underlying0,
    a0 := Tryd.isAgg0,
    z0 := Tryd.sizeOf0,
    v0 := Tryd.zeroValue0,
    t2 := Tryd.underlying2,
    a2 := Tryd.isAgg2,
    z2 := Tryd.sizeOf2,
    v2 := Tryd.zeroValue2,
    t3 := Tryd.underlying3,
    a3 := Tryd.isAgg3,
    z3 := Tryd.sizeOf3,
    v3 := Tryd.zeroValue3,
    t4 := Tryd.underlying4,
    a4 := Tryd.isAgg4,
    z4 := Tryd.sizeOf4,
    v4 := Tryd.zeroValue4,
    t5 := Tryd.underlying5,
    a5 := Tryd.isAgg5,
    z5 := Tryd.sizeOf5,
    v5 := Tryd.zeroValue5,
    t9 := Tryd.underlying9,
    a9 := Tryd.isAgg9,
    z9 := Tryd.sizeOf9,
    v9 := Tryd.zeroValue9,
    t20 := Tryd.underlying20,
    a20 := Tryd.isAgg20,
    z20 := Tryd.sizeOf20,
    v20 := Tryd.zeroValue20,
    t21 := Tryd.underlying21,
    a21 := Tryd.isAgg21,
    z21 := Tryd.sizeOf21,
    v21 := Tryd.zeroValue21,
    t37 := Tryd.underlying35,
    a37 := Tryd.isAgg35,
    z37 := Tryd.sizeOf35,
    v37 := Tryd.zeroValue35,
    t46 := Tryd.underlying117,
    a46 := Tryd.isAgg117,
    z46 := Tryd.sizeOf117,
    v46 := Tryd.zeroValue117,
    t51 := Tryd.underlying132,
    a51 := Tryd.isAgg132,
    z51 := Tryd.sizeOf132,
    v51 := Tryd.zeroValue132,
    t53 := Tryd.underlying118,
    a53 := Tryd.isAgg118,
    z53 := Tryd.sizeOf118,
    v53 := Tryd.zeroValue118,
    t75 := Tryd.underlying76,
    a75 := Tryd.isAgg76,
    z75 := Tryd.sizeOf76,
    v75 := Tryd.zeroValue76,
    t76 := Tryd.underlying77,
    a76 := Tryd.isAgg77,
    z76 := Tryd.sizeOf77,
    v76 := Tryd.zeroValue77,
    t85 := Tryd.underlying109,
    a85 := Tryd.isAgg109,
    z85 := Tryd.sizeOf109,
    v85 := Tryd.zeroValue109,
    t127 := Tryd.underlying106,
    a127 := Tryd.isAgg106,
    z127 := Tryd.sizeOf106,
    v127 := Tryd.zeroValue106,
    t143 := Tryd.underlying137,
    a143 := Tryd.isAgg137,
    z143 := Tryd.sizeOf137,
    v143 := Tryd.zeroValue137,
    t145 := Tryd.underlying139,
    a145 := Tryd.isAgg139,
    z145 := Tryd.sizeOf139,
    v145 := Tryd.zeroValue139,
    t167 := Tryd.underlying108,
    a167 := Tryd.isAgg108,
    z167 := Tryd.sizeOf108,
    v167 := Tryd.zeroValue108,
    t168 := Tryd.underlying111,
    a168 := Tryd.isAgg111,
    z168 := Tryd.sizeOf111,
    v168 := Tryd.zeroValue111,
    t171 := Tryd.underlying125,
    a171 := Tryd.isAgg125,
    z171 := Tryd.sizeOf125,
    v171 := Tryd.zeroValue125,
    t173 := Tryd.underlying128,
    a173 := Tryd.isAgg128,
    z173 := Tryd.sizeOf128,
    v173 := Tryd.zeroValue128,
    t175 := Tryd.underlying119,
    a175 := Tryd.isAgg119,
    z175 := Tryd.sizeOf119,
    v175 := Tryd.zeroValue119,
    t210 := Tryd.underlying123,
    a210 := Tryd.isAgg123,
    z210 := Tryd.sizeOf123,
    v210 := Tryd.zeroValue123,
    t212 := Tryd.underlying141,
    a212 := Tryd.isAgg141,
    z212 := Tryd.sizeOf141,
    v212 := Tryd.zeroValue141,
    t213 := Tryd.underlying142,
    a213 := Tryd.isAgg142,
    z213 := Tryd.sizeOf142,
    t232 := Tryd.underlying146,
    a232 := Tryd.isAgg146,
    z232 := Tryd.sizeOf146,
    v232 := Tryd.zeroValue146,
    t233 := Tryd.underlying147,
    a233 := Tryd.isAgg147,
    z233 := Tryd.sizeOf147,
    v233 := Tryd.zeroValue147,
    g15 := by kernel_rfl,
    g16 := by kernel_rfl,
    g17 := by kernel_rfl,
    g18 := by kernel_rfl,
    g19 := by kernel_rfl,
    t80 := Tryd.underlying97,
    a80 := Tryd.isAgg97,
    z80 := Tryd.sizeOf97,
    v80 := Tryd.zeroValue97,
    i0 := by kernel_rfl,
    i2 := by kernel_rfl,
    i3 := by kernel_rfl,
    i4 := by kernel_rfl,
    i5 := by kernel_rfl,
    i9 := by kernel_rfl,
    i20 := by kernel_rfl,
    i21 := by kernel_rfl,
    i37 := by kernel_rfl,
    i46 := by kernel_rfl,
    i51 := by kernel_rfl,
    i53 := by kernel_rfl,
    i75 := by kernel_rfl,
    i76 := by kernel_rfl,
    i80 := by kernel_rfl,
    i85 := by kernel_rfl,
    i127 := by kernel_rfl,
    i143 := by kernel_rfl,
    i145 := by kernel_rfl,
    i167 := by kernel_rfl,
    i168 := by kernel_rfl,
    i171 := by kernel_rfl,
    i173 := by kernel_rfl,
    i175 := by kernel_rfl,
    i210 := by kernel_rfl,
    i212 := by kernel_rfl,
    i232 := by kernel_rfl,
    i233 := by kernel_rfl,
    m15 := by kernel_rfl,
    m16 := by kernel_rfl,
    m17 := by kernel_rfl,
    m18 := by kernel_rfl,
    m19 := by kernel_rfl,
    c0 := by kernel_rfl,
    c2 := by kernel_rfl,
    c3 := by kernel_rfl,
    c4 := by kernel_rfl,
    c5 := by kernel_rfl,
    c9 := by kernel_rfl,
    c20 := by kernel_rfl,
    c21 := by kernel_rfl,
    c37 := by kernel_rfl,
    c46 := by kernel_rfl,
    c51 := by kernel_rfl,
    c53 := by kernel_rfl,
    c75 := by kernel_rfl,
    c76 := by kernel_rfl,
    c80 := by kernel_rfl,
    c85 := by kernel_rfl,
    c127 := by kernel_rfl,
    c143 := by kernel_rfl,
    c145 := by kernel_rfl,
    c167 := by kernel_rfl,
    c168 := by kernel_rfl,
    c171 := by kernel_rfl,
    c173 := by kernel_rfl,
    c175 := by kernel_rfl,
    c210 := by kernel_rfl,
    c212 := by kernel_rfl,
    c213 := by kernel_rfl,
    c232 := by kernel_rfl,
    c233 := by kernel_rfl }
end Go.Mach

/-
  strings.Builder in a struct of its own: its methods, walked.
-/
set_option maxRecDepth 100000
namespace Go.Mach
open Go.Proofs Go.Shelf Go.RowKit
theorem lies93 : liesAt Tryd.prog Tryd.prog.depth 93 (2 / Tryd.prog.cellsOf 93) 0 91 1 = true := by kernel_rfl

theorem info91 : ∃ j, Tryd.prog.info? 91 = some j ∧ j.size = 2 := Option.map_eq_some_iff.1 (by kernel_rfl : (Tryd.prog.info? 91).map (·.size) = some 2)
/-- copyCheck at a text that has been written: nothing turns. -/
theorem check_used (b : Nat) (w : World) (h0 : w.cell? ⟨b, 0, none⟩ = some (.pointer (some ⟨b, 0, none⟩))) :
    Calls Tryd.prog 60 #[.pointer (some ⟨b, 0, none⟩)] w fun e w' => e = .returned (.tuple #[]) ∧ w' = w := by
  obtain ⟨j, hj, _⟩ := info91
  go_enter Tryd.func60, Tryd.ntmps60
  go_wp2
  rw [Lib.run_neq_ptr_same w _ Tryd.underlying89 hj]
  go_wp2
  go_end0
  exact ⟨rfl, rfl⟩

/-- .. at a fresh one: it stores its own address. -/
theorem check_fresh (b : Nat) (w : World) (h0 : w.cell? ⟨b, 0, none⟩ = some (.pointer none)) (hsh : w.shape? b = some (93, 2)) (hfz : w.frozen? ⟨b, 0, none⟩ = false) :
    Calls Tryd.prog 60 #[.pointer (some ⟨b, 0, none⟩)] w fun e w' => e = .returned (.tuple #[]) ∧ w' = w.setCell ⟨b, 0, none⟩ (.pointer (some ⟨b, 0, none⟩)) := by
  obtain ⟨j, hj, hjs⟩ := info91
  go_enter Tryd.func60, Tryd.ntmps60
  go_wp2
  rw [Lib.run_to_unsafe w ⟨b, 0, none⟩ Tryd.underlying89 Tryd.underlying130 hj (by rw [hjs]; decide) hsh (Nat.zero_lt_succ 1)]
  simp only [Result.andThen]
  rw [Oper.upon_value]
  go_wp2
  rw [run_callFunc_extern Tryd.func72 (by kernel_rfl) (by kernel_rfl) (by kernel_rfl) (e := Extern.AbiNoEscape.same) (by kernel_rfl)]
  rw [Lib.run_noEscape]
  simp only [Result.andThen]
  rw [Oper.upon_value]
  go_wp2
  rw [Lib.run_from_unsafe w ⟨b, 0, none⟩ Tryd.underlying130 Tryd.underlying89 hj hsh lies93]
  simp only [Result.andThen]
  rw [Oper.upon_value]
  go_wp2
  go_end0
  exact ⟨rfl, rfl⟩

/-- What stands in the struct's block. -/
def Blk (w : World) (b : Nat) (q v : Value) : Prop := w.heap[b]? = some (.cells #[q, v] 93)
theorem Blk.c0 {w : World} {b : Nat} {q v : Value} (h : Blk w b q v) : w.cell? ⟨b, 0, none⟩ = some q := by rw [Lib.cell_of_heap h]; rfl
theorem Blk.c1 {w : World} {b : Nat} {q v : Value} (h : Blk w b q v) : w.cell? ⟨b, 1, none⟩ = some v := by rw [Lib.cell_of_heap h]; rfl
theorem Blk.lt {w : World} {b : Nat} {q v : Value} (h : Blk w b q v) : b < w.heap.size := (Array.getElem?_eq_some_iff.1 h).1
theorem Blk.set {w : World} {b : Nat} {q v q' : Value} (h : Blk w b q v) : Blk (w.setCell ⟨b, 0, none⟩ q') b q' v := by
  unfold Blk at h ⊢
  simp [World.setCell, Array.getElem?_modify, h]
theorem Blk.set1 {w : World} {b : Nat} {q v v' : Value} (h : Blk w b q v) : Blk (w.setCell ⟨b, 1, none⟩ v') b q v' := by
  unfold Blk at h ⊢
  simp [World.setCell, Array.getElem?_modify, h]
theorem setCell_off (w : World) {b k : Nat} {o : Nat} {v : Value} (h : k ≠ b) : (w.setCell ⟨b, o, none⟩ v).heap[k]? = w.heap[k]? := by
  simp [World.setCell, Array.getElem?_modify, Ne.symm h]

theorem check {b : Nat} {w : World} {q v : Value} (h : Blk w b q v) (hq : q = .pointer none ∨ q = .pointer (some ⟨b, 0, none⟩)) :
    Calls Tryd.prog 60 #[.pointer (some ⟨b, 0, none⟩)] w fun e w' => e = .returned (.tuple #[]) ∧ Blk w' b (.pointer (some ⟨b, 0, none⟩)) v ∧ w'.heap.size = w.heap.size ∧ (∀ k, k ≠ b → w'.heap[k]? = w.heap[k]?) ∧ (w'.os = w.os ∧ w'.output = w.output ∧ w'.tape = w.tape) := by
  rcases hq with rfl | rfl
  · refine (check_fresh b w h.c0 (by unfold Blk at h; simp [World.shape?, h]) (Lib.frozen_of_heap h 0)).mono ?_
    rintro e w' ⟨rfl, rfl⟩
    exact ⟨rfl, h.set, by simp [World.setCell], fun k hk => setCell_off w hk, rfl, rfl, rfl⟩
  · refine (check_used b w h.c0).mono ?_
    rintro e w' ⟨rfl, rfl⟩
    exact ⟨rfl, h, rfl, fun _ _ => rfl, rfl, rfl, rfl⟩

theorem len_walk {b : Nat} {w : World} {q : Value} {a : Option Addr} {n cap : Nat} (h : Blk w b q (.slice a n cap)) :
    Calls Tryd.prog 50 #[.pointer (some ⟨b, 0, none⟩)] w fun e w' => e = .returned (.int .i64 n) ∧ w' = w := by
  have c1 := h.c1
  go_enter Tryd.func50, Tryd.ntmps50
  go_wp2
  go_ret
  exact ⟨rfl, rfl⟩

/-- The bytes' row. -/
def RowR (w : World) (v : Value) (xs : List UInt8) (S : Nat → Prop) (b : Nat) : Prop :=
  (v = .slice none 0 0 ∧ xs = []) ∨ ∃ g cap cur, v = .slice (some ⟨g, 0, none⟩) xs.length cap ∧ S g ∧ g ≠ b ∧ w.heap[g]? = some (.cells cur 5) ∧ xs.length ≤ cap ∧ cap ≤ maxLen ∧ cur.size = cap ∧
      cur.toList.take xs.length = xs.map fun c => Value.int .u8 c.toNat
theorem RowR.own {w : World} {v : Value} {xs : List UInt8} {S : Nat → Prop} {b : Nat} (h : RowR w v xs S b) : w.ownsRow 0 5 1 v xs.length (Lib.byteCells xs) ∧ (∀ g, v.ownBlock = some g → S g ∧ g ≠ b ∧ g < w.heap.size) := by
  rcases h with ⟨rfl, rfl⟩ | ⟨g, cap, cur, rfl, h1, h2, h3, h4, h5, h6, h7⟩
  · exact ⟨World.ownsRow_nil _ _ _ _, fun g hg => by simp [Value.ownBlock] at hg⟩
  · refine ⟨⟨by simp [Lib.byteCells], .inr ⟨g, cap, cur, rfl, Nat.zero_le _, h3, h4, h5, by omega, by rw [Nat.mul_one]; exact h7⟩⟩, fun g' hg => ?_⟩
    simp [Value.ownBlock] at hg
    subst hg
    exact ⟨h1, h2, (Array.getElem?_eq_some_iff.1 h3).1⟩

theorem byte_info : ∃ i, Tryd.prog.info? 5 = some i ∧ i.zero = some (.int .u8 0) ∧ i.size = 1 ∧ i.bytes = 1 := info_parts (by kernel_rfl)

/-- What an append leaves. -/
structure RowTo (w w' : World) (v v' : Value) (ys : List UInt8) (S : Nat → Prop) (b : Nat) : Prop where
  row : RowR w' v' ys (fun d => S d ∨ w.heap.size ≤ d) b
  size : w.heap.size ≤ w'.heap.size
  keep : ∀ k, k < w.heap.size → v.ownBlock ≠ some k → w'.heap[k]? = w.heap[k]?
  io : w'.os = w.os ∧ w'.output = w.output ∧ w'.tape = w.tape

/-- A new row. -/
theorem row_new {w : World} {v : Value} {ys : List UInt8} {S : Nat → Prop} {b cap : Nat} {cur : Array Value} (hb : b < w.heap.size) (hc : ys.length ≤ cap) (hm : cap ≤ maxLen) (hs : cur.size = cap) (ht : cur.toList.take ys.length = ys.map fun c => Value.int .u8 c.toNat) :
    RowTo w (w.drew.alloc (.cells cur 5)) v (.slice (some ⟨w.heap.size, 0, none⟩) ys.length cap) ys S b :=
  ⟨.inr ⟨w.heap.size, cap, cur, rfl, .inr (Nat.le_refl _), by omega, alloc_new w.drew _, hc, hm, hs, ht⟩, by rw [show (w.drew.alloc (.cells cur 5)).heap.size = w.heap.size + 1 from alloc_size w.drew _]; omega, fun k hk _ => Lib.alloc_old w.drew _ k hk, rfl, rfl, rfl⟩
/-- The row itself. -/
theorem row_room {w : World} {xs ys : List UInt8} {S : Nat → Prop} {b g cap : Nat} {cur cur' : Array Value} (h1 : S g) (h2 : g ≠ b) (hg : w.heap[g]? = some (.cells cur 5)) (hc : ys.length ≤ cap) (hm : cap ≤ maxLen) (hs : cur'.size = cap)
    (ht : cur'.toList.take ys.length = ys.map fun c => Value.int .u8 c.toNat) : RowTo w (w.setRow g cur') (.slice (some ⟨g, 0, none⟩) xs.length cap) (.slice (some ⟨g, 0, none⟩) ys.length cap) ys S b :=
  ⟨.inr ⟨g, cap, cur', rfl, .inl h1, h2, setRow_heap w g cur _ 5 _ hg, hc, hm, hs, ht⟩, by simp, fun k _ hk => setRow_other w g k _ (fun e => hk (by simp [Value.ownBlock, e])), rfl, rfl, rfl⟩

theorem zeros_size (n : Nat) : (Builtin.zeroCells (Value.int .u8 0).cells n).size = n := by
  rw [size_zeroCells]; show n * 1 = n; omega

theorem row_str {w : World} {v : Value} {xs : List UInt8} {S : Nat → Prop} {b : Nat} (h : RowR w v xs S b) (hb : b < w.heap.size) (s : List UInt8) (hl : xs.length + s.length ≤ 140737488355328) :
    ∃ v' w', (Builtin.append_ #[35, 9] 35 #[v, strV s]).run Tryd.prog w = .ok v' w' ∧ RowTo w w' v v' (xs ++ s) S b := by
  obtain ⟨i, hi, hz, hsz, hby⟩ := byte_info
  have hss : (⟨⟨s⟩⟩ : ByteArray).size = s.length := rfl
  have hcs : Lib.strCells ⟨⟨s⟩⟩ = s.map fun c => Value.int .u8 c.toNat := rfl
  have hlen : (xs ++ s).length = xs.length + s.length := List.length_append
  rcases h with ⟨rfl, rfl⟩ | ⟨g, cap, cur, rfl, h1, h2, h3, h4, h5, h6, h7⟩
  · obtain ⟨v', w', r1, r2, r3, r4⟩ := Lib.run_append_own_string (P := Tryd.prog) w w.heap.size 35 9 35 5 i Tryd.underlying35 Tryd.underlying9 hi hz hsz hby (.slice none 0 0) 0 [] (World.ownsRow_nil _ _ _ _) ⟨⟨s⟩⟩ (by rw [hss]; unfold maxLen; omega) (by rw [hss]; omega) (Nat.le_refl _)
    refine ⟨v', w', r1, ⟨?_, r3.size, fun k hk _ => r3.block k hk (by simp [Value.ownBlock]), r3.os, r3.output, r3.tape⟩⟩
    rcases r2.2 with ⟨rfl, hn⟩ | ⟨g, cap, cur, rfl, g1, g2, g3, g4, g5, g6⟩
    · refine .inl ⟨rfl, ?_⟩
      rw [hss] at hn
      simpa using (show s.length = 0 by omega)
    · rw [hss] at g3 g6 ⊢
      refine .inr ⟨g, cap, cur, by simp, .inr g1, by omega, g2, by simpa using g3, g4, by omega, ?_⟩
      rw [hcs] at g6
      simpa using g6
  · by_cases hroom : xs.length + s.length ≤ cap
    · have hr := Lib.run_append_room_string (P := Tryd.prog) w 35 9 35 5 i Tryd.underlying35 Tryd.underlying9 hi hsz g xs.length cap cur h3 ⟨⟨s⟩⟩ hroom (by rw [h6]; exact hroom)
      refine ⟨_, _, hr, ?_⟩
      rw [hss, ← hlen]
      refine row_room h1 h2 h3 (by rw [hlen]; exact hroom) h5 ?_ ?_
      · simp only [List.size_toArray, List.length_append, List.length_take, List.length_drop, Array.length_toList, hcs, List.length_map]
        omega
      · rw [h7, hcs, List.map_append]
        exact List.take_left' (by simp)
    · have holds : ∀ j u, (xs.map fun c => Value.int .u8 c.toNat)[j]? = some u → w.cell? ((⟨g, 0, none⟩ : Addr).add j) = some u := (RowR.own (.inr ⟨g, cap, cur, rfl, h1, h2, h3, h4, h5, h6, h7⟩)).1.cells (g := g) rfl
      have hr := Lib.run_append_grow_string (P := Tryd.prog) w 35 9 35 5 i _ Tryd.underlying35 Tryd.underlying9 hi hz ⟨g, 0, none⟩ xs.length cap _ (by simp [hsz]) holds ⟨⟨s⟩⟩ (by rw [hss]; omega) (by rw [hss]; omega) (growslice_fits (by rw [hss]; omega) (by rw [hss, hby]; omega))
      refine ⟨_, _, hr, ?_⟩
      rw [hss, ← hlen]
      have hge := grownCap_ge w (xs ++ s).length cap 5
      refine row_new hb hge (grownCap_le_maxLen w _ _ _ (by rw [hlen]; unfold maxLen; omega)) ?_ ?_
      · simp only [Array.size_append, List.size_toArray, zeros_size, hcs, List.length_map]
        omega
      · rw [hcs]
        simp only [Array.toList_append, List.append_assoc]
        rw [← List.append_assoc, ← List.map_append]
        exact List.take_left' (by simp)

theorem row_byte {w : World} {v : Value} {xs : List UInt8} {S : Nat → Prop} {b : Nat} (h : RowR w v xs S b) (hb : b < w.heap.size) (c : UInt8) (a : Addr) (ha : w.cell? a = some (.int .u8 c.toNat)) (hl : xs.length + 1 ≤ 140737488355328) :
    ∃ v' w', (Builtin.append_ #[35, 35] 35 #[v, .slice (some a) 1 1]).run Tryd.prog w = .ok v' w' ∧ RowTo w w' v v' (xs ++ [c]) S b := by
  obtain ⟨i, hi, hz, hsz, hby⟩ := byte_info
  have hlen : (xs ++ [c]).length = xs.length + 1 := by simp
  have hnews : ∀ (j : Nat) u, ([Value.int .u8 c.toNat] : List Value)[j]? = some u → w.cell? (a.add j) = some u := by
    intro j u hu
    match j, hu with
    | 0, hu => simp at hu; subst hu; simpa [Addr.add] using ha
  rcases h with ⟨rfl, rfl⟩ | ⟨g, cap, cur, rfl, h1, h2, h3, h4, h5, h6, h7⟩
  · have hr := run_append_nil (P := Tryd.prog) w 35 35 5 i _ Tryd.underlying35 hi hz a 1 1 [.int .u8 c.toNat] (by simp [hsz]) hnews (by decide) (by decide) (by rw [hby]; decide)
    refine ⟨_, _, hr, ?_⟩
    have hge := grownCap_ge w 1 0 5
    refine row_new (ys := [c]) hb (by simpa using hge) (grownCap_le_maxLen w _ _ _ (by decide)) ?_ ?_
    · simp only [Array.size_append, List.size_toArray, zeros_size, List.length_singleton]
      omega
    · simp
  · by_cases hroom : xs.length + 1 ≤ cap
    · have hr := run_append_room (P := Tryd.prog) w 35 35 5 i Tryd.underlying35 hi g xs.length cap cur h3 a 1 1 [.int .u8 c.toNat] (by simp [hsz]) hnews (by intro u hu; simp at hu; subst hu; rfl) hroom (by rw [h6, hsz]; simp; omega)
      refine ⟨_, _, hr, ?_⟩
      rw [← hlen]
      refine row_room h1 h2 h3 (by rw [hlen]; exact hroom) h5 ?_ ?_
      · simp only [List.size_toArray, List.length_append, List.length_take, List.length_drop, Array.length_toList, hsz, List.length_singleton]
        omega
      · rw [hsz, Nat.mul_one, h7]
        have : ([Value.int .u8 c.toNat] : List Value) = [c].map fun c => Value.int .u8 c.toNat := rfl
        rw [this, ← List.map_append]
        exact List.take_left' (by simp)
    · have holds : ∀ j u, (xs.map fun c => Value.int .u8 c.toNat)[j]? = some u → w.cell? ((⟨g, 0, none⟩ : Addr).add j) = some u := (RowR.own (.inr ⟨g, cap, cur, rfl, h1, h2, h3, h4, h5, h6, h7⟩)).1.cells (g := g) rfl
      have hr := run_append_grow (P := Tryd.prog) w 35 35 5 i _ Tryd.underlying35 hi hz ⟨g, 0, none⟩ xs.length cap _ (by simp [hsz]) holds a 1 1 [.int .u8 c.toNat] (by simp [hsz]) hnews (by omega) (by omega) (growslice_fits (by omega) (by rw [hby]; omega))
      refine ⟨_, _, hr, ?_⟩
      rw [← hlen]
      have hge := grownCap_ge w (xs ++ [c]).length cap 5
      refine row_new hb hge (grownCap_le_maxLen w _ _ _ (by rw [hlen]; unfold maxLen; omega)) ?_ ?_
      · simp only [Array.size_append, List.size_toArray, zeros_size, List.length_map, List.length_singleton]
        omega
      · have : ([Value.int .u8 c.toNat] : List Value) = [c].map fun c => Value.int .u8 c.toNat := rfl
        simp only [Array.toList_append, List.append_assoc]
        rw [this, ← List.append_assoc, ← List.map_append]
        exact List.take_left' (by simp)

theorem RowR.mono {w w' : World} {v : Value} {xs : List UInt8} {S S' : Nat → Prop} {b : Nat} (h : RowR w v xs S b) (hS : ∀ d, S d → S' d) (hk : ∀ g, S g → g ≠ b → g < w.heap.size → w'.heap[g]? = w.heap[g]?) : RowR w' v xs S' b := by
  refine h.imp id ?_
  rintro ⟨g, cap, cur, h1, h2, h3, h4, h5⟩
  exact ⟨g, cap, cur, h1, hS g h2, h3, by rw [hk g h2 h3 (Array.getElem?_eq_some_iff.1 h4).1, h4], h5⟩

theorem wpList_append_run {P : Program} {w w' : World} {ops : Array Oper} {rest : List Oper} {o : Oper} {a : Act} {Q : Exit → Act → World → Prop} (hgd : o.guard = none) (s x : Operand) (t u : TypeId)
    (ho : o.op = .call { callee := .builtin .append, args := #[s, x], argTypes := #[t, u] }) {v y v' : Value} (hs : a.eval s = v) (hx : a.eval x = y)
    (hr : (Builtin.append_ #[t, u] o.type #[v, y]).run P w = .ok v' w') (h : wpList P ops Q rest (a.put o.dst v') w') : wpList P ops Q (o :: rest) a w :=
  wpList_plain hgd fun _ hK => by
    unfold Oper.wp execOp
    simp only [ho, resolve, invoke, builtin, Sem.run_bind, Sem.run_pure, Result.andThen_ok, List.map_toArray, List.map_cons, List.map_nil, hs, hx, hr]
    exact hK _ _ h

/-- What a write leaves. -/
structure Wrote (w w' : World) (b : Nat) (ys : List UInt8) (S : Nat → Prop) : Prop where
  blk : ∃ v, Blk w' b (.pointer (some ⟨b, 0, none⟩)) v ∧ RowR w' v ys (fun d => S d ∨ w.heap.size ≤ d) b
  size : w.heap.size ≤ w'.heap.size
  keep : ∀ k, k < w.heap.size → ¬ S k → k ≠ b → w'.heap[k]? = w.heap[k]?
  io : w'.os = w.os ∧ w'.output = w.output ∧ w'.tape = w.tape

theorem wstr_walk {b : Nat} {w : World} {q v : Value} {xs : List UInt8} {S : Nat → Prop} (h : Blk w b q v) (hq : q = .pointer none ∨ q = .pointer (some ⟨b, 0, none⟩)) (hrow : RowR w v xs S b) (s : List UInt8) (hl : xs.length + s.length ≤ 140737488355328) :
    Calls Tryd.prog 52 #[.pointer (some ⟨b, 0, none⟩), strV s] w fun e w' => e = .returned (.tuple #[.int .i64 s.length, .nilIface]) ∧ Wrote w w' b (xs ++ s) S := by
  have e60 : ∀ args w, (callFunc 60 args).run Tryd.prog w = .ok (.enter 60 args) w := enters_of Tryd.func60 (by kernel_rfl) rfl
  have hb := h.lt
  unfold strV
  go_enter Tryd.func52, Tryd.ntmps52
  go_wp2_with (go_at_call 60; refine (check h hq).mono ?_)
  rintro e w1 ⟨rfl, h1, z1, k1, i1⟩
  have hrow1 : RowR w1 v xs S b := hrow.mono (fun _ h => h) fun g _ hg _ => k1 g hg
  have c1 := h1.c1
  obtain ⟨v', w2, hr, r1, r2, r3, r4⟩ := row_str hrow1 (by rw [z1]; exact hb) s hl
  obtain ⟨ao, n', cap, rfl⟩ : ∃ ao n' cap, v' = .slice ao n' cap := by
    rcases r1 with ⟨hv, _⟩ | ⟨g, cap, cur, hv, _⟩
    · exact ⟨_, _, _, hv⟩
    · exact ⟨_, _, _, hv⟩
  unfold strV at hr
  have hvne : v.ownBlock ≠ some b := fun e => (hrow1.own.2 b e).2.1 rfl
  have h2 : Blk w2 b (.pointer (some ⟨b, 0, none⟩)) v := by unfold Blk; rw [r3 b (by rw [z1]; exact hb) hvne]; exact h1
  have d1 := h2.c1
  have f1 : w2.frozen? ⟨b, 1, none⟩ = false := Lib.frozen_of_heap h2 1
  go_wp2_with (at_builtin; refine wpList_append_run rfl _ _ 35 9 rfl rfl rfl hr ?_)
  go_ret2
  refine ⟨rfl, ⟨_, h2.set1, r1.mono (fun d hd => hd.imp id fun h => by omega) fun g _ hg _ => setCell_off _ hg⟩, ?_, fun k hk hS hkb => ?_, ?_⟩
  · simp only [World.setCell, Array.size_modify]; omega
  · rw [setCell_off _ hkb, r3 k (by omega) (fun e => hS (hrow1.own.2 k e).1), k1 k hkb]
  · exact ⟨r4.1.trans i1.1, r4.2.1.trans i1.2.1, r4.2.2.trans i1.2.2⟩

theorem wpList_byte {w0 : World} {ops : Array Oper} {rest : List Oper} {o : Oper} {a : Act} {Q : Exit → Act → World → Prop} (hgd : o.guard = none) (s x : Operand)
    (ho : o.op = .call { callee := .builtin .append, args := #[s, x], argTypes := #[35, 35] }) (hty : o.type = 35) {v : Value} {xs : List UInt8} {S : Nat → Prop} {b : Nat} (hs : a.eval s = v) (hrow : RowR w0 v xs S b) (hb : b < w0.heap.size)
    (ad : Addr) (c : UInt8) (hx : a.eval x = .slice (some ad) 1 1) (hc : w0.cell? ad = some (.int .u8 c.toNat)) (hl : xs.length + 1 ≤ 140737488355328)
    (h : ∀ ao n cap w2, RowTo w0 w2 v (.slice ao n cap) (xs ++ [c]) S b → wpList Tryd.prog ops Q rest (a.put o.dst (.slice ao n cap)) w2) : wpList Tryd.prog ops Q (o :: rest) a w0 := by
  obtain ⟨v', w2, hr, h1⟩ := row_byte hrow hb c ad hc hl
  obtain ⟨ao, n', cap, rfl⟩ : ∃ ao n' cap, v' = .slice ao n' cap := by
    rcases h1.row with ⟨hv, _⟩ | ⟨g, cap, cur, hv, _⟩
    · exact ⟨_, _, _, hv⟩
    · exact ⟨_, _, _, hv⟩
  exact wpList_append_run hgd s x 35 35 ho hs hx (by rw [hty]; exact hr) (h _ _ _ _ h1)

set_option maxHeartbeats 1000000 in
theorem wbyte_walk {b : Nat} {w : World} {q v : Value} {xs : List UInt8} {S : Nat → Prop} (h : Blk w b q v) (hq : q = .pointer none ∨ q = .pointer (some ⟨b, 0, none⟩)) (hrow : RowR w v xs S b) (c : UInt8) (hl : xs.length + 1 ≤ 140737488355328) :
    Calls Tryd.prog 51 #[.pointer (some ⟨b, 0, none⟩), .int .u8 c.toNat] w fun e w' => e = .returned .nilIface ∧ Wrote w w' b (xs ++ [c]) S := by
  have e60 : ∀ args w, (callFunc 60 args).run Tryd.prog w = .ok (.enter 60 args) w := enters_of Tryd.func60 (by kernel_rfl) rfl
  have hb := h.lt
  go_enter Tryd.func51, Tryd.ntmps51
  go_wp2_with (go_at_call 60; refine (check h hq).mono ?_)
  rintro e w1 ⟨rfl, h1, z1, k1, i1⟩
  have hb1 : b < w1.heap.size := by rw [z1]; exact hb
  have z2 : w1.heap.size ≤ w.heap.size ∧ w.heap.size ≤ w1.heap.size := by omega
  clear z1
  have hrow1 : RowR w1 v xs S b := hrow.mono (fun _ h => h) fun g _ hg _ => k1 g hg
  have hrowA : ∀ o, RowR (w1.alloc o) v xs S b := fun o => hrow1.mono (fun _ h => h) fun g _ _ hlt => Lib.alloc_old w1 _ g hlt
  have c1 := h1.c1
  go_wp2_with (at_builtin; refine wpList_byte rfl _ _ rfl rfl rfl (hrowA _) ?c0 ⟨w1.heap.size, 0, none⟩ c rfl ?c1 hl ?_)
  case c0 => rw [alloc_size]; omega
  case c1 => simp
  intro ao n' cap w2 ⟨r1, r2, r3, r4⟩
  rw [alloc_size] at r1 r2 r3
  have hvne : v.ownBlock ≠ some b := fun e => (hrow1.own.2 b e).2.1 rfl
  have h2 : Blk w2 b (.pointer (some ⟨b, 0, none⟩)) v := by unfold Blk; rw [r3 b (by omega) hvne, Lib.alloc_old w1 _ b hb1]; exact h1
  have d1 := h2.c1
  have f1 : w2.frozen? ⟨b, 1, none⟩ = false := Lib.frozen_of_heap h2 1
  have k3 : ∀ k, k < w1.heap.size → ¬ S k → w2.heap[k]? = w1.heap[k]? := fun k hk hS => by rw [r3 k (by omega) (fun e => hS (hrow1.own.2 k e).1), Lib.alloc_old w1 _ k hk]
  have i4 : w2.os = w1.os ∧ w2.output = w1.output ∧ w2.tape = w1.tape := r4
  clear r3 r4 hrowA
  go_wp2
  go_ret
  refine ⟨rfl, ⟨_, h2.set1, r1.mono (fun d hd => hd.imp id fun h => by omega) fun g _ hg _ => setCell_off _ hg⟩, ?_, fun k hk hS hkb => ?_, ?_⟩
  · simp only [World.setCell, Array.size_modify]; omega
  · rw [setCell_off _ hkb, k3 k (by omega) hS, k1 k hkb]
  · exact ⟨i4.1.trans i1.1, i4.2.1.trans i1.2.1, i4.2.2.trans i1.2.2⟩

/-- What reading leaves: only the row may be marked. -/
structure Read (w w' : World) (S : Nat → Prop) : Prop where
  size : w.heap.size ≤ w'.heap.size
  keep : ∀ k, k < w.heap.size → ¬ S k → w'.heap[k]? = w.heap[k]?
  io : w'.os = w.os ∧ w'.output = w.output ∧ w'.tape = w.tape

theorem str_nil {b : Nat} {w : World} {q : Value} {S : Nat → Prop} (h : Blk w b q (.slice none 0 0)) :
    Calls Tryd.prog 43 #[.pointer (some ⟨b, 0, none⟩)] w fun e w' => e = .returned (.string ⟨#[]⟩) ∧ Read w w' S := by
  have hUS : ∀ (W : World) (q : Option Addr), (Builtin.unsafeString_ #[106, 3] 9 #[.pointer q, .int .i64 0]).run Tryd.prog W = .ok (.string .empty) W := fun W q => Lib.run_unsafeString_none W _ _ _ q
  have c1 : w.drew.cell? ⟨b, 1, none⟩ = some (.slice none 0 0) := h.c1
  have hSD : (Builtin.unsafeSliceData_ #[35] 106 #[.slice none 0 0]).run Tryd.prog w.drew = .ok (.pointer none) w.drew := rfl
  go_enter Tryd.func43, Tryd.ntmps43
  go_wp2
  go_region
  all_goals (go_wp2; go_ret; exact ⟨rfl, Nat.le_refl _, fun _ _ _ => rfl, rfl, rfl, rfl⟩)

theorem str_noroom {b g : Nat} {w : World} {q : Value} {S : Nat → Prop} {cur : Array Value} (h : Blk w b q (.slice (some ⟨g, 0, none⟩) 0 0)) (hg : w.heap[g]? = some (.cells cur 5)) :
    Calls Tryd.prog 43 #[.pointer (some ⟨b, 0, none⟩)] w fun e w' => e = .returned (.string ⟨#[]⟩) ∧ Read w w' S := by
  have hUS : ∀ (W : World) (q : Option Addr), (Builtin.unsafeString_ #[106, 3] 9 #[.pointer q, .int .i64 0]).run Tryd.prog W = .ok (.string .empty) W := fun W q => Lib.run_unsafeString_none W _ _ _ q
  have hlt := h.lt
  have c1 : w.drew.cell? ⟨b, 1, none⟩ = some (.slice (some ⟨g, 0, none⟩) 0 0) := h.c1
  have hSD : (Builtin.unsafeSliceData_ #[35] 106 #[.slice (some ⟨g, 0, none⟩) 0 0]).run Tryd.prog w.drew = .ok (.pointer (some ⟨w.drew.heap.size, 0, none⟩)) (w.drew.alloc (.view ⟨g, 0, none⟩ 5)) :=
    Lib.run_unsafeSliceData_zero w.drew _ _ 5 Tryd.underlying106 ⟨g, 0, none⟩ 0 (5, cur.size) (by have hg' : w.drew.heap[g]? = some (.cells cur 5) := hg; simp [World.shape?, hg'])
  have c2 : (w.drew.alloc (.view ⟨g, 0, none⟩ 5)).cell? ⟨b, 1, none⟩ = some (.slice (some ⟨g, 0, none⟩) 0 0) := by
    have : (w.drew.alloc (.view ⟨g, 0, none⟩ 5)).heap[b]? = _ := (Lib.alloc_old w.drew _ b hlt).trans h
    rw [Lib.cell_of_heap this]; rfl
  have c3 : (w.alloc (.view ⟨g, 0, none⟩ 5)).drew.cell? ⟨b, 1, none⟩ = some (.slice (some ⟨g, 0, none⟩) 0 0) := c2
  have c0 : w.cell? ⟨b, 1, none⟩ = some (.slice (some ⟨g, 0, none⟩) 0 0) := c1
  go_enter Tryd.func43, Tryd.ntmps43
  go_wp2
  go_region
  all_goals (go_wp2; go_ret; exact ⟨rfl, by simp, fun k hk _ => Lib.alloc_old w.drew _ k hk, rfl, rfl, rfl⟩)

theorem str_room {b g cap : Nat} {w : World} {q : Value} {S : Nat → Prop} (hc0 : cap ≠ 0) (h : Blk w b q (.slice (some ⟨g, 0, none⟩) 0 cap)) :
    Calls Tryd.prog 43 #[.pointer (some ⟨b, 0, none⟩)] w fun e w' => e = .returned (.string ⟨#[]⟩) ∧ Read w w' S := by
  have hUS : ∀ (W : World) (q : Option Addr), (Builtin.unsafeString_ #[106, 3] 9 #[.pointer q, .int .i64 0]).run Tryd.prog W = .ok (.string .empty) W := fun W q => Lib.run_unsafeString_none W _ _ _ q
  have c1 : w.drew.cell? ⟨b, 1, none⟩ = some (.slice (some ⟨g, 0, none⟩) 0 cap) := h.c1
  have hSD : (Builtin.unsafeSliceData_ #[35] 106 #[.slice (some ⟨g, 0, none⟩) 0 cap]).run Tryd.prog w.drew = .ok (.pointer (some ⟨g, 0, none⟩)) w.drew :=
    Lib.run_unsafeSliceData_row _ _ _ _ _ _ hc0
  clear hc0
  go_enter Tryd.func43, Tryd.ntmps43
  go_wp2
  go_region
  all_goals (go_wp2; go_ret; exact ⟨rfl, Nat.le_refl _, fun _ _ _ => rfl, rfl, rfl, rfl⟩)

theorem freeze_keep (W : World) (g n : Nat) : (W.freeze ⟨g, 0, none⟩ n).heap.size = W.heap.size ∧ (∀ k, k ≠ g → (W.freeze ⟨g, 0, none⟩ n).heap[k]? = W.heap[k]?) ∧ (W.freeze ⟨g, 0, none⟩ n).os = W.os ∧ (W.freeze ⟨g, 0, none⟩ n).output = W.output ∧ (W.freeze ⟨g, 0, none⟩ n).tape = W.tape := by
  refine ⟨freeze_size W _ _, fun k hk => freeze_ne W (by show g ≠ k; exact Ne.symm hk), ?_⟩
  unfold World.freeze; split <;> exact ⟨rfl, rfl, rfl⟩

theorem str_some {b g cap : Nat} {w : World} {q : Value} {S : Nat → Prop} {xs : List UInt8} {cur : Array Value} (h0 : xs ≠ []) (hS : S g) (h : Blk w b q (.slice (some ⟨g, 0, none⟩) xs.length cap)) (hg : w.heap[g]? = some (.cells cur 5)) (hnc : xs.length ≤ cap) (hcm : cap ≤ maxLen) (hcs : cur.size = cap)
    (hcell : ∀ j u, (Lib.byteCells xs)[j]? = some u → w.cell? ((⟨g, 0, none⟩ : Addr).add j) = some u) :
    Calls Tryd.prog 43 #[.pointer (some ⟨b, 0, none⟩)] w fun e w' => e = .returned (.string ⟨xs.toArray⟩) ∧ Read w w' S := by
  have hl0 : xs.length ≠ 0 := by simpa using h0
  have c1 : w.drew.cell? ⟨b, 1, none⟩ = some (.slice (some ⟨g, 0, none⟩) xs.length cap) := h.c1
  have hSD : (Builtin.unsafeSliceData_ #[35] 106 #[.slice (some ⟨g, 0, none⟩) xs.length cap]).run Tryd.prog w.drew = .ok (.pointer (some ⟨g, 0, none⟩)) w.drew :=
    Lib.run_unsafeSliceData_row _ _ _ _ _ _ (by omega)
  have hUS : (Builtin.unsafeString_ #[106, 3] 9 #[.pointer (some ⟨g, 0, none⟩), .int .i64 xs.length]).run Tryd.prog w.drew = .ok (.string ⟨xs.toArray⟩) (w.drew.freeze ⟨g, 0, none⟩ xs.length) := by
    refine Lib.run_unsafeString_row w.drew 106 3 9 5 Tryd.underlying106 (by kernel_rfl) g cur.size (by have hg' : w.drew.heap[g]? = some (.cells cur 5) := hg; simp [World.shape?, hg']) xs h0 (by omega) (by unfold maxLen at hcm; omega) ?_
    intro j x hx
    exact hcell j (.int .u8 x.toNat) (by simp [Lib.byteCells, hx])
  clear hcell hcs hnc hg
  go_enter Tryd.func43, Tryd.ntmps43
  go_wp2
  go_region
  all_goals (go_wp2; go_ret; exact ⟨rfl, by rw [(freeze_keep _ _ _).1]; exact Nat.le_refl _, fun k hk hn => (freeze_keep _ _ _).2.1 k (fun e => hn (e ▸ hS)), (freeze_keep _ _ _).2.2⟩)

theorem str_walk {b : Nat} {w : World} {q v : Value} {xs : List UInt8} {S : Nat → Prop} (h : Blk w b q v) (hrow : RowR w v xs S b) :
    Calls Tryd.prog 43 #[.pointer (some ⟨b, 0, none⟩)] w fun e w' => e = .returned (strV xs) ∧ Read w w' S := by
  have hcell := fun g (hg : v.ownBlock = some g) => (hrow.own.1).cells hg
  rcases hrow with ⟨rfl, rfl⟩ | ⟨g, cap, cur, rfl, h1, h2, h3, h4, h5, h6, h7⟩
  · exact str_nil h
  · cases xs with
    | nil =>
      by_cases hc : cap = 0
      · subst hc; exact str_noroom h h3
      · exact str_room hc h
    | cons x r => exact str_some (by simp) h1 h h3 h4 h5 h6 (hcell g rfl)
end Go.Mach
