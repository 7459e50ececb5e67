/-
  A part of the proofs of renlaw25.JudgeErases and renlaw25.JudgeCells: each law returns true for every input of the stated bulk and leaves its arguments as they were; no further condition.
  By an AI agent; no person has read it.
-/
import Derived.Test.YtjfbodbfjhgffaaGreatDoorPjac
import Derived.Test.YtjfbodbfjhgffaaGreatDoorPjba
import Derived.Test.YtjfbodbfjhgffaaGreatDoorPjbe
import Derived.Test.YtjfbodbfjhgffaaGreatDoorCards
import Derived.WalkKit
import Derived.ProofKit
import Derived.OpenShut
import Derived.Deep.DeepHandedRow
import Derived.Lib.LaidTab
import Derived.Stop.LaidErr
import Derived.Shelf.Vars
set_option linter.all false
set_option linter.deprecated false
set_option maxRecDepth 100000
namespace Go.Proofs.YtjfbodbfjhgffaaGreatDoor
open Go.Mach Go.ChangeShapes Go.WideShapes Go.ChangeAt Go.RowKit
theorem bulk_part{H:Type}{d:DataW H}{l:List (DataW H)}(h:d∈l):Rows.uptoBulk d<=Rows.uptoBulkAll l:=by
 induction l with
 |nil=>cases h
 |cons x r ih =>
  simp only [Rows.uptoBulkAll]
  cases List.mem_cons.1 h with
  |inl e=>subst e;omega
  |inr e=>have:=ih e;omega
theorem bulk_one{H:Type}(d:DataW H):1<=Rows.uptoBulk d:=by
 cases d with
 |lit l=>cases l<;>simp [Rows.uptoBulk]
 |_=>simp [Rows.uptoBulk]
theorem bulk_len{H:Type}(l:List (DataW H)):l.length<=Rows.uptoBulkAll l:=by
 induction l with
 |nil=>simp [Rows.uptoBulkAll]
 |cons x r ih=>have:=bulk_one x;simp only [Rows.uptoBulkAll,List.length_cons];omega
theorem sm_of{H:Type}:Sm (H:=H) 1048576 λd=>Rows.uptoBulk d<=1048576 where
 str b h:=by simp only [Rows.uptoBulk] at h;omega
 sl es sp h:=by
  simp only [Rows.uptoBulk] at h;have h1:=bulk_len es;exact ⟨by omega,λd hd=>by have:=bulk_part hd;omega⟩
 agg l h:=by
  simp only [Rows.uptoBulk] at h
  exact λd hd=>by have:=bulk_part hd;omega
theorem sm_all{H:Type}{ds:List (DataW H)}{gs:List (DataW H)}(h:Rows.uptoSmall H (ds++gs)=true):∀ d∈ds,Rows.uptoBulk d<=1048576:=λd hd=>by
 have h:=of_decide_eq_true h;have:=bulk_part (List.mem_append_left gs hd);omega
theorem own_knob:ownKnob Tryz.prog.godebug=none:=by kernel_rfl
theorem bool_type:Tryz.prog.underlying 4=some .bool:=by kernel_rfl
theorem gPowType:(Tryz.prog.globals[3]?).map (·.type)=some 534:=by kernel_rfl
theorem gSynType:(Tryz.prog.globals[6]?).map (·.type)=some 651:=by kernel_rfl
theorem gRngType:(Tryz.prog.globals[7]?).map (·.type)=some 651:=by kernel_rfl
theorem cellsT:Tryz.prog.cellsOf 534=20:=by kernel_rfl
theorem cellsU:Tryz.prog.cellsOf 145=1:=by kernel_rfl
theorem cellsE:Tryz.prog.cellsOf 685=1:=by kernel_rfl
theorem cellsS:Tryz.prog.cellsOf 9=1:=by kernel_rfl
theorem star : "*" ++ "errors.errorString" = "*errors.errorString":=by decide
theorem rowE(u:TypeId)(h:Tryz.prog.typeName? 3 u=some "*errors.errorString"):u=683 :=
 typeName_ptr_named (nm := "errors.errorString") (by rw [star];kernel_rfl) (by kernel_rfl) (by decide) u (by rw [star];exact h)
def laids:List (String×DataW Unit):=[("unicode/utf8.first",Rows.laid_unicode_utf8_first),("unicode/utf8.acceptRanges",Rows.laid_unicode_utf8_acceptRanges),("internal/strconv.uint64pow10",Rows.laid_internal_strconv_uint64pow10),("math/bits.deBruijn32tab",Rows.laid_math_bits_deBruijn32tab),("math/bits.deBruijn64tab",Rows.laid_math_bits_deBruijn64tab),("strconv.ErrSyntax",Rows.laid_strconv_ErrSyntax),("strconv.ErrRange",Rows.laid_strconv_ErrRange)]
theorem globs_at{W:World}(hL:laidMetH Tryz.prog laids W)(hS:W.ShapedOpen Tryz.prog):globs.At W (Old W):=by
 have h:laidMet Tryz.prog laids W:=hL;obtain ⟨a1,s1,hv1,-,-,-⟩:=laid_sentinel (h.tail.tail.tail.tail.tail.tail) gRng gRngType Tryz.underlying651 rowE Tryz.underlying683 Tryz.underlying685 rfl rfl Tryz.underlying9 cellsE cellsS;obtain ⟨a2,s2,hv2,-,-,-⟩:=laid_sentinel (h.tail.tail.tail.tail.tail) gSyn gSynType Tryz.underlying651 rowE Tryz.underlying683 Tryz.underlying685 rfl rfl Tryz.underlying9 cellsE cellsS;refine ⟨⟨Lib.tabIs_of_head gPow gPowType Tryz.underlying534 Tryz.underlying145 cellsU cellsT (h.tail.tail),⟨_,_,hv2⟩,_,_,hv1⟩,λb hb=>?_⟩;obtain ⟨o,_,ho,_⟩:=hS.2 8 (of_decide_eq_true (by kernel_rfl)) (of_decide_eq_true (by kernel_rfl))
 have hlt:8 < W.heap.size:=by
  apply Classical.byContradiction;intro hn;rw [Array.getElem?_eq_none (by omega)] at ho;cases ho
 have hb:b < 8:=hb;show b < W.heap.size;omega
abbrev synS:ByteArray:={ data:=#[105,110,118,97,108,105,100,32,115,121,110,116,97,120] }
abbrev rngS:ByteArray:={ data:=#[118,97,108,117,101,32,111,117,116,32,111,102,32,114,97,110,103,101] }
noncomputable def low:Nat:=(World.holding Tryz.prog default ⟨#[],#[],[]⟩).heap.size
mutual
def tabCells:DataW Unit->List Value
 |.agg l=>tabCellsL l
 |.lit (.int k n)=>[Value.int k n]
 |_=>[]
def tabCellsL:List (DataW Unit)->List Value
 |[]=>[]
 |d::l=>tabCells d++tabCellsL l
end
def withCells(cs:Array Value):Obj->Obj
 |.cells _ t frozen=>.cells cs t frozen
 |o=>o
noncomputable def laidWorld(os:Os):World :=
 let w0:=World.holding Tryz.prog os ⟨#[.cells #[.string synS] 685,.cells #[.string rngS] 685],#[],[]⟩
 {w0 with heap:=(((((((w0.heap).modify 0 (withCells (tabCells Rows.laid_unicode_utf8_first).toArray)).modify 1 (withCells (tabCells Rows.laid_unicode_utf8_acceptRanges).toArray)).modify 3 (withCells (tabCells Rows.laid_internal_strconv_uint64pow10).toArray)).modify 4 (withCells (tabCells Rows.laid_math_bits_deBruijn32tab).toArray)).modify 5 (withCells (tabCells Rows.laid_math_bits_deBruijn64tab).toArray)).modify 6 (withCells #[.iface 683 (.pointer (some ⟨low,0,none⟩))])).modify 7 (withCells #[.iface 683 (.pointer (some ⟨low+1,0,none⟩))]) }
theorem laid_met(os:Os)(args:Array Value):laidMet Tryz.prog laids ((laidWorld os).forCall (λ_ _=>0) ⟨#[],args,[]⟩).memory :=
 laidMet_of_run' 300 (by kernel_rfl) (by kernel_rfl)
end Go.Proofs.YtjfbodbfjhgffaaGreatDoor

