/-
  Shared texts of the proofs of the laws renlaw13.AgentRefuses, renlaw13.AgentIs and renlaw13.AgentApart: each returns true for every input of the stated bulk and leaves its arguments as they were; no further condition.
  By an AI agent; no person has read it.
-/
import Derived.Test.YtfmfdkbpemiocaaGreatDoorPac
import Derived.Test.YtfmfdkbpemiocaaGreatDoorPav
import Derived.Test.YtfmfdkbpemiocaaGreatDoorCards
import Derived.Test.YtfmfdkbpemiocaaGreatDoorTie
import Derived.WalkKit
import Derived.ProofKit
import Derived.OpenShut
import Derived.Deep.DeepHandedRow
import Derived.Lib.LaidTab
import Derived.Stop.LaidErr
import Derived.Shelf.Vars
set_option linter.all false
set_option linter.deprecated false
set_option maxRecDepth 100000
namespace Go.Proofs.YtfmfdkbpemiocaaGreatDoor
open Go.Mach Go.ChangeShapes Go.WideShapes Go.ChangeAt Go.RowKit
theorem ud{H:Type}{d:DataW H}{l:List (DataW H)}(h:d∈l):Rows.uptoBulk d<=Rows.uptoBulkAll l:=by
 induction l with
 |nil=>cases h
 |cons x r ih =>
  simp only [Rows.uptoBulkAll]
  cases List.mem_cons.1 h with
  |inl e=>subst e;omega
  |inr e=>have:=ih e;omega
theorem Eu{H:Type}(d:DataW H):1<=Rows.uptoBulk d:=by
 cases d with
 |lit l=>cases l<;>simp [Rows.uptoBulk]
 |_=>simp [Rows.uptoBulk]
theorem E9{H:Type}(l:List (DataW H)):l.length<=Rows.uptoBulkAll l:=by
 induction l with
 |nil=>simp [Rows.uptoBulkAll]
 |cons x r ih=>have:=Eu x;simp only [Rows.uptoBulkAll,List.length_cons];omega
theorem El{H:Type}:Sm (H:=H) 1048576 λd=>Rows.uptoBulk d<=1048576 where
 str b h:=by simp only [Rows.uptoBulk] at h;omega
 sl es sp h:=by
  simp only [Rows.uptoBulk] at h;have h1:=E9 es;exact ⟨by omega,λd hd=>by have:=ud hd;omega⟩
 agg l h:=by
  simp only [Rows.uptoBulk] at h
  exact λd hd=>by have:=ud hd;omega
theorem BB{H:Type}{ds:List (DataW H)}{gs:List (DataW H)}(h:Rows.uptoSmall H (ds++gs)=true):∀ d∈ds,Rows.uptoBulk d<=1048576:=λd hd=>by
 have h:=of_decide_eq_true h;have:=ud (List.mem_append_left gs hd);omega
theorem w3:ownKnob Tryz.prog.godebug=none:=by kernel_rfl
theorem uz:Tryz.prog.underlying 4=some .bool:=by kernel_rfl
theorem E0:(Tryz.prog.globals[2]?).map (·.type)=some 285:=by kernel_rfl
theorem Fz:(Tryz.prog.globals[6]?).map (·.type)=some 412:=by kernel_rfl
theorem Fl:(Tryz.prog.globals[7]?).map (·.type)=some 412:=by kernel_rfl
theorem cellsT:Tryz.prog.cellsOf 285=20:=by kernel_rfl
theorem cellsU:Tryz.prog.cellsOf 32=1:=by kernel_rfl
theorem Fc:Tryz.prog.cellsOf 449=1:=by kernel_rfl
theorem F4:Tryz.prog.cellsOf 9=1:=by kernel_rfl
theorem star : "*" ++ "errors.errorString" = "*errors.errorString":=by decide
theorem rowE(u:TypeId)(h:Tryz.prog.typeName? 3 u=some "*errors.errorString"):u=447 :=
 typeName_ptr_named (nm := "errors.errorString") (by rw [star];kernel_rfl) (by kernel_rfl) (by decide) u (by rw [star];exact h)
def FF:List (String×DataW Unit):=[("math/bits.deBruijn32tab",Rows.laid_math_bits_deBruijn32tab),("math/bits.deBruijn64tab",Rows.laid_math_bits_deBruijn64tab),("internal/strconv.uint64pow10",Rows.laid_internal_strconv_uint64pow10),("unicode/utf8.acceptRanges",Rows.laid_unicode_utf8_acceptRanges),("strconv.ErrRange",Rows.laid_strconv_ErrRange),("strconv.ErrSyntax",Rows.laid_strconv_ErrSyntax),("unicode/utf8.first",Rows.laid_unicode_utf8_first)]
theorem wW{W:World}(hL:laidMetH Tryz.prog FF W)(hS:W.ShapedOpen Tryz.prog):yb.At W (Old W):=by
 have h:laidMet Tryz.prog FF W:=hL;obtain ⟨a1,s1,hv1,-,-,-⟩:=laid_sentinel (h.tail.tail.tail.tail) gRng Fl Tryz.underlying412 rowE Tryz.underlying447 Tryz.underlying449 rfl rfl Tryz.underlying9 Fc F4;obtain ⟨a2,s2,hv2,-,-,-⟩:=laid_sentinel (h.tail.tail.tail.tail.tail) gSyn Fz Tryz.underlying412 rowE Tryz.underlying447 Tryz.underlying449 rfl rfl Tryz.underlying9 Fc F4;refine ⟨⟨Lib.tabIs_of_head gPow E0 Tryz.underlying285 Tryz.underlying32 cellsU cellsT (h.tail.tail),⟨_,_,hv2⟩,_,_,hv1⟩,λb hb=>?_⟩;obtain ⟨o,_,ho,_⟩:=hS.2 8 (of_decide_eq_true (by kernel_rfl)) (of_decide_eq_true (by kernel_rfl))
 have hlt:8 < W.heap.size:=by
  apply Classical.byContradiction;intro hn;rw [Array.getElem?_eq_none (by omega)] at ho;cases ho
 have hb:b < 8:=hb;show b < W.heap.size;omega
abbrev synS:ByteArray:={ data:=#[105,110,118,97,108,105,100,32,115,121,110,116,97,120] }
abbrev rngS:ByteArray:={ data:=#[118,97,108,117,101,32,111,117,116,32,111,102,32,114,97,110,103,101] }
noncomputable def low:Nat:=(World.holding Tryz.prog default ⟨#[],#[],[]⟩).heap.size
mutual
def qL:DataW Unit->List Value
 |.agg l=>yZ l
 |.lit (.int k n)=>[Value.int k n]
 |_=>[]
def yZ:List (DataW Unit)->List Value
 |[]=>[]
 |d::l=>qL d++yZ l
end
def oH(cs:Array Value):Obj->Obj
 |.cells _ t frozen=>.cells cs t frozen
 |o=>o
noncomputable def oF(os:Os):World :=
 let w0:=World.holding Tryz.prog os ⟨#[.cells #[.string synS] 449,.cells #[.string rngS] 449],#[],[]⟩
 {w0 with heap:=(((((((w0.heap).modify 4 (oH (qL Rows.laid_math_bits_deBruijn32tab).toArray)).modify 5 (oH (qL Rows.laid_math_bits_deBruijn64tab).toArray)).modify 2 (oH (qL Rows.laid_internal_strconv_uint64pow10).toArray)).modify 1 (oH (qL Rows.laid_unicode_utf8_acceptRanges).toArray)).modify 7 (oH #[.iface 447 (.pointer (some ⟨low+1,0,none⟩))])).modify 6 (oH #[.iface 447 (.pointer (some ⟨low,0,none⟩))])).modify 0 (oH (qL Rows.laid_unicode_utf8_first).toArray) }
theorem xC(os:Os)(args:Array Value):laidMet Tryz.prog FF ((oF os).forCall (λ_ _=>0) ⟨#[],args,[]⟩).memory :=
 laidMet_of_run' 300 (by kernel_rfl) (by kernel_rfl)
end Go.Proofs.YtfmfdkbpemiocaaGreatDoor

