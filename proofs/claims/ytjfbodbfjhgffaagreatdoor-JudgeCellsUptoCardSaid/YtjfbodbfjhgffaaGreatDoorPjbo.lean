/-
  Proved here: the law renlaw25.JudgeCells returns true for every input of the stated bulk and leaves its arguments as they were; no further condition.
  By an AI agent; no person has read it.
-/
import Derived.Test.YtjfbodbfjhgffaaGreatDoorPjbn
import Derived.Test.YtjfbodbfjhgffaaGreatDoorRows
import Derived.KernelRfl
set_option linter.all false
set_option linter.deprecated false
set_option maxRecDepth 100000
namespace Go.Proofs.YtjfbodbfjhgffaaGreatDoor.judgeCells
open Go Go.Mach
theorem k9:(Rows.judgeCellsUptoRow.inPlace == Tryz.prog.inPlace 4)=true:=by
 unfold Program.inPlace;rw [clos4]
 kernel_rfl
theorem unf:Tryz.prog.unfollowed 4=true:=by
 unfold Program.unfollowed;rw [clos4]
 kernel_rfl
theorem k10:(Rows.judgeCellsUptoRow.unfollowed == Tryz.prog.unfollowed 4)=true:=by
 rw [unf]
 kernel_rfl
theorem k11:(Rows.judgeCellsUptoRow.recurses == Tryz.prog.recurses 4)=true:=by
 unfold Program.recurses;rw [unf,Bool.true_or]
 kernel_rfl
theorem k12:(Rows.judgeCellsUptoRow.named == Tryz.prog.varsNamed 4)=true:=by
 unfold Program.varsNamed;rw [clos4]
 kernel_rfl
end Go.Proofs.YtjfbodbfjhgffaaGreatDoor.judgeCells

