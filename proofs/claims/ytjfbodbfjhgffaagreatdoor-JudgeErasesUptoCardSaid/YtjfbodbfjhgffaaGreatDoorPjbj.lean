/-
  Proved here: the law renlaw25.JudgeErases returns true for every input of the stated bulk and leaves its arguments as they were; no further condition.
  By an AI agent; no person has read it.
-/
import Derived.Test.YtjfbodbfjhgffaaGreatDoorPjbi
import Derived.Test.YtjfbodbfjhgffaaGreatDoorRows
import Derived.KernelRfl
set_option linter.all false
set_option linter.deprecated false
set_option maxRecDepth 100000
namespace Go.Proofs.YtjfbodbfjhgffaaGreatDoor.judgeErases
open Go Go.Mach
theorem k9:(Rows.judgeErasesUptoRow.inPlace == Tryz.prog.inPlace 3)=true:=by
 unfold Program.inPlace;rw [clos3]
 kernel_rfl
theorem unf:Tryz.prog.unfollowed 3=true:=by
 unfold Program.unfollowed;rw [clos3]
 kernel_rfl
theorem k10:(Rows.judgeErasesUptoRow.unfollowed == Tryz.prog.unfollowed 3)=true:=by
 rw [unf]
 kernel_rfl
theorem k11:(Rows.judgeErasesUptoRow.recurses == Tryz.prog.recurses 3)=true:=by
 unfold Program.recurses;rw [unf,Bool.true_or]
 kernel_rfl
theorem k12:(Rows.judgeErasesUptoRow.named == Tryz.prog.varsNamed 3)=true:=by
 unfold Program.varsNamed;rw [clos3]
 kernel_rfl
end Go.Proofs.YtjfbodbfjhgffaaGreatDoor.judgeErases

