/-
  A part of the proofs of renlaw25.JudgeErases and renlaw25.JudgeCells: each law returns true for every input of the stated bulk and leaves its arguments as they were; no further condition.
  By an AI agent; no person has read it.
-/
import Derived.Test.YtjfbodbfjhgffaaGreatDoorPjbb
import Derived.LaidByTextLater
import Derived.SevenTiedAt
import Derived.LaidOnce
import Derived.KernelRfl
set_option linter.all false
set_option linter.deprecated false
set_option maxRecDepth 100000
namespace Go.Proofs.YtjfbodbfjhgffaaGreatDoor
open Go
theorem tr:∀ os tape,doorLeaves Tryz.prog 72 8 65 LL os tape=some (LL.filter λx=>x.2.handleName?.isNone,(funcsListed LL).map (·.2.funcsOut)):=λ_ _=>by kernel_rfl
end Go.Proofs.YtjfbodbfjhgffaaGreatDoor

