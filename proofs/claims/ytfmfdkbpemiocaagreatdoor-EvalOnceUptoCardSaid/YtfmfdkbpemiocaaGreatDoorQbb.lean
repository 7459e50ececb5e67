/-
  Proved here: the law renlaw12.EvalOnce returns true for every input of the stated bulk and leaves its arguments as they were; no further condition.
  By an AI agent; no person has read it.
-/
import Derived.Test.YtfmfdkbpemiocaaGreatDoorQae
import Derived.KernelRfl
set_option linter.all false
set_option linter.deprecated false
set_option maxRecDepth 1000000
namespace Go.Mach
theorem E9:R.eZ.strip=some true:=by kernel_rfl
end Go.Mach

