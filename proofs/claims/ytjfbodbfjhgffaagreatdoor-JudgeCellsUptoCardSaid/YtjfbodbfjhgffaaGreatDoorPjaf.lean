/-
  A part of the proofs of renlaw25.JudgeErases and renlaw25.JudgeCells: each law returns true for every input of the stated bulk and leaves its arguments as they were; no further condition.
  By an AI agent; no person has read it.
-/
import Derived.Test.YtjfbodbfjhgffaaGreatDoorPjae
import Derived.KernelRfl
set_option linter.all false
set_option linter.deprecated false
set_option maxRecDepth 1000000
namespace Go.Mach
theorem first_val:R.renlaw25_first.strip=some true:=by kernel_rfl
theorem first_ok:R.renlaw25_first.sat (·=true):=by
 have h:=first_val;generalize R.renlaw25_first=m at h;exact Res.strip_sat h rfl
end Go.Mach

