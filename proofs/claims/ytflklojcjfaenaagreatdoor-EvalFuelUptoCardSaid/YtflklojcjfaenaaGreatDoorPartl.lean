/-
  Proved here: the law renlaw12.EvalFuel returns true for every input of the stated bulk and leaves its arguments as they were; no further condition.
  By an AI agent; no person has read it.
-/
import Derived.Test.YtflklojcjfaenaaGreatDoorPartk
set_option linter.all false
set_option linter.deprecated false

