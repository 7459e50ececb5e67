/-
  A part of the proofs of renlaw25.JudgeErases and renlaw25.JudgeCells: each law returns true for every input of the stated bulk and leaves its arguments as they were; no further condition.
  By an AI agent; no person has read it.
-/
import Derived.Test.YtjfbodbfjhgffaaGreatDoorRows
import Derived.LaidByTextLater
import Derived.SevenTiedAt
import Derived.LaidOnce
import Derived.KernelRfl
set_option linter.all false
set_option linter.deprecated false
set_option maxRecDepth 100000
namespace Go.Proofs.YtjfbodbfjhgffaaGreatDoor
open Go
abbrev LL:List (String×DataW Unit):=[("unicode/utf8.acceptRanges",Rows.laid_unicode_utf8_acceptRanges),("internal/strconv.uint64pow10",Rows.laid_internal_strconv_uint64pow10),("math/bits.deBruijn32tab",Rows.laid_math_bits_deBruijn32tab),("math/bits.deBruijn64tab",Rows.laid_math_bits_deBruijn64tab),("strconv.ErrSyntax",Rows.laid_strconv_ErrSyntax),("strconv.ErrRange",Rows.laid_strconv_ErrRange)]
theorem tw1:Tryz.prog.worded (varsWordLater true)=true:=by kernel_rfl
theorem tw2:Tryz.prog.worded (varsWordLater !true)=false:=by kernel_rfl
theorem tw3:Tryz.prog.worded rootWordLater=true:=by kernel_rfl
theorem tw4:LL.map (λx=>Tryz.prog.kindOfLater x.1)=[LaidKind.data,.data,.data,.data,.sentinel,.sentinel].map some:=by kernel_rfl
theorem tw5:(Tryz.prog.funcNamed "gosem.cut.vars").isSome=true:=by kernel_rfl
end Go.Proofs.YtjfbodbfjhgffaaGreatDoor

