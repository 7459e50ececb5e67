/-
  A part of the proofs of renlaw25.JudgeErases and renlaw25.JudgeCells: each law returns true for every input of the stated bulk and leaves its arguments as they were; no further condition.
  By an AI agent; no person has read it.
-/
import Derived.Test.YtjfbodbfjhgffaaGreatDoorPjbb
import Derived.LaidByTextLater
import Derived.SevenTiedAt
import Derived.LaidOnce
import Derived.KernelRfl
set_option linter.all false
set_option linter.deprecated false
set_option maxRecDepth 100000
namespace Go.Proofs.YtjfbodbfjhgffaaGreatDoor
open Go
theorem named_app{P:Program}{g:FuncId}{a b:List (String×DataW Unit)}(h1:varsNamedLaterB P g a=true)(h2:varsNamedLaterB P g b=true):varsNamedLaterB P g (a++b)=true:=by
 unfold varsNamedLaterB at *;split at h1
 ·rename_i code hc;simp only [hc] at h2 ⊢;split at h1
  ·rename_i st hs;simp only [hs,List.all_append,Bool.and_eq_true] at h1 h2 ⊢;exact ⟨h1.1,h1.2,h2.2⟩
  ·cases h1
 ·cases h1
theorem tn1:varsNamedLaterB Tryz.prog (varsId Tryz.prog) [("unicode/utf8.acceptRanges",Rows.laid_unicode_utf8_acceptRanges),("internal/strconv.uint64pow10",Rows.laid_internal_strconv_uint64pow10)]=true:=by kernel_rfl
theorem tn2:varsNamedLaterB Tryz.prog (varsId Tryz.prog) [("math/bits.deBruijn32tab",Rows.laid_math_bits_deBruijn32tab),("math/bits.deBruijn64tab",Rows.laid_math_bits_deBruijn64tab)]=true:=by kernel_rfl
theorem tn3:varsNamedLaterB Tryz.prog (varsId Tryz.prog) [("strconv.ErrSyntax",Rows.laid_strconv_ErrSyntax),("strconv.ErrRange",Rows.laid_strconv_ErrRange)]=true:=by kernel_rfl
theorem tl:LL=[("unicode/utf8.acceptRanges",Rows.laid_unicode_utf8_acceptRanges),("internal/strconv.uint64pow10",Rows.laid_internal_strconv_uint64pow10)]++([("math/bits.deBruijn32tab",Rows.laid_math_bits_deBruijn32tab),("math/bits.deBruijn64tab",Rows.laid_math_bits_deBruijn64tab)]++[("strconv.ErrSyntax",Rows.laid_strconv_ErrSyntax),("strconv.ErrRange",Rows.laid_strconv_ErrRange)]):=rfl
theorem tn:varsNamedLaterB Tryz.prog (varsId Tryz.prog) LL=true:=(congrArg (varsNamedLaterB Tryz.prog (varsId Tryz.prog)) tl).trans (named_app tn1 (named_app tn2 tn3))
end Go.Proofs.YtjfbodbfjhgffaaGreatDoor

