/-
  Proved here: the law renlaw12.EvalOnce returns true for every input of the stated bulk and leaves its arguments as they were; no further condition.
  By an AI agent; no person has read it.
-/
import Derived.Test.YtfmfdkbpemiocaaGreatDoorQac
import Derived.Lib.AtoiAll
import Derived.Lib.ItoaNum
import Derived.Lib.Bytealg
set_option linter.all false
set_option linter.deprecated false
namespace Go.Mach
def rn(n:Int):Res (List UInt8):=.ok (Lib.itoa n)
@[reducible] def rh.ps:List Par:=[.val false (.frz (.int .i64))]
@[reducible] def rh.rs:List VSh:=[(false,.frz .str)]
abbrev rh.g:Sg:=⟨rh.ps,rh.rs⟩
def sy(f:FuncId):Spec:=⟨f,rh.ps,rh.rs,λx=>rn x⟩
def qU(s:List UInt8):Res (Int×Bool) :=
 match Lib.atoiAll s with
 |.ok v=>.ok (v,true)
 |.range=>.ok (Lib.atoiSat s,false)
 |_=>.ok (0,false)
@[reducible] def qL.ps:List Par:=[.val false (.frz .str)]
@[reducible] def qL.rs:List VSh:=[(false,.frz (.int .i64)),(false,.err)]
abbrev qL.g:Sg:=⟨qL.ps,qL.rs⟩
def s7(f:FuncId):Spec:=⟨f,qL.ps,qL.rs,λx=>qU x⟩
def ixbRun(s:List UInt8)(c:Int):Res Int:=.ok (Lib.indexByte s c.toNat.toUInt8)
end Go.Mach

