/-
  Shared texts of the proofs of the laws renlaw13.AgentRefuses, renlaw13.AgentIs and renlaw13.AgentApart: each returns true for every input of the stated bulk and leaves its arguments as they were; no further condition.
  By an AI agent; no person has read it.
-/
import Derived.Test.YtfmfdkbpemiocaaGreatDoorPac
import Derived.Lib.AtoiAll
import Derived.Lib.ItoaNum
import Derived.Lib.Bytealg
set_option linter.all false
set_option linter.deprecated false
namespace Go.Mach
def sE(n:Int):Res (List UInt8):=.ok (Lib.itoa n)
@[reducible] def rZ.ps:List Par:=[.val false (.frz (.int .i64))]
@[reducible] def rZ.rs:List VSh:=[(false,.frz .str)]
abbrev rZ.g:Sg:=⟨rZ.ps,rZ.rs⟩
def sK(f:FuncId):Spec:=⟨f,rZ.ps,rZ.rs,λx=>sE x⟩
def qN(s:List UInt8):Res (Int×Bool) :=
 match Lib.atoiAll s with
 |.ok v=>.ok (v,true)
 |.range=>.ok (Lib.atoiSat s,false)
 |_=>.ok (0,false)
@[reducible] def qP.ps:List Par:=[.val false (.frz .str)]
@[reducible] def qP.rs:List VSh:=[(false,.frz (.int .i64)),(false,.err)]
abbrev qP.g:Sg:=⟨qP.ps,qP.rs⟩
def sG(f:FuncId):Spec:=⟨f,qP.ps,qP.rs,λx=>qN x⟩
def ixbRun(s:List UInt8)(c:Int):Res Int:=.ok (Lib.indexByte s c.toNat.toUInt8)
end Go.Mach

