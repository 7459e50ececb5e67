/-
  A part of the proofs of renlaw25.JudgeErases and renlaw25.JudgeCells: each law returns true for every input of the stated bulk and leaves its arguments as they were; no further condition.
  By an AI agent; no person has read it.
-/
import Derived.Test.YtjfbodbfjhgffaaGreatDoorPjac
import Derived.Lib.AtoiAll
import Derived.Lib.ItoaNum
import Derived.Lib.Bytealg
set_option linter.all false
set_option linter.deprecated false
namespace Go.Mach
def itoaSRun(n:Int):Res (List UInt8):=.ok (Lib.itoa n)
@[reducible] def itoaS.ps:List Par:=[.val false (.frz (.int .i64))]
@[reducible] def itoaS.rs:List VSh:=[(false,.frz .str)]
abbrev itoaS.g:Sg:=⟨itoaS.ps,itoaS.rs⟩
def itoaSSpec(f:FuncId):Spec:=⟨f,itoaS.ps,itoaS.rs,λx=>itoaSRun x⟩
def atoiSRun(s:List UInt8):Res (Int×Bool) :=
 match Lib.atoiAll s with
 |.ok v=>.ok (v,true)
 |.range=>.ok (Lib.atoiSat s,false)
 |_=>.ok (0,false)
@[reducible] def atoiS.ps:List Par:=[.val false (.frz .str)]
@[reducible] def atoiS.rs:List VSh:=[(false,.frz (.int .i64)),(false,.err)]
abbrev atoiS.g:Sg:=⟨atoiS.ps,atoiS.rs⟩
def atoiSSpec(f:FuncId):Spec:=⟨f,atoiS.ps,atoiS.rs,λx=>atoiSRun x⟩
def ixbRun(s:List UInt8)(c:Int):Res Int:=.ok (Lib.indexByte s c.toNat.toUInt8)
@[reducible] def ixb.ps:List Par:=[.val false (.frz .str),.val false (.frz (.int .u8))]
@[reducible] def ixb.rs:List VSh:=[(false,.frz (.int .i64))]
abbrev ixb.g:Sg:=⟨ixb.ps,ixb.rs⟩
def ixbSpec(f:FuncId):Spec:=⟨f,ixb.ps,ixb.rs,λx=>ixbRun x.1 x.2⟩
end Go.Mach

