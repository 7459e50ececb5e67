/-
  Shared texts of the proofs of the laws renlaw13.AgentRefuses, renlaw13.AgentIs and renlaw13.AgentApart: each returns true for every input of the stated bulk and leaves its arguments as they were; no further condition.
  By an AI agent; no person has read it.
-/
import Derived.Test.YtfmfdkbpemiocaaGreatDoorPaf
import Derived.KernelRfl
import Derived.Test.YtfmfdkbpemiocaaGreatDoorProg
set_option linter.all false
set_option linter.deprecated false
set_option linter.unusedVariables false
set_option maxRecDepth 100000
namespace Go.Mach
open Go.Proofs
theorem dc.eq:Eqn ({ P:=Tryz.prog,specs:=[ak.spec,aT.spec,aZ.spec,iz.spec,bJ.spec,bl.spec,bt.spec,cI.spec,dd.spec,bB.spec],ety:=mP Tryz.prog owned,inls:=[tR 15 (oz.env Tryz.prog) Tryz.f15 .none] }:Env) dc.spec (zA 0x161241c8a913820a28121161241c85a1220a2825212100056910b91014231111):=eqn Tryz.f5
theorem parse_parser_either.eq(G:cK):Eqn (Q (kF G++L4)) (parse_parser_either.g.sp 244 λx=>R.parse_parser_either G x) (zA 0x83702184910410083702184910522100058810d8101420068810014200083702718102100837027181052321311):=eqn Tryz.f244
theorem cu.eq:Eqn (Q L1) cu.spec (zA 0x1710487910822a21611710388910822e92a22521210151048781622a2141151038881622c82a22521122111110c808121432a21211110b818121432582a22521311):=eqn Tryz.f327
theorem gr.eq:Eqn (Q L9) gr.spec (zA 0x2fd10ed10142111111111111100069a108a1014310004e910d9101430007a810191014223121211):=eqn Tryz.f280
theorem ik.eq:Eqn (Q L7) ik.spec (zA 0x680e1070e10142100067d106d10143000483c10fc101421213122111111):=eqn Tryz.f279
theorem mF.eq:Eqn (Q L5) mF.spec (zA 0x19a9103b1014212211006939142031100693923202200594923227915212000e8510391014231):=eqn Tryz.f37
theorem iV.eq:Eqn (Q L1) iV.spec (zA 0xa9a810ca101420005581041014312211005a3121430311005a31313304122004a41313326042521211):=eqn Tryz.f448
theorem gR.eq:Eqn (Q L0) gR.spec (zA 0x482118a810820410482108b8108222915211221104821a82812253021048219838122532a815212111):=eqn Tryz.f38
theorem kL.eq:Eqn (Q L1) kL.spec (zA 0x387810291014211221100c83242031100c8333202200b84332208152121):=eqn Tryz.f103
theorem ae.eq:Eqn (Q L3) ae.spec (zA 0x38316225110038325202200284252218152121):=eqn Tryz.f186
theorem bC.eq:Eqn (Q L3) bC.spec (zA 0x38316225110038325202200284252218152121):=eqn Tryz.f111
theorem kZ.eq:Eqn (Q L8) kZ.spec (zA 0x58f91248101421000729101910142112311):=eqn Tryz.f316
theorem dQ.eq:Eqn (Q L0) dQ.spec (zA 0x580816205110058082520220048182522681521211):=eqn Tryz.f400
theorem kX.eq:Eqn (Q L1) kX.spec (zA 0x19781622511001978252022001988152261521211):=eqn Tryz.f336
theorem bx.eq:Eqn (Q L0) bx.spec (zA 0xe801d842320210e801d808122232521):=eqn Tryz.f126
theorem eY.eq:Eqn (Q L4) eY.spec (zA 0x55910a9101421211):=eqn Tryz.f42
theorem jz.eq:Eqn (Q L8) jz.spec .none:=eqn Tryz.f315
theorem fx.eq:Eqn (Q L2) fx.spec (zA 0x88610e81014221):=eqn Tryz.f423
theorem gJ.eq:Eqn (Q (ay.spec::L4)) gJ.spec .none:=eqn Tryz.f132
theorem lK.eq:Eqn (Q L2) lK.spec .none:=eqn Tryz.f76
theorem dU.eq:Eqn (Q L2) dU.spec .none:=eqn Tryz.f114
theorem lJ.eq:Eqn (Q L1) lJ.spec .none:=eqn Tryz.f349
theorem fI.eq:Eqn (Q L9) fI.spec .none:=eqn Tryz.f275
theorem dP.eq:Eqn (Q L1) dP.spec .none:=eqn Tryz.f428
theorem cN.eq:Eqn (Q L6) cN.spec .none:=eqn Tryz.f271
theorem kO.eq:Eqn (Q L4) kO.spec .none:=eqn Tryz.f352
theorem cw.eq:Eqn (Q L0) cw.spec .none:=eqn Tryz.f437
theorem gB.eq:Eqn (Q L1) gB.spec .none:=eqn Tryz.f351
theorem dw.eq:Eqn (Q L0) dw.spec .none:=eqn Tryz.f442
theorem fo.eq:Eqn (Q L0) fo.spec .none:=eqn Tryz.f374
theorem fQ.eq:Eqn (Q L0) fQ.spec .none:=eqn Tryz.f156
theorem cL.eq:Eqn (Q L0) cL.spec .none:=eqn Tryz.f98
theorem jl.eq:Eqn (Q L0) jl.spec .none:=eqn Tryz.f391
theorem fL.eq:Eqn (Q L0) fL.spec .none:=eqn Tryz.f160
end Go.Mach

