/-
  Shared texts of the proofs of the laws renlaw13.AgentRefuses, renlaw13.AgentIs and renlaw13.AgentApart: each returns true for every input of the stated bulk and leaves its arguments as they were; no further condition.
  By an AI agent; no person has read it.
-/
import Derived.Test.YtfmfdkbpemiocaaGreatDoorPaf
import Derived.KernelRfl
import Derived.Test.YtfmfdkbpemiocaaGreatDoorProg
set_option linter.all false
set_option linter.deprecated false
set_option linter.unusedVariables false
set_option maxRecDepth 100000
namespace Go.Mach
open Go.Proofs
theorem dC.eq:Eqn (Q L6) dC.spec (zA 0x4bc10fc101422100059b108b101422568189081588b10014310221295583248192482208112217908583238328192483002430000869103810143111):=eqn Tryz.f89
theorem eval_run_assign.eq(G:ai):Eqn (Q (eO G++L10)) (eval_run_assign.g.sp 252 λx=>R.eval_run_assign G x.1 x.2.1 x.2.2) (zA 0x2f81686583288ca2682208110685811638ca2683002421014228268658325859138220811228168685832385913820024311111):=eqn Tryz.f252
theorem iH.eq:Eqn (Q L8) iH.spec (zA 0x38ac105d101422111212216865832ab8a288220811006856855528a2885002421111111):=eqn Tryz.f309
theorem kH.eq:Eqn (Q L1) kH.spec (zA 0x3f910e91014210002c910b9101431000389107910143100052910191014310004d810c8101431111112120007410381014231):=eqn Tryz.f294
theorem gM.eq:Eqn (Q L1) gM.spec (zA 0x6ba10aa101420005e91061014230006891079101432212100901bb23320612100901bb23320615221121):=eqn Tryz.f96
theorem jT.eq:Eqn (Q L1) jT.spec (zA 0x7889107910142100008f810e8101432112211004a321820711004a322173022003a422173258152121):=eqn Tryz.f60
theorem jj.eq:Eqn (Q L7) jj.spec (zA 0x79a108a10142112210002c910b9101421111112131):=eqn Tryz.f272
theorem parse_parser_member.eq(G:cK):Eqn (Q (kF G++L4)) (parse_parser_member.g.sp 381 λx=>R.parse_parser_member G x.1 x.2) (zA 0x75810c8101422121221):=eqn Tryz.f381
theorem iF.eq(fu:Nat):Eqn (Q ((iF.spec fu)::L0)) (iF.g.sp 101 λx=>R.iF (fu+1) x.1 x.2) (zA 0x151991138c81182097121151991128d811822f8097252121111):=eqn Tryz.f101
theorem ay.eq:Eqn (Q (bF.spec::L3)) ay.spec (zA 0x90109714a61210090109714a6152211):=eqn Tryz.f164
theorem ff.eq:Eqn (Q L0) ff.spec (zA 0x3841078101422009841cb1121009841cb115221):=eqn Tryz.f124
theorem gU.eq:Eqn (Q L6) gU.spec (zA 0x6f910e9101421111221):=eqn Tryz.f376
theorem lV.eq:Eqn (Q L2) lV.spec (zA 0x5b810a81014210005581048101432211):=eqn Tryz.f397
theorem fY.eq:Eqn (Q L7) fY.spec (zA 0x7b81029101420008b812381014211):=eqn Tryz.f411
theorem parse_parser_simple.eq(G:cK):Eqn (Q (kF G++L4)) (parse_parser_simple.g.sp 182 λx=>R.parse_parser_simple G x) .none:=eqn Tryz.f182
theorem eval_run_expression.eq(G:ai):Eqn (Q (eO G++L10)) (eval_run_expression.g.sp 150 λx=>R.eval_run_expression G x.1 x.2.1 x.2.2) .none:=eqn Tryz.f150
theorem iz.eq:Eqn (Q L13) iz.spec (zA 0x68810e810142121):=eqn Tryz.f12
theorem fj.eq:Eqn (Q L2) fj.spec (zA 0x76105810142121):=eqn Tryz.f404
theorem dy.eq:Eqn (Q L5) dy.spec .none:=eqn Tryz.f377
theorem dM.eq:Eqn (Q L3) dM.spec .none:=eqn Tryz.f117
theorem nD.eq:Eqn (Q L3) nD.spec .none:=eqn Tryz.f389
theorem cS.eq:Eqn (Q L1) cS.spec .none:=eqn Tryz.f177
theorem mo.eq:Eqn (Q L2) mo.spec .none:=eqn Tryz.f211
theorem jt.eq:Eqn (Q L3) jt.spec .none:=eqn Tryz.f434
theorem cT.eq:Eqn (Q L1) cT.spec .none:=eqn Tryz.f118
theorem cR.eq:Eqn (Q L2) cR.spec .none:=eqn Tryz.f430
theorem ku.eq:Eqn (Q L1) ku.spec .none:=eqn Tryz.f70
theorem eg.eq:Eqn (Q L1) eg.spec .none:=eqn Tryz.f303
theorem dk.eq:Eqn (Q L0) dk.spec .none:=eqn Tryz.f108
theorem bX.eq:Eqn (Q L0) bX.spec .none:=eqn Tryz.f94
theorem iM.eq:Eqn (Q L0) iM.spec .none:=eqn Tryz.f203
theorem mV.eq:Eqn (Q L0) mV.spec .none:=eqn Tryz.f127
theorem cZ.eq:Eqn (Q L0) cZ.spec .none:=eqn Tryz.f219
end Go.Mach

