/-
  Proved here: the law renlaw12.EvalOnce returns true for every input of the stated bulk and leaves its arguments as they were; no further condition.
  By an AI agent; no person has read it.
-/
import Derived.Test.YtfmfdkbpemiocaaGreatDoorQaf
import Derived.KernelRfl
import Derived.Test.YtfmfdkbpemiocaaGreatDoorProg
set_option linter.all false
set_option linter.deprecated false
set_option linter.unusedVariables false
set_option maxRecDepth 100000
namespace Go.Mach
open Go.Proofs
theorem eval_run_does.eq(G:af):Eqn (Q (eu G++L10)) (eval_run_does.g.sp 320 λx=>R.eval_run_does G x.1 x.2.1 x.2.2.1 x.2.2.2) (zA 0x502e14f1e101421111111100048cb148c101422311111111110002c814b81014321211):=eqn Tryz.f320
theorem dS.eq:Eqn (Q L17) dS.spec (zA 0x50c1418101420003cb14fb101423000084b145810143122100b9896082471100b9895217300812200b98934173024200835212110003988143a10142311):=eqn Tryz.f3
theorem ee.eq:Eqn (Q L8) ee.spec (zA 0x38ac145d1014221112121145322ab8a288200811006856855528a2885002421111111):=eqn Tryz.f309
theorem parse_parser_assign.eq(G:bl):Eqn (Q (ib G++L5)) (parse_parser_assign.g.sp 174 λx=>R.parse_parser_assign G x) (zA 0x86a14ea101422111000581814e810142131):=eqn Tryz.f174
theorem eval_run_first.eq(G:af):Eqn (Q (eu G++L10)) (eval_run_first.g.sp 193 λx=>R.eval_run_first G x.1 x.2.1 x.2.2) (zA 0x11812818109d91582031118128181f8e915820aa1521211120002791469101431121211):=eqn Tryz.f193
theorem parse_parser_statement.eq(G:bl):Eqn (Q (ib G++L5)) (parse_parser_statement.g.sp 144 λx=>R.parse_parser_statement G x) (zA 0x808147101422211):=eqn Tryz.f144
theorem dk.eq:Eqn (Q L6) dk.spec (zA 0x49b14db101421200050a14f91014210006591449101432311):=eqn Tryz.f308
theorem parse_parser_item.eq(G:bl):Eqn (Q (ib G++L5)) (parse_parser_item.g.sp 100 λx=>R.parse_parser_item G x) (zA 0x6281418101422121):=eqn Tryz.f100
theorem cD.eq:Eqn (Q L0) cD.spec (zA 0x27814681014210002481438101431000218140810143100026145101432121):=eqn Tryz.f371
theorem ax.eq:Eqn (Q (bF.spec::L3)) ax.spec (zA 0x9010971ca6121009010971ca6152211):=eqn Tryz.f164
theorem fg.eq:Eqn (Q L0) fg.spec (zA 0x38414781014220098416b11210098416b115221):=eqn Tryz.f124
theorem eL.eq:Eqn (Q L6) eL.spec (zA 0x6f914e9101421111221):=eqn Tryz.f376
theorem lO.eq:Eqn (Q L2) lO.spec (zA 0x5b814a81014210005581448101432211):=eqn Tryz.f397
theorem dq.eq:Eqn (Q L7) dq.spec (zA 0x7b81429101420008b810381014211):=eqn Tryz.f411
theorem lU.eq:Eqn (Q L2) lU.spec (zA 0x2481438101421121211):=eqn Tryz.f205
theorem parse_parser_arguments.eq(G:bl):Eqn (Q (ib G++L5)) (parse_parser_arguments.g.sp 380 λx=>R.parse_parser_arguments G x) .none:=eqn Tryz.f380
theorem mR.eq:Eqn (Q L1) mR.spec (zA 0x21814081014221211):=eqn Tryz.f120
theorem eg.eq:Eqn (Q L7) eg.spec .none:=eqn Tryz.f340
theorem eA.eq:Eqn (Q L4) eA.spec .none:=eqn Tryz.f409
theorem gC.eq:Eqn (Q L4) gC.spec .none:=eqn Tryz.f405
theorem mm.eq:Eqn (Q L3) mm.spec .none:=eqn Tryz.f390
theorem ea.eq:Eqn (Q L0) ea.spec .none:=eqn Tryz.f115
theorem eG.eq:Eqn (Q L9) eG.spec .none:=eqn Tryz.f278
theorem aO.eq:Eqn (Q L2) aO.spec .none:=eqn Tryz.f141
theorem bu.eq:Eqn (Q L1) bu.spec .none:=eqn Tryz.f118
theorem fJ.eq:Eqn (Q L2) fJ.spec .none:=eqn Tryz.f190
theorem lC.eq:Eqn (Q L0) lC.spec .none:=eqn Tryz.f302
theorem cE.eq:Eqn (Q L0) cE.spec .none:=eqn Tryz.f175
theorem lx.eq:Eqn (Q L3) lx.spec .none:=eqn Tryz.f401
theorem iD.eq:Eqn (Q L0) iD.spec .none:=eqn Tryz.f416
theorem jm.eq:Eqn (Q L0) jm.spec .none:=eqn Tryz.f459
theorem ei.eq:Eqn (Q L0) ei.spec .none:=eqn Tryz.f338
theorem kT.eq:Eqn (Q L0) kT.spec .none:=eqn Tryz.f11
end Go.Mach

