/-
  Shared texts of the proofs of the laws renlaw13.AgentRefuses, renlaw13.AgentIs and renlaw13.AgentApart: each returns true for every input of the stated bulk and leaves its arguments as they were; no further condition.
  By an AI agent; no person has read it.
-/
import Derived.Test.YtfmfdkbpemiocaaGreatDoorPaf
import Derived.KernelRfl
import Derived.Test.YtfmfdkbpemiocaaGreatDoorProg
set_option linter.all false
set_option linter.deprecated false
set_option linter.unusedVariables false
set_option maxRecDepth 100000
namespace Go.Mach
open Go.Proofs
theorem cn.eq:Eqn ({ P:=Tryz.prog,specs:=[ak.spec,cq.spec,aT.spec,aZ.spec,bJ.spec,bl.spec,bt.spec,cI.spec,dd.spec,bB.spec],ety:=mP Tryz.prog owned,inls:=[tR 15 (nh.env Tryz.prog) Tryz.f15 .none] }:Env) cn.spec (zA 0x128122814810e1c82061128122814851e12c815212000b800e1031e10142310108124148eb1982041108124148fc1298152131111016124138ca1482021161241388b12481521300059a10ea10142310006839101a10142311):=eqn Tryz.f6
theorem kj.eq:Eqn (Q (eK.spec::L2)) kj.spec (zA 0x411a89922824818141041198a922822c94818252121122110501f9f8572241100f9f84414308712200e9094414324908725212100060910691014230003d816510143000184810265201431):=eqn Tryz.f197
theorem eval_run_act.eq(G:ai):Eqn (Q (eO G++L10)) (eval_run_act.g.sp 119 λx=>R.eval_run_act G x.1 x.2.1 x.2.2.1 x.2.2.2) (zA 0x1862e10f2e101422121111111111111111110002ea10da101431111212111):=eqn Tryz.f119
theorem jQ.eq:Eqn (Q L3) jQ.spec (zA 0x184d103d101421122000087a123810142112211000969318205110009693415302200f8793415321a15213000382910d9101423111):=eqn Tryz.f51
theorem parse_parser_head.eq(G:cK):Eqn (Q (kF G++L4)) (parse_parser_head.g.sp 379 λx=>R.parse_parser_head G x) (zA 0x8470271815202100847027681051522111):=eqn Tryz.f379
theorem parse_parser_calls.eq(G:cK):Eqn (Q (kF G++L4)) (parse_parser_calls.g.sp 331 λx=>R.parse_parser_calls G x) (zA 0x83702983252021008370298325205221121):=eqn Tryz.f331
theorem fD.eq:Eqn (Q L2) fD.spec (zA 0x6818142031100682813224122006828132241522100b84142031100b851322410242111):=eqn Tryz.f209
theorem gT.eq:Eqn (Q L6) gT.spec (zA 0x1211821d8c812820211211821c8d8128226915212000483810f81014231):=eqn Tryz.f355
theorem eval_run_step.eq(G:ai):Eqn (Q (eO G++L10)) (eval_run_step.g.sp 249 λx=>R.eval_run_step G x.1 x.2.1 x.2.2) (zA 0x3ea1268101421111111):=eqn Tryz.f249
theorem dY.eq:Eqn (Q L5) dY.spec (zA 0x13128370238610211312837023861052211):=eqn Tryz.f69
theorem parse_parser_item.eq(G:cK):Eqn (Q (kF G++L4)) (parse_parser_item.g.sp 100 λx=>R.parse_parser_item G x) (zA 0x6281018101422121):=eqn Tryz.f100
theorem eval_run_call.eq(G:ai):Eqn (Q (eO G++L10)) (eval_run_call.g.sp 282 λx=>R.eval_run_call G x.1 x.2.1 x.2.2.1 x.2.2.2) .none:=eqn Tryz.f282
theorem dX.eq:Eqn (Q L0) dX.spec (zA 0x48081522412100485812224252121000361001431):=eqn Tryz.f52
theorem iS.eq:Eqn (Q L0) iS.spec (zA 0x76105810142200c8512412100b86122242521211):=eqn Tryz.f9
theorem fB.eq:Eqn (Q L3) fB.spec (zA 0x70168610c81014221):=eqn Tryz.f140
theorem lv.eq:Eqn (Q L0) lv.spec (zA 0x71b100b101421000aa6105101432121):=eqn Tryz.f171
theorem eval_run_choice.eq(G:ai):Eqn (Q (eO G++L10)) (eval_run_choice.g.sp 153 λx=>R.eval_run_choice G x.1 x.2.1 x.2.2) .none:=eqn Tryz.f153
theorem eX.eq:Eqn (Q L1) eX.spec (zA 0xe8d8103a101422111):=eqn Tryz.f424
theorem eB.eq:Eqn (Q L11) eB.spec .none:=eqn Tryz.f41
theorem iK.eq:Eqn (Q L0) iK.spec (zA 0x486105101422121):=eqn Tryz.f312
theorem cq.eq:Eqn (Q L1) cq.spec .none:=eqn Tryz.f23
theorem ch.eq:Eqn (Q L1) ch.spec .none:=eqn Tryz.f236
theorem ah.eq:Eqn (Q L3) ah.spec .none:=eqn Tryz.f87
theorem cU.eq:Eqn (Q L1) cU.spec .none:=eqn Tryz.f360
theorem iy.eq:Eqn (Q L2) iy.spec .none:=eqn Tryz.f436
theorem bU.eq:Eqn (Q L1) bU.spec .none:=eqn Tryz.f286
theorem fE.eq:Eqn (Q L7) fE.spec .none:=eqn Tryz.f341
theorem eQ.eq:Eqn (Q L1) eQ.spec .none:=eqn Tryz.f121
theorem fX.eq:Eqn (Q L0) fX.spec .none:=eqn Tryz.f148
theorem gH.eq:Eqn (Q L0) gH.spec .none:=eqn Tryz.f10
theorem cB.eq:Eqn (Q L0) cB.spec .none:=eqn Tryz.f173
theorem jI.eq:Eqn (Q L0) jI.spec .none:=eqn Tryz.f460
theorem eM.eq:Eqn (Q L0) eM.spec .none:=eqn Tryz.f338
theorem fM.eq:Eqn (Q L0) fM.spec .none:=eqn Tryz.f11
end Go.Mach

