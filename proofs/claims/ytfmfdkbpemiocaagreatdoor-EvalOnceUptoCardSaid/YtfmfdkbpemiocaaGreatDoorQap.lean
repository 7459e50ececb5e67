/-
  Proved here: the law renlaw12.EvalOnce returns true for every input of the stated bulk and leaves its arguments as they were; no further condition.
  By an AI agent; no person has read it.
-/
import Derived.Test.YtfmfdkbpemiocaaGreatDoorQaf
import Derived.KernelRfl
import Derived.Test.YtfmfdkbpemiocaaGreatDoorProg
set_option linter.all false
set_option linter.deprecated false
set_option linter.unusedVariables false
set_option maxRecDepth 100000
namespace Go.Mach
open Go.Proofs
theorem kn.eq:Eqn (Q (ec.spec::L2)) kn.spec (zA 0x3911a899228228181410391198a922820c92818252121122110b901f9f8572041100f9f844143ea712200e90944143049ea725212100060914691014230003d816a51014300018481426a5201431):=eqn Tryz.f197
theorem eval_run_apply.eq(G:af):Eqn (Q (eu G++L10)) (eval_run_apply.g.sp 287 λx=>R.eval_run_apply G x.1 x.2.1 x.2.2.1 x.2.2.2) (zA 0x203e14f2e1014211212111101712871092b2a820311712871f83b2a8205c1521311007181487a10014311111):=eqn Tryz.f287
theorem eval_run_arguments.eq(G:af):Eqn (Q (eu G++L10)) (eval_run_arguments.g.sp 254 λx=>R.eval_run_arguments G x.1 x.2.1 x.2.2) (zA 0x21144322c83321283030c721211321c8333121740c28122211321b8433121740080c282521211):=eqn Tryz.f254
theorem kz.eq:Eqn (Q (ec.spec::L2)) kz.spec (zA 0x3931c84817228614103931c8b8102286252121211310a9622143ca51211310a96262ca2ea425221111):=eqn Tryz.f93
theorem mw.eq:Eqn (Q L3) mw.spec (zA 0x397169c8258228481410397159d825820f8284825212112211039716a585282021039715a68528203915212111):=eqn Tryz.f388
theorem jS.eq:Eqn (Q L1) jS.spec (zA 0x7889147910142100008f814e8101432112211004a321824711004a322173022003a422173058152121):=eqn Tryz.f60
theorem cS.eq:Eqn (Q L6) cS.spec (zA 0x21146322784268204811078712628426830024211):=eqn Tryz.f413
theorem parse_parser_member.eq(G:bl):Eqn (Q (ib G++L5)) (parse_parser_member.g.sp 381 λx=>R.parse_parser_member G x.1 x.2) (zA 0x75814c8101422121221):=eqn Tryz.f381
theorem fP.eq:Eqn (Q L1) fP.spec (zA 0xb8516133024b72100b86241334b1812200b862724b7032521211):=eqn Tryz.f57
theorem fC.eq:Eqn (Q (bo.spec::bY.spec::L5)) fC.spec (zA 0x76814581014222111):=eqn Tryz.f134
theorem ca.eq:Eqn (Q L2) ca.spec (zA 0xc83462051100c8355202200b84552048152121):=eqn Tryz.f396
theorem eval_run_logic.eq(G:af):Eqn (Q (eu G++L10)) (eval_run_logic.g.sp 251 λx=>R.eval_run_logic G x.1 x.2.1 x.2.2) (zA 0xb8291438101421111):=eqn Tryz.f251
theorem bt.eq:Eqn (Q L0) bt.spec (zA 0x38316205110038325202200284252018152121):=eqn Tryz.f110
theorem eW.eq:Eqn (Q L0) eW.spec (zA 0x648143810142100047146101432121):=eqn Tryz.f198
theorem nD.eq:Eqn (Q L0) nD.spec (zA 0x391169717202103911590817206815212111):=eqn Tryz.f461
theorem jf.eq:Eqn (Q L4) jf.spec (zA 0x828141810142221):=eqn Tryz.f348
theorem aq.eq:Eqn (Q L3) aq.spec .none:=eqn Tryz.f201
theorem gl.eq:Eqn (Q L0) gl.spec (zA 0x218140810142112121):=eqn Tryz.f104
theorem kf.eq:Eqn (Q L3) kf.spec (zA 0x77146810142121):=eqn Tryz.f365
theorem gA.eq:Eqn (Q L15) gA.spec .none:=eqn Tryz.f25
theorem gi.eq:Eqn (Q L3) gi.spec .none:=eqn Tryz.f318
theorem cw.eq:Eqn (Q L4) cw.spec .none:=eqn Tryz.f194
theorem jn.eq:Eqn (Q L2) jn.spec .none:=eqn Tryz.f257
theorem fA.eq:Eqn (Q L3) fA.spec .none:=eqn Tryz.f418
theorem gg.eq:Eqn (Q L3) gg.spec .none:=eqn Tryz.f398
theorem iZ.eq:Eqn (Q L2) iZ.spec .none:=eqn Tryz.f102
theorem cp.eq:Eqn (Q L1) cp.spec .none:=eqn Tryz.f306
theorem fj.eq:Eqn (Q L0) fj.spec .none:=eqn Tryz.f148
theorem gO.eq:Eqn (Q L0) gO.spec .none:=eqn Tryz.f10
theorem eV.eq:Eqn (Q L0) eV.spec .none:=eqn Tryz.f156
theorem bI.eq:Eqn (Q L0) bI.spec .none:=eqn Tryz.f98
theorem je.eq:Eqn (Q L0) je.spec .none:=eqn Tryz.f350
theorem jy.eq:Eqn (Q L0) jy.spec .none:=eqn Tryz.f238
end Go.Mach

