/-
  Shared texts of the proofs of the laws renlaw13.AgentRefuses, renlaw13.AgentIs and renlaw13.AgentApart: each returns true for every input of the stated bulk and leaves its arguments as they were; no further condition.
  By an AI agent; no person has read it.
-/
import Derived.Test.YtfmfdkbpemiocaaGreatDoorPaf
import Derived.KernelRfl
import Derived.Test.YtfmfdkbpemiocaaGreatDoorProg
set_option linter.all false
set_option linter.deprecated false
set_option linter.unusedVariables false
set_option maxRecDepth 100000
namespace Go.Mach
open Go.Proofs
theorem aY.eq:Eqn (Q L4) aY.spec (zA 0x3801881911822081610380188a9122208252212103801b9b847204103801b9b830822715210038014831182208121038014848122208252311):=eqn Tryz.f443
theorem eval_run_decls.eq(G:ai):Eqn (Q (eO G++L10)) (eval_run_decls.g.sp 152 λx=>R.eval_run_decls G x.1 x.2.1 x.2.2) (zA 0x2081a855832b8782482012081685858321488782483002421112211221a8558323a351820122158313a3518202222158312a45182288152121):=eqn Tryz.f152
theorem ij.eq:Eqn (Q L3) ij.spec (zA 0x8a9102a1014220038a916c51310038a916c5152221220006e81049101420018e816c5101431111):=eqn Tryz.f432
theorem kh.eq:Eqn (Q L1) kh.spec (zA 0x3878102910142200987816c114100987816c1152200008410481014220038416c11210038416c115231):=eqn Tryz.f446
theorem parse_parser_assign.eq(G:cK):Eqn (Q (kF G++L4)) (parse_parser_assign.g.sp 174 λx=>R.parse_parser_assign G x) (zA 0x86a10ea101422111000581810e810142131):=eqn Tryz.f174
theorem eval_run_called.eq(G:ai):Eqn (Q (eO G++L10)) (eval_run_called.g.sp 281 λx=>R.eval_run_called G x.1 x.2.1 x.2.2) (zA 0x278168a8583208fa12781014211000709107910142311):=eqn Tryz.f281
theorem parse_parser_both.eq(G:cK):Eqn (Q (kF G++L4)) (parse_parser_both.g.sp 266 λx=>R.parse_parser_both G x.1 x.2) (zA 0x81702761021008170276105221):=eqn Tryz.f266
theorem dz.eq:Eqn (Q L6) dz.spec (zA 0x2216855832782228220811068612628222830024211):=eqn Tryz.f359
theorem dn.eq:Eqn (Q L5) dn.spec (zA 0x28dc148a8101421111111):=eqn Tryz.f415
theorem bj.eq:Eqn (Q (kS.spec::L7)) bj.spec (zA 0x1818162222321001818122330220008281223327815212111):=eqn Tryz.f27
theorem gL.eq:Eqn (Q L0) gL.spec (zA 0x183162228c32100183122330220008412233218152121):=eqn Tryz.f67
theorem parse_parser_cond.eq(G:cK):Eqn (Q (kF G++L4)) (parse_parser_cond.g.sp 210 λx=>R.parse_parser_cond G x) .none:=eqn Tryz.f210
theorem ia.eq:Eqn (Q L1) ia.spec (zA 0x4831724a612100384172254a62521211):=eqn Tryz.f425
theorem eval_run_binary.eq(G:ai):Eqn (Q (eO G++L10)) (eval_run_binary.g.sp 250 λx=>R.eval_run_binary G x.1 x.2.1 x.2.2) .none:=eqn Tryz.f250
theorem lA.eq:Eqn (Q L0) lA.spec (zA 0x39591049101421000e86105101432121):=eqn Tryz.f145
theorem aU.eq:Eqn (Q L5) aU.spec .none:=eqn Tryz.f429
theorem dG.eq:Eqn (Q L2) dG.spec .none:=eqn Tryz.f385
theorem iq.eq:Eqn (Q L6) iq.spec .none:=eqn Tryz.f384
theorem gy.eq:Eqn (Q L2) gy.spec .none:=eqn Tryz.f407
theorem dd.eq:Eqn (Q L2) dd.spec .none:=eqn Tryz.f14
theorem gh.eq:Eqn (Q L3) gh.spec .none:=eqn Tryz.f318
theorem dv.eq:Eqn (Q L4) dv.spec .none:=eqn Tryz.f194
theorem jg.eq:Eqn (Q L2) jg.spec .none:=eqn Tryz.f257
theorem iA.eq:Eqn (Q L2) iA.spec .none:=eqn Tryz.f83
theorem gp.eq:Eqn (Q L3) gp.spec .none:=eqn Tryz.f398
theorem lL.eq:Eqn (Q L3) lL.spec .none:=eqn Tryz.f347
theorem nB.eq:Eqn (Q L3) nB.spec .none:=eqn Tryz.f343
theorem jy.eq:Eqn (Q L3) jy.spec .none:=eqn Tryz.f332
theorem fe.eq:Eqn (Q L0) fe.spec .none:=eqn Tryz.f79
theorem bJ.eq:Eqn (Q L0) bJ.spec .none:=eqn Tryz.f20
theorem jh.eq:Eqn (Q L0) jh.spec .none:=eqn Tryz.f383
theorem fq.eq:Eqn (Q L0) fq.spec .none:=eqn Tryz.f289
theorem fi.eq:Eqn (Q L0) fi.spec .none:=eqn Tryz.f394
end Go.Mach

