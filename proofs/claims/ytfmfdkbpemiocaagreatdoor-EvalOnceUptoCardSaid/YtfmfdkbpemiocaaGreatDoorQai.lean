/-
  Proved here: the law renlaw12.EvalOnce returns true for every input of the stated bulk and leaves its arguments as they were; no further condition.
  By an AI agent; no person has read it.
-/
import Derived.Test.YtfmfdkbpemiocaaGreatDoorQaf
import Derived.KernelRfl
import Derived.Test.YtfmfdkbpemiocaaGreatDoorProg
set_option linter.all false
set_option linter.deprecated false
set_option linter.unusedVariables false
set_option maxRecDepth 100000
namespace Go.Mach
open Go.Proofs
theorem gd.eq:Eqn (Q L4) gd.spec (zA 0x8db14cb10142112078119824ca228344110787122d8ca22834181024210006aa140b101420018aa14961014311100038f814a91014220098f814911410098f814911523000084814c81014220038481491121003848149115231):=eqn Tryz.f168
theorem parse_parser_unary.eq(G:bl):Eqn (Q (ib G++L5)) (parse_parser_unary.g.sp 293 λx=>R.parse_parser_unary G x) (zA 0x48bb147c10142121000087a14fa1014200187a100142112111220007181488101430581602537a41530100468481820024311):=eqn Tryz.f293
theorem dD.eq:Eqn (Q L1) dD.spec (zA 0x1710487910828921611710388910820e9892252121015104878162892141151038881620c88922521122111110c808121438921211110b818121430588922521311):=eqn Tryz.f327
theorem gv.eq:Eqn (Q L1) gv.spec (zA 0xa8081680a2620410a8081581a26207a1521200987198e82420210987188f82420391521311):=eqn Tryz.f146
theorem eval_run_operation.eq(G:af):Eqn (Q (eu G++L10)) (eval_run_operation.g.sp 227 λx=>R.eval_run_operation G x.1 x.2.1 x.2.2.1 x.2.2.2) (zA 0x2b914a9101421121211):=eqn Tryz.f227
theorem parse_parser_calls.eq(G:bl):Eqn (Q (ib G++L5)) (parse_parser_calls.g.sp 331 λx=>R.parse_parser_calls G x) (zA 0x383602983252021038360298325205221121):=eqn Tryz.f331
theorem fV.eq:Eqn (Q L2) fV.spec (zA 0x6818142431100682813204122006828132041522100b84142431100b851320410242111):=eqn Tryz.f209
theorem aY.eq:Eqn (Q L1) aY.spec (zA 0x1018971482038121010189b8102038252211):=eqn Tryz.f463
theorem eval_run_step.eq(G:af):Eqn (Q (eu G++L10)) (eval_run_step.g.sp 249 λx=>R.eval_run_step G x.1 x.2.1 x.2.2) (zA 0x3ea1068101421111111):=eqn Tryz.f249
theorem dt.eq:Eqn (Q L7) dt.spec (zA 0x7808148a10014211111):=eqn Tryz.f412
theorem az.eq:Eqn (Q L3) az.spec (zA 0x38316205110038325202200284252018152121):=eqn Tryz.f111
theorem kg.eq:Eqn (Q L8) kg.spec (zA 0x58f91048101421000729141910142112311):=eqn Tryz.f316
theorem dy.eq:Eqn (Q L0) dy.spec (zA 0x580816245110058082520220048182520681521211):=eqn Tryz.f400
theorem kV.eq:Eqn (Q L1) kV.spec (zA 0x19781620511001978252022001988152061521211):=eqn Tryz.f336
theorem jA.eq:Eqn (Q L0) jA.spec (zA 0x6851e9412100586102e942521211):=eqn Tryz.f36
theorem cR.eq:Eqn (Q L7) cR.spec .none:=eqn Tryz.f357
theorem jh.eq:Eqn (Q L2) jh.spec (zA 0x3291419101421111112121):=eqn Tryz.f435
theorem fi.eq:Eqn (Q L0) fi.spec (zA 0x7861021210078610215221):=eqn Tryz.f86
theorem cz.eq:Eqn (Q L3) cz.spec .none:=eqn Tryz.f64
theorem ay.eq:Eqn (Q L1) ay.spec .none:=eqn Tryz.f136
theorem mN.eq:Eqn (Q L4) mN.spec .none:=eqn Tryz.f300
theorem cg.eq:Eqn (Q L1) cg.spec .none:=eqn Tryz.f419
theorem di.eq:Eqn (Q L2) di.spec .none:=eqn Tryz.f356
theorem dv.eq:Eqn (Q L1) dv.spec .none:=eqn Tryz.f428
theorem bj.eq:Eqn (Q L6) bj.spec .none:=eqn Tryz.f271
theorem da.eq:Eqn (Q L7) da.spec .none:=eqn Tryz.f222
theorem iA.eq:Eqn (Q L1) iA.spec .none:=eqn Tryz.f202
theorem ll.eq:Eqn (Q L1) ll.spec .none:=eqn Tryz.f107
theorem gm.eq:Eqn (Q L2) gm.spec .none:=eqn Tryz.f333
theorem iO.eq:Eqn (Q L0) iO.spec .none:=eqn Tryz.f59
theorem gp.eq:Eqn (Q L0) gp.spec .none:=eqn Tryz.f296
theorem cj.eq:Eqn (Q L0) cj.spec .none:=eqn Tryz.f239
theorem iP.eq:Eqn (Q L0) iP.spec .none:=eqn Tryz.f290
end Go.Mach

