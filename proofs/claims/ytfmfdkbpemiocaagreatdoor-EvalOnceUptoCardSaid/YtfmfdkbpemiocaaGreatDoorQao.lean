/-
  Proved here: the law renlaw12.EvalOnce returns true for every input of the stated bulk and leaves its arguments as they were; no further condition.
  By an AI agent; no person has read it.
-/
import Derived.Test.YtfmfdkbpemiocaaGreatDoorQaf
import Derived.KernelRfl
import Derived.Test.YtfmfdkbpemiocaaGreatDoorProg
set_option linter.all false
set_option linter.deprecated false
set_option linter.unusedVariables false
set_option maxRecDepth 100000
namespace Go.Mach
open Go.Proofs
theorem eval_run_host.eq(G:af):Eqn (Q (eu G++L10)) (eval_run_host.g.sp 364 λx=>R.eval_run_host G x.1 x.2.1 x.2.2) (zA 0x851e1441e10142111122100074a14ba10142212111212114432268223d8609418213628700811089513668618675f857362870024311):=eqn Tryz.f364
theorem fF.eq:Eqn (Q L1) fF.spec (zA 0xd8fc148289716100c80d148205d8972521211000089c148c101431000783b142b1014300049c821828971310039d821820098972521300008b814a81014322111):=eqn Tryz.f55
theorem parse_parser_primary.eq(G:bl):Eqn (Q (ib G++L5)) (parse_parser_primary.g.sp 420 λx=>R.parse_parser_primary G x) (zA 0x57d14cd10142210060160c16a51014212111111111111121311111):=eqn Tryz.f420
theorem eval_run_object.eq(G:af):Eqn (Q (eu G++L10)) (eval_run_object.g.sp 226 λx=>R.eval_run_object G x.1 x.2.1 x.2.2) (zA 0x261443225a584482008112613215a584410830222613214a6844108304915212111):=eqn Tryz.f226
theorem gN.eq:Eqn (Q L1) gN.spec (zA 0x6ba14aa101420005e91461014230006891479101432212100901bb23324612100901bb23324615221121):=eqn Tryz.f96
theorem eval_run_receives.eq(G:af):Eqn (Q (eu G++L10)) (eval_run_receives.g.sp 417 λx=>R.eval_run_receives G x.1 x.2) (zA 0x52a147a101420062a101810142111000485814191014231):=eqn Tryz.f417
theorem ji.eq:Eqn (Q L7) ji.spec (zA 0x79a148a10142112210002c914b9101421111112131):=eqn Tryz.f272
theorem jQ.eq:Eqn (Q L6) jQ.spec (zA 0x2ab149b10142111121200048c8148910142311):=eqn Tryz.f39
theorem iE.eq(fu:Nat):Eqn (Q ((iE.spec fu)::L0)) (iE.g.sp 101 λx=>R.iE (fu+1) x.1 x.2) (zA 0x151991138c811824b7121151991128d811820f84b7252121111):=eqn Tryz.f101
theorem aN.eq:Eqn (Q L0) aN.spec (zA 0x101493810210101394810381521):=eqn Tryz.f467
theorem jx.eq:Eqn (Q (ec.spec::L1)) jx.spec (zA 0x6831082ea5cb222100584108206ea5cb23521211):=eqn Tryz.f441
theorem bh.eq:Eqn ({ P:=Tryz.prog,specs:=[ff.spec,bT.spec,cL.spec],ety:=pj Tryz.prog owned,inls:=[An 65 (qQ.env Tryz.prog) Tryz.f65 .none 5] }:Env) bh.spec .none:=eqn Tryz.f408
theorem dY.eq:Eqn (Q L0) dY.spec (zA 0x38316205110038325202200284252018152121):=eqn Tryz.f263
theorem dG.eq:Eqn (Q L8) dG.spec .none:=eqn Tryz.f326
theorem kc.eq:Eqn (Q L2) kc.spec (zA 0x7e81459101422111):=eqn Tryz.f403
theorem eval_run_parts.eq(G:af):Eqn (Q (eu G++L10)) (eval_run_parts.g.sp 274 λx=>R.eval_run_parts G x.1 x.2.1 x.2.2) .none:=eqn Tryz.f274
theorem eval_run_asked.eq(G:af):Eqn (Q (eu G++L10)) (eval_run_asked.g.sp 191 λx=>R.eval_run_asked G x.1 x.2.1 x.2.2) .none:=eqn Tryz.f191
theorem lB.eq:Eqn (Q L2) lB.spec (zA 0x4712841014211):=eqn Tryz.f305
theorem iX.eq:Eqn (Q L3) iX.spec .none:=eqn Tryz.f269
theorem cW.eq:Eqn (Q L5) cW.spec .none:=eqn Tryz.f285
theorem aF.eq:Eqn (Q L5) aF.spec .none:=eqn Tryz.f268
theorem bo.eq:Eqn (Q L1) bo.spec .none:=eqn Tryz.f136
theorem jj.eq:Eqn (Q L3) jj.spec .none:=eqn Tryz.f325
theorem gF.eq:Eqn (Q L4) gF.spec .none:=eqn Tryz.f422
theorem kj.eq:Eqn (Q L4) kj.spec .none:=eqn Tryz.f314
theorem lL.eq:Eqn (Q L3) lL.spec .none:=eqn Tryz.f347
theorem nC.eq:Eqn (Q L3) nC.spec .none:=eqn Tryz.f343
theorem js.eq:Eqn (Q L3) js.spec .none:=eqn Tryz.f332
theorem fL.eq:Eqn (Q L0) fL.spec .none:=eqn Tryz.f81
theorem gx.eq:Eqn (Q L0) gx.spec .none:=eqn Tryz.f109
theorem jg.eq:Eqn (Q L0) jg.spec .none:=eqn Tryz.f393
theorem jl.eq:Eqn (Q L0) jl.spec .none:=eqn Tryz.f391
theorem fY.eq:Eqn (Q L0) fY.spec .none:=eqn Tryz.f160
end Go.Mach

