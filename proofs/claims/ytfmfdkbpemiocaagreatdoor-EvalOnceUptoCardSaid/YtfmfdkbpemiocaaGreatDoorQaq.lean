/-
  Proved here: the law renlaw12.EvalOnce returns true for every input of the stated bulk and leaves its arguments as they were; no further condition.
  By an AI agent; no person has read it.
-/
import Derived.Test.YtfmfdkbpemiocaaGreatDoorQaf
import Derived.KernelRfl
import Derived.Test.YtfmfdkbpemiocaaGreatDoorProg
set_option linter.all false
set_option linter.deprecated false
set_option linter.unusedVariables false
set_option maxRecDepth 100000
namespace Go.Mach
open Go.Proofs
theorem jq.eq:Eqn (Q L0) jq.spec (zA 0x984a145b1014222211610699913143431116106999141334b4142161069d9132044b4252100048a8146910142221007888143111310c88814b41024312211004b44424311004b4321334b4122003b5321330084b42521211):=eqn Tryz.f49
theorem eval_run_decls.eq(G:af):Eqn (Q (eu G++L10)) (eval_run_decls.g.sp 152 λx=>R.eval_run_decls G x.1 x.2.1 x.2.2) (zA 0x261184322b87824820126143832214887824830024211122112111843223a35182012113213a351820222113212a45182088152121):=eqn Tryz.f152
theorem eM.eq:Eqn (Q L7) eM.spec (zA 0xf85b144b10142221145322494b10481100185094b209810242021145322784928820481100285918820981024311111):=eqn Tryz.f372
theorem iR.eq:Eqn (Q L2) iR.spec (zA 0x6d814a810142110068b814a8101422000558144101431221100593121434311005931313344122004941313306442521211):=eqn Tryz.f200
theorem mC.eq:Eqn (Q L0) mC.spec (zA 0x3849128710142000389812871014312211009961082282ea6221008971082008282ea635212111):=eqn Tryz.f335
theorem mu.eq:Eqn (Q L2) mu.spec (zA 0x6ba14aa10142100062a141a101431000e8a814981014322111):=eqn Tryz.f345
theorem fq.eq:Eqn (Q (bL.spec::L6)) fq.spec (zA 0x62a141a10142100067914691014311112211):=eqn Tryz.f97
theorem jD.eq:Eqn (Q L1) jD.spec (zA 0x8c81cb281014211221100293672ea6121001945082018cb2ea635212111):=eqn Tryz.f337
theorem ff.eq:Eqn (Q L1) ff.spec (zA 0x585820822871210048682082088287252121000182814b81014231):=eqn Tryz.f433
theorem i6.eq:Eqn (Q (ec.spec::L2)) i6.spec (zA 0x6c81429101422100050814581014231):=eqn Tryz.f451
theorem gS.eq:Eqn (Q L0) gS.spec (zA 0x183162022c32100183122330220008412233018152121):=eqn Tryz.f67
theorem parse_parser_cond.eq(G:bl):Eqn (Q (ib G++L5)) (parse_parser_cond.g.sp 210 λx=>R.parse_parser_cond G x) .none:=eqn Tryz.f210
theorem iV.eq:Eqn (Q L1) iV.spec (zA 0x483172ca61210038417205ca62521211):=eqn Tryz.f425
theorem eval_run_binary.eq(G:af):Eqn (Q (eu G++L10)) (eval_run_binary.g.sp 250 λx=>R.eval_run_binary G x.1 x.2.1 x.2.2) .none:=eqn Tryz.f250
theorem gH.eq:Eqn (Q L6) gH.spec .none:=eqn Tryz.f414
theorem cH.eq:Eqn (Q L5) cH.spec (zA 0x2781468101421121211):=eqn Tryz.f298
theorem eN.eq:Eqn (Q L2) eN.spec .none:=eqn Tryz.f329
theorem bc.eq:Eqn (Q L5) bc.spec .none:=eqn Tryz.f116
theorem lX.eq:Eqn (Q L3) lX.spec .none:=eqn Tryz.f304
theorem dI.eq:Eqn (Q L4) dI.spec .none:=eqn Tryz.f149
theorem dO.eq:Eqn (Q L6) dO.spec .none:=eqn Tryz.f321
theorem aX.eq:Eqn (Q L3) aX.spec .none:=eqn Tryz.f87
theorem eE.eq:Eqn (Q L2) eE.spec .none:=eqn Tryz.f369
theorem iB.eq:Eqn (Q L2) iB.spec .none:=eqn Tryz.f83
theorem bC.eq:Eqn (Q L1) bC.spec .none:=eqn Tryz.f286
theorem fR.eq:Eqn (Q L7) fR.spec .none:=eqn Tryz.f341
theorem ev.eq:Eqn (Q L1) ev.spec .none:=eqn Tryz.f121
theorem cM.eq:Eqn (Q L2) cM.spec .none:=eqn Tryz.f91
theorem cF.eq:Eqn (Q L0) cF.spec .none:=eqn Tryz.f113
theorem gB.eq:Eqn (Q L0) gB.spec .none:=eqn Tryz.f301
theorem kK.eq:Eqn (Q L0) kK.spec .none:=eqn Tryz.f75
theorem mO.eq:Eqn (Q L0) mO.spec .none:=eqn Tryz.f128
theorem lQ.eq:Eqn (Q L0) lQ.spec .none:=eqn Tryz.f72
end Go.Mach

