/-
  Proved here: the law renlaw12.EvalOnce returns true for every input of the stated bulk and leaves its arguments as they were; no further condition.
  By an AI agent; no person has read it.
-/
import Derived.Test.YtfmfdkbpemiocaaGreatDoorQaf
import Derived.KernelRfl
import Derived.Test.YtfmfdkbpemiocaaGreatDoorProg
set_option linter.all false
set_option linter.deprecated false
set_option linter.unusedVariables false
set_option maxRecDepth 100000
namespace Go.Mach
open Go.Proofs
theorem aV.eq:Eqn (Q L4) aV.spec (zA 0x10188191182008161010188a910200825221210101b9b84720410101b9b8308207152100101483118200812101014848102008252311):=eqn Tryz.f443
theorem fO.eq:Eqn (Q L1) fO.spec (zA 0x21c1001421112000f84914ba10142313119109027bb8372041113109017bb833143022019209027bb83314305221111):=eqn Tryz.f135
theorem aP.eq:Eqn (Q L3) aP.spec (zA 0x88b814b91014220101b91812820410101b9b81028152122101011a3218202101011a312820181521):=eqn Tryz.f452
theorem kC.eq:Eqn (Q L1) kC.spec (zA 0x3f914e91014210002c914b9101431000389147910143100052914191014310004d814c8101431111112120007414381014231):=eqn Tryz.f294
theorem eS.eq:Eqn (Q L4) eS.spec (zA 0x60168814e81014221206018861422b311106018871322b41521111):=eqn Tryz.f178
theorem ko.eq:Eqn (Q L1) ko.spec (zA 0x6e914d91014222121003a44620202e9331003a432333e96122003a42333302e9625212111):=eqn Tryz.f43
theorem dd.eq:Eqn (Q L3) dd.spec (zA 0x8d9145a101422004412938102811005424263384002431):=eqn Tryz.f378
theorem ik.eq:Eqn (Q L0) ik.spec (zA 0x6921580910820410692148191082089152111221106921690812253021069215918122530881521211):=eqn Tryz.f53
theorem dm.eq:Eqn (Q L6) dm.spec (zA 0x4315962081234200821005964612302200497408208802252121):=eqn Tryz.f311
theorem parse_parser_body.eq(G:bl):Eqn (Q (ib G++L5)) (parse_parser_body.g.sp 208 λx=>R.parse_parser_body G x.1 x.2) (zA 0x371001421):=eqn Tryz.f208
theorem bY.eq:Eqn (Q (bL.spec::L2)) bY.spec (zA 0x9010971ca6121009010971ca6152211):=eqn Tryz.f164
theorem jR.eq:Eqn (Q L2) jR.spec (zA 0x38324243110038333202200284332008152121):=eqn Tryz.f54
theorem gV.eq:Eqn (Q L0) gV.spec (zA 0x181814a810142200aa7106121009a08102062521211):=eqn Tryz.f26
theorem gz.eq:Eqn (Q L0) gz.spec (zA 0x6808108289612100581810820388962521211):=eqn Tryz.f80
theorem parse_parser_simple.eq(G:bl):Eqn (Q (ib G++L5)) (parse_parser_simple.g.sp 182 λx=>R.parse_parser_simple G x) .none:=eqn Tryz.f182
theorem eval_run_expression.eq(G:af):Eqn (Q (eu G++L10)) (eval_run_expression.g.sp 150 λx=>R.eval_run_expression G x.1 x.2.1 x.2.2) .none:=eqn Tryz.f150
theorem ey.eq:Eqn (Q L13) ey.spec (zA 0x68814e810142121):=eqn Tryz.f12
theorem fp.eq:Eqn (Q L2) fp.spec (zA 0x76145810142121):=eqn Tryz.f404
theorem cc.eq:Eqn (Q L5) cc.spec .none:=eqn Tryz.f377
theorem cN.eq:Eqn (Q L3) cN.spec .none:=eqn Tryz.f117
theorem cT.eq:Eqn (Q L1) cT.spec .none:=eqn Tryz.f410
theorem fy.eq:Eqn (Q L1) fy.spec .none:=eqn Tryz.f165
theorem cI.eq:Eqn (Q L4) cI.spec .none:=eqn Tryz.f295
theorem jZ.eq:Eqn (Q L3) jZ.spec .none:=eqn Tryz.f434
theorem bW.eq:Eqn (Q L1) bW.spec .none:=eqn Tryz.f313
theorem aL.eq:Eqn (Q L1) aL.spec .none:=eqn Tryz.f224
theorem mq.eq:Eqn (Q L4) mq.spec .none:=eqn Tryz.f387
theorem gf.eq:Eqn (Q L1) gf.spec .none:=eqn Tryz.f395
theorem fk.eq:Eqn (Q L0) fk.spec .none:=eqn Tryz.f79
theorem bN.eq:Eqn (Q L0) bN.spec .none:=eqn Tryz.f173
theorem jC.eq:Eqn (Q L0) jC.spec .none:=eqn Tryz.f460
theorem kX.eq:Eqn (Q L0) kX.spec .none:=eqn Tryz.f462
theorem lV.eq:Eqn (Q L0) lV.spec .none:=eqn Tryz.f40
end Go.Mach

