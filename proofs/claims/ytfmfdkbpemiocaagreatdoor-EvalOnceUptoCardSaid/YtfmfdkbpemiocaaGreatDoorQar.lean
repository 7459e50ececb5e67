/-
  Proved here: the law renlaw12.EvalOnce returns true for every input of the stated bulk and leaves its arguments as they were; no further condition.
  By an AI agent; no person has read it.
-/
import Derived.Test.YtfmfdkbpemiocaaGreatDoorQaf
import Derived.KernelRfl
import Derived.Test.YtfmfdkbpemiocaaGreatDoorProg
set_option linter.all false
set_option linter.deprecated false
set_option linter.unusedVariables false
set_option maxRecDepth 100000
namespace Go.Mach
open Go.Proofs
theorem parse_parser_either.eq(G:bl):Eqn (Q (ib G++L5)) (parse_parser_either.g.sp 244 λx=>R.parse_parser_either G x) (zA 0x383602184910410383602184910522100058814d8101420068810014200383602718102103836027181052321311):=eqn Tryz.f244
theorem dH.eq:Eqn (Q L8) dH.spec (zA 0x3840e14bd10142100008cd14bd101430029cd14bd101422200065d14881014311111):=eqn Tryz.f363
theorem ic.eq:Eqn (Q L3) ic.spec (zA 0x8a9142a1014220038a914c51310038a914c5152221220006e81449101420018e814c5101431111):=eqn Tryz.f432
theorem kY.eq:Eqn (Q L1) kY.spec (zA 0x3878142910142200987814c114100987814c1152200008414481014220038414c11210038414c115231):=eqn Tryz.f446
theorem eval_run_array.eq(G:af):Eqn (Q (eu G++L10)) (eval_run_array.g.sp 225 λx=>R.eval_run_array G x.1 x.2.1 x.2.2) (zA 0x2614432239584382008112613213958431083022261321296843108303915212111):=eqn Tryz.f225
theorem eval_run_while.eq(G:af):Eqn (Q (eu G++L10)) (eval_run_while.g.sp 154 λx=>R.eval_run_while G x.1 x.2.1 x.2.2.1 x.2.2.2) (zA 0x6e81449101422122111843229928101121132199281052121):=eqn Tryz.f154
theorem eval_run_list.eq(G:af):Eqn (Q (eu G++L10)) (eval_run_list.g.sp 63 λx=>R.eval_run_list G x.1 x.2.1 x.2.2) (zA 0x21118432258321820121132158321820222113214842182058152121):=eqn Tryz.f63
theorem kv.eq:Eqn (Q L7) kv.spec (zA 0x11101a757202026c331100a011a7433336c71521111):=eqn Tryz.f68
theorem nA.eq:Eqn (Q L2) nA.spec (zA 0x649143910142100068481438101432211):=eqn Tryz.f346
theorem fH.eq:Eqn (Q (jF.spec::L7)) fH.spec (zA 0x1818162020321001818122330220008281223307815212111):=eqn Tryz.f27
theorem lv.eq:Eqn (Q L3) lv.spec (zA 0x581827228612100482827204828625212111):=eqn Tryz.f439
theorem eo.eq:Eqn (Q L4) eo.spec (zA 0x2fa14ea101422120007a414ba1014231):=eqn Tryz.f50
theorem iL.eq:Eqn (Q L2) iL.spec (zA 0x68f814e8101421000085814481014311221):=eqn Tryz.f192
theorem av.eq:Eqn (Q L0) av.spec (zA 0x383152e941210028415205e942521211):=eqn Tryz.f66
theorem kp.eq:Eqn (Q L0) kp.spec (zA 0x39591449101421000e86145101432121):=eqn Tryz.f145
theorem aT.eq:Eqn (Q L5) aT.spec .none:=eqn Tryz.f429
theorem bZ.eq:Eqn (Q L2) bZ.spec .none:=eqn Tryz.f385
theorem iq.eq:Eqn (Q L6) iq.spec .none:=eqn Tryz.f384
theorem hJ.eq:Eqn (Q L2) hJ.spec .none:=eqn Tryz.f407
theorem fb.eq:Eqn (Q L12) fb.spec .none:=eqn Tryz.f28
theorem cr.eq:Eqn (Q L1) cr.spec .none:=eqn Tryz.f236
theorem eR.eq:Eqn (Q L2) eR.spec .none:=eqn Tryz.f229
theorem cY.eq:Eqn (Q L1) cY.spec .none:=eqn Tryz.f360
theorem dV.eq:Eqn (Q L1) dV.spec .none:=eqn Tryz.f123
theorem jJ.eq:Eqn (Q (fg.spec::L2)) jJ.spec .none:=eqn Tryz.f334
theorem jL.eq:Eqn (Q L1) jL.spec .none:=eqn Tryz.f188
theorem jT.eq:Eqn (Q L1) jT.spec .none:=eqn Tryz.f8
theorem eY.eq:Eqn (Q L0) eY.spec .none:=eqn Tryz.f442
theorem fx.eq:Eqn (Q L0) fx.spec .none:=eqn Tryz.f374
theorem gr.eq:Eqn (Q L0) gr.spec .none:=eqn Tryz.f131
theorem jc.eq:Eqn (Q L0) jc.spec .none:=eqn Tryz.f85
theorem iu.eq:Eqn (Q L0) iu.spec .none:=eqn Tryz.f138
end Go.Mach

