/-
  Proved here: the law renlaw12.EvalOnce returns true for every input of the stated bulk and leaves its arguments as they were; no further condition.
  By an AI agent; no person has read it.
-/
import Derived.Test.YtfmfdkbpemiocaaGreatDoorQaf
import Derived.KernelRfl
import Derived.Test.YtfmfdkbpemiocaaGreatDoorProg
set_option linter.all false
set_option linter.deprecated false
set_option linter.unusedVariables false
set_option maxRecDepth 100000
namespace Go.Mach
open Go.Proofs
theorem dF.eq:Eqn (Q L7) dF.spec (zA 0x5dd14cd10142100048cc14bc1014322114732298bc1028110018558bc228a8102421021147322786a29820281100287a19820228a82024311111100078914f910142311):=eqn Tryz.f361
theorem eval_run_assign.eq(G:af):Eqn (Q (eu G++L10)) (eval_run_assign.g.sp 252 λx=>R.eval_run_assign G x.1 x.2.1 x.2.2) (zA 0x2b814532288ca268200811043811638ca268300242101420824532258591382008112081448322385913820024311111):=eqn Tryz.f252
theorem eval_run_unary.eq(G:af):Eqn (Q (eu G++L10)) (eval_run_unary.g.sp 248 λx=>R.eval_run_unary G x.1 x.2.1 x.2.2.1 x.2.2.2) (zA 0x211d8432278f817820281121145322e8268f81783068102421111):=eqn Tryz.f248
theorem jk.eq:Eqn (Q L6) jk.spec (zA 0x8eb14db101421000080b14fa10143112200414027f910014310006f814e810142112311):=eqn Tryz.f319
theorem eQ.eq:Eqn (Q L6) eQ.spec (zA 0xe8684182222622100d87841820c8222635212111):=eqn Tryz.f402
theorem mJ.eq:Eqn (Q L5) mJ.spec (zA 0x19a9143b1014212211006939142431100693923202200594923207915212000e8514391014231):=eqn Tryz.f37
theorem iQ.eq:Eqn (Q L1) iQ.spec (zA 0xa9a814ca101420005581441014312211005a3121434311005a31313344122004a41313306442521211):=eqn Tryz.f448
theorem dL.eq:Eqn (Q L6) dL.spec (zA 0x58381428101422211418322083e82820081100285682820181024211):=eqn Tryz.f354
theorem jH.eq:Eqn (Q L1) jH.spec (zA 0x387814291014211221100c83242431100c8333202200b84332008152121):=eqn Tryz.f103
theorem fQ.eq:Eqn (Q L0) fQ.spec (zA 0x6948142a101421221100b93162451100b9325202200a94252018152121):=eqn Tryz.f129
theorem lR.eq:Eqn (Q L2) lR.spec (zA 0x83a142a1014211111000d8481438101432211):=eqn Tryz.f307
theorem ke.eq:Eqn (Q L5) ke.spec (zA 0x4951088a102810142111):=eqn Tryz.f342
theorem kZ.eq:Eqn (Q L7) kZ.spec (zA 0x6c814b810142112211):=eqn Tryz.f277
theorem eval_run_catch.eq(G:af):Eqn (Q (eu G++L10)) (eval_run_catch.g.sp 195 λx=>R.eval_run_catch G x.1 x.2.1 x.2.2.1 x.2.2.2.1 x.2.2.2.2) .none:=eqn Tryz.f195
theorem eval_run_callee.eq(G:af):Eqn (Q (eu G++L10)) (eval_run_callee.g.sp 253 λx=>R.eval_run_callee G x.1 x.2.1 x.2.2) .none:=eqn Tryz.f253
theorem eval_run_statement.eq(G:af):Eqn (Q (eu G++L10)) (eval_run_statement.g.sp 90 λx=>R.eval_run_statement G x.1 x.2.1 x.2.2.1 x.2.2.2) .none:=eqn Tryz.f90
theorem eval_run_property.eq(G:af):Eqn (Q (eu G++L10)) (eval_run_property.g.sp 256 λx=>R.eval_run_property G x.1 x.2.1 x.2.2) .none:=eqn Tryz.f256
theorem j8.eq:Eqn (Q L8) j8.spec .none:=eqn Tryz.f44
theorem cV.eq:Eqn (Q L6) cV.spec .none:=eqn Tryz.f276
theorem kh.eq:Eqn (Q L0) kh.spec (zA 0x996145101422121):=eqn Tryz.f270
theorem dP.eq:Eqn (Q L2) dP.spec .none:=eqn Tryz.f297
theorem aS.eq:Eqn (Q L1) aS.spec .none:=eqn Tryz.f78
theorem bL.eq:Eqn (Q L1) bL.spec .none:=eqn Tryz.f136
theorem bU.eq:Eqn (Q L1) bU.spec .none:=eqn Tryz.f142
theorem dx.eq:Eqn (Q L2) dx.spec .none:=eqn Tryz.f367
theorem cU.eq:Eqn (Q L2) cU.spec .none:=eqn Tryz.f430
theorem lE.eq:Eqn (Q L1) lE.spec .none:=eqn Tryz.f70
theorem fE.eq:Eqn (Q L1) fE.spec .none:=eqn Tryz.f303
theorem fD.eq:Eqn (Q L1) fD.spec .none:=eqn Tryz.f440
theorem gE.eq:Eqn (Q L0) gE.spec .none:=eqn Tryz.f373
theorem fU.eq:Eqn (Q L0) fU.spec .none:=eqn Tryz.f386
theorem gD.eq:Eqn (Q L0) gD.spec .none:=eqn Tryz.f289
theorem fo.eq:Eqn (Q L0) fo.spec .none:=eqn Tryz.f394
end Go.Mach

