/-
  Shared texts of the proofs of the laws renlaw13.AgentRefuses, renlaw13.AgentIs and renlaw13.AgentApart: each returns true for every input of the stated bulk and leaves its arguments as they were; no further condition.
  By an AI agent; no person has read it.
-/
import Derived.Test.YtfmfdkbpemiocaaGreatDoorPaf
import Derived.KernelRfl
import Derived.Test.YtfmfdkbpemiocaaGreatDoorProg
set_option linter.all false
set_option linter.deprecated false
set_option linter.unusedVariables false
set_option maxRecDepth 100000
namespace Go.Mach
open Go.Proofs
theorem eval_run_loop.eq(G:ai):Eqn (Q (eO G++L10)) (eval_run_loop.g.sp 155 λx=>R.eval_run_loop G x.1 x.2.1 x.2.2.1 x.2.2.2) (zA 0x229152f85583238fc1382012791984583218fc1382002421100064c10ac101421212d81a855832591a2582012d815831491a2582002432238152a8558328cd9621383011288198458328cd96213830521024152f8558323899138201218198458321899138200243111121):=eqn Tryz.f155
theorem jw.eq:Eqn (Q L1) jw.spec (zA 0x28c107c10142111110003db10cb10143100029b108b1014311111110002ca10ba1014311111111111110002f810e81014310002b810a810143100054810381014310002181008101432121):=eqn Tryz.f74
theorem gK.eq:Eqn (Q (bN.spec::L2)) gK.spec (zA 0xc8ac10ed1014221000683a101b101422122101910902ca58352241100ca5844202200ca582214325152311):=eqn Tryz.f137
theorem jr.eq:Eqn (Q L6) jr.spec (zA 0x8eb10db101421000080b10fa1014311220068168027f910014310006f810e810142112311):=eqn Tryz.f319
theorem fT.eq:Eqn (Q L6) fT.spec (zA 0xe8684182e82e8622100d87841822c8e82e8635212111):=eqn Tryz.f402
theorem kS.eq:Eqn (Q L5) kS.spec (zA 0x19a9103b1014212211006939142031100693923202200594923227915212000e8510391014231):=eqn Tryz.f37
theorem eC.eq:Eqn (Q L7) eC.spec (zA 0x2216845832290a328226110056480a121284238102421111111):=eqn Tryz.f324
theorem ig.eq:Eqn (Q L0) ig.spec (zA 0x4821580910820410482148191082289152111221104821690812253021048215918122532881521211):=eqn Tryz.f53
theorem iU.eq:Eqn (Q L0) iU.spec (zA 0x3d810c810142112100484810511004848100242120069412205111007951221521):=eqn Tryz.f77
theorem eh.eq:Eqn (Q L0) eh.spec (zA 0x6948102a101421221100b93162051100b9325202200a94252218152121):=eqn Tryz.f129
theorem fH.eq:Eqn (Q L0) fH.spec (zA 0x4831215302632100483132334a51220038413233264a52521211):=eqn Tryz.f170
theorem jx.eq:Eqn (Q L0) jx.spec (zA 0x58312153022321005831323325122004841323326252521211):=eqn Tryz.f204
theorem eK.eq:Eqn (Q L0) eK.spec (zA 0x3841078101422111098410811211110984108115221):=eqn Tryz.f124
theorem iD.eq:Eqn (Q L2) iD.spec (zA 0x35814811014200067106101431):=eqn Tryz.f449
theorem eval_run_callee.eq(G:ai):Eqn (Q (eO G++L10)) (eval_run_callee.g.sp 253 λx=>R.eval_run_callee G x.1 x.2.1 x.2.2) .none:=eqn Tryz.f253
theorem eval_run_statement.eq(G:ai):Eqn (Q (eO G++L10)) (eval_run_statement.g.sp 90 λx=>R.eval_run_statement G x.1 x.2.1 x.2.2.1 x.2.2.2) .none:=eqn Tryz.f90
theorem eval_run_property.eq(G:ai):Eqn (Q (eO G++L10)) (eval_run_property.g.sp 256 λx=>R.eval_run_property G x.1 x.2.1 x.2.2) .none:=eqn Tryz.f256
theorem kG.eq:Eqn (Q L8) kG.spec .none:=eqn Tryz.f44
theorem cQ.eq:Eqn (Q L6) cQ.spec .none:=eqn Tryz.f276
theorem ko.eq:Eqn (Q L0) ko.spec (zA 0x996105101422121):=eqn Tryz.f270
theorem mJ.eq:Eqn (Q L4) mJ.spec .none:=eqn Tryz.f300
theorem cV.eq:Eqn (Q L1) cV.spec .none:=eqn Tryz.f419
theorem fk.eq:Eqn (Q L2) fk.spec .none:=eqn Tryz.f356
theorem cF.eq:Eqn (Q L3) cF.spec .none:=eqn Tryz.f172
theorem iO.eq:Eqn (Q L3) iO.spec .none:=eqn Tryz.f228
theorem cJ.eq:Eqn (Q L4) cJ.spec .none:=eqn Tryz.f61
theorem cX.eq:Eqn (Q L0) cX.spec .none:=eqn Tryz.f406
theorem bO.eq:Eqn (Q L0) bO.spec .none:=eqn Tryz.f180
theorem al.eq:Eqn (Q L0) al.spec .none:=eqn Tryz.f99
theorem iN.eq:Eqn (Q L1) iN.spec .none:=eqn Tryz.f125
theorem iw.eq:Eqn (Q L0) iw.spec .none:=eqn Tryz.f301
theorem kP.eq:Eqn (Q L0) kP.spec .none:=eqn Tryz.f75
theorem jf.eq:Eqn (Q L0) jf.spec .none:=eqn Tryz.f350
theorem j7.eq:Eqn (Q L0) j7.spec .none:=eqn Tryz.f238
end Go.Mach

