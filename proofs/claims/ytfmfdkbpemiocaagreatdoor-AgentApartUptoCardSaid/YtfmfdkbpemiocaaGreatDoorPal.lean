/-
  Shared texts of the proofs of the laws renlaw13.AgentRefuses, renlaw13.AgentIs and renlaw13.AgentApart: each returns true for every input of the stated bulk and leaves its arguments as they were; no further condition.
  By an AI agent; no person has read it.
-/
import Derived.Test.YtfmfdkbpemiocaaGreatDoorPaf
import Derived.KernelRfl
import Derived.Test.YtfmfdkbpemiocaaGreatDoorProg
set_option linter.all false
set_option linter.deprecated false
set_option linter.unusedVariables false
set_option maxRecDepth 100000
namespace Go.Mach
open Go.Proofs
theorem gz.eq:Eqn (Q L4) gz.spec (zA 0x8db10cb101421120b8119824ca228304110b87122d8ca22830181024210006aa100b101420018aa14b61014311100038f810a91014220098f814b11410098f814b11523000084810c810142200384814b112100384814b115231):=eqn Tryz.f168
theorem eS.eq:Eqn (Q L7) eS.spec (zA 0x271e1061e10142111111000182c10bc10142213121211100022916181014311):=eqn Tryz.f330
theorem iJ.eq:Eqn (Q L7) iJ.spec (zA 0x68468323cc1001421111000a87a106a101420068168023b91001423000083910291014310000898108810143231):=eqn Tryz.f317
theorem parse_parser_primary.eq(G:cK):Eqn (Q (kF G++L4)) (parse_parser_primary.g.sp 420 λx=>R.parse_parser_primary G x) (zA 0x57d10cd101422100040c10014212111111111111121311111):=eqn Tryz.f420
theorem iW.eq:Eqn (Q (eK.spec::L2)) iW.spec (zA 0x14142159381282080814114142159d8123080825212210421997218208081210421997128222080825212111):=eqn Tryz.f427
theorem eval_run_receives.eq(G:ai):Eqn (Q (eO G++L10)) (eval_run_receives.g.sp 417 λx=>R.eval_run_receives G x.1 x.2) (zA 0x52a107a101420062a121810142111000485810191014231):=eqn Tryz.f417
theorem fF.eq:Eqn (Q L3) fF.spec (zA 0x8d9105a1014220068512938122811005424263384002431):=eqn Tryz.f378
theorem fa.eq:Eqn (Q (bN.spec::L6)) fa.spec (zA 0x62a101a10142100067910691014311112211):=eqn Tryz.f97
theorem eG.eq:Eqn (Q L6) eG.spec (zA 0x68315962081230220821005964612302200497408228822252121):=eqn Tryz.f311
theorem dH.eq:Eqn (Q L0) dH.spec (zA 0xc82158082520210c82148182522681521211):=eqn Tryz.f35
theorem bL.eq:Eqn (Q L1) bL.spec (zA 0x38316225110038325202200284252218152121):=eqn Tryz.f84
theorem gS.eq:Eqn (Q L3) gS.spec (zA 0x58c81099101422111111111112121):=eqn Tryz.f273
theorem eJ.eq:Eqn (Q L6) eJ.spec (zA 0x6491039101422211):=eqn Tryz.f246
theorem gZ.eq:Eqn (Q L0) gZ.spec (zA 0x78616205110078625202200787152261521211):=eqn Tryz.f33
theorem lP.eq:Eqn (Q L2) lP.spec (zA 0x2481038101421121211):=eqn Tryz.f205
theorem parse_parser_arguments.eq(G:cK):Eqn (Q (kF G++L4)) (parse_parser_arguments.g.sp 380 λx=>R.parse_parser_arguments G x) .none:=eqn Tryz.f380
theorem mL.eq:Eqn (Q L1) mL.spec (zA 0x21810081014221211):=eqn Tryz.f120
theorem iE.eq:Eqn (Q L7) iE.spec .none:=eqn Tryz.f340
theorem dV.eq:Eqn (Q L4) dV.spec .none:=eqn Tryz.f409
theorem fp.eq:Eqn (Q L4) fp.spec .none:=eqn Tryz.f405
theorem dD.eq:Eqn (Q L2) dD.spec .none:=eqn Tryz.f297
theorem aP.eq:Eqn (Q L1) aP.spec .none:=eqn Tryz.f78
theorem bN.eq:Eqn (Q L1) bN.spec .none:=eqn Tryz.f136
theorem aj.eq:Eqn (Q L2) aj.spec .none:=eqn Tryz.f141
theorem er.eq:Eqn (Q L2) er.spec .none:=eqn Tryz.f187
theorem bI.eq:Eqn (Q L1) bI.spec .none:=eqn Tryz.f65
theorem ly.eq:Eqn (Q L2) ly.spec .none:=eqn Tryz.f92
theorem cD.eq:Eqn (Q L1) cD.spec .none:=eqn Tryz.f375
theorem gi.eq:Eqn (Q L2) gi.spec .none:=eqn Tryz.f333
theorem iP.eq:Eqn (Q L0) iP.spec .none:=eqn Tryz.f59
theorem j6.eq:Eqn (Q L0) j6.spec .none:=eqn Tryz.f199
theorem kN.eq:Eqn (Q L0) kN.spec .none:=eqn Tryz.f34
theorem ic.eq:Eqn (Q L0) ic.spec .none:=eqn Tryz.f138
end Go.Mach

