/-
  Proved here: the law renlaw12.EvalOnce returns true for every input of the stated bulk and leaves its arguments as they were; no further condition.
  By an AI agent; no person has read it.
-/
import Derived.Test.YtfmfdkbpemiocaaGreatDoorQaf
import Derived.KernelRfl
import Derived.Test.YtfmfdkbpemiocaaGreatDoorProg
set_option linter.all false
set_option linter.deprecated false
set_option linter.unusedVariables false
set_option maxRecDepth 100000
namespace Go.Mach
open Go.Proofs
theorem eI.eq:Eqn (Q L7) eI.spec (zA 0x118128181985b2482051118128181886b248202c1521211000184a11822713100085a118207a2725212111212114632220876920611003951d81183271024300028c81008101431111):=eqn Tryz.f353
theorem eval_run_fresh.eq(G:af):Eqn (Q (eu G++L10)) (eval_run_fresh.g.sp 255 λx=>R.eval_run_fresh G x.1 x.2.1 x.2.2) (zA 0x600e1460e101422111021144322293a2482008110025e83a248303810243100074a14ba1014231111):=eqn Tryz.f255
theorem iF.eq:Eqn (Q L7) iF.spec (zA 0x444323cc1001421111000a87a146a1014200414023b91001423000083914291014310000898148810143231):=eqn Tryz.f317
theorem parse_parser_list.eq(G:bl):Eqn (Q (ib G++L5)) (parse_parser_list.g.sp 421 λx=>R.parse_parser_list G x.1 x.2) (zA 0x60178814f81014221206018851622b511106018861522b6152111):=eqn Tryz.f421
theorem iU.eq:Eqn (Q (ec.spec::L2)) iU.spec (zA 0x141392159381282ea08141141392159d8103ea082521221039219972182ea0812103921997128202ea0825212111):=eqn Tryz.f427
theorem jF.eq:Eqn (Q L5) jF.spec (zA 0x19a9143b1014212211006939142431100693923202200594923207915212000e8514391014231):=eqn Tryz.f37
theorem ch.eq:Eqn (Q L7) ch.spec (zA 0x21144322290a328206110056480a121284038102421111111):=eqn Tryz.f324
theorem gU.eq:Eqn (Q L0) gU.spec (zA 0x692118a810820410692108b8108202915211221106921a82812253021069219838122530a815212111):=eqn Tryz.f38
theorem iS.eq:Eqn (Q L0) iS.spec (zA 0x3d814c810142112100484814511004848100242120069412245111007951021521):=eqn Tryz.f77
theorem ah.eq:Eqn (Q L1) ah.spec (zA 0x38316205110038325202200284252018152121):=eqn Tryz.f147
theorem bJ.eq:Eqn (Q L1) bJ.spec (zA 0x38316205110038325202200284252018152121):=eqn Tryz.f84
theorem er.eq:Eqn (Q L3) er.spec (zA 0x58c81499101422111111111112121):=eqn Tryz.f273
theorem dB.eq:Eqn (Q L6) dB.spec (zA 0x6491439101422211):=eqn Tryz.f246
theorem j6.eq:Eqn (Q L0) j6.spec (zA 0x78616245110078625202200787152061521211):=eqn Tryz.f33
theorem gh.eq:Eqn (Q L0) gh.spec (zA 0x61814b6121005281044b62521211):=eqn Tryz.f105
theorem bE.eq:Eqn (Q L3) bE.spec (zA 0x287814191014221):=eqn Tryz.f88
theorem de.eq:Eqn (Q L8) de.spec .none:=eqn Tryz.f288
theorem bA.eq:Eqn (Q L2) bA.spec .none:=eqn Tryz.f58
theorem nS.eq:Eqn (Q L1) nS.spec (zA 0x5514281014221):=eqn Tryz.f339
theorem bF.eq:Eqn (Q L2) bF.spec .none:=eqn Tryz.f136
theorem nB.eq:Eqn (Q L3) nB.spec .none:=eqn Tryz.f389
theorem cQ.eq:Eqn (Q L1) cQ.spec .none:=eqn Tryz.f177
theorem mr.eq:Eqn (Q L2) mr.spec .none:=eqn Tryz.f211
theorem lW.eq:Eqn (Q L2) lW.spec .none:=eqn Tryz.f299
theorem fG.eq:Eqn (Q L2) fG.spec .none:=eqn Tryz.f187
theorem dn.eq:Eqn (Q L2) dn.spec .none:=eqn Tryz.f112
theorem cP.eq:Eqn (Q L0) cP.spec .none:=eqn Tryz.f221
theorem gL.eq:Eqn (Q L1) gL.spec .none:=eqn Tryz.f240
theorem ez.eq:Eqn (Q L0) ez.spec .none:=eqn Tryz.f106
theorem dC.eq:Eqn (Q L0) dC.spec .none:=eqn Tryz.f392
theorem jb.eq:Eqn (Q L0) jb.spec .none:=eqn Tryz.f383
theorem kH.eq:Eqn (Q L0) kH.spec .none:=eqn Tryz.f328
theorem bk.eq:Eqn (Q L0) bk.spec .none:=eqn Tryz.f322
end Go.Mach

