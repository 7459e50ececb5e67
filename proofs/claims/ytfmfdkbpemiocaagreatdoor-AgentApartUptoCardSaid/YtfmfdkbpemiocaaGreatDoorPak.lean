/-
  Shared texts of the proofs of the laws renlaw13.AgentRefuses, renlaw13.AgentIs and renlaw13.AgentApart: each returns true for every input of the stated bulk and leaves its arguments as they were; no further condition.
  By an AI agent; no person has read it.
-/
import Derived.Test.YtfmfdkbpemiocaaGreatDoorPaf
import Derived.KernelRfl
import Derived.Test.YtfmfdkbpemiocaaGreatDoorProg
set_option linter.all false
set_option linter.deprecated false
set_option linter.unusedVariables false
set_option maxRecDepth 100000
namespace Go.Mach
open Go.Proofs
theorem cO.eq:Eqn ({ P:=Tryz.prog,specs:=[ak.spec,aT.spec,aZ.spec,bJ.spec,bt.spec,dd.spec,bB.spec],ety:=mP Tryz.prog owned,inls:=[tR 15 (nN.env Tryz.prog) Tryz.f15 .none] }:Env) cO.spec (zA 0xc9eb1020e10142111122125105b697282071125105b69731730221612415b69641732281521200057910c91014231111):=eqn Tryz.f4
theorem parse_parser_unary.eq(G:cK):Eqn (Q (kF G++L4)) (parse_parser_unary.g.sp 293 λx=>R.parse_parser_unary G x) (zA 0x48bb107c10142121000087a10fa1014200187a100142112111220007181088101430281702537a41530100468481820024311):=eqn Tryz.f293
theorem eval_run_unary.eq(G:ai):Eqn (Q (eO G++L10)) (eval_run_unary.g.sp 248 λx=>R.eval_run_unary G x.1 x.2.1 x.2.2.1 x.2.2.2) (zA 0x221295583278f81782228112216865832e8268f81783268102421111):=eqn Tryz.f248
theorem parse_parser_list.eq(G:cK):Eqn (Q (kF G++L4)) (parse_parser_list.g.sp 421 λx=>R.parse_parser_list G x.1 x.2) (zA 0x70178810f8101422120701885162ea51110701886152ea6152111):=eqn Tryz.f421
theorem eval_run_first.eq(G:ai):Eqn (Q (eO G++L10)) (eval_run_first.g.sp 193 λx=>R.eval_run_first G x.1 x.2.1 x.2.2) (zA 0x13811838109d91582031138118381f8e915822aa1521211120002791069101431121211):=eqn Tryz.f193
theorem lB.eq:Eqn (Q L1) lB.spec (zA 0x6e910d91014222121003a446222220b331003a4323330b6122003a423333220b625212111):=eqn Tryz.f43
theorem fg.eq:Eqn (Q L6) fg.spec (zA 0x49b10db101421200050a10f91014210006591049101432311):=eqn Tryz.f308
theorem jX.eq:Eqn (Q L6) jX.spec (zA 0x2ab109b10142111121200048c8108910142311):=eqn Tryz.f39
theorem b9.eq:Eqn (Q L0) b9.spec (zA 0x27810681014210002481038101431000218100810143100026105101432121):=eqn Tryz.f371
theorem af.eq:Eqn (Q L1) af.spec (zA 0x38316225110038325202200284252218152121):=eqn Tryz.f147
theorem lU.eq:Eqn (Q L2) lU.spec (zA 0x83a102a1014211111000d8481038101432211):=eqn Tryz.f307
theorem kg.eq:Eqn (Q L5) kg.spec (zA 0x5951088a122810142111):=eqn Tryz.f342
theorem kf.eq:Eqn (Q L7) kf.spec (zA 0x6c810b810142112211):=eqn Tryz.f277
theorem eval_run_catch.eq(G:ai):Eqn (Q (eO G++L10)) (eval_run_catch.g.sp 195 λx=>R.eval_run_catch G x.1 x.2.1 x.2.2.1 x.2.2.2.1 x.2.2.2.2) .none:=eqn Tryz.f195
theorem hJ.eq:Eqn (Q L0) hJ.spec (zA 0x6181096121005281240962521211):=eqn Tryz.f105
theorem bW.eq:Eqn (Q L3) bW.spec (zA 0x287810191014221):=eqn Tryz.f88
theorem ea.eq:Eqn (Q L8) ea.spec .none:=eqn Tryz.f288
theorem bD.eq:Eqn (Q L2) bD.spec .none:=eqn Tryz.f58
theorem nV.eq:Eqn (Q L1) nV.spec (zA 0x5510281014221):=eqn Tryz.f339
theorem bF.eq:Eqn (Q L2) bF.spec .none:=eqn Tryz.f136
theorem gG.eq:Eqn (Q L9) gG.spec .none:=eqn Tryz.f29
theorem eu.eq:Eqn (Q L1) eu.spec .none:=eqn Tryz.f370
theorem b8.eq:Eqn (Q L2) b8.spec .none:=eqn Tryz.f362
theorem lN.eq:Eqn (Q L2) lN.spec .none:=eqn Tryz.f299
theorem eU.eq:Eqn (Q L2) eU.spec .none:=eqn Tryz.f367
theorem fJ.eq:Eqn (Q L7) fJ.spec .none:=eqn Tryz.f222
theorem iB.eq:Eqn (Q L1) iB.spec .none:=eqn Tryz.f202
theorem lp.eq:Eqn (Q L1) lp.spec .none:=eqn Tryz.f107
theorem ey.eq:Eqn (Q (ff.spec::L1)) ey.spec .none:=eqn Tryz.f235
theorem cG.eq:Eqn (Q L0) cG.spec .none:=eqn Tryz.f426
theorem iZ.eq:Eqn (Q L0) iZ.spec .none:=eqn Tryz.f131
theorem jd.eq:Eqn (Q L0) jd.spec .none:=eqn Tryz.f85
theorem mm.eq:Eqn (Q L0) mm.spec .none:=eqn Tryz.f128
theorem lM.eq:Eqn (Q L0) lM.spec .none:=eqn Tryz.f72
end Go.Mach

