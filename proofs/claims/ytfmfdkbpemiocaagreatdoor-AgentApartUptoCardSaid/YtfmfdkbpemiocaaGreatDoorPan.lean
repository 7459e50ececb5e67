/-
  Shared texts of the proofs of the laws renlaw13.AgentRefuses, renlaw13.AgentIs and renlaw13.AgentApart: each returns true for every input of the stated bulk and leaves its arguments as they were; no further condition.
  By an AI agent; no person has read it.
-/
import Derived.Test.YtfmfdkbpemiocaaGreatDoorPaf
import Derived.KernelRfl
import Derived.Test.YtfmfdkbpemiocaaGreatDoorProg
set_option linter.all false
set_option linter.deprecated false
set_option linter.unusedVariables false
set_option maxRecDepth 100000
namespace Go.Mach
open Go.Proofs
theorem eR.eq:Eqn (Q L7) eR.spec (zA 0x5dd10cd10142100048cc10bc101432221685583298bc1228110018558bc248a810242102216855832786a29822281100287a19822248a82024311111100078910f910142311):=eqn Tryz.f361
theorem eval_run_fresh.eq(G:ai):Eqn (Q (eO G++L10)) (eval_run_fresh.g.sp 255 λx=>R.eval_run_fresh G x.1 x.2.1 x.2.2) (zA 0x600e1060e10142211102216855832293a2482208110025e83a248323810243100074a10ba1014231111):=eqn Tryz.f255
theorem aN.eq:Eqn (Q L3) aN.spec (zA 0x88b810b910142203801b918128204103801b9b812281521221038011a32182021038011a312822181521):=eqn Tryz.f452
theorem eval_run_object.eq(G:ai):Eqn (Q (eO G++L10)) (eval_run_object.g.sp 226 λx=>R.eval_run_object G x.1 x.2.1 x.2.2) (zA 0x208168558325a58448220811208158315a58441083022208158314a6844108324915212111):=eqn Tryz.f226
theorem mw.eq:Eqn (Q L3) mw.spec (zA 0x47169c825824848141047159d825822f848482521211221104716a58528202104715a68528223915212111):=eqn Tryz.f388
theorem mu.eq:Eqn (Q L2) mu.spec (zA 0x6ba10aa10142100062a101a101431000e8a810981014322111):=eqn Tryz.f345
theorem di.eq:Eqn (Q L6) di.spec (zA 0x22168758327842682248110b80812628426830024211):=eqn Tryz.f413
theorem bB.eq:Eqn ({ P:=Tryz.prog,specs:=[ak.spec,aT.spec,aZ.spec,gG.spec],ety:=mP Tryz.prog owned,inls:=[tR 15 (pk.env Tryz.prog) Tryz.f15 .none] }:Env) bB.spec (zA 0x186910f9101422111):=eqn Tryz.f13
theorem ef.eq:Eqn (Q L1) ef.spec (zA 0xb8516133220972100b8624133091812200b86272097232521211):=eqn Tryz.f57
theorem aM.eq:Eqn (Q L0) aM.spec (zA 0x38014938102103801394812381521):=eqn Tryz.f467
theorem bY.eq:Eqn (Q (bN.spec::L2)) bY.spec (zA 0x90109714a61210090109714a6152211):=eqn Tryz.f164
theorem jW.eq:Eqn (Q L2) jW.spec (zA 0x38324203110038333202200284332208152121):=eqn Tryz.f54
theorem gV.eq:Eqn (Q L0) gV.spec (zA 0x181810a810142200aa7126121009a08122262521211):=eqn Tryz.f26
theorem gf.eq:Eqn (Q L0) gf.spec (zA 0x680810822a612100581810822382a62521211):=eqn Tryz.f80
theorem kn.eq:Eqn (Q L2) kn.spec (zA 0x7e81059101422111):=eqn Tryz.f403
theorem eval_run_parts.eq(G:ai):Eqn (Q (eO G++L10)) (eval_run_parts.g.sp 274 λx=>R.eval_run_parts G x.1 x.2.1 x.2.2) .none:=eqn Tryz.f274
theorem eval_run_asked.eq(G:ai):Eqn (Q (eO G++L10)) (eval_run_asked.g.sp 191 λx=>R.eval_run_asked G x.1 x.2.1 x.2.2) .none:=eqn Tryz.f191
theorem ky.eq:Eqn (Q L2) ky.spec (zA 0x4714841014211):=eqn Tryz.f305
theorem iY.eq:Eqn (Q L3) iY.spec .none:=eqn Tryz.f269
theorem c7.eq:Eqn (Q L5) c7.spec .none:=eqn Tryz.f285
theorem nE.eq:Eqn (Q L3) nE.spec .none:=eqn Tryz.f390
theorem eF.eq:Eqn (Q L0) eF.spec .none:=eqn Tryz.f115
theorem gF.eq:Eqn (Q L9) gF.spec .none:=eqn Tryz.f278
theorem gD.eq:Eqn (Q L4) gD.spec .none:=eqn Tryz.f422
theorem bo.eq:Eqn (Q L1) bo.spec .none:=eqn Tryz.f313
theorem fW.eq:Eqn (Q L2) fW.spec .none:=eqn Tryz.f112
theorem cd.eq:Eqn (Q L0) cd.spec .none:=eqn Tryz.f221
theorem fy.eq:Eqn (Q L1) fy.spec .none:=eqn Tryz.f240
theorem ej.eq:Eqn (Q L1) ej.spec .none:=eqn Tryz.f440
theorem gC.eq:Eqn (Q L0) gC.spec .none:=eqn Tryz.f373
theorem gj.eq:Eqn (Q L0) gj.spec .none:=eqn Tryz.f296
theorem j5.eq:Eqn (Q L0) j5.spec .none:=eqn Tryz.f133
theorem eI.eq:Eqn (Q L0) eI.spec .none:=eqn Tryz.f220
end Go.Mach

