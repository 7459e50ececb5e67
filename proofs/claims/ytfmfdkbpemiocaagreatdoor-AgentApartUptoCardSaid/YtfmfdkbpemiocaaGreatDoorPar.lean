/-
  Shared texts of the proofs of the laws renlaw13.AgentRefuses, renlaw13.AgentIs and renlaw13.AgentApart: each returns true for every input of the stated bulk and leaves its arguments as they were; no further condition.
  By an AI agent; no person has read it.
-/
import Derived.Test.YtfmfdkbpemiocaaGreatDoorPaf
import Derived.KernelRfl
import Derived.Test.YtfmfdkbpemiocaaGreatDoorProg
set_option linter.all false
set_option linter.deprecated false
set_option linter.unusedVariables false
set_option maxRecDepth 100000
namespace Go.Mach
open Go.Proofs
theorem eval_run_host.eq(G:ai):Eqn (Q (eO G++L10)) (eval_run_host.g.sp 364 λx=>R.eval_run_host G x.1 x.2.1 x.2.2) (zA 0x851e1041e10142111122100074a10ba1014221211121221685583268223d860941821362872081101a613668618675f857362870024311):=eqn Tryz.f364
theorem eZ.eq:Eqn (Q L8) eZ.spec (zA 0x3840e10bd10142100008cd10bd101430029cd10bd101422200065d10881014311111):=eqn Tryz.f363
theorem eval_run_value.eq(G:ai):Eqn (Q (eO G++L10)) (eval_run_value.g.sp 189 λx=>R.eval_run_value G x.1 x.2.1 x.2.2) (zA 0x2cc10bc1014211111111100025a104a101431111111121211):=eqn Tryz.f189
theorem mr.eq:Eqn (Q L2) mr.spec (zA 0x5fb104c10142210006da10ca10142100064a103a101431000e8c810b81014323111):=eqn Tryz.f344
theorem eval_run_builds.eq(G:ai):Eqn (Q (eO G++L10)) (eval_run_builds.g.sp 283 λx=>R.eval_run_builds G x.1 x.2.1 x.2.2) (zA 0x50910f81014210005681058101432121):=eqn Tryz.f283
theorem eval_run_try.eq(G:ai):Eqn (Q (eO G++L10)) (eval_run_try.g.sp 157 λx=>R.eval_run_try G x.1 x.2.1 x.2.2) (zA 0x886a106b10142200073910a91014212181a8385832590811820014311):=eqn Tryz.f157
theorem aX.eq:Eqn (Q L1) aX.spec (zA 0x380189714822381210380189b8122238252211):=eqn Tryz.f463
theorem eD.eq:Eqn (Q L3) eD.spec (zA 0x2a21e96208123022082100e964612302200d97408228822252121):=eqn Tryz.f267
theorem cb.eq:Eqn (Q L0) cb.spec (zA 0x3a31890825202103a3179182522681521211):=eqn Tryz.f30
theorem kQ.eq:Eqn (Q L0) kQ.spec (zA 0x182810b81014212211006831420311006832320220058423227152121):=eqn Tryz.f234
theorem lj.eq:Eqn (Q L3) lj.spec (zA 0x581827248612100482827224848625212111):=eqn Tryz.f439
theorem gY.eq:Eqn (Q L4) gY.spec (zA 0x2fa10ea101422120007a410ba1014231):=eqn Tryz.f50
theorem jc.eq:Eqn (Q L2) jc.spec (zA 0x68f810e8101421000085810481014311221):=eqn Tryz.f192
theorem bE.eq:Eqn (Q L0) bE.spec (zA 0x3831520b412100284152250b42521211):=eqn Tryz.f66
theorem dS.eq:Eqn ({ P:=Tryz.prog,specs:=[],ety:=mP Tryz.prog owned,inls:=[tR 65 (qI.env Tryz.prog) Tryz.f65 .none] }:Env) dS.spec .none:=eqn Tryz.f368
theorem eA.eq:Eqn (Q L7) eA.spec .none:=eqn Tryz.f323
theorem av.eq:Eqn (Q L4) av.spec .none:=eqn Tryz.f82
theorem iG.eq:Eqn (Q L2) iG.spec (zA 0x86106810142211):=eqn Tryz.f284
theorem lS.eq:Eqn (Q L0) lS.spec (zA 0x498108810142112121):=eqn Tryz.f71
theorem aZ.eq:Eqn (Q L14) aZ.spec .none:=eqn Tryz.f18
theorem dB.eq:Eqn (Q L6) dB.spec .none:=eqn Tryz.f321
theorem cI.eq:Eqn (Q L1) cI.spec .none:=eqn Tryz.f21
theorem db.eq:Eqn (Q L2) db.spec .none:=eqn Tryz.f369
theorem dF.eq:Eqn (Q L1) dF.spec .none:=eqn Tryz.f123
theorem bA.eq:Eqn (Q L13) bA.spec .none:=eqn Tryz.f31
theorem ib.eq:Eqn (Q L2) ib.spec .none:=eqn Tryz.f102
theorem cc.eq:Eqn (Q L1) cc.spec .none:=eqn Tryz.f306
theorem aT.eq:Eqn (Q L0) aT.spec .none:=eqn Tryz.f17
theorem ed.eq:Eqn (Q L0) ed.spec .none:=eqn Tryz.f81
theorem bl.eq:Eqn (Q L0) bl.spec .none:=eqn Tryz.f22
theorem ji.eq:Eqn (Q L0) ji.spec .none:=eqn Tryz.f459
theorem kJ.eq:Eqn (Q L0) kJ.spec .none:=eqn Tryz.f328
theorem bc.eq:Eqn (Q L0) bc.spec .none:=eqn Tryz.f322
end Go.Mach

