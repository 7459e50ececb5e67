/-
  Shared texts of the proofs of the laws renlaw13.AgentRefuses, renlaw13.AgentIs and renlaw13.AgentApart: each returns true for every input of the stated bulk and leaves its arguments as they were; no further condition.
  By an AI agent; no person has read it.
-/
import Derived.Test.YtfmfdkbpemiocaaGreatDoorPaf
import Derived.KernelRfl
import Derived.Test.YtfmfdkbpemiocaaGreatDoorProg
set_option linter.all false
set_option linter.deprecated false
set_option linter.unusedVariables false
set_option maxRecDepth 100000
namespace Go.Mach
open Go.Proofs
theorem gP.eq:Eqn (Q L7) gP.spec (zA 0x118118181985b2482051118118181886b248222c1521211000184a1182e8713100085a118227ae872521211121221685583220876922611003951d81183e871024300028c81208101431111):=eqn Tryz.f353
theorem ep.eq:Eqn (Q L1) ep.spec (zA 0xd8fc14822a716100c80d148225d2a72521211000089c108c101431000783b102b1014300049c821822a71310039d821822092a72521300008b810a81014322111):=eqn Tryz.f55
theorem eval_run_arguments.eq(G:ai):Eqn (Q (eO G++L10)) (eval_run_arguments.g.sp 254 λx=>R.eval_run_arguments G x.1 x.2.1 x.2.2) (zA 0x2216855832c8332128323eb7212215831c833312174eb281222215831b843312174208eb282521211):=eqn Tryz.f254
theorem kz.eq:Eqn (Q (eK.spec::L2)) kz.spec (zA 0x431c8481724861410431c8b8122486252121211310a96221434a51211310a962624a208425221111):=eqn Tryz.f93
theorem lg.eq:Eqn (Q L0) lg.spec (zA 0x384914871014200038981487101431221100996108248208622100897108220848208635212111):=eqn Tryz.f335
theorem eval_run_while.eq(G:ai):Eqn (Q (eO G++L10)) (eval_run_while.g.sp 154 λx=>R.eval_run_while G x.1 x.2.1 x.2.2.1 x.2.2.2) (zA 0x6e8104910142212221a85583299281011221583199281052121):=eqn Tryz.f154
theorem eval_run_list.eq(G:ai):Eqn (Q (eO G++L10)) (eval_run_list.g.sp 63 λx=>R.eval_run_list G x.1 x.2.1 x.2.2) (zA 0x221a8558325832182012215831583218202222158314842182258152121):=eqn Tryz.f63
theorem jO.eq:Eqn (Q L1) jO.spec (zA 0x8c810c2810142112211002936720861210019450822180c208635212111):=eqn Tryz.f337
theorem fV.eq:Eqn (Q L1) fV.spec (zA 0x585820824871210048682082288487252121000182810b81014231):=eqn Tryz.f433
theorem eo.eq:Eqn (Q (bh.spec::bY.spec::L5)) eo.spec (zA 0x76810581014222111):=eqn Tryz.f134
theorem ju.eq:Eqn (Q (eK.spec::L1)) ju.spec (zA 0x68310820850c2221005841082260850c23521211):=eqn Tryz.f441
theorem dA.eq:Eqn ({ P:=Tryz.prog,specs:=[fV.spec,bm.spec,cG.spec],ety:=mP Tryz.prog owned,inls:=[tR 65 (qE.env Tryz.prog) Tryz.f65 .none 5] }:Env) dA.spec .none:=eqn Tryz.f408
theorem dJ.eq:Eqn (Q L0) dJ.spec (zA 0x38316225110038325202200284252218152121):=eqn Tryz.f263
theorem eV.eq:Eqn (Q L8) eV.spec .none:=eqn Tryz.f326
theorem my.eq:Eqn (Q L0) my.spec (zA 0x4116971720210411590817226815212111):=eqn Tryz.f461
theorem js.eq:Eqn (Q L4) js.spec (zA 0x828101810142221):=eqn Tryz.f348
theorem au.eq:Eqn (Q L3) au.spec .none:=eqn Tryz.f201
theorem gl.eq:Eqn (Q L0) gl.spec (zA 0x218100810142112121):=eqn Tryz.f104
theorem kc.eq:Eqn (Q L3) kc.spec (zA 0x77106810142121):=eqn Tryz.f365
theorem dm.eq:Eqn (Q L4) dm.spec .none:=eqn Tryz.f149
theorem cP.eq:Eqn (Q L1) cP.spec .none:=eqn Tryz.f410
theorem fm.eq:Eqn (Q L1) fm.spec .none:=eqn Tryz.f165
theorem dE.eq:Eqn (Q L4) dE.spec .none:=eqn Tryz.f295
theorem ak.eq:Eqn (Q L0) ak.spec .none:=eqn Tryz.f16
theorem bt.eq:Eqn (Q L1) bt.spec .none:=eqn Tryz.f19
theorem ei.eq:Eqn (Q L2) ei.spec .none:=eqn Tryz.f190
theorem kv.eq:Eqn (Q L0) kv.spec .none:=eqn Tryz.f302
theorem ev.eq:Eqn (Q L0) ev.spec .none:=eqn Tryz.f175
theorem fC.eq:Eqn (Q L0) fC.spec .none:=eqn Tryz.f106
theorem ct.eq:Eqn (Q L0) ct.spec .none:=eqn Tryz.f392
theorem bQ.eq:Eqn (Q L0) bQ.spec .none:=eqn Tryz.f223
theorem cY.eq:Eqn (Q L0) cY.spec .none:=eqn Tryz.f239
theorem iQ.eq:Eqn (Q L0) iQ.spec .none:=eqn Tryz.f290
end Go.Mach

