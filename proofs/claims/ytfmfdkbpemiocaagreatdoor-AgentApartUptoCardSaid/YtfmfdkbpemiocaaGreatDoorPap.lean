/-
  Shared texts of the proofs of the laws renlaw13.AgentRefuses, renlaw13.AgentIs and renlaw13.AgentApart: each returns true for every input of the stated bulk and leaves its arguments as they were; no further condition.
  By an AI agent; no person has read it.
-/
import Derived.Test.YtfmfdkbpemiocaaGreatDoorPaf
import Derived.KernelRfl
import Derived.Test.YtfmfdkbpemiocaaGreatDoorProg
set_option linter.all false
set_option linter.deprecated false
set_option linter.unusedVariables false
set_option maxRecDepth 100000
namespace Go.Mach
open Go.Proofs
theorem eval_run_does.eq(G:ai):Eqn (Q (eO G++L10)) (eval_run_does.g.sp 320 λx=>R.eval_run_does G x.1 x.2.1 x.2.2.1 x.2.2.2) (zA 0x502e10f1e101421111111100048cb108c101422311111111110002c810b81014321211):=eqn Tryz.f320
theorem eval_run_apply.eq(G:ai):Eqn (Q (eO G++L10)) (eval_run_apply.g.sp 287 λx=>R.eval_run_apply G x.1 x.2.1 x.2.2.1 x.2.2.2) (zA 0x203e10f2e101421121211110118118181092b2a82031118118181f83b2a8225c15213110098381487a10014311111):=eqn Tryz.f287
theorem gO.eq:Eqn (Q L7) gO.spec (zA 0xf85b104b1014222216865832494b12481100185094b22981024202216865832784928822481100285918822981024311111):=eqn Tryz.f372
theorem iT.eq:Eqn (Q L2) iT.spec (zA 0x6d810a810142110068b810a8101422000558104101431221100593121430311005931313304122004941313326042521211):=eqn Tryz.f200
theorem eval_run_array.eq(G:ai):Eqn (Q (eO G++L10)) (eval_run_array.g.sp 225 λx=>R.eval_run_array G x.1 x.2.1 x.2.2) (zA 0x20816855832395843822081120815831395843108302220815831296843108323915212111):=eqn Tryz.f225
theorem parse_parser_statement.eq(G:cK):Eqn (Q (kF G++L4)) (parse_parser_statement.g.sp 144 λx=>R.parse_parser_statement G x) (zA 0x808107101422211):=eqn Tryz.f144
def eE.ann:Ann:=(.r (.l (.r (.l (.two (pc [(6,vb)] (rg 7 5)) (.r (.l (pc [(15,vb)] (rg 16 4)))))))))
theorem eE.eq_(g_lex_Name:type_of% R.ib)(g_lex_Run:type_of% R.kL)(g_slices_Contains_string:type_of% R.aP):Eqn ({ P:=Tryz.prog,specs:=[(ib.g.sp 102 λx=>g_lex_Name x),(kL.g.sp 103 λx=>g_lex_Run x),(aP.g.sp 78 λx=>g_slices_Contains_string x.1 x.2)],ety:=mP Tryz.prog owned,inls:=[tR 104 (p8.env Tryz.prog) Tryz.f104 .none] }:Env) (eE.g.sp 73 λx=>Res.given (eE.g.i x) (Res.bind (α:=Bool) (Res.br (x.1 == 7) (Res.ok ((x.1 == 7))) (Res.br (x.1 == 18) (Res.ok ((x.1 == 18))) (Res.br (x.1 == 19) (Res.ok ((x.1 == 19))) (Res.br (x.1 == 20) (Res.ok ((x.1 == 20))) (Res.ok ((x.1 == 33))))))) λx1=>Res.br x1 (Res.bind (g_lex_Name x.2.1) λr2=>Res.ok (r2)) (Res.bind (α:=Bool) (Res.br (x.1 == 12) (Res.ok ((x.1 == 12))) (Res.br (x.1 == 13) (Res.ok ((x.1 == 13))) (Res.br (x.1 == 17) (Res.ok ((x.1 == 17))) (Res.ok ((x.1 == 41)))))) λx3=>Res.br x3 (Res.br (x.2.1 == ([]:List UInt8)) (Res.ok (true)) (Res.bind (g_lex_Name x.2.1) λr4=>Res.ok (r4))) (Res.br (x.1 == 52) (Res.bind (g_lex_Run x.2.1) λr5=>Res.ok (r5)) (Res.br (x.1 == 43) (Res.bind (g_slices_Contains_string [[45],[43],[33],[126],[116,121,112,101,111,102],[118,111,105,100]] x.2.1) λr6=>Res.ok (r6)) (Res.br (x.1 == 44) (Res.br (x.1 == 44) (Res.bind (g_slices_Contains_string [[43,43],[45,45]] x.2.1) λr7=>Res.ok (r7)) (Res.br (x.1 == 46) (Res.bind (g_slices_Contains_string [[43],[45],[42],[47],[37],[38],[124],[94],[60,60],[62,62],[62,62,62],[60],[62],[60,61],[62,61],[61,61],[33,61],[61,61,61],[33,61,61],[105,110]] x.2.1) λr8=>Res.ok (r8)) (Res.br (x.1 == 47) (Res.bind (g_slices_Contains_string [[38,38],[124,124],[63,63]] x.2.1) λr9=>Res.ok (r9)) (Res.br (x.1 == 49) (Res.bind (g_slices_Contains_string [[61],[43,61],[45,61],[42,61],[47,61],[37,61],[38,61],[124,61],[94,61],[60,60,61],[62,62,61],[62,62,62,61]] x.2.1) λr10=>Res.ok (r10)) (Res.ok ((x.2.1 == ([]:List UInt8)))))))) (Res.br (x.1 == 45) (Res.bind (g_slices_Contains_string [[43,43],[45,45]] x.2.1) λr11=>Res.ok (r11)) (Res.br (x.1 == 46) (Res.bind (g_slices_Contains_string [[43],[45],[42],[47],[37],[38],[124],[94],[60,60],[62,62],[62,62,62],[60],[62],[60,61],[62,61],[61,61],[33,61],[61,61,61],[33,61,61],[105,110]] x.2.1) λr12=>Res.ok (r12)) (Res.br (x.1 == 47) (Res.bind (g_slices_Contains_string [[38,38],[124,124],[63,63]] x.2.1) λr13=>Res.ok (r13)) (Res.br (x.1 == 49) (Res.bind (g_slices_Contains_string [[61],[43,61],[45,61],[42,61],[47,61],[37,61],[38,61],[124,61],[94,61],[60,60,61],[62,62,61],[62,62,62,61]] x.2.1) λr14=>Res.ok (r14)) (Res.ok ((x.2.1 == ([]:List UInt8)))))))))))))) eE.ann:=eqn Tryz.f73
theorem eE.eq:Eqn ({ P:=Tryz.prog,specs:=[ib.spec,kL.spec,aP.spec],ety:=mP Tryz.prog owned,inls:=[tR 104 (p8.env Tryz.prog) Tryz.f104 .none] }:Env) eE.spec eE.ann:=eE.eq_ R.ib R.kL R.aP
theorem lC.eq:Eqn (Q L7) lC.spec (zA 0x11101a757222222c33110e9011a7433332c71521111):=eqn Tryz.f68
theorem nA.eq:Eqn (Q L2) nA.spec (zA 0x649103910142100068481038101432211):=eqn Tryz.f346
theorem jF.eq:Eqn (Q (eK.spec::L2)) jF.spec (zA 0x6c81029101422100050810581014231):=eqn Tryz.f451
theorem cW.eq:Eqn (Q L2) cW.spec (zA 0xc83462251100c8355202200b84552248152121):=eqn Tryz.f396
theorem eval_run_logic.eq(G:ai):Eqn (Q (eO G++L10)) (eval_run_logic.g.sp 251 λx=>R.eval_run_logic G x.1 x.2.1 x.2.2) (zA 0xb8291038101421111):=eqn Tryz.f251
theorem bn.eq:Eqn (Q L0) bn.spec (zA 0x38316225110038325202200284252218152121):=eqn Tryz.f110
theorem du.eq:Eqn (Q L0) du.spec (zA 0x648103810142100047106101432121):=eqn Tryz.f198
theorem gA.eq:Eqn (Q L6) gA.spec .none:=eqn Tryz.f414
theorem cC.eq:Eqn (Q L5) cC.spec (zA 0x2781068101421121211):=eqn Tryz.f298
theorem gW.eq:Eqn (Q L2) gW.spec .none:=eqn Tryz.f329
theorem cH.eq:Eqn (Q L5) cH.spec .none:=eqn Tryz.f116
theorem lO.eq:Eqn (Q L3) lO.spec .none:=eqn Tryz.f304
theorem dN.eq:Eqn (Q L12) dN.spec .none:=eqn Tryz.f28
theorem aF.eq:Eqn (Q L5) aF.spec .none:=eqn Tryz.f268
theorem bh.eq:Eqn (Q L1) bh.spec .none:=eqn Tryz.f136
theorem jk.eq:Eqn (Q L3) jk.spec .none:=eqn Tryz.f325
theorem ec.eq:Eqn (Q L3) ec.spec .none:=eqn Tryz.f418
theorem ki.eq:Eqn (Q L4) ki.spec .none:=eqn Tryz.f314
theorem aL.eq:Eqn (Q L1) aL.spec .none:=eqn Tryz.f224
theorem mv.eq:Eqn (Q L4) mv.spec .none:=eqn Tryz.f387
theorem gu.eq:Eqn (Q L1) gu.spec .none:=eqn Tryz.f395
theorem lx.eq:Eqn (Q L3) lx.spec .none:=eqn Tryz.f401
theorem iI.eq:Eqn (Q L0) iI.spec .none:=eqn Tryz.f416
theorem fK.eq:Eqn (Q L0) fK.spec .none:=eqn Tryz.f386
theorem iu.eq:Eqn (Q L0) iu.spec .none:=eqn Tryz.f159
theorem kp.eq:Eqn (Q L0) kp.spec .none:=eqn Tryz.f382
end Go.Mach

