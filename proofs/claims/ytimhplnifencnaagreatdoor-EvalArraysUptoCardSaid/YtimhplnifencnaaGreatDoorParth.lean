/-
  Proved here: the law renlaw12.EvalArrays returns true for every input of the stated bulk and leaves its arguments as they were; no further condition.
  By an AI agent; no person has read it.
-/
import Derived.Test.YtimhplnifencnaaGreatDoorPartg
import Derived.KernelRfl
import Derived.Test.YtimhplnifencnaaGreatDoorProg
set_option linter.all false
set_option linter.deprecated false
set_option linter.unusedVariables false
set_option maxRecDepth 100000
namespace Go.Mach
open Go.Proofs
def parse_parser_declares.ann : Ann := (.r (.r (.two (.piece [(.nrm, ⟨[], rg 6 5, [(0, aD), (3, (.box lz))], [2]⟩)] .none) (.l (.loop ⟨[], [4] ++ rg 11 27, [(0, aD), (3, (.box lz))], [5]⟩ [(.ret, ⟨[], [4] ++ rg 11 27, [(0, aD), (1, (.box lz))], [3, 5]⟩)] (.l (.r (.two (.piece [(.nrm, ⟨[], rg 14 9, [(0, aD), (12, (.box lz))], [11]⟩)] .none) (.r (.l (.piece [(.nrm, ⟨[(36, vb)], rg 29 7, [(0, aD)], []⟩)] .none)))))))))))
theorem parse_parser_declares.eq_ (g_parse_made : type_of% R.aX) (g_parse_named : type_of% R.ae) (g_parse_parser_fine : type_of% R.bI) (g_parse_parser_name : type_of% R.av) (g_parse_parser_need : type_of% R.aQ) (g_parse_parser_take : type_of% R.aG) (G : bE) : Eqn (Q [(aX.g.sp 209 fun x => g_parse_made x.1 x.2), (ae.g.sp 272 fun x => g_parse_named x.1 x.2.1 x.2.2), parse_parser_assign.spec G, (bI.g.sp 274 fun x => g_parse_parser_fine x), (av.g.sp 242 fun x => g_parse_parser_name x), (aQ.g.sp 271 fun x => g_parse_parser_need x.1 x.2), (aG.g.sp 241 fun x => g_parse_parser_take x.1 x.2)]) (parse_parser_declares.g.sp 239 fun x => Res.given (parse_parser_declares.g.i x) (Res.bind (g_parse_made 5 ([] : List (aJ aB.den))) fun r1 => Res.given (aX.g.o r1) (Res.bind (α := (aD.den × (aB.den × (List (aJ aB.den))))) (Res.bind (g_parse_parser_take x [99, 111, 110, 115, 116]) fun r2 => Res.given (aG.g.o r2) (Res.br r2.1 (Res.bind (g_parse_made 6 ([] : List (aJ aB.den))) fun r3 => Res.given (aX.g.o r3) (Res.ok ((r2.2, r3)))) (Res.bind (g_parse_parser_need r2.2 [108, 101, 116]) fun r4 => Res.given (aQ.g.o r4) (Res.ok ((r4.2, r1)))))) fun x5 => Res.bind (Res.loop (α := (aD.den × (aB.den × (List (aJ aB.den))))) (β := (aD.den × (aB.den × (List (aJ aB.den))))) (fun x6 => Res.bind (g_parse_parser_name x6.1) fun r7 => Res.given (av.g.o r7) (Res.bind (g_parse_named 7 r7.1 ([] : List (aJ aB.den))) fun r8 => Res.given (ae.g.o r8) (Res.bind (α := (aD.den × (aB.den × (List (aJ aB.den))))) (Res.bind (g_parse_parser_take r7.2 [61]) fun r9 => Res.given (aG.g.o r9) (Res.br r9.1 (Res.bind (G.parse_parser_assign r9.2) fun r10 => Res.given (parse_parser_assign.g.o r10) (Res.ak (decide ((r8.2.length + [(aJ.mk (aJ.lab r10.1) (aJ.kids r10.1))].length) * 144 ≤ 2 ^ 47)) (Res.ok ((r10.2, (r8.1, (r8.2 ++ [(aJ.mk (aJ.lab r10.1) (aJ.kids r10.1))]))))))) (Res.ok ((r9.2, r8))))) fun x11 => Res.ak (decide ((x6.2.2.length + [(aJ.mk x11.2.1 x11.2.2)].length) * 144 ≤ 2 ^ 47)) (Res.bind (α := (Bool × aD.den)) (Res.bind (g_parse_parser_fine x11.1) fun r12 => Res.br (!r12) (Res.ok ((true, x11.1))) (Res.bind (g_parse_parser_take x11.1 [44]) fun r13 => Res.given (aG.g.o r13) (Res.ok (((!r13.1), r13.2))))) fun x14 => Res.br x14.1 (Res.ok (.done ((x14.2, (x6.2.1, (x6.2.2 ++ [(aJ.mk x11.2.1 x11.2.2)])))))) (Res.ok (.next ((x14.2, (x6.2.1, (x6.2.2 ++ [(aJ.mk x11.2.1 x11.2.2)])))))))))) fuel x5) fun x15 => Res.ok (((aJ.mk x15.2.1 x15.2.2), x15.1))))) parse_parser_declares.ann := eqn Tryz.f239
theorem parse_parser_declares.eq (G : bE) : Eqn (Q [aX.spec, ae.spec, parse_parser_assign.spec G, bI.spec, av.spec, aQ.spec, aG.spec]) (parse_parser_declares.g.sp 239 fun x => R.parse_parser_declares G x) parse_parser_declares.ann := parse_parser_declares.eq_ R.aX R.ae R.bI R.av R.aQ R.aG G
theorem eval_run_arguments.eq (G : bD) : Eqn (Q [eval_run_expression.spec G]) (eval_run_arguments.g.sp 328 fun x => R.eval_run_arguments G x.1 x.2.1 x.2.2) (.r (.r (.l (.r (.l (.loop ⟨[(9, (false, (.own (.frz aA)))), (16, vi)], [6, 8, 11, 12, 13] ++ rg 17 19, [(2, aK)], [0, 1]⟩ [(.ext 0, ⟨[(9, (false, (.own (.frz aA))))], [6, 8, 11, 12, 13] ++ rg 16 20, [(2, aK)], [0, 1]⟩), (.ret, ⟨[(6, (false, (.own (.frz aA)))), (8, vi)], [9, 11, 12, 13] ++ rg 16 20, [(2, aK), (4, (.box (.frz aA)))], [0, 1]⟩)] .none)))))) := eqn Tryz.f328
theorem fo.eq : Eqn (Q [dy.spec]) fo.spec (.r (.two (.l (.piece [(.nrm, ⟨[(10, vb)], rg 3 7, [], []⟩)] .none)) (.l (.r (.l (.r (.r (.r (.r (.r (.r (.two (.piece [(.nrm, ⟨[(19, vb)], rg 20 4, [], []⟩)] .none) (.r (.two (.piece [(.nrm, ⟨[(24, vb)], rg 25 5, [], []⟩)] .none) (.r (.two (.piece [(.nrm, ⟨[(30, vb)], [31, 32, 33], [], []⟩)] .none) (.r (.two (.piece [(.nrm, ⟨[(34, vb)], [35, 36], [], []⟩)] .none) (.r (.l (.piece [(.nrm, ⟨[(37, vb)], [38, 39, 40], [], []⟩)] .none))))))))))))))))))))) := eqn Tryz.f354
theorem eval_run_array.eq (G : bD) : Eqn (Q [fk.spec, aY.spec, eval_run_expression.spec G, cz.spec]) (eval_run_array.g.sp 311 fun x => R.eval_run_array G x.1 x.2.1 x.2.2) (.r (.r (.r (.l (.r (.l (.loop ⟨[(26, vi)], [7] ++ rg 10 4 ++ rg 27 26, [(2, aK)], [5, 6]⟩ [(.ext 0, ⟨[], [7] ++ rg 10 4 ++ rg 26 27, [(2, aK)], [5, 6]⟩), (.ret, ⟨[(7, vi)], rg 10 4 ++ rg 26 27, [(2, aK), (4, (.box (.frz aA)))], [5, 6]⟩)] .none))))))) := eqn Tryz.f311
theorem dB.eq : Eqn (Q [dy.spec, aa.spec, aw.spec]) dB.spec (.r (.r (.r (.l (.piece [(.nrm, ⟨[(3, vi)], [2] ++ rg 7 19, [], []⟩), (.ret, ⟨[(2, vb)], [3] ++ rg 7 19, [], []⟩)] (.r (.l (.l (.loop ⟨[(3, vi)], [2] ++ rg 12 14, [], []⟩ [(.ext 0, ⟨[(3, vi)], [2] ++ rg 12 14, [], []⟩), (.ret, ⟨[(2, vb)], [3] ++ rg 12 14, [], []⟩)] .none))))))))) := eqn Tryz.f300
theorem gO.eq : Eqn (Q [gU.spec]) gO.spec (.r (.r (.r (.l (.r (.l (.loop ⟨[(5, (false, (.own .w))), (6, (false, .w)), (14, vi)], rg 7 5 ++ rg 15 25, [], []⟩ [(.ext 0, ⟨[(5, (false, (.own .w)))], rg 6 6 ++ rg 14 26, [], []⟩)] (.r (.r (.l (.l (.r (.r (.l (.piece [(.nrm, ⟨[(9, (false, .w))], rg 19 8, [], []⟩)] .none))))))))))))))) := eqn Tryz.f172
theorem aS.eq : Eqn (Q [dh.spec]) aS.spec (.r (.l (.r (.l (.loop ⟨[(8, vi)], [4, 5] ++ rg 9 10, [], []⟩ [(.ext 0, ⟨[], [4, 5] ++ rg 8 11, [], []⟩), (.ret, ⟨[(4, vi)], [5] ++ rg 8 11, [], []⟩)] .none))))) := eqn Tryz.f246
theorem gX.eq : Eqn (Q [fD.spec]) gX.spec (.r (.r (.l (.r (.l (.loop ⟨[(1, (false, .w)), (5, (false, (.own .w))), (10, vi)], [7] ++ rg 11 13, [], []⟩ [(.ext 0, ⟨[(1, (false, .w)), (5, (false, (.own .w)))], [7] ++ rg 10 14, [], []⟩)] .none)))))) := eqn Tryz.f223
theorem cB.eq : Eqn (Q []) cB.spec (.r (.r (.l (.r (.l (.loop ⟨[(13, vi)], [4, 5] ++ rg 14 12, [], []⟩ [(.ext 0, ⟨[], [4, 5] ++ rg 13 13, [], []⟩), (.ret, ⟨[(4, vb)], [5] ++ rg 13 13, [], []⟩)] .none)))))) := eqn Tryz.f166
theorem cW.eq : Eqn (Q []) cW.spec (.r (.l (.r (.l (.two (.piece [(.nrm, ⟨[(5, vb)], rg 6 4, [], []⟩)] .none) (.r (.l (.piece [(.nrm, ⟨[(10, vb)], rg 11 6, [], []⟩)] .none)))))))) := eqn Tryz.f296
theorem iG.eq : Eqn (Q []) iG.spec (.r (.l (.r (.l (.two (.piece [(.nrm, ⟨[(4, vb)], rg 5 22, [], []⟩)] .none) (.r (.l (.piece [(.nrm, ⟨[(27, vb)], rg 28 27, [], []⟩)] .none)))))))) := eqn Tryz.f181
theorem eval_run_property.eq (G : bD) : Eqn (Q [cp.spec, eval_run_parts.spec G]) (eval_run_property.g.sp 330 fun x => R.eval_run_property G x.1 x.2.1 x.2.2) .none := eqn Tryz.f330
theorem cD.eq : Eqn (Q [cU.spec, eval_run_list.spec (bV fuel), cN.spec]) cD.spec .none := eqn Tryz.f80
theorem cK.eq : Eqn (Q [bK.spec, cL.spec, cr.spec]) cK.spec .none := eqn Tryz.f219
theorem jx.eq : Eqn (Q [fa.spec, eY.spec, cA.spec, eD.spec]) jx.spec .none := eqn Tryz.f152
theorem ig.eq : Eqn (Q [cB.spec, cj.spec]) ig.spec .none := eqn Tryz.f93
theorem cq.eq : Eqn (Q [bw.spec]) cq.spec .none := eqn Tryz.f394
theorem fk.eq : Eqn (Q [oR 123, ah.spec]) fk.spec .none := eqn Tryz.f321
theorem bY.eq : Eqn (Q [bK.spec]) bY.spec .none := eqn Tryz.f350
theorem fH.eq : Eqn (Q [fF.spec]) fH.spec .none := eqn Tryz.f120
theorem dt.eq : Eqn (Q [bx.spec]) dt.spec .none := eqn Tryz.f399
theorem bR.eq : Eqn (Q []) bR.spec .none := eqn Tryz.f13
theorem bt.eq : Eqn (Q []) bt.spec .none := eqn Tryz.f157
theorem gR.eq : Eqn (Q []) gR.spec .none := eqn Tryz.f158
theorem iX.eq : Eqn (Q []) iX.spec .none := eqn Tryz.f230
theorem gA.eq : Eqn (Q []) gA.spec .none := eqn Tryz.f37
end Go.Mach
set_option linter.unusedVariables false
set_option maxRecDepth 100000
namespace Go.Mach
open Go.Proofs
theorem parse_parser_unary.eq (G : bE) : Eqn (Q [ae.spec, parse_parser_calls.spec G, bI.spec, aH.spec, parse_parser_unary.spec G, i7.spec, eM.spec]) (parse_parser_unary.g.sp 353 fun x => R.parse_parser_unary G x) (.r (.r (.two (.piece [(.nrm, ⟨[], rg 8 12 ++ rg 33 4, [], []⟩), (.ret, ⟨[], [4] ++ rg 8 47 ++ rg 57 5, [(0, aD), (1, (.box lz))], []⟩)] (.two (.piece [(.nrm, ⟨[(15, vb)], rg 8 7, [], []⟩)] .none) (.l (.l (.r (.r (.r (.l (.r (.r (.l (.piece [(.nrm, ⟨[], rg 46 9, [], []⟩)] (.l (.piece [(.nrm, ⟨[(54, vb)], rg 46 8, [], []⟩)] .none)))))))))))))) (.r (.l (.r (.l (.piece [(.nrm, ⟨[(78, vb)], rg 66 12, [], []⟩)] .none)))))))) := eqn Tryz.f353
theorem ee.eq : Eqn (Q [cd.spec, eR.spec, aY.spec, aC.spec, dX.spec]) ee.spec (.r (.r (.r (.r (.r (.two (.piece [(.nrm, ⟨[(16, vi)], [15] ++ rg 44 10, [], []⟩), (.ret, ⟨[(11, vi)], [15, 16] ++ rg 44 15, [(2, aK), (5, (.box (.frz aA)))], [0, 1]⟩)] .none) (.l (.piece [(.nrm, ⟨[(16, vi)], rg 59 24 ++ rg 87 9, [], []⟩), (.ret, ⟨[(11, vi)], rg 59 28, [(2, aK), (5, (.box (.frz aA)))], [0, 1]⟩)] (.l (.l (.piece [(.nrm, ⟨[(59, vb)], rg 60 23, [], []⟩)] .none))))))))))) := eqn Tryz.f396
theorem eval_run_act.eq (G : bD) : Eqn (Q [gJ 257 .str, eval_run_decls.spec G, eval_run_expression.spec G, eval_run_statement.spec G, ez.spec]) (eval_run_act.g.sp 221 fun x => R.eval_run_act G x.1 x.2.1 x.2.2.1 x.2.2.2) (.r (.r (.r (.l (.r (.l (.r (.r (.r (.r (.two (.piece [(.nrm, ⟨[(52, vb)], [53, 54], [], []⟩)] .none) (.r (.r (.r (.r (.r (.r (.r (.r (.r (.r (.r (.r (.r (.r (.r (.r (.r (.r (.l (.r (.l (.l (.piece [(.nrm, ⟨[(150, vb)], rg 141 9, [], []⟩)] .none)))))))))))))))))))))))))))))))))) := eqn Tryz.f221
theorem parse_parser_word.eq (G : bE) : Eqn (Q [aX.spec, parse_parser_assign.spec G, bZ.spec, aH.spec, parse_parser_simple.spec G]) (parse_parser_word.g.sp 280 fun x => R.parse_parser_word G x.1 x.2) (.r (.l (.r (.l (.r (.r (.r (.r (.r (.r (.r (.r (.r (.r (.r (.r (.r (.two (.r (.l (.piece [(.nrm, ⟨[], [93, 94, 95], [], []⟩)] .none))) (.r (.r (.l (.piece [(.nrm, ⟨[(109, vb)], [110, 111, 112], [], []⟩)] .none)))))))))))))))))))))) := eqn Tryz.f280
theorem eH.eq : Eqn (Q [gx.spec, fX.spec, aO.spec, aC.spec, cK.spec, dD.spec]) eH.spec (.r (.r (.two (.l (.two (.piece [(.nrm, ⟨[(27, vb)], rg 28 6, [], []⟩)] .none) (.r (.l (.piece [(.nrm, ⟨[(38, vb)], rg 39 5, [], []⟩)] .none))))) (.l (.r (.l (.piece [(.nrm, ⟨[(68, vb)], rg 64 4, [], []⟩)] .none))))))) := eqn Tryz.f359
theorem dI.eq : Eqn (Q [cH.spec, bP.spec, aY.spec, aC.spec]) dI.spec (.r (.r (.l (.piece [(.nrm, ⟨[], [9, 10] ++ rg 12 10 ++ [27, 28], [(5, (.box (.frz aA)))], []⟩), (.ret, ⟨[(7, vi)], [9, 10] ++ rg 12 15, [(2, aK), (4, (.box (.frz aA)))], [0, 1]⟩)] .none)))) := eqn Tryz.f384
theorem aj.eq : Eqn (Q [ay.spec]) aj.spec (.r (.r (.l (.l (.loop ⟨[(5, (false, (.own .y)))], rg 6 24, [(0, bU)], []⟩ [(.ext 0, ⟨[(5, (false, (.own .y)))], rg 6 24, [(0, bU)], []⟩)] .none))))) := eqn Tryz.f265
theorem bu.eq : Eqn (Q [cf.spec]) bu.spec (.r (.l (.r (.l (.loop ⟨[(11, vi)], rg 4 5 ++ rg 12 19, [], []⟩ [(.ext 0, ⟨[], rg 4 5 ++ rg 11 20, [], []⟩), (.ret, ⟨[(4, vi)], rg 5 4 ++ rg 11 20, [], []⟩)] .none))))) := eqn Tryz.f161
theorem cj.eq : Eqn (Q []) cj.spec (.r (.r (.l (.r (.l (.loop ⟨[(13, vi)], [4, 5] ++ rg 14 12, [], []⟩ [(.ext 0, ⟨[], [4, 5] ++ rg 13 13, [], []⟩), (.ret, ⟨[(4, vb)], [5] ++ rg 13 13, [], []⟩)] .none)))))) := eqn Tryz.f165
theorem ah.eq : Eqn (Q []) ah.spec (.r (.r (.l (.r (.l (.loop ⟨[(3, (false, (.own .h))), (7, vi)], [4] ++ rg 8 10, [], []⟩ [(.ext 0, ⟨[(3, (false, (.own .h)))], [4] ++ rg 7 11, [], []⟩)] .none)))))) := eqn Tryz.f67
theorem iT.eq : Eqn (Q []) iT.spec (.r (.l (.r (.l (.two (.piece [(.nrm, ⟨[(4, vb)], rg 5 50, [], []⟩)] .none) (.r (.l (.piece [(.nrm, ⟨[(55, vb)], rg 56 7, [], []⟩)] .none)))))))) := eqn Tryz.f270
theorem ew.eq : Eqn (Q [dQ.spec, ja.spec, cb.spec]) ew.spec (.r (.l (.r (.l (.piece [(.nrm, ⟨[(21, vb)], rg 15 6, [], []⟩)] .none))))) := eqn Tryz.f15
theorem bP.eq : Eqn (Q [iW.spec, gJ 70 (.int .u16), bF.spec, iS.spec, ah.spec]) bP.spec .none := eqn Tryz.f32
theorem cm.eq : Eqn (Q [bK.spec, cg.spec, cr.spec]) cm.spec .none := eqn Tryz.f349
theorem jw.eq : Eqn (Q [fa.spec, eY.spec, cA.spec, eD.spec]) jw.spec .none := eqn Tryz.f153
theorem aw.eq : Eqn (Q [dy.spec, aH.spec]) aw.spec .none := eqn Tryz.f276
theorem cc.eq : Eqn (Q [bh.spec]) cc.spec .none := eqn Tryz.f385
theorem b8.eq : Eqn (Q [aC.spec]) b8.spec .none := eqn Tryz.f338
theorem ea.eq : Eqn (Q [dE.spec]) ea.spec .none := eqn Tryz.f309
theorem gj.eq : Eqn (Q [(fP.spec fuel)]) gj.spec .none := eqn Tryz.f180
theorem dC.eq : Eqn (Q []) dC.spec .none := eqn Tryz.f135
theorem eT.eq : Eqn (Q []) eT.spec .none := eqn Tryz.f16
theorem gz.eq : Eqn (Q []) gz.spec .none := eqn Tryz.f74
theorem dy.eq : Eqn (Q []) dy.spec .none := eqn Tryz.f238
end Go.Mach
set_option linter.unusedVariables false
set_option maxRecDepth 100000
namespace Go.Mach
open Go.Proofs
theorem eval_run_fresh.eq (G : bD) : Eqn (Q [fO.spec, eval_run_apply.spec G, eval_run_builds.spec G, aY.spec, aO.spec, aC.spec, bY.spec, cm.spec, au.spec, ah.spec]) (eval_run_fresh.g.sp 329 fun x => R.eval_run_fresh G x.1 x.2.1 x.2.2) (.r (.r (.r (.r (.two (.l (.piece [(.nrm, ⟨[(50, vb)], rg 43 7, [], []⟩)] .none)) (.r (.two (.piece [(.nrm, ⟨[(10, vi)], [11, 12] ++ rg 55 22 ++ [81, 82], [], []⟩), (.ret, ⟨[(7, vi)], [11, 12] ++ rg 55 26, [(2, aK), (4, (.box (.frz aA)))], [0, 1]⟩)] .none) (.r (.r (.r (.l (.l (.piece [(.nrm, ⟨[(109, vb)], rg 103 6, [], []⟩)] .none))))))))))))) := eqn Tryz.f329
theorem dc.eq : Eqn (Q [cH.spec, eR.spec, cR.spec, eB.spec, fO.spec, dt.spec, aO.spec, ed.spec, dX.spec, cm.spec, au.spec, aL.spec, ah.spec, jI.spec, fW.spec]) dc.spec (.r (.r (.two (.piece [(.nrm, ⟨[(8, vs)], [25, 26], [], []⟩)] .none) (.r (.r (.r (.l (.r (.l (.r (.r (.r (.r (.r (.r (.r (.r (.l (.piece [(.nrm, ⟨[(125, vb)], [126, 127], [], []⟩)] .none))))))))))))))))))) := eqn Tryz.f375
theorem iW.eq : Eqn (Q [cA.spec, eD.spec, fD.spec, bT.spec]) iW.spec (.r (.r (.r (.r (.l (.l (.loop ⟨[(3, (false, (.own .w))), (4, (false, (.own .y)))], [5, 6] ++ rg 12 34, [], [2]⟩ [(.ext 0, ⟨[(4, (false, (.own .y)))], [3, 5, 6] ++ rg 12 34, [], [2]⟩)] (.r (.l (.r (.l (.r (.l (.loop ⟨[(5, (false, (.frz (.int .u64)))), (6, vi)], rg 18 20, [(3, (.own .w))], []⟩ [(.ext 2, ⟨[(5, (false, (.frz (.int .u64))))], [6] ++ rg 18 20, [(3, (.own .w))], []⟩)] .none)))))))))))))) := eqn Tryz.f69
theorem parse_parser_calls.eq (G : bE) : Eqn (Q [aX.spec, parse_parser_arguments.spec G, parse_parser_head.spec G, parse_parser_member.spec G, aw.spec]) (parse_parser_calls.g.sp 376 fun x => R.parse_parser_calls G x) (.r (.l (.r (.r (.l (.l (.loop ⟨[], [4, 5] ++ rg 8 17, [(0, aD), (3, (.box (.frz (.rose aB))))], []⟩ [(.ext 0, ⟨[], [4, 5] ++ rg 8 17, [(0, aD), (3, (.box (.frz (.rose aB))))], []⟩)] .none))))))) := eqn Tryz.f376
theorem gg.eq : Eqn (Q [jA.spec, eZ.spec, gI.spec, bx.spec, bz.spec, cQ.spec, ax.spec, jB.spec, iI.spec]) gg.spec (.r (.two (.r (.l (.r (.r (.r (.r (.r (.r (.l (.piece [(.nrm, ⟨[(34, vb)], [35, 36], [], []⟩)] .none)))))))))) (.r (.l (.l (.r (.r (.l (.piece [(.nrm, ⟨[(47, vb)], rg 48 7, [], []⟩)] .none))))))))) := eqn Tryz.f19
theorem dD.eq : Eqn (Q [bK.spec, cL.spec, cr.spec]) dD.spec (.r (.l (.r (.l (.loop ⟨[(1, vi), (16, vi)], rg 7 4 ++ rg 17 37, [], []⟩ [(.ext 0, ⟨[], [1] ++ rg 7 4 ++ rg 16 38, [], []⟩), (.ret, ⟨[(7, vi), (8, vb)], [1, 9, 10] ++ rg 16 38, [(2, (.box (.frz bB)))], []⟩)] .none))))) := eqn Tryz.f334
theorem parse_parser_body.eq (G : bE) : Eqn (Q [aX.spec, parse_parser_assign.spec G, aQ.spec, aH.spec, aw.spec]) (parse_parser_body.g.sp 299 fun x => R.parse_parser_body G x.1 x.2) (.r (.l (.piece [(.nrm, ⟨[], [6, 7, 8], [], []⟩)] .none))) := eqn Tryz.f299
theorem di.eq : Eqn (Q []) di.spec (.r (.l (.r (.l (.loop ⟨[(8, vi)], [2, 3, 5] ++ rg 9 8, [], []⟩ [(.ext 0, ⟨[], [2, 3, 5] ++ rg 8 9, [], []⟩), (.ret, ⟨[(2, (false, (.frz (.int .i32)))), (3, vi)], [5] ++ rg 8 9, [], []⟩)] .none))))) := eqn Tryz.f177
theorem fD.eq : Eqn (Q []) fD.spec (.r (.l (.l (.loop ⟨[(0, (false, (.own .w)))], rg 3 17, [], [0]⟩ [(.ext 0, ⟨[(0, (false, (.own .w)))], rg 3 17, [], [0]⟩)] (.l (.l (.piece [(.nrm, ⟨[(14, vb)], rg 3 11, [], []⟩)] .none))))))) := eqn Tryz.f124
theorem bZ.eq : Eqn (Q [dy.spec, aH.spec, aG.spec]) bZ.spec (.r (.l (.l (.piece [(.nrm, ⟨[(19, vb)], rg 5 14, [(0, aD)], []⟩)] .none)))) := eqn Tryz.f240
theorem eval_run_statement.eq (G : bD) : Eqn (Q [eval_run_act.spec G, bH.spec]) (eval_run_statement.g.sp 196 fun x => R.eval_run_statement G x.1 x.2.1 x.2.2.1 x.2.2.2) .none := eqn Tryz.f196
theorem fi.eq : Eqn (Q [gA.spec, fS.spec, gp.spec]) fi.spec (.r (.r (.l (.r (.l (.l (.piece [(.nrm, ⟨[(7, vb)], [8, 9], [], []⟩)] .none))))))) := eqn Tryz.f12
theorem dn.eq : Eqn (Q [iG.spec, cM.spec, aj.spec]) dn.spec .none := eqn Tryz.f233
theorem dU.eq : Eqn (Q [cY.spec, eC.spec, dq.spec]) dU.spec .none := eqn Tryz.f34
theorem bn.eq : Eqn (Q [bh.spec]) bn.spec .none := eqn Tryz.f415
theorem dM.eq : Eqn (Q [fg.spec, er.spec]) dM.spec .none := eqn Tryz.f266
theorem ff.eq : Eqn (Q [cn.spec, dF.spec, fq.spec]) ff.spec .none := eqn Tryz.f59
theorem eE.eq : Eqn (Q [bY.spec]) eE.spec .none := eqn Tryz.f392
theorem iB.eq : Eqn (Q [jh.spec, jE.spec]) iB.spec .none := eqn Tryz.f96
theorem iS.eq : Eqn (Q [oR 123, cn.spec]) iS.spec .none := eqn Tryz.f68
theorem da.eq : Eqn (Q [bX.spec]) da.spec .none := eqn Tryz.f103
theorem eY.eq : Eqn (Q [fY.spec]) eY.spec .none := eqn Tryz.f97
theorem ae.eq : Eqn (Q []) ae.spec .none := eqn Tryz.f272
theorem ax.eq : Eqn (Q []) ax.spec .none := eqn Tryz.f51
theorem fq.eq : Eqn (Q []) fq.spec .none := eqn Tryz.f108
end Go.Mach
set_option linter.unusedVariables false
set_option maxRecDepth 100000
namespace Go.Mach
open Go.Proofs
theorem cy.eq : Eqn (Q [iX.spec]) cy.spec (.r (.r (.r (.r (.l (.l (.loop ⟨[], [3, 6, 7, 8] ++ rg 27 63, [(0, bU), (2, (.box (.seq .i (.seq .s (.seq (.own .h) (.seq (.frz aF) (.seq (.seq .b (.own .w)) (.seq .i .b))))))))], []⟩ [(.ext 0, ⟨[], [3, 6, 7, 8] ++ rg 27 63, [(0, bU)], [2]⟩), (.ret, ⟨[(3, vi)], [6, 7, 8] ++ rg 27 63, [(0, bU), (1, (.box (.seq .i (.seq .s (.seq (.own .h) (.seq (.frz aF) (.seq (.seq .b (.own .w)) (.seq .i .b))))))))], [2]⟩)] (.two (.l (.piece [(.nrm, ⟨[(50, vb)], rg 27 23, [], []⟩)] .none)) (.l (.r (.r (.r (.l (.piece [(.nrm, ⟨[], [72, 73], [], []⟩)] .none)))))))))))))) := eqn Tryz.f235
theorem fx.eq : Eqn (Q [gJ 284 (.int .u8), gJ 70 (.int .u16), mu 112 282 bN, mu 112 283 bB, cr.spec]) fx.spec (.r (.r (.two (.r (.l (.loop ⟨[(26, vi)], [3, 4] ++ rg 27 16, [(7, (.own (.frz bN)))], []⟩ [(.ext 0, ⟨[], [3, 4] ++ rg 26 17, [(7, (.own (.frz bN)))], []⟩)] .none))) (.l (.r (.l (.loop ⟨[(46, vi)], [5, 6] ++ rg 47 13, [(8, (.own (.frz bB)))], []⟩ [(.ext 2, ⟨[], [5, 6] ++ rg 46 14, [(8, (.own (.frz bB)))], []⟩)] .none))))))) := eqn Tryz.f245
theorem fj.eq : Eqn (Q [b9.spec, ah.spec, fF.spec]) fj.spec (.r (.r (.l (.r (.l (.loop ⟨[(3, vb), (8, vi)], [2, 5] ++ rg 9 28, [], []⟩ [(.ext 0, ⟨[(3, vb)], [2, 5] ++ rg 8 29, [], []⟩), (.ret, ⟨[(2, vb)], [3, 5] ++ rg 8 29, [], []⟩)] (.r (.r (.l (.l (.r (.two (.piece [(.nrm, ⟨[(3, vb)], rg 12 5, [], []⟩)] .none) (.l (.l (.piece [(.nrm, ⟨[(17, vb)], rg 18 14, [], []⟩)] (.r (.r (.l (.piece [(.nrm, ⟨[(17, vb)], rg 20 6, [], []⟩)] .none))))))))))))))))))) := eqn Tryz.f117
theorem parse_parser_level.eq (G : bE) : Eqn (Q [fo.spec, ae.spec, parse_parser_level.spec G, aH.spec, parse_parser_unary.spec G]) (parse_parser_level.g.sp 332 fun x => R.parse_parser_level G x.1 x.2) (.r (.r (.r (.l (.l (.loop ⟨[], [6] ++ rg 15 23, [(0, aD), (3, (.box (.frz (.rose aB))))], []⟩ [(.ext 0, ⟨[], [6] ++ rg 15 23, [(0, aD), (3, (.box (.frz (.rose aB))))], []⟩)] .none)))))) := eqn Tryz.f332
theorem dJ.eq : Eqn (Q [fg.spec, er.spec, bA.spec, cw.spec, cy.spec, db.spec, dn.spec]) dJ.spec (.r (.r (.l (.l (.r (.r (.r (.r (.two (.piece [(.nrm, ⟨[(29, vb)], rg 30 6, [], []⟩)] .none) (.r (.l (.piece [(.nrm, ⟨[(40, vb)], rg 41 6, [], []⟩)] .none)))))))))))) := eqn Tryz.f208
theorem jI.eq : Eqn (Q [fF.spec]) jI.spec (.r (.two (.l (.piece [(.nrm, ⟨[(25, vb)], rg 7 18, [], []⟩)] .none)) (.r (.l (.r (.l (.loop ⟨[(4, vi), (28, vi)], [2, 3, 6] ++ rg 29 13, [], []⟩ [(.ext 0, ⟨[(4, vi)], [2, 3, 6] ++ rg 28 14, [], []⟩), (.ret, ⟨[(2, vi), (3, vb)], [4, 6] ++ rg 28 14, [], []⟩)] .none))))))) := eqn Tryz.f361
theorem cw.eq : Eqn (Q [cM.spec, bc.spec, bO.spec, dA.spec, ah.spec, eh.spec]) cw.spec (.r (.r (.r (.l (.l (.l (.piece [(.nrm, ⟨[(12, vb)], rg 13 7, [], []⟩)] .none))))))) := eqn Tryz.f234
theorem eval_run_call.eq (G : bD) : Eqn (Q [gK.spec, fO.spec, eval_run_apply.spec G, eval_run_does.spec G, aC.spec, bY.spec]) (eval_run_call.g.sp 346 fun x => R.eval_run_call G x.1 x.2.1 x.2.2.1 x.2.2.2) .none := eqn Tryz.f346
theorem dE.eq : Eqn (Q [gx.spec, fX.spec, aO.spec, aC.spec, dD.spec]) dE.spec (.r (.r (.l (.l (.l (.piece [(.nrm, ⟨[(26, vb)], rg 27 6, [], []⟩)] .none)))))) := eqn Tryz.f320
theorem gM.eq : Eqn (Q [dw.spec, eA.spec, aU.spec]) gM.spec (.r (.l (.l (.piece [(.nrm, ⟨[(37, vb)], rg 8 29, [], []⟩)] .none)))) := eqn Tryz.f139
theorem dk.eq : Eqn (Q [bP.spec, au.spec, ah.spec]) dk.spec (.r (.r (.l (.r (.l (.piece [(.nrm, ⟨[(33, vb)], rg 28 5, [], []⟩)] .none)))))) := eqn Tryz.f81
theorem aT.eq : Eqn (Q [aW.spec]) aT.spec .none := eqn Tryz.f119
theorem kt.eq : Eqn (Q [dY.spec, bX.spec]) kt.spec (.r (.l (.l (.piece [(.nrm, ⟨[(9, vb)], rg 4 5, [], []⟩)] .none)))) := eqn Tryz.f155
theorem cg.eq : Eqn (Q [aR.spec]) cg.spec .none := eqn Tryz.f248
theorem aC.eq : Eqn (Q [cP.spec, bS.spec]) aC.spec .none := eqn Tryz.f335
theorem bc.eq : Eqn (Q [er.spec]) bc.spec .none := eqn Tryz.f236
theorem jM.eq : Eqn (Q [cn.spec, dF.spec, fq.spec]) jM.spec .none := eqn Tryz.f164
theorem dN.eq : Eqn (Q [gu.spec]) dN.spec .none := eqn Tryz.f286
theorem eJ.eq : Eqn (Q [fx.spec]) eJ.spec .none := eqn Tryz.f214
theorem jH.eq : Eqn (Q [gJ 109 (.int .u32)]) jH.spec .none := eqn Tryz.f61
theorem bI.eq : Eqn (Q []) bI.spec .none := eqn Tryz.f274
theorem eW.eq : Eqn (Q []) eW.spec .none := eqn Tryz.f133
theorem eM.eq : Eqn (Q []) eM.spec .none := eqn Tryz.f136
theorem ij.eq : Eqn (Q []) ij.spec .none := eqn Tryz.f229
theorem iV.eq : Eqn (Q []) iV.spec .none := eqn Tryz.f222
end Go.Mach
