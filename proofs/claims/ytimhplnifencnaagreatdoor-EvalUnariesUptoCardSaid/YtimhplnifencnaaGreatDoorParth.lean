/-
  Proved here: the law renlaw12.EvalUnaries returns true for every input of the stated bulk and leaves its arguments as they were; no further condition.
  By an AI agent; no person has read it.
-/
import Derived.Test.YtimhplnifencnaaGreatDoorPartg
import Derived.KernelRfl
import Derived.Test.YtimhplnifencnaaGreatDoorProg
set_option linter.all false
set_option linter.deprecated false
set_option linter.unusedVariables false
set_option maxRecDepth 100000
namespace Go.Mach
open Go.Proofs
def parse_parser_declares.ann : Ann := (.r (.r (.two (.piece [(.nrm, ⟨[], rg 6 5, [(0, aF), (3, (.box l7))], [2]⟩)] .none) (.l (.loop ⟨[], [4] ++ rg 11 27, [(0, aF), (3, (.box l7))], [5]⟩ [(.ret, ⟨[], [4] ++ rg 11 27, [(0, aF), (1, (.box l7))], [3, 5]⟩)] (.l (.r (.two (.piece [(.nrm, ⟨[], rg 14 9, [(0, aF), (12, (.box l7))], [11]⟩)] .none) (.r (.l (.piece [(.nrm, ⟨[(36, vb)], rg 29 7, [(0, aF)], []⟩)] .none)))))))))))
theorem parse_parser_declares.eq_ (g_parse_made : type_of% R.aY) (g_parse_named : type_of% R.ai) (g_parse_parser_fine : type_of% R.bK) (g_parse_parser_name : type_of% R.a8) (g_parse_parser_need : type_of% R.aP) (g_parse_parser_take : type_of% R.aH) (G : bJ) : Eqn (Q [(aY.g.sp 209 fun x => g_parse_made x.1 x.2), (ai.g.sp 272 fun x => g_parse_named x.1 x.2.1 x.2.2), parse_parser_assign.spec G, (bK.g.sp 274 fun x => g_parse_parser_fine x), (a8.g.sp 242 fun x => g_parse_parser_name x), (aP.g.sp 271 fun x => g_parse_parser_need x.1 x.2), (aH.g.sp 241 fun x => g_parse_parser_take x.1 x.2)]) (parse_parser_declares.g.sp 239 fun x => Res.given (parse_parser_declares.g.i x) (Res.bind (g_parse_made 5 ([] : List (aK aB.den))) fun r1 => Res.given (aY.g.o r1) (Res.bind (α := (aF.den × (aB.den × (List (aK aB.den))))) (Res.bind (g_parse_parser_take x [99, 111, 110, 115, 116]) fun r2 => Res.given (aH.g.o r2) (Res.br r2.1 (Res.bind (g_parse_made 6 ([] : List (aK aB.den))) fun r3 => Res.given (aY.g.o r3) (Res.ok ((r2.2, r3)))) (Res.bind (g_parse_parser_need r2.2 [108, 101, 116]) fun r4 => Res.given (aP.g.o r4) (Res.ok ((r4.2, r1)))))) fun x5 => Res.bind (Res.loop (α := (aF.den × (aB.den × (List (aK aB.den))))) (β := (aF.den × (aB.den × (List (aK aB.den))))) (fun x6 => Res.bind (g_parse_parser_name x6.1) fun r7 => Res.given (a8.g.o r7) (Res.bind (g_parse_named 7 r7.1 ([] : List (aK aB.den))) fun r8 => Res.given (ai.g.o r8) (Res.bind (α := (aF.den × (aB.den × (List (aK aB.den))))) (Res.bind (g_parse_parser_take r7.2 [61]) fun r9 => Res.given (aH.g.o r9) (Res.br r9.1 (Res.bind (G.parse_parser_assign r9.2) fun r10 => Res.given (parse_parser_assign.g.o r10) (Res.ax (decide ((r8.2.length + [(aK.mk (aK.lab r10.1) (aK.kids r10.1))].length) * 144 ≤ 2 ^ 47)) (Res.ok ((r10.2, (r8.1, (r8.2 ++ [(aK.mk (aK.lab r10.1) (aK.kids r10.1))]))))))) (Res.ok ((r9.2, r8))))) fun x11 => Res.ax (decide ((x6.2.2.length + [(aK.mk x11.2.1 x11.2.2)].length) * 144 ≤ 2 ^ 47)) (Res.bind (α := (Bool × aF.den)) (Res.bind (g_parse_parser_fine x11.1) fun r12 => Res.br (!r12) (Res.ok ((true, x11.1))) (Res.bind (g_parse_parser_take x11.1 [44]) fun r13 => Res.given (aH.g.o r13) (Res.ok (((!r13.1), r13.2))))) fun x14 => Res.br x14.1 (Res.ok (.done ((x14.2, (x6.2.1, (x6.2.2 ++ [(aK.mk x11.2.1 x11.2.2)])))))) (Res.ok (.next ((x14.2, (x6.2.1, (x6.2.2 ++ [(aK.mk x11.2.1 x11.2.2)])))))))))) fuel x5) fun x15 => Res.ok (((aK.mk x15.2.1 x15.2.2), x15.1))))) parse_parser_declares.ann := eqn Tryz.f239
theorem parse_parser_declares.eq (G : bJ) : Eqn (Q [aY.spec, ai.spec, parse_parser_assign.spec G, bK.spec, a8.spec, aP.spec, aH.spec]) (parse_parser_declares.g.sp 239 fun x => R.parse_parser_declares G x) parse_parser_declares.ann := parse_parser_declares.eq_ R.aY R.ai R.bK R.a8 R.aP R.aH G
theorem eval_run_arguments.eq (G : bI) : Eqn (Q [eval_run_expression.spec G]) (eval_run_arguments.g.sp 328 fun x => R.eval_run_arguments G x.1 x.2.1 x.2.2) (.r (.r (.l (.r (.l (.loop ⟨[(9, (false, (.own (.frz aA)))), (16, vi)], [6, 8, 11, 12, 13] ++ rg 17 19, [(2, aM)], [0, 1]⟩ [(.ext 0, ⟨[(9, (false, (.own (.frz aA))))], [6, 8, 11, 12, 13] ++ rg 16 20, [(2, aM)], [0, 1]⟩), (.ret, ⟨[(6, (false, (.own (.frz aA)))), (8, vi)], [9, 11, 12, 13] ++ rg 16 20, [(2, aM), (4, (.box (.frz aA)))], [0, 1]⟩)] .none)))))) := eqn Tryz.f328
theorem gL.eq : Eqn (Q [eK.spec]) gL.spec (.r (.two (.l (.piece [(.nrm, ⟨[(10, vb)], rg 3 7, [], []⟩)] .none)) (.l (.r (.l (.r (.r (.r (.r (.r (.r (.two (.piece [(.nrm, ⟨[(19, vb)], rg 20 4, [], []⟩)] .none) (.r (.two (.piece [(.nrm, ⟨[(24, vb)], rg 25 5, [], []⟩)] .none) (.r (.two (.piece [(.nrm, ⟨[(30, vb)], [31, 32, 33], [], []⟩)] .none) (.r (.two (.piece [(.nrm, ⟨[(34, vb)], [35, 36], [], []⟩)] .none) (.r (.l (.piece [(.nrm, ⟨[(37, vb)], [38, 39, 40], [], []⟩)] .none))))))))))))))))))))) := eqn Tryz.f354
theorem eval_run_array.eq (G : bI) : Eqn (Q [gn.spec, ae.spec, eval_run_expression.spec G, dt.spec]) (eval_run_array.g.sp 311 fun x => R.eval_run_array G x.1 x.2.1 x.2.2) (.r (.r (.r (.l (.r (.l (.loop ⟨[(26, vi)], [7] ++ rg 10 4 ++ rg 27 26, [(2, aM)], [5, 6]⟩ [(.ext 0, ⟨[], [7] ++ rg 10 4 ++ rg 26 27, [(2, aM)], [5, 6]⟩), (.ret, ⟨[(7, vi)], rg 10 4 ++ rg 26 27, [(2, aM), (4, (.box (.frz aA)))], [5, 6]⟩)] .none))))))) := eqn Tryz.f311
theorem dJ.eq : Eqn (Q [eK.spec, ah.spec, bA.spec]) dJ.spec (.r (.r (.r (.l (.piece [(.nrm, ⟨[(3, vi)], [2] ++ rg 7 19, [], []⟩), (.ret, ⟨[(2, vb)], [3] ++ rg 7 19, [], []⟩)] (.r (.l (.l (.loop ⟨[(3, vi)], [2] ++ rg 12 14, [], []⟩ [(.ext 0, ⟨[(3, vi)], [2] ++ rg 12 14, [], []⟩), (.ret, ⟨[(2, vb)], [3] ++ rg 12 14, [], []⟩)] .none))))))))) := eqn Tryz.f300
theorem gm.eq : Eqn (Q [gz.spec]) gm.spec (.r (.r (.r (.l (.r (.l (.loop ⟨[(5, (false, (.own .w))), (6, (false, .w)), (14, vi)], rg 7 5 ++ rg 15 25, [], []⟩ [(.ext 0, ⟨[(5, (false, (.own .w)))], rg 6 6 ++ rg 14 26, [], []⟩)] (.r (.r (.l (.l (.r (.r (.l (.piece [(.nrm, ⟨[(9, (false, .w))], rg 19 8, [], []⟩)] .none))))))))))))))) := eqn Tryz.f172
theorem aU.eq : Eqn (Q [eA.spec]) aU.spec (.r (.l (.r (.l (.loop ⟨[(8, vi)], [4, 5] ++ rg 9 10, [], []⟩ [(.ext 0, ⟨[], [4, 5] ++ rg 8 11, [], []⟩), (.ret, ⟨[(4, vi)], [5] ++ rg 8 11, [], []⟩)] .none))))) := eqn Tryz.f246
theorem gx.eq : Eqn (Q [fR.spec]) gx.spec (.r (.r (.l (.r (.l (.loop ⟨[(1, (false, .w)), (5, (false, (.own .w))), (10, vi)], [7] ++ rg 11 13, [], []⟩ [(.ext 0, ⟨[(1, (false, .w)), (5, (false, (.own .w)))], [7] ++ rg 10 14, [], []⟩)] .none)))))) := eqn Tryz.f223
theorem bl.eq : Eqn (Q []) bl.spec (.r (.r (.l (.r (.l (.loop ⟨[(13, vi)], [4, 5] ++ rg 14 12, [], []⟩ [(.ext 0, ⟨[], [4, 5] ++ rg 13 13, [], []⟩), (.ret, ⟨[(4, vb)], [5] ++ rg 13 13, [], []⟩)] .none)))))) := eqn Tryz.f166
theorem cg.eq : Eqn (Q []) cg.spec (.r (.l (.r (.l (.two (.piece [(.nrm, ⟨[(5, vb)], rg 6 4, [], []⟩)] .none) (.r (.l (.piece [(.nrm, ⟨[(10, vb)], rg 11 6, [], []⟩)] .none)))))))) := eqn Tryz.f296
theorem iU.eq : Eqn (Q []) iU.spec (.r (.l (.r (.l (.two (.piece [(.nrm, ⟨[(4, vb)], rg 5 22, [], []⟩)] .none) (.r (.l (.piece [(.nrm, ⟨[(27, vb)], rg 28 27, [], []⟩)] .none)))))))) := eqn Tryz.f181
theorem eval_run_property.eq (G : bI) : Eqn (Q [eQ.spec, eval_run_parts.spec G]) (eval_run_property.g.sp 330 fun x => R.eval_run_property G x.1 x.2.1 x.2.2) .none := eqn Tryz.f330
theorem bU.eq : Eqn (Q [cd.spec, eval_run_list.spec (bo fuel), cU.spec]) bU.spec .none := eqn Tryz.f80
theorem cW.eq : Eqn (Q [bL.spec, cX.spec, dH.spec]) cW.spec .none := eqn Tryz.f219
theorem kK.eq : Eqn (Q [gA.spec, eZ.spec, cC.spec, eP.spec]) kK.spec .none := eqn Tryz.f152
theorem jE.eq : Eqn (Q [bl.spec, cw.spec]) jE.spec .none := eqn Tryz.f93
theorem dD.eq : Eqn (Q [cE.spec]) dD.spec .none := eqn Tryz.f394
theorem gn.eq : Eqn (Q [oT 123, aq.spec]) gn.spec .none := eqn Tryz.f321
theorem bf.eq : Eqn (Q [bL.spec]) bf.spec .none := eqn Tryz.f350
theorem ef.eq : Eqn (Q [eu.spec]) ef.spec .none := eqn Tryz.f120
theorem eE.eq : Eqn (Q [cK.spec]) eE.spec .none := eqn Tryz.f399
theorem dY.eq : Eqn (Q []) dY.spec .none := eqn Tryz.f13
theorem cB.eq : Eqn (Q []) cB.spec .none := eqn Tryz.f157
theorem gr.eq : Eqn (Q []) gr.spec .none := eqn Tryz.f158
theorem ir.eq : Eqn (Q []) ir.spec .none := eqn Tryz.f230
theorem gR.eq : Eqn (Q []) gR.spec .none := eqn Tryz.f37
end Go.Mach
set_option linter.unusedVariables false
set_option maxRecDepth 100000
namespace Go.Mach
open Go.Proofs
theorem parse_parser_unary.eq (G : bJ) : Eqn (Q [ai.spec, parse_parser_calls.spec G, bK.spec, aI.spec, parse_parser_unary.spec G, jO.spec, eo.spec]) (parse_parser_unary.g.sp 353 fun x => R.parse_parser_unary G x) (.r (.r (.two (.piece [(.nrm, ⟨[], rg 8 12 ++ rg 33 4, [], []⟩), (.ret, ⟨[], [4] ++ rg 8 47 ++ rg 57 5, [(0, aF), (1, (.box l7))], []⟩)] (.two (.piece [(.nrm, ⟨[(15, vb)], rg 8 7, [], []⟩)] .none) (.l (.l (.r (.r (.r (.l (.r (.r (.l (.piece [(.nrm, ⟨[], rg 46 9, [], []⟩)] (.l (.piece [(.nrm, ⟨[(54, vb)], rg 46 8, [], []⟩)] .none)))))))))))))) (.r (.l (.r (.l (.piece [(.nrm, ⟨[(78, vb)], rg 66 12, [], []⟩)] .none)))))))) := eqn Tryz.f353
theorem fD.eq : Eqn (Q [cu.spec, ep.spec, ae.spec, aD.spec, dm.spec]) fD.spec (.r (.r (.r (.r (.r (.two (.piece [(.nrm, ⟨[(16, vi)], [15] ++ rg 44 10, [], []⟩), (.ret, ⟨[(11, vi)], [15, 16] ++ rg 44 15, [(2, aM), (5, (.box (.frz aA)))], [0, 1]⟩)] .none) (.l (.piece [(.nrm, ⟨[(16, vi)], rg 59 24 ++ rg 87 9, [], []⟩), (.ret, ⟨[(11, vi)], rg 59 28, [(2, aM), (5, (.box (.frz aA)))], [0, 1]⟩)] (.l (.l (.piece [(.nrm, ⟨[(59, vb)], rg 60 23, [], []⟩)] .none))))))))))) := eqn Tryz.f396
theorem eval_run_act.eq (G : bI) : Eqn (Q [gY 257 .str, eval_run_decls.spec G, eval_run_expression.spec G, eval_run_statement.spec G, fY.spec]) (eval_run_act.g.sp 221 fun x => R.eval_run_act G x.1 x.2.1 x.2.2.1 x.2.2.2) (.r (.r (.r (.l (.r (.l (.r (.r (.r (.r (.two (.piece [(.nrm, ⟨[(52, vb)], [53, 54], [], []⟩)] .none) (.r (.r (.r (.r (.r (.r (.r (.r (.r (.r (.r (.r (.r (.r (.r (.r (.r (.r (.l (.r (.l (.l (.piece [(.nrm, ⟨[(150, vb)], rg 141 9, [], []⟩)] .none)))))))))))))))))))))))))))))))))) := eqn Tryz.f221
theorem parse_parser_word.eq (G : bJ) : Eqn (Q [aY.spec, parse_parser_assign.spec G, bc.spec, aI.spec, parse_parser_simple.spec G]) (parse_parser_word.g.sp 280 fun x => R.parse_parser_word G x.1 x.2) (.r (.l (.r (.l (.r (.r (.r (.r (.r (.r (.r (.r (.r (.r (.r (.r (.r (.two (.r (.l (.piece [(.nrm, ⟨[], [93, 94, 95], [], []⟩)] .none))) (.r (.r (.l (.piece [(.nrm, ⟨[(109, vb)], [110, 111, 112], [], []⟩)] .none)))))))))))))))))))))) := eqn Tryz.f280
theorem eW.eq : Eqn (Q [iM.spec, fy.spec, aO.spec, aD.spec, cW.spec, dM.spec]) eW.spec (.r (.r (.two (.l (.two (.piece [(.nrm, ⟨[(27, vb)], rg 28 6, [], []⟩)] .none) (.r (.l (.piece [(.nrm, ⟨[(38, vb)], rg 39 5, [], []⟩)] .none))))) (.l (.r (.l (.piece [(.nrm, ⟨[(68, vb)], rg 64 4, [], []⟩)] .none))))))) := eqn Tryz.f359
theorem dU.eq : Eqn (Q [cR.spec, bt.spec, ae.spec, aD.spec]) dU.spec (.r (.r (.l (.piece [(.nrm, ⟨[], [9, 10] ++ rg 12 10 ++ [27, 28], [(5, (.box (.frz aA)))], []⟩), (.ret, ⟨[(7, vi)], [9, 10] ++ rg 12 15, [(2, aM), (4, (.box (.frz aA)))], [0, 1]⟩)] .none)))) := eqn Tryz.f384
theorem av.eq : Eqn (Q [bB.spec]) av.spec (.r (.r (.l (.l (.loop ⟨[(5, (false, (.own .y)))], rg 6 24, [(0, bW)], []⟩ [(.ext 0, ⟨[(5, (false, (.own .y)))], rg 6 24, [(0, bW)], []⟩)] .none))))) := eqn Tryz.f265
theorem cD.eq : Eqn (Q [ct.spec]) cD.spec (.r (.l (.r (.l (.loop ⟨[(11, vi)], rg 4 5 ++ rg 12 19, [], []⟩ [(.ext 0, ⟨[], rg 4 5 ++ rg 11 20, [], []⟩), (.ret, ⟨[(4, vi)], rg 5 4 ++ rg 11 20, [], []⟩)] .none))))) := eqn Tryz.f161
theorem cw.eq : Eqn (Q []) cw.spec (.r (.r (.l (.r (.l (.loop ⟨[(13, vi)], [4, 5] ++ rg 14 12, [], []⟩ [(.ext 0, ⟨[], [4, 5] ++ rg 13 13, [], []⟩), (.ret, ⟨[(4, vb)], [5] ++ rg 13 13, [], []⟩)] .none)))))) := eqn Tryz.f165
theorem aq.eq : Eqn (Q []) aq.spec (.r (.r (.l (.r (.l (.loop ⟨[(3, (false, (.own .h))), (7, vi)], [4] ++ rg 8 10, [], []⟩ [(.ext 0, ⟨[(3, (false, (.own .h)))], [4] ++ rg 7 11, [], []⟩)] .none)))))) := eqn Tryz.f67
theorem iw.eq : Eqn (Q []) iw.spec (.r (.l (.r (.l (.two (.piece [(.nrm, ⟨[(4, vb)], rg 5 50, [], []⟩)] .none) (.r (.l (.piece [(.nrm, ⟨[(55, vb)], rg 56 7, [], []⟩)] .none)))))))) := eqn Tryz.f270
theorem fl.eq : Eqn (Q [di.spec, jk.spec, bZ.spec]) fl.spec (.r (.l (.r (.l (.piece [(.nrm, ⟨[(21, vb)], rg 15 6, [], []⟩)] .none))))) := eqn Tryz.f15
theorem bt.eq : Eqn (Q [iy.spec, gY 70 (.int .u16), bF.spec, iu.spec, aq.spec]) bt.spec .none := eqn Tryz.f32
theorem cz.eq : Eqn (Q [bL.spec, cx.spec, dH.spec]) cz.spec .none := eqn Tryz.f349
theorem kL.eq : Eqn (Q [gA.spec, eZ.spec, cC.spec, eP.spec]) kL.spec .none := eqn Tryz.f153
theorem bA.eq : Eqn (Q [eK.spec, aI.spec]) bA.spec .none := eqn Tryz.f276
theorem cq.eq : Eqn (Q [bw.spec]) cq.spec .none := eqn Tryz.f385
theorem cI.eq : Eqn (Q [aD.spec]) cI.spec .none := eqn Tryz.f338
theorem fA.eq : Eqn (Q [dN.spec]) fA.spec .none := eqn Tryz.f309
theorem gy.eq : Eqn (Q [(fh.spec fuel)]) gy.spec .none := eqn Tryz.f180
theorem dL.eq : Eqn (Q []) dL.spec .none := eqn Tryz.f135
theorem fo.eq : Eqn (Q []) fo.spec .none := eqn Tryz.f16
theorem iQ.eq : Eqn (Q []) iQ.spec .none := eqn Tryz.f74
theorem eK.eq : Eqn (Q []) eK.spec .none := eqn Tryz.f238
end Go.Mach
set_option linter.unusedVariables false
set_option maxRecDepth 100000
namespace Go.Mach
open Go.Proofs
theorem eval_run_fresh.eq (G : bI) : Eqn (Q [fe.spec, eval_run_apply.spec G, eval_run_builds.spec G, ae.spec, aO.spec, aD.spec, bf.spec, cz.spec, az.spec, aq.spec]) (eval_run_fresh.g.sp 329 fun x => R.eval_run_fresh G x.1 x.2.1 x.2.2) (.r (.r (.r (.r (.two (.l (.piece [(.nrm, ⟨[(50, vb)], rg 43 7, [], []⟩)] .none)) (.r (.two (.piece [(.nrm, ⟨[(10, vi)], [11, 12] ++ rg 55 22 ++ [81, 82], [], []⟩), (.ret, ⟨[(7, vi)], [11, 12] ++ rg 55 26, [(2, aM), (4, (.box (.frz aA)))], [0, 1]⟩)] .none) (.r (.r (.r (.l (.l (.piece [(.nrm, ⟨[(109, vb)], rg 103 6, [], []⟩)] .none))))))))))))) := eqn Tryz.f329
theorem dy.eq : Eqn (Q [cR.spec, ep.spec, cY.spec, eS.spec, fe.spec, eE.spec, aO.spec, ez.spec, dm.spec, cz.spec, az.spec, aN.spec, aq.spec, jT.spec, fx.spec]) dy.spec (.r (.r (.two (.piece [(.nrm, ⟨[(8, vs)], [25, 26], [], []⟩)] .none) (.r (.r (.r (.l (.r (.l (.r (.r (.r (.r (.r (.r (.r (.r (.l (.piece [(.nrm, ⟨[(125, vb)], [126, 127], [], []⟩)] .none))))))))))))))))))) := eqn Tryz.f375
theorem iy.eq : Eqn (Q [cC.spec, eP.spec, fR.spec, bX.spec]) iy.spec (.r (.r (.r (.r (.l (.l (.loop ⟨[(3, (false, (.own .w))), (4, (false, (.own .y)))], [5, 6] ++ rg 12 34, [], [2]⟩ [(.ext 0, ⟨[(4, (false, (.own .y)))], [3, 5, 6] ++ rg 12 34, [], [2]⟩)] (.r (.l (.r (.l (.r (.l (.loop ⟨[(5, (false, (.frz (.int .u64)))), (6, vi)], rg 18 20, [(3, (.own .w))], []⟩ [(.ext 2, ⟨[(5, (false, (.frz (.int .u64))))], [6] ++ rg 18 20, [(3, (.own .w))], []⟩)] .none)))))))))))))) := eqn Tryz.f69
theorem parse_parser_calls.eq (G : bJ) : Eqn (Q [aY.spec, parse_parser_arguments.spec G, parse_parser_head.spec G, parse_parser_member.spec G, bA.spec]) (parse_parser_calls.g.sp 376 fun x => R.parse_parser_calls G x) (.r (.l (.r (.r (.l (.l (.loop ⟨[], [4, 5] ++ rg 8 17, [(0, aF), (3, (.box (.frz (.rose aB))))], []⟩ [(.ext 0, ⟨[], [4, 5] ++ rg 8 17, [(0, aF), (3, (.box (.frz (.rose aB))))], []⟩)] .none))))))) := eqn Tryz.f376
theorem ba.eq : Eqn (Q [iz.spec, eY.spec, gG.spec, cK.spec, b8.spec, cJ.spec, ay.spec, i6.spec, iG.spec]) ba.spec (.r (.two (.r (.l (.r (.r (.r (.r (.r (.r (.l (.piece [(.nrm, ⟨[(34, vb)], [35, 36], [], []⟩)] .none)))))))))) (.r (.l (.l (.r (.r (.l (.piece [(.nrm, ⟨[(47, vb)], rg 48 7, [], []⟩)] .none))))))))) := eqn Tryz.f19
theorem dM.eq : Eqn (Q [bL.spec, cX.spec, dH.spec]) dM.spec (.r (.l (.r (.l (.loop ⟨[(1, vi), (16, vi)], rg 7 4 ++ rg 17 37, [], []⟩ [(.ext 0, ⟨[], [1] ++ rg 7 4 ++ rg 16 38, [], []⟩), (.ret, ⟨[(7, vi), (8, vb)], [1, 9, 10] ++ rg 16 38, [(2, (.box (.frz bG)))], []⟩)] .none))))) := eqn Tryz.f334
theorem parse_parser_body.eq (G : bJ) : Eqn (Q [aY.spec, parse_parser_assign.spec G, aP.spec, aI.spec, bA.spec]) (parse_parser_body.g.sp 299 fun x => R.parse_parser_body G x.1 x.2) (.r (.l (.piece [(.nrm, ⟨[], [6, 7, 8], [], []⟩)] .none))) := eqn Tryz.f299
theorem dz.eq : Eqn (Q []) dz.spec (.r (.l (.r (.l (.loop ⟨[(8, vi)], [2, 3, 5] ++ rg 9 8, [], []⟩ [(.ext 0, ⟨[], [2, 3, 5] ++ rg 8 9, [], []⟩), (.ret, ⟨[(2, (false, (.frz (.int .i32)))), (3, vi)], [5] ++ rg 8 9, [], []⟩)] .none))))) := eqn Tryz.f177
theorem fR.eq : Eqn (Q []) fR.spec (.r (.l (.l (.loop ⟨[(0, (false, (.own .w)))], rg 3 17, [], [0]⟩ [(.ext 0, ⟨[(0, (false, (.own .w)))], rg 3 17, [], [0]⟩)] (.l (.l (.piece [(.nrm, ⟨[(14, vb)], rg 3 11, [], []⟩)] .none))))))) := eqn Tryz.f124
theorem bc.eq : Eqn (Q [eK.spec, aI.spec, aH.spec]) bc.spec (.r (.l (.l (.piece [(.nrm, ⟨[(19, vb)], rg 5 14, [(0, aF)], []⟩)] .none)))) := eqn Tryz.f240
theorem eval_run_statement.eq (G : bI) : Eqn (Q [eval_run_act.spec G, bh.spec]) (eval_run_statement.g.sp 196 fun x => R.eval_run_statement G x.1 x.2.1 x.2.2.1 x.2.2.2) .none := eqn Tryz.f196
theorem fa.eq : Eqn (Q [gR.spec, fB.spec, gV.spec]) fa.spec (.r (.r (.l (.r (.l (.l (.piece [(.nrm, ⟨[(7, vb)], [8, 9], [], []⟩)] .none))))))) := eqn Tryz.f12
theorem dv.eq : Eqn (Q [iU.spec, ca.spec, av.spec]) dv.spec .none := eqn Tryz.f233
theorem dn.eq : Eqn (Q [cm.spec, eR.spec, eI.spec]) dn.spec .none := eqn Tryz.f34
theorem bx.eq : Eqn (Q [bw.spec]) bx.spec .none := eqn Tryz.f415
theorem da.eq : Eqn (Q [gF.spec, fJ.spec]) da.spec .none := eqn Tryz.f266
theorem fO.eq : Eqn (Q [dA.spec, dC.spec, fw.spec]) fO.spec .none := eqn Tryz.f59
theorem eT.eq : Eqn (Q [bf.spec]) eT.spec .none := eqn Tryz.f392
theorem iR.eq : Eqn (Q [jq.spec, jW.spec]) iR.spec .none := eqn Tryz.f96
theorem iu.eq : Eqn (Q [oT 123, dA.spec]) iu.spec .none := eqn Tryz.f68
theorem dP.eq : Eqn (Q [bQ.spec]) dP.spec .none := eqn Tryz.f103
theorem eZ.eq : Eqn (Q [fK.spec]) eZ.spec .none := eqn Tryz.f97
theorem ai.eq : Eqn (Q []) ai.spec .none := eqn Tryz.f272
theorem ay.eq : Eqn (Q []) ay.spec .none := eqn Tryz.f51
theorem fw.eq : Eqn (Q []) fw.spec .none := eqn Tryz.f108
end Go.Mach
set_option linter.unusedVariables false
set_option maxRecDepth 100000
namespace Go.Mach
open Go.Proofs
theorem dF.eq : Eqn (Q [ir.spec]) dF.spec (.r (.r (.r (.r (.l (.l (.loop ⟨[], [3, 6, 7, 8] ++ rg 27 63, [(0, bW), (2, (.box (.seq .i (.seq .s (.seq (.own .h) (.seq (.frz aG) (.seq (.seq .b (.own .w)) (.seq .i .b))))))))], []⟩ [(.ext 0, ⟨[], [3, 6, 7, 8] ++ rg 27 63, [(0, bW)], [2]⟩), (.ret, ⟨[(3, vi)], [6, 7, 8] ++ rg 27 63, [(0, bW), (1, (.box (.seq .i (.seq .s (.seq (.own .h) (.seq (.frz aG) (.seq (.seq .b (.own .w)) (.seq .i .b))))))))], [2]⟩)] (.two (.l (.piece [(.nrm, ⟨[(50, vb)], rg 27 23, [], []⟩)] .none)) (.l (.r (.r (.r (.l (.piece [(.nrm, ⟨[], [72, 73], [], []⟩)] .none)))))))))))))) := eqn Tryz.f235
theorem gP.eq : Eqn (Q [gY 284 (.int .u8), gY 70 (.int .u16), nC 112 282 bR, nC 112 283 bG, dH.spec]) gP.spec (.r (.r (.two (.r (.l (.loop ⟨[(26, vi)], [3, 4] ++ rg 27 16, [(7, (.own (.frz bR)))], []⟩ [(.ext 0, ⟨[], [3, 4] ++ rg 26 17, [(7, (.own (.frz bR)))], []⟩)] .none))) (.l (.r (.l (.loop ⟨[(46, vi)], [5, 6] ++ rg 47 13, [(8, (.own (.frz bG)))], []⟩ [(.ext 2, ⟨[], [5, 6] ++ rg 46 14, [(8, (.own (.frz bG)))], []⟩)] .none))))))) := eqn Tryz.f245
theorem fL.eq : Eqn (Q [bg.spec, aq.spec, eu.spec]) fL.spec (.r (.r (.l (.r (.l (.loop ⟨[(3, vb), (8, vi)], [2, 5] ++ rg 9 28, [], []⟩ [(.ext 0, ⟨[(3, vb)], [2, 5] ++ rg 8 29, [], []⟩), (.ret, ⟨[(2, vb)], [3, 5] ++ rg 8 29, [], []⟩)] (.r (.r (.l (.l (.r (.two (.piece [(.nrm, ⟨[(3, vb)], rg 12 5, [], []⟩)] .none) (.l (.l (.piece [(.nrm, ⟨[(17, vb)], rg 18 14, [], []⟩)] (.r (.r (.l (.piece [(.nrm, ⟨[(17, vb)], rg 20 6, [], []⟩)] .none))))))))))))))))))) := eqn Tryz.f117
theorem parse_parser_level.eq (G : bJ) : Eqn (Q [gL.spec, ai.spec, parse_parser_level.spec G, aI.spec, parse_parser_unary.spec G]) (parse_parser_level.g.sp 332 fun x => R.parse_parser_level G x.1 x.2) (.r (.r (.r (.l (.l (.loop ⟨[], [6] ++ rg 15 23, [(0, aF), (3, (.box (.frz (.rose aB))))], []⟩ [(.ext 0, ⟨[], [6] ++ rg 15 23, [(0, aF), (3, (.box (.frz (.rose aB))))], []⟩)] .none)))))) := eqn Tryz.f332
theorem dW.eq : Eqn (Q [gF.spec, fJ.spec, bE.spec, dG.spec, dF.spec, eD.spec, dv.spec]) dW.spec (.r (.r (.l (.l (.r (.r (.r (.r (.two (.piece [(.nrm, ⟨[(29, vb)], rg 30 6, [], []⟩)] .none) (.r (.l (.piece [(.nrm, ⟨[(40, vb)], rg 41 6, [], []⟩)] .none)))))))))))) := eqn Tryz.f208
theorem jT.eq : Eqn (Q [eu.spec]) jT.spec (.r (.two (.l (.piece [(.nrm, ⟨[(25, vb)], rg 7 18, [], []⟩)] .none)) (.r (.l (.r (.l (.loop ⟨[(4, vi), (28, vi)], [2, 3, 6] ++ rg 29 13, [], []⟩ [(.ext 0, ⟨[(4, vi)], [2, 3, 6] ++ rg 28 14, [], []⟩), (.ret, ⟨[(2, vi), (3, vb)], [4, 6] ++ rg 28 14, [], []⟩)] .none))))))) := eqn Tryz.f361
theorem dG.eq : Eqn (Q [ca.spec, bj.spec, bP.spec, dK.spec, aq.spec, eN.spec]) dG.spec (.r (.r (.r (.l (.l (.l (.piece [(.nrm, ⟨[(12, vb)], rg 13 7, [], []⟩)] .none))))))) := eqn Tryz.f234
theorem eval_run_call.eq (G : bI) : Eqn (Q [gh.spec, fe.spec, eval_run_apply.spec G, eval_run_does.spec G, aD.spec, bf.spec]) (eval_run_call.g.sp 346 fun x => R.eval_run_call G x.1 x.2.1 x.2.2.1 x.2.2.2) .none := eqn Tryz.f346
theorem dN.eq : Eqn (Q [iM.spec, fy.spec, aO.spec, aD.spec, dM.spec]) dN.spec (.r (.r (.l (.l (.l (.piece [(.nrm, ⟨[(26, vb)], rg 27 6, [], []⟩)] .none)))))) := eqn Tryz.f320
theorem gi.eq : Eqn (Q [eH.spec, eO.spec, aX.spec]) gi.spec (.r (.l (.l (.piece [(.nrm, ⟨[(37, vb)], rg 8 29, [], []⟩)] .none)))) := eqn Tryz.f139
theorem eB.eq : Eqn (Q [bt.spec, az.spec, aq.spec]) eB.spec (.r (.r (.l (.r (.l (.piece [(.nrm, ⟨[(33, vb)], rg 28 5, [], []⟩)] .none)))))) := eqn Tryz.f81
theorem aR.eq : Eqn (Q [aS.spec]) aR.spec .none := eqn Tryz.f119
theorem lG.eq : Eqn (Q [dc.spec, bQ.spec]) lG.spec (.r (.l (.l (.piece [(.nrm, ⟨[(9, vb)], rg 4 5, [], []⟩)] .none)))) := eqn Tryz.f155
theorem cx.eq : Eqn (Q [aQ.spec]) cx.spec .none := eqn Tryz.f248
theorem aD.eq : Eqn (Q [cV.spec, bT.spec]) aD.spec .none := eqn Tryz.f335
theorem bj.eq : Eqn (Q [fJ.spec]) bj.spec .none := eqn Tryz.f236
theorem jV.eq : Eqn (Q [dA.spec, dC.spec, fw.spec]) jV.spec .none := eqn Tryz.f164
theorem db.eq : Eqn (Q [ga.spec]) db.spec .none := eqn Tryz.f286
theorem eX.eq : Eqn (Q [gP.spec]) eX.spec .none := eqn Tryz.f214
theorem iv.eq : Eqn (Q [gY 109 (.int .u32)]) iv.spec .none := eqn Tryz.f61
theorem bK.eq : Eqn (Q []) bK.spec .none := eqn Tryz.f274
theorem ew.eq : Eqn (Q []) ew.spec .none := eqn Tryz.f133
theorem eo.eq : Eqn (Q []) eo.spec .none := eqn Tryz.f136
theorem jA.eq : Eqn (Q []) jA.spec .none := eqn Tryz.f229
theorem iq.eq : Eqn (Q []) iq.spec .none := eqn Tryz.f222
end Go.Mach
