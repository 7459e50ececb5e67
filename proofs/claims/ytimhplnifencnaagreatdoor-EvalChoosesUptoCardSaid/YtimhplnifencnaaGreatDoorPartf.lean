/-
  Proved here: the law renlaw12.EvalChooses returns true for every input of the stated bulk and leaves its arguments as they were; no further condition.
  By an AI agent; no person has read it.
-/
import Derived.Test.YtimhplnifencnaaGreatDoorParte
import Derived.KernelRfl
import Derived.Test.YtimhplnifencnaaGreatDoorProg
set_option linter.all false
set_option linter.deprecated false
set_option linter.unusedVariables false
set_option maxRecDepth 100000
namespace Go.Mach
open Go.Proofs
theorem parse_parser_either.eq (G : bN) : Eqn (Q [ak.spec, parse_parser_both.spec G, parse_parser_level.spec G, bE.spec, aJ.spec]) (parse_parser_either.g.sp 318 fun x => R.parse_parser_either G x) (.r (.r (.two (.r (.l (.two (.l (.loop ⟨[], rg 8 7, [(0, aI), (3, (.box (.frz (.rose aC))))], []⟩ [(.ext 0, ⟨[], rg 8 7, [(0, aI), (3, (.box (.frz (.rose aC))))], []⟩)] .none)) (.l (.piece [(.nrm, ⟨[], rg 15 6, [], []⟩)] (.l (.piece [(.nrm, ⟨[(20, vb)], rg 15 5, [], []⟩)] .none))))))) (.r (.l (.l (.loop ⟨[], rg 27 9, [(0, aI), (3, (.box (.frz (.rose aC))))], []⟩ [(.ext 2, ⟨[], rg 27 9, [(0, aI), (3, (.box (.frz (.rose aC))))], []⟩)] .none))))))) := eqn Tryz.f318
theorem dY.eq : Eqn (Q [gn.spec, cR.spec, bK.spec, fK.spec]) dY.spec (.r (.r (.two (.l (.loop ⟨[(4, vi)], [3, 5, 6] ++ rg 19 52, [], []⟩ [(.ext 0, ⟨[], rg 3 4 ++ rg 19 52, [], []⟩), (.ret, ⟨[(3, vi)], [4, 5, 6] ++ rg 19 52, [(0, ba), (1, (.box (.seq .i (.seq .s (.seq (.own .h) (.seq (.frz aS) (.seq (.seq .b (.own .w)) (.seq .i .b))))))))], []⟩)] (.r (.l (.l (.r (.l (.l (.piece [(.nrm, ⟨[(56, vb)], rg 42 14, [], []⟩)] .none))))))))) (.r (.l (.l (.piece [(.nrm, ⟨[(101, vb)], rg 81 20, [], []⟩)] .none))))))) := eqn Tryz.f237
theorem gp.eq : Eqn (Q [iZ.spec, iw.spec, gJ.spec, bZ.spec]) gp.spec (.r (.r (.r (.r (.l (.l (.loop ⟨[(3, (false, (.own .w))), (4, (false, (.own .y)))], [5, 6] ++ rg 12 34, [], [2]⟩ [(.ext 0, ⟨[(4, (false, (.own .y)))], [3, 5, 6] ++ rg 12 34, [], [2]⟩)] (.r (.l (.r (.l (.r (.l (.loop ⟨[(5, (false, (.frz (.int .u64)))), (6, vi)], rg 18 20, [(3, (.own .w))], []⟩ [(.ext 2, ⟨[(5, (false, (.frz (.int .u64))))], [6] ++ rg 18 20, [(3, (.own .w))], []⟩)] .none)))))))))))))) := eqn Tryz.f69
theorem eval_run_builds.eq (G : bH) : Eqn (Q [cg.spec, bl.spec, a8.spec, eval_run_does.spec G, al.spec, dM.spec, aH.spec, dW.spec, fy.spec]) (eval_run_builds.g.sp 347 fun x => R.eval_run_builds G x.1 x.2.1 x.2.2) (.r (.l (.r (.l (.two (.piece [(.nrm, ⟨[(12, vb)], rg 13 5, [], []⟩)] .none) (.r (.l (.piece [(.nrm, ⟨[(22, vb)], rg 23 5, [], []⟩)] .none)))))))) := eqn Tryz.f347
theorem eval_run_list.eq (G : bH) : Eqn (Q [eval_run_statement.spec G]) (eval_run_list.g.sp 146 fun x => R.eval_run_list G x.1 x.2.1 x.2.2) (.r (.l (.r (.l (.loop ⟨[(12, vi)], [8, 9] ++ rg 13 12, [(2, aM)], [0, 1]⟩ [(.ext 0, ⟨[], [8, 9] ++ rg 12 13, [(2, aM)], [0, 1]⟩), (.ret, ⟨[], [8, 9] ++ rg 12 13, [(2, aM), (4, (.box (.frz az)))], [0, 1]⟩)] .none))))) := eqn Tryz.f146
theorem fG.eq : Eqn (Q []) fG.spec (.r (.l (.r (.l (.two (.piece [(.nrm, ⟨[(4, vb)], [5, 6], [], []⟩)] .none) (.r (.two (.piece [(.nrm, ⟨[(7, vb)], [8, 9], [], []⟩)] .none) (.r (.two (.piece [(.nrm, ⟨[(10, vb)], [11, 12], [], []⟩)] .none) (.r (.l (.piece [(.nrm, ⟨[(13, vb)], [14, 15], [], []⟩)] .none)))))))))))) := eqn Tryz.f21
theorem fK.eq : Eqn (Q []) fK.spec (.r (.r (.l (.r (.l (.loop ⟨[(4, (false, (.own .y))), (9, vi)], [2, 3, 6] ++ rg 10 11, [], []⟩ [(.ext 0, ⟨[(4, (false, (.own .y)))], [2, 3, 6] ++ rg 9 12, [], []⟩), (.ret, ⟨[(2, vs), (3, vb)], [4, 6] ++ rg 9 12, [], []⟩)] .none)))))) := eqn Tryz.f112
theorem dk.eq : Eqn (Q [fb.spec, fi.spec, eN.spec]) dk.spec (.r (.two (.l (.piece [(.nrm, ⟨[(50, vb)], rg 3 47, [], []⟩)] .none)) (.l (.r (.l (.l (.piece [(.nrm, ⟨[(53, vb)], [54, 55], [], []⟩)] .none))))))) := eqn Tryz.f39
theorem cV.eq : Eqn (Q []) cV.spec (.r (.l (.r (.l (.two (.piece [(.nrm, ⟨[(5, vb)], rg 6 4, [], []⟩)] .none) (.r (.l (.piece [(.nrm, ⟨[(10, vb)], rg 11 6, [], []⟩)] .none)))))))) := eqn Tryz.f296
theorem gn.eq : Eqn (Q []) gn.spec (.r (.l (.r (.l (.two (.piece [(.nrm, ⟨[(4, vb)], rg 5 50, [], []⟩)] .none) (.r (.l (.piece [(.nrm, ⟨[(55, vb)], rg 56 7, [], []⟩)] .none)))))))) := eqn Tryz.f270
theorem ae.eq : Eqn (Q [ah.spec]) ae.spec .none := eqn Tryz.f119
theorem gh.eq : Eqn (Q [fj.spec]) gh.spec (.r (.l (.r (.l (.piece [(.nrm, ⟨[(13, vb)], rg 6 7, [], []⟩)] .none))))) := eqn Tryz.f390
theorem cN.eq : Eqn (Q [aW.spec]) cN.spec .none := eqn Tryz.f216
theorem eJ.eq : Eqn (Q [gO 109 (.int .u32), gO 70 (.int .u16)]) eJ.spec .none := eqn Tryz.f217
theorem ct.eq : Eqn (Q [bz.spec]) ct.spec .none := eqn Tryz.f394
theorem aw.eq : Eqn (Q [bw.spec, gQ.spec]) aw.spec .none := eqn Tryz.f20
theorem cK.eq : Eqn (Q []) cK.spec .none := eqn Tryz.f435
theorem dc.eq : Eqn (Q []) dc.spec .none := eqn Tryz.f247
theorem dw.eq : Eqn (Q []) dw.spec .none := eqn Tryz.f397
theorem gW.eq : Eqn (Q []) gW.spec .none := eqn Tryz.f74
theorem gK.eq : Eqn (Q []) gK.spec .none := eqn Tryz.f108
end Go.Mach
set_option linter.unusedVariables false
set_option maxRecDepth 100000
namespace Go.Mach
open Go.Proofs
theorem gA.eq : Eqn (Q [ew.spec]) gA.spec (.r (.l (.r (.l (.two (.piece [(.nrm, ⟨[(7, vb)], [8, 9], [], []⟩)] .none) (.r (.two (.piece [(.nrm, ⟨[(10, vb)], rg 11 5, [], []⟩)] .none) (.r (.two (.piece [(.nrm, ⟨[(17, vb)], [18, 19], [], []⟩)] .none) (.r (.two (.piece [(.nrm, ⟨[(21, vb)], [22, 23], [], []⟩)] .none) (.r (.r (.r (.r (.r (.r (.r (.r (.r (.r (.r (.r (.r (.two (.piece [(.nrm, ⟨[(50, vb)], [51, 52], [], []⟩)] .none) (.r (.r (.r (.r (.r (.r (.r (.two (.piece [(.nrm, ⟨[(63, vb)], [64, 65], [], []⟩)] .none) (.r (.two (.piece [(.nrm, ⟨[(67, vb)], [68, 69, 70], [], []⟩)] .none) (.r (.r (.r (.r (.r (.l (.piece [(.nrm, ⟨[(78, vb)], [79, 80], [], []⟩)] .none)))))))))))))))))))))))))))))))))))))))))) := eqn Tryz.f73
theorem cI.eq : Eqn (Q [aw.spec, dt.spec, eK.spec, b8.spec, cP.spec, dI.spec, bR.spec, bx.spec]) cI.spec (.r (.r (.r (.r (.r (.two (.l (.piece [(.nrm, ⟨[(67, vb)], rg 43 24, [], []⟩)] .none)) (.r (.r (.r (.r (.r (.r (.two (.piece [(.nrm, ⟨[], rg 120 4, [(22, (.box (.frz aB))), (23, (.box (.frz aB))), (24, (.box (.frz aB)))], []⟩)] .none) (.l (.piece [(.nrm, ⟨[], rg 124 4, [(25, (.box (.frz aB)))], []⟩)] .none))))))))))))))) := eqn Tryz.f5
theorem fU.eq : Eqn (Q [cD.spec, bF.spec, fV.spec]) fU.spec (.r (.r (.l (.r (.l (.loop ⟨[(3, vb), (8, vi)], [2, 5] ++ rg 9 28, [], []⟩ [(.ext 0, ⟨[(3, vb)], [2, 5] ++ rg 8 29, [], []⟩), (.ret, ⟨[(2, vb)], [3, 5] ++ rg 8 29, [], []⟩)] (.r (.r (.l (.l (.r (.two (.piece [(.nrm, ⟨[(3, vb)], rg 12 5, [], []⟩)] .none) (.l (.l (.piece [(.nrm, ⟨[(17, vb)], rg 18 14, [], []⟩)] (.r (.r (.l (.piece [(.nrm, ⟨[(17, vb)], rg 20 6, [], []⟩)] .none))))))))))))))))))) := eqn Tryz.f117
theorem fR.eq : Eqn (Q [cb.spec, fQ.spec, dk.spec, gE.spec, fe.spec]) fR.spec (.r (.two (.l (.piece [(.nrm, ⟨[(26, vb)], rg 4 22, [], []⟩)] .none)) (.l (.r (.l (.loop ⟨[(30, vi)], [2, 3] ++ rg 31 29, [], []⟩ [(.ext 0, ⟨[], [2, 3] ++ rg 30 30, [], []⟩), (.ret, ⟨[(2, vb)], [3] ++ rg 30 30, [], []⟩)] (.r (.r (.l (.l (.r (.l (.piece [(.nrm, ⟨[(58, vb)], rg 33 25, [], []⟩)] .none))))))))))))) := eqn Tryz.f14
def eN.ann : Ann := (.r (.l (.r (.l (.two (.piece [(.nrm, ⟨[(6, vb)], rg 7 5, [], []⟩)] .none) (.r (.l (.piece [(.nrm, ⟨[(15, vb)], rg 16 4, [], []⟩)] .none))))))))
theorem eN.eq_ (g_lex_Name : type_of% R.gY) (g_lex_Run : type_of% R.iE) (g_slices_Contains_string : type_of% R.aQ) : Eqn ({ P := Tryz.prog, specs := [(gY.g.sp 128 fun x => g_lex_Name x), (iE.g.sp 129 fun x => g_lex_Run x), (aQ.g.sp 131 fun x => g_slices_Contains_string x.1 x.2)], ety := l7 Tryz.prog owned, inls := [vX 130 (lF.env Tryz.prog) Tryz.f130 .none] } : Env) (eN.g.sp 72 fun x => Res.given (eN.g.i x) (Res.bind (α := Bool) (Res.br (x.1 == 7) (Res.ok ((x.1 == 7))) (Res.br (x.1 == 18) (Res.ok ((x.1 == 18))) (Res.br (x.1 == 19) (Res.ok ((x.1 == 19))) (Res.br (x.1 == 20) (Res.ok ((x.1 == 20))) (Res.ok ((x.1 == 33))))))) fun x1 => Res.br x1 (Res.bind (g_lex_Name x.2.1) fun r2 => Res.ok (r2)) (Res.bind (α := Bool) (Res.br (x.1 == 12) (Res.ok ((x.1 == 12))) (Res.br (x.1 == 13) (Res.ok ((x.1 == 13))) (Res.br (x.1 == 17) (Res.ok ((x.1 == 17))) (Res.ok ((x.1 == 41)))))) fun x3 => Res.br x3 (Res.br (x.2.1 == ([] : List UInt8)) (Res.ok (true)) (Res.bind (g_lex_Name x.2.1) fun r4 => Res.ok (r4))) (Res.br (x.1 == 52) (Res.bind (g_lex_Run x.2.1) fun r5 => Res.ok (r5)) (Res.br (x.1 == 43) (Res.bind (g_slices_Contains_string [[45], [43], [33], [126], [116, 121, 112, 101, 111, 102], [118, 111, 105, 100]] x.2.1) fun r6 => Res.ok (r6)) (Res.br (x.1 == 44) (Res.br (x.1 == 44) (Res.bind (g_slices_Contains_string [[43, 43], [45, 45]] x.2.1) fun r7 => Res.ok (r7)) (Res.br (x.1 == 46) (Res.bind (g_slices_Contains_string [[43], [45], [42], [47], [37], [38], [124], [94], [60, 60], [62, 62], [62, 62, 62], [60], [62], [60, 61], [62, 61], [61, 61], [33, 61], [61, 61, 61], [33, 61, 61], [105, 110]] x.2.1) fun r8 => Res.ok (r8)) (Res.br (x.1 == 47) (Res.bind (g_slices_Contains_string [[38, 38], [124, 124], [63, 63]] x.2.1) fun r9 => Res.ok (r9)) (Res.br (x.1 == 49) (Res.bind (g_slices_Contains_string [[61], [43, 61], [45, 61], [42, 61], [47, 61], [37, 61], [38, 61], [124, 61], [94, 61], [60, 60, 61], [62, 62, 61], [62, 62, 62, 61]] x.2.1) fun r10 => Res.ok (r10)) (Res.ok ((x.2.1 == ([] : List UInt8)))))))) (Res.br (x.1 == 45) (Res.bind (g_slices_Contains_string [[43, 43], [45, 45]] x.2.1) fun r11 => Res.ok (r11)) (Res.br (x.1 == 46) (Res.bind (g_slices_Contains_string [[43], [45], [42], [47], [37], [38], [124], [94], [60, 60], [62, 62], [62, 62, 62], [60], [62], [60, 61], [62, 61], [61, 61], [33, 61], [61, 61, 61], [33, 61, 61], [105, 110]] x.2.1) fun r12 => Res.ok (r12)) (Res.br (x.1 == 47) (Res.bind (g_slices_Contains_string [[38, 38], [124, 124], [63, 63]] x.2.1) fun r13 => Res.ok (r13)) (Res.br (x.1 == 49) (Res.bind (g_slices_Contains_string [[61], [43, 61], [45, 61], [42, 61], [47, 61], [37, 61], [38, 61], [124, 61], [94, 61], [60, 60, 61], [62, 62, 61], [62, 62, 62, 61]] x.2.1) fun r14 => Res.ok (r14)) (Res.ok ((x.2.1 == ([] : List UInt8)))))))))))))) eN.ann := eqn Tryz.f72
theorem eN.eq : Eqn ({ P := Tryz.prog, specs := [gY.spec, iE.spec, aQ.spec], ety := l7 Tryz.prog owned, inls := [vX 130 (lF.env Tryz.prog) Tryz.f130 .none] } : Env) eN.spec eN.ann := eN.eq_ R.gY R.iE R.aQ
theorem fH.eq (fu : Nat) : Eqn (Q [(fH.spec fu)]) (fH.g.sp 212 fun x => R.fH (fu + 1) x.1 x.2) (.r (.r (.r (.r (.l (.r (.l (.loop ⟨[(6, (false, (.own .i))), (28, vi)], [8] ++ rg 29 10, [(1, nZ)], [4]⟩ [(.ext 0, ⟨[(6, (false, (.own .i)))], [8] ++ rg 28 11, [(1, nZ)], [4]⟩)] .none)))))))) := eqn Tryz.f212
theorem jP.eq : Eqn (Q [jy.spec, fJ.spec, ej.spec, ep.spec, fT.spec]) jP.spec (.r (.r (.l (.l (.two (.piece [(.nrm, ⟨[(10, vb)], rg 11 21, [], []⟩)] .none) (.r (.r (.r (.r (.r (.l (.piece [(.nrm, ⟨[(41, vb)], rg 42 8, [], []⟩)] .none)))))))))))) := eqn Tryz.f86
theorem cb.eq : Eqn (Q []) cb.spec (.r (.two (.piece [(.nrm, ⟨[], [5, 6, 7], [], []⟩)] .none) (.r (.l (.r (.l (.loop ⟨[(3, vi), (4, vi)], rg 12 12, [], []⟩ [(.ext 0, ⟨[(3, vi)], [4] ++ rg 12 12, [], []⟩)] .none))))))) := eqn Tryz.f41
theorem bF.eq : Eqn (Q []) bF.spec (.r (.r (.l (.r (.l (.loop ⟨[(3, (false, (.own .h))), (7, vi)], [4] ++ rg 8 10, [], []⟩ [(.ext 0, ⟨[(3, (false, (.own .h)))], [4] ++ rg 7 11, [], []⟩)] .none)))))) := eqn Tryz.f67
theorem eval_run_statement.eq (G : bH) : Eqn (Q [eval_run_act.spec G, cC.spec]) (eval_run_statement.g.sp 196 fun x => R.eval_run_statement G x.1 x.2.1 x.2.2.1 x.2.2.2) .none := eqn Tryz.f196
theorem aa.eq : Eqn (Q [af.spec]) aa.spec .none := eqn Tryz.f188
theorem fi.eq : Eqn (Q []) fi.spec (.r (.l (.r (.l (.r (.r (.l (.piece [(.nrm, ⟨[(15, vb)], rg 16 4, [], []⟩)] .none)))))))) := eqn Tryz.f36
theorem fF.eq : Eqn (Q [cf.spec, fX.spec, gC.spec]) fF.spec .none := eqn Tryz.f71
theorem bE.eq : Eqn (Q [du.spec, aK.spec]) bE.spec .none := eqn Tryz.f276
theorem cd.eq : Eqn (Q [bo.spec]) cd.spec .none := eqn Tryz.f385
theorem bW.eq : Eqn (Q [a8.spec]) bW.spec .none := eqn Tryz.f144
theorem bo.eq : Eqn (Q []) bo.spec .none := eqn Tryz.f411
theorem bw.eq : Eqn (Q [eK.spec]) bw.spec .none := eqn Tryz.f46
theorem dm.eq : Eqn (Q []) dm.spec .none := eqn Tryz.f157
theorem cE.eq : Eqn (Q []) cE.spec .none := eqn Tryz.f51
theorem fc.eq : Eqn (Q []) fc.spec .none := eqn Tryz.f159
end Go.Mach
set_option linter.unusedVariables false
set_option maxRecDepth 100000
namespace Go.Mach
open Go.Proofs
theorem eval_run_does.eq (G : bH) : Eqn (Q [aw.spec, cz.spec, av.spec, cE.spec, bl.spec, dd.spec, al.spec, dN.spec, eval_run_host.spec G, cp.spec, aH.spec, cA.spec, cd.spec, bn.spec]) (eval_run_does.g.sp 365 fun x => R.eval_run_does G x.1 x.2.1 x.2.2.1 x.2.2.2) (.r (.r (.l (.r (.l (.two (.piece [(.nrm, ⟨[(18, vb)], [19, 20], [], []⟩)] .none) (.r (.r (.r (.r (.r (.r (.r (.r (.r (.r (.two (.l (.l (.piece [(.nrm, ⟨[(79, vb)], rg 67 12, [], []⟩)] .none))) (.r (.r (.r (.r (.r (.r (.r (.r (.l (.piece [(.nrm, ⟨[(134, vb)], rg 135 5, [], []⟩)] .none))))))))))))))))))))))))))) := eqn Tryz.f365
theorem parse_parser_primary.eq (G : bN) : Eqn (Q [ai.spec, ak.spec, parse_parser_assign.spec G, parse_parser_list.spec G, bD.spec, aU.spec, aK.spec, bE.spec]) (parse_parser_primary.g.sp 425 fun x => R.parse_parser_primary G x) (.r (.r (.r (.r (.r (.two (.r (.l (.r (.r (.r (.r (.r (.r (.r (.r (.r (.r (.r (.r (.r (.l (.r (.l (.piece [(.nrm, ⟨[(4, vs)], rg 71 6, [(0, aI)], []⟩)] .none))))))))))))))))))) (.r (.l (.l (.piece [(.nrm, ⟨[(99, vb)], rg 94 5, [], []⟩)] .none)))))))))) := eqn Tryz.f425
theorem eval_run_value.eq (G : bH) : Eqn (Q [iM.spec, eg.spec, cz.spec, cE.spec, al.spec, cF.spec, eval_run_operation.spec G, eZ.spec]) (eval_run_value.g.sp 287 fun x => R.eval_run_value G x.1 x.2.1 x.2.2) (.r (.r (.l (.r (.l (.r (.r (.r (.r (.r (.r (.r (.r (.two (.piece [(.nrm, ⟨[(43, vb)], [44, 45], [], []⟩)] .none) (.r (.r (.r (.r (.r (.r (.r (.r (.r (.l (.piece [(.nrm, ⟨[(82, vb)], [83, 84], [], []⟩)] .none))))))))))))))))))))))))) := eqn Tryz.f287
theorem eb.eq : Eqn (Q [bw.spec, gF.spec]) eb.spec (.r (.r (.l (.r (.l (.r (.two (.l (.l (.piece [(.nrm, ⟨[(24, vb)], rg 17 7, [], []⟩)] .none))) (.two (.piece [(.nrm, ⟨[(36, vb)], rg 37 4, [], []⟩)] .none) (.r (.two (.piece [(.nrm, ⟨[(47, vb)], rg 48 6, [], []⟩)] .none) (.r (.r (.r (.r (.r (.r (.r (.r (.r (.r (.r (.r (.r (.l (.piece [(.nrm, ⟨[(101, vb)], [102, 103], [], []⟩)] .none))))))))))))))))))))))))) := eqn Tryz.f17
theorem parse_parser_both.eq (G : bN) : Eqn (Q [ak.spec, parse_parser_level.spec G, aJ.spec]) (parse_parser_both.g.sp 333 fun x => R.parse_parser_both G x.1 x.2) (.r (.l (.l (.loop ⟨[], rg 5 7, [(0, aI), (1, (.box (.frz (.rose aC))))], []⟩ [(.ext 0, ⟨[], rg 5 7, [(0, aI), (1, (.box (.frz (.rose aC))))], []⟩)] .none)))) := eqn Tryz.f333
theorem eval_run_fresh.eq (G : bH) : Eqn (Q [fD.spec, eval_run_builds.spec G, aH.spec, bB.spec, bF.spec]) (eval_run_fresh.g.sp 329 fun x => R.eval_run_fresh G x.1 x.2.1 x.2.2) (.r (.r (.r (.r (.l (.l (.piece [(.nrm, ⟨[(50, vb)], rg 43 7, [], []⟩)] .none))))))) := eqn Tryz.f329
theorem fN.eq : Eqn (Q [fp.spec, dK.spec, fm.spec]) fN.spec (.r (.r (.two (.l (.piece [(.nrm, ⟨[(31, vb)], rg 19 12, [], []⟩)] .none)) (.l (.r (.l (.r (.r (.r (.r (.l (.piece [(.nrm, ⟨[(64, vb)], [65, 66], [], []⟩)] .none)))))))))))) := eqn Tryz.f78
theorem cr.eq : Eqn (Q []) cr.spec (.r (.r (.l (.r (.l (.loop ⟨[(13, vi)], [4, 5] ++ rg 14 12, [], []⟩ [(.ext 0, ⟨[], [4, 5] ++ rg 13 13, [], []⟩), (.ret, ⟨[(4, vb)], [5] ++ rg 13 13, [], []⟩)] .none)))))) := eqn Tryz.f166
theorem bj.eq : Eqn (Q [du.spec, aK.spec, aJ.spec]) bj.spec (.r (.l (.l (.piece [(.nrm, ⟨[(19, vb)], rg 5 14, [(0, aI)], []⟩)] .none)))) := eqn Tryz.f240
theorem dX.eq : Eqn (Q [av.spec, bB.spec, bF.spec]) dX.spec (.r (.r (.l (.r (.l (.piece [(.nrm, ⟨[(33, vb)], rg 28 5, [], []⟩)] .none)))))) := eqn Tryz.f81
theorem fX.eq : Eqn (Q [fx.spec, gG.spec, cH.spec, cb.spec, fQ.spec]) fX.spec .none := eqn Tryz.f127
theorem bA.eq : Eqn (Q [cV.spec]) bA.spec .none := eqn Tryz.f236
theorem dH.eq : Eqn (Q [ch.spec, bQ.spec]) dH.spec .none := eqn Tryz.f357
theorem dQ.eq : Eqn (Q [fP.spec, ef.spec]) dQ.spec .none := eqn Tryz.f266
theorem gQ.eq : Eqn (Q [fJ.spec, ep.spec, gK.spec]) gQ.spec .none := eqn Tryz.f59
theorem bB.eq : Eqn (Q [b9.spec]) bB.spec .none := eqn Tryz.f147
theorem ey.eq : Eqn (Q [fV.spec]) ey.spec .none := eqn Tryz.f120
theorem bR.eq : Eqn (Q []) bR.spec .none := eqn Tryz.f11
theorem dI.eq : Eqn (Q []) dI.spec .none := eqn Tryz.f16
theorem gy.eq : Eqn (Q []) gy.spec .none := eqn Tryz.f229
theorem bl.eq : Eqn (Q []) bl.spec .none := eqn Tryz.f367
end Go.Mach
set_option linter.unusedVariables false
set_option maxRecDepth 100000
namespace Go.Mach
open Go.Proofs
def parse_parser_declares.ann : Ann := (.r (.r (.two (.piece [(.nrm, ⟨[], rg 6 5, [(0, aI), (3, (.box kn))], [2]⟩)] .none) (.l (.loop ⟨[], [4] ++ rg 11 27, [(0, aI), (3, (.box kn))], [5]⟩ [(.ret, ⟨[], [4] ++ rg 11 27, [(0, aI), (1, (.box kn))], [3, 5]⟩)] (.l (.r (.two (.piece [(.nrm, ⟨[], rg 14 9, [(0, aI), (12, (.box kn))], [11]⟩)] .none) (.r (.l (.piece [(.nrm, ⟨[(36, vb)], rg 29 7, [(0, aI)], []⟩)] .none)))))))))))
theorem parse_parser_declares.eq_ (g_parse_made : type_of% R.ai) (g_parse_named : type_of% R.ak) (g_parse_parser_fine : type_of% R.bS) (g_parse_parser_name : type_of% R.bD) (g_parse_parser_need : type_of% R.aU) (g_parse_parser_take : type_of% R.aJ) (G : bN) : Eqn (Q [(ai.g.sp 209 fun x => g_parse_made x.1 x.2), (ak.g.sp 272 fun x => g_parse_named x.1 x.2.1 x.2.2), parse_parser_assign.spec G, (bS.g.sp 274 fun x => g_parse_parser_fine x), (bD.g.sp 242 fun x => g_parse_parser_name x), (aU.g.sp 271 fun x => g_parse_parser_need x.1 x.2), (aJ.g.sp 241 fun x => g_parse_parser_take x.1 x.2)]) (parse_parser_declares.g.sp 239 fun x => Res.given (parse_parser_declares.g.i x) (Res.bind (g_parse_made 5 ([] : List (aL aC.den))) fun r1 => Res.given (ai.g.o r1) (Res.bind (α := (aI.den × (aC.den × (List (aL aC.den))))) (Res.bind (g_parse_parser_take x [99, 111, 110, 115, 116]) fun r2 => Res.given (aJ.g.o r2) (Res.br r2.1 (Res.bind (g_parse_made 6 ([] : List (aL aC.den))) fun r3 => Res.given (ai.g.o r3) (Res.ok ((r2.2, r3)))) (Res.bind (g_parse_parser_need r2.2 [108, 101, 116]) fun r4 => Res.given (aU.g.o r4) (Res.ok ((r4.2, r1)))))) fun x5 => Res.bind (Res.loop (α := (aI.den × (aC.den × (List (aL aC.den))))) (β := (aI.den × (aC.den × (List (aL aC.den))))) (fun x6 => Res.bind (g_parse_parser_name x6.1) fun r7 => Res.given (bD.g.o r7) (Res.bind (g_parse_named 7 r7.1 ([] : List (aL aC.den))) fun r8 => Res.given (ak.g.o r8) (Res.bind (α := (aI.den × (aC.den × (List (aL aC.den))))) (Res.bind (g_parse_parser_take r7.2 [61]) fun r9 => Res.given (aJ.g.o r9) (Res.br r9.1 (Res.bind (G.parse_parser_assign r9.2) fun r10 => Res.given (parse_parser_assign.g.o r10) (Res.bP (decide ((r8.2.length + [(aL.mk (aL.lab r10.1) (aL.kids r10.1))].length) * 144 ≤ 2 ^ 47)) (Res.ok ((r10.2, (r8.1, (r8.2 ++ [(aL.mk (aL.lab r10.1) (aL.kids r10.1))]))))))) (Res.ok ((r9.2, r8))))) fun x11 => Res.bP (decide ((x6.2.2.length + [(aL.mk x11.2.1 x11.2.2)].length) * 144 ≤ 2 ^ 47)) (Res.bind (α := (Bool × aI.den)) (Res.bind (g_parse_parser_fine x11.1) fun r12 => Res.br (!r12) (Res.ok ((true, x11.1))) (Res.bind (g_parse_parser_take x11.1 [44]) fun r13 => Res.given (aJ.g.o r13) (Res.ok (((!r13.1), r13.2))))) fun x14 => Res.br x14.1 (Res.ok (.done ((x14.2, (x6.2.1, (x6.2.2 ++ [(aL.mk x11.2.1 x11.2.2)])))))) (Res.ok (.next ((x14.2, (x6.2.1, (x6.2.2 ++ [(aL.mk x11.2.1 x11.2.2)])))))))))) fuel x5) fun x15 => Res.ok (((aL.mk x15.2.1 x15.2.2), x15.1))))) parse_parser_declares.ann := eqn Tryz.f239
theorem parse_parser_declares.eq (G : bN) : Eqn (Q [ai.spec, ak.spec, parse_parser_assign.spec G, bS.spec, bD.spec, aU.spec, aJ.spec]) (parse_parser_declares.g.sp 239 fun x => R.parse_parser_declares G x) parse_parser_declares.ann := parse_parser_declares.eq_ R.ai R.ak R.bS R.bD R.aU R.aJ G
theorem eval_run_arguments.eq (G : bH) : Eqn (Q [eval_run_expression.spec G]) (eval_run_arguments.g.sp 328 fun x => R.eval_run_arguments G x.1 x.2.1 x.2.2) (.r (.r (.l (.r (.l (.loop ⟨[(9, (false, (.own (.frz aB)))), (16, vi)], [6, 8, 11, 12, 13] ++ rg 17 19, [(2, aM)], [0, 1]⟩ [(.ext 0, ⟨[(9, (false, (.own (.frz aB))))], [6, 8, 11, 12, 13] ++ rg 16 20, [(2, aM)], [0, 1]⟩), (.ret, ⟨[(6, (false, (.own (.frz aB)))), (8, vi)], [9, 11, 12, 13] ++ rg 16 20, [(2, aM), (4, (.box (.frz aB)))], [0, 1]⟩)] .none)))))) := eqn Tryz.f328
theorem parse_parser_head.eq (G : bN) : Eqn (Q [ai.spec, parse_parser_arguments.spec G, parse_parser_head.spec G, parse_parser_member.spec G, bE.spec, parse_parser_primary.spec G, aJ.spec]) (parse_parser_head.g.sp 403 fun x => R.parse_parser_head G x) (.r (.r (.r (.l (.l (.loop ⟨[(4, vb)], rg 13 7, [(0, aI), (4, (.box (.frz (.rose aC))))], []⟩ [(.ext 0, ⟨[], [4] ++ rg 13 7, [(0, aI), (4, (.box (.frz (.rose aC))))], []⟩)] .none)))))) := eqn Tryz.f403
theorem parse_parser_statement.eq (G : bN) : Eqn (Q [du.spec, ai.spec, ak.spec, aj.spec, aK.spec, bE.spec, parse_parser_simple.spec G, parse_parser_statement.spec G, aJ.spec, parse_parser_word.spec G]) (parse_parser_statement.g.sp 244 fun x => R.parse_parser_statement G x) (.r (.r (.l (.l (.l (.piece [(.nrm, ⟨[(6, vb)], rg 7 8, [], []⟩)] .none)))))) := eqn Tryz.f244
theorem jJ.eq : Eqn (Q [fJ.spec, gl.spec, ej.spec, ep.spec, dm.spec, fT.spec, fc.spec]) jJ.spec (.r (.r (.r (.l (.l (.two (.piece [(.nrm, ⟨[(16, vb)], rg 17 22, [], []⟩)] .none) (.r (.two (.piece [(.nrm, ⟨[(40, vb)], rg 41 6, [], []⟩)] .none) (.r (.l (.piece [(.nrm, ⟨[(49, vb)], rg 50 6, [], []⟩)] .none))))))))))) := eqn Tryz.f89
theorem cH.eq : Eqn (Q [ai.spec, parse_parser_item.spec (cW fuel), aK.spec]) cH.spec (.r (.r (.l (.l (.loop ⟨[], rg 5 11, [(0, aI), (3, (.box kn))], [2]⟩ [(.ext 0, ⟨[], rg 5 11, [(0, aI), (3, (.box kn))], [2]⟩)] .none))))) := eqn Tryz.f179
theorem gJ.eq : Eqn (Q []) gJ.spec (.r (.l (.l (.loop ⟨[(0, (false, (.own .w)))], rg 3 17, [], [0]⟩ [(.ext 0, ⟨[(0, (false, (.own .w)))], rg 3 17, [], [0]⟩)] (.l (.l (.piece [(.nrm, ⟨[(14, vb)], rg 3 11, [], []⟩)] .none))))))) := eqn Tryz.f124
theorem fp.eq : Eqn (Q [dh.spec, dK.spec, aa.spec]) fp.spec (.r (.l (.l (.piece [(.nrm, ⟨[(37, vb)], rg 8 29, [], []⟩)] .none)))) := eqn Tryz.f139
theorem bJ.eq : Eqn (Q [b9.spec, cN.spec, eJ.spec]) bJ.spec (.r (.l (.l (.piece [(.nrm, ⟨[(24, vb)], rg 14 10, [], []⟩)] .none)))) := eqn Tryz.f194
theorem dy.eq : Eqn (Q [av.spec, hB.spec, al.spec, db.spec, aH.spec]) dy.spec .none := eqn Tryz.f352
theorem gP.eq : Eqn (Q []) gP.spec (.r (.l (.r (.l (.l (.piece [(.nrm, ⟨[(4, vb)], rg 5 33, [], []⟩)] .none)))))) := eqn Tryz.f337
theorem eO.eq : Eqn (Q [bw.spec, eg.spec, dE.spec]) eO.spec .none := eqn Tryz.f54
theorem bk.eq : Eqn (Q [ef.spec]) bk.spec .none := eqn Tryz.f236
theorem cX.eq : Eqn (Q [fF.spec, dt.spec]) cX.spec .none := eqn Tryz.f33
theorem cA.eq : Eqn (Q [b9.spec]) cA.spec .none := eqn Tryz.f350
theorem gG.eq : Eqn (Q [(fH.spec fuel)]) gG.spec .none := eqn Tryz.f180
theorem bx.eq : Eqn (Q []) bx.spec .none := eqn Tryz.f13
theorem ak.eq : Eqn (Q []) ak.spec .none := eqn Tryz.f272
theorem fP.eq : Eqn (Q []) fP.spec .none := eqn Tryz.f183
theorem ib.eq : Eqn (Q []) ib.spec .none := eqn Tryz.f44
end Go.Mach
