/-
  Proved here: the law renlaw12.EvalFuel returns true for every input of the stated bulk and leaves its arguments as they were; no further condition.
  By an AI agent; no person has read it.
-/
import Derived.Test.YtflklojcjfaenaaGreatDoorParte
import Derived.KernelRfl
import Derived.Test.YtflklojcjfaenaaGreatDoorProg
set_option linter.all false
set_option linter.deprecated false
set_option linter.unusedVariables false
set_option maxRecDepth 100000
namespace Go.Mach
open Go.Proofs
theorem aJ.eq (fu : Nat) : Eqn (Q [(aJ.spec fu), dG.spec, af.spec]) (aJ.g.sp 428 fun x => R.aJ (fu + 1) x.1 x.2.1 x.2.2.1 x.2.2.2.1 x.2.2.2.2) (.two (.r (.l (.r (.r (.two (.l (.loop ⟨[(10, vi), (11, vi)], [12] ++ rg 31 23, [], []⟩ [(.ext 0, ⟨[(10, vi)], [11, 12] ++ rg 31 23, [], []⟩)] .none)) (.l (.r (.l (.loop ⟨[(13, vi)], rg 55 22, [(0, (.own (.frz (.list (.int .u16)))))], []⟩ [(.ext 2, ⟨[], [13] ++ rg 55 22, [(0, (.own (.frz (.list (.int .u16)))))], []⟩)] .none))))))))) (.two (.r (.l (.r (.r (.two (.l (.loop ⟨[(14, vi), (15, vi)], [16] ++ rg 83 24, [], []⟩ [(.ext 4, ⟨[(14, vi)], [15, 16] ++ rg 83 24, [], []⟩)] .none)) (.l (.r (.l (.loop ⟨[(17, vi)], rg 108 21, [(0, (.own (.frz (.list (.int .u16)))))], []⟩ [(.ext 6, ⟨[], [17] ++ rg 108 21, [(0, (.own (.frz (.list (.int .u16)))))], []⟩)] .none))))))))) (.r (.r (.r (.two (.piece [(.nrm, ⟨[(20, vi), (21, vi)], rg 138 9, [], []⟩)] .none) (.r (.two (.l (.loop ⟨[(20, vi), (21, vi)], [23] ++ rg 149 26, [], []⟩ [(.ext 8, ⟨[(20, vi)], [21, 23] ++ rg 149 26, [], []⟩)] .none)) (.r (.two (.piece [(.nrm, ⟨[], rg 178 14, [(0, (.own (.frz (.list (.int .u16)))))], []⟩)] (.l (.piece [(.nrm, ⟨[(185, vb)], rg 178 7, [], []⟩)] .none))) (.two (.piece [(.nrm, ⟨[], rg 192 14, [(0, (.own (.frz (.list (.int .u16)))))], []⟩)] (.l (.piece [(.nrm, ⟨[(199, vb)], rg 192 7, [], []⟩)] .none))) (.l (.piece [(.nrm, ⟨[(213, vb)], rg 206 7, [], []⟩)] .none))))))))))))) := eqn Tryz.f428
theorem ia.eq : Eqn (Q []) ia.spec (.r (.r (.l (.r (.l (.loop ⟨[(3, (false, (.own .i))), (10, vi)], [2, 4, 5, 6] ++ rg 11 59, [], []⟩ [(.ext 0, ⟨[(3, (false, (.own .i)))], [2, 4, 5, 6] ++ rg 10 60, [], []⟩), (.ret, ⟨[(2, vb)], rg 3 4 ++ rg 10 60, [], []⟩)] (.r (.r (.l (.l (.r (.two (.piece [(.nrm, ⟨[(3, (false, (.own .i)))], rg 15 20, [], [2]⟩), (.ret, ⟨[(2, vb)], rg 15 15, [], []⟩)] (.r (.l (.l (.l (.piece [(.nrm, ⟨[(29, vb)], rg 17 12, [], []⟩)] .none)))))) (.r (.l (.loop ⟨[(3, (false, (.own .i))), (6, vi)], [2] ++ rg 39 30, [], [5]⟩ [(.ext 2, ⟨[(3, (false, (.own .i)))], [2, 6] ++ rg 39 30, [], [5]⟩), (.ret, ⟨[(2, vb)], [3, 6] ++ rg 39 30, [], [5]⟩)] (.r (.l (.l (.l (.l (.piece [(.nrm, ⟨[(60, vb)], rg 43 17, [], []⟩)] .none))))))))))))))))))))) := eqn Tryz.f22
theorem cd.eq (G : ay) : Eqn (Q [cA.spec, cz.spec, aE.spec G, cP.spec G, cE.spec, ba.spec, ak.spec]) (cd.g.sp 262 fun x => R.cd G x.1 x.2.1 x.2.2.1 x.2.2.2) (.r (.r (.r (.r (.r (.two (.piece [(.nrm, ⟨[], rg 46 12, [(9, (.box (.frz aP)))], []⟩)] .none) (.r (.r (.two (.r (.l (.loop ⟨[(76, vi)], [17, 18] ++ rg 77 23, [(7, eY)], [6]⟩ [(.ext 1, ⟨[], [17, 18] ++ rg 76 24, [(7, eY)], [6]⟩)] .none))) (.r (.r (.r (.r (.l (.r (.l (.r (.r (.l (.piece [(.nrm, ⟨[(150, vb)], [151, 152], [], []⟩)] .none)))))))))))))))))))) := eqn Tryz.f262
theorem aS.eq : Eqn (Q [dG.spec]) aS.spec (.r (.l (.loop ⟨[(8, vi)], [9] ++ rg 12 41, [(0, (.own (.frz (.list (.int .u16)))))], []⟩ [(.ext 0, ⟨[], [8, 9] ++ rg 12 41, [(0, (.own (.frz (.list (.int .u16)))))], []⟩)] (.r (.l (.l (.r (.l (.loop ⟨[(9, vi)], rg 18 35, [(0, (.own (.frz (.list (.int .u16)))))], []⟩ [(.ext 2, ⟨[], [9] ++ rg 18 35, [(0, (.own (.frz (.list (.int .u16)))))], []⟩)] (.l (.l (.piece [(.nrm, ⟨[(34, vb)], rg 18 16, [], []⟩)] .none)))))))))))) := eqn Tryz.f427
theorem jc.eq : Eqn (Q [fV.spec]) jc.spec (.r (.two (.l (.piece [(.nrm, ⟨[(10, vb)], rg 3 7, [], []⟩)] .none)) (.l (.r (.l (.r (.r (.r (.r (.r (.r (.two (.piece [(.nrm, ⟨[(19, vb)], rg 20 4, [], []⟩)] .none) (.r (.two (.piece [(.nrm, ⟨[(24, vb)], rg 25 5, [], []⟩)] .none) (.r (.two (.piece [(.nrm, ⟨[(30, vb)], [31, 32, 33], [], []⟩)] .none) (.r (.two (.piece [(.nrm, ⟨[(34, vb)], [35, 36], [], []⟩)] .none) (.r (.l (.piece [(.nrm, ⟨[(37, vb)], [38, 39, 40], [], []⟩)] .none))))))))))))))))))))) := eqn Tryz.f269
theorem dH.eq : Eqn (Q [ax.spec, bw.spec, bF.spec, aN.spec, aG.spec]) dH.spec (.r (.r (.r (.r (.l (.loop ⟨[(3, (false, (.own (.frz (.rose aB)))))], [2] ++ rg 9 16, [(0, aD)], []⟩ [(.ret, ⟨[(2, (false, (.own (.frz (.rose aB)))))], [3] ++ rg 9 16, [(0, aD)], []⟩)] (.l (.r (.l (.l (.piece [(.nrm, ⟨[(21, vb)], rg 15 6, [(0, aD)], []⟩)] .none))))))))))) := eqn Tryz.f153
theorem eo.eq : Eqn (Q [wR 181, gx.spec, jg.spec, ki.spec, ew.spec, dB.spec, bP.spec]) eo.spec (.r (.r (.r (.r (.two (.r (.l (.piece [(.nrm, ⟨[(41, vb)], rg 36 5, [], []⟩)] .none))) (.l (.l (.two (.piece [(.nrm, ⟨[(46, vb)], rg 47 7, [], []⟩)] .none) (.r (.r (.r (.l (.piece [(.nrm, ⟨[(57, vb)], rg 58 14, [], []⟩)] .none))))))))))))) := eqn Tryz.f144
theorem fL.eq : Eqn (Q [dU.spec, cA.spec, fQ.spec, aX.spec, aC.spec, eX.spec]) fL.spec (.r (.r (.r (.r (.r (.r (.r (.l (.piece [(.nrm, ⟨[(10, vi)], [9, 11] ++ rg 51 12 ++ rg 68 5, [], []⟩), (.ret, ⟨[(5, vi)], [9, 10, 11] ++ rg 51 26, [(2, aF), (4, (.box (.frz aA)))], [0, 1]⟩)] .none))))))))) := eqn Tryz.f299
theorem iG.eq : Eqn (Q [gN.spec, cF.spec, aL.spec, bl.spec, bJ.spec, cj.spec]) iG.spec (.r (.two (.l (.piece [(.nrm, ⟨[(22, vb)], rg 10 12, [], []⟩)] .none)) (.l (.r (.l (.loop ⟨[(29, vi)], [9] ++ rg 30 20, [(1, eY)], [0]⟩ [(.ext 0, ⟨[], [9] ++ rg 29 21, [(1, eY)], [0]⟩)] .none)))))) := eqn Tryz.f330
theorem fg.eq : Eqn (Q [ig.spec]) fg.spec (.r (.two (.l (.piece [(.nrm, ⟨[(25, vb)], rg 7 18, [], []⟩)] .none)) (.r (.l (.r (.l (.loop ⟨[(4, vi), (28, vi)], [2, 3, 6] ++ rg 29 13, [], []⟩ [(.ext 0, ⟨[(4, vi)], [2, 3, 6] ++ rg 28 14, [], []⟩), (.ret, ⟨[(2, vi), (3, vb)], [4, 6] ++ rg 28 14, [], []⟩)] .none))))))) := eqn Tryz.f285
theorem gi.eq : Eqn (Q [bu.spec, cY.spec, bn.spec, fH.spec, cR.spec, aC.spec, jH.spec, ae.spec]) gi.spec (.r (.r (.r (.r (.r (.l (.piece [(.nrm, ⟨[], rg 47 4, [(8, (.box (.frz aI)))], []⟩)] .none))))))) := eqn Tryz.f387
theorem lC.eq : Eqn (Q [nR.spec, ec.spec, ep.spec, fG.spec, fB.spec]) lC.spec (.r (.r (.l (.l (.two (.piece [(.nrm, ⟨[(10, vb)], rg 11 21, [], []⟩)] .none) (.r (.r (.r (.r (.r (.l (.piece [(.nrm, ⟨[(41, vb)], rg 42 8, [], []⟩)] .none)))))))))))) := eqn Tryz.f282
theorem lK.eq : Eqn (Q [ky.spec, nE.spec, nD.spec, nM.spec, nC.spec, eU.spec, fX.spec]) lK.spec (.r (.r (.r (.l (.piece [(.nrm, ⟨[(9, vi)], rg 47 8, [(5, (.box (.frz az)))], []⟩)] .none))))) := eqn Tryz.f317
theorem lQ.eq : Eqn (Q [ky.spec, kU.spec, dC.spec, lC.spec, fX.spec, dc.spec]) lQ.spec (.r (.r (.l (.l (.r (.r (.l (.piece [(.nrm, ⟨[(18, vb)], rg 19 6, [], []⟩)] .none)))))))) := eqn Tryz.f252
theorem iz.eq : Eqn (Q [eT.spec]) iz.spec (.r (.two (.piece [(.nrm, ⟨[(5, vb)], rg 6 6, [], []⟩)] .none) (.l (.piece [(.nrm, ⟨[(0, (false, (.frz (.int .u64))))], [12, 13, 14], [], []⟩)] .none)))) := eqn Tryz.f424
theorem jF.eq : Eqn (Q []) jF.spec (.r (.r (.l (.r (.l (.loop ⟨[(3, (false, (.own .h))), (4, vi)], rg 5 13, [], []⟩ [(.ext 0, ⟨[(3, (false, (.own .h)))], rg 4 14, [], []⟩)] .none)))))) := eqn Tryz.f13
theorem lW.eq : Eqn (Q []) lW.spec (.r (.l (.r (.l (.two (.piece [(.nrm, ⟨[(4, vb)], rg 5 50, [], []⟩)] .none) (.r (.l (.piece [(.nrm, ⟨[(55, vb)], rg 56 7, [], []⟩)] .none)))))))) := eqn Tryz.f146
theorem fJ.eq : Eqn (Q [dU.spec, cA.spec, cR.spec, aX.spec, aL.spec, aC.spec]) fJ.spec .none := eqn Tryz.f298
theorem bB.eq : Eqn (Q [bE.spec]) bB.spec .none := eqn Tryz.f55
theorem cj.eq : Eqn (Q [jd 67 (.int .u16), bc.spec, eV.spec, eQ.spec]) cj.spec .none := eqn Tryz.f90
theorem ij.eq : Eqn (Q [jK.spec, lO.spec, eF.spec, cg.spec]) ij.spec .none := eqn Tryz.f382
theorem eI.eq : Eqn (Q [bc.spec, eK.spec, eQ.spec]) eI.spec .none := eqn Tryz.f91
theorem nM.eq : Eqn (Q [jI.spec, eT.spec, di.spec, gS.spec]) nM.spec .none := eqn Tryz.f365
theorem eQ.eq : Eqn (Q [jd 123 (.int .u32), jd 67 (.int .u16)]) eQ.spec .none := eqn Tryz.f89
theorem gT.eq : Eqn (Q [jB.spec, gZ.spec]) gT.spec .none := eqn Tryz.f253
theorem gU.eq : Eqn (Q [mM.spec, ea.spec]) gU.spec .none := eqn Tryz.f397
theorem lR.eq : Eqn (Q [cY.spec, dv.spec]) lR.spec .none := eqn Tryz.f289
theorem ld.eq : Eqn (Q [de.spec]) ld.spec .none := eqn Tryz.f322
theorem nC.eq : Eqn (Q [ky.spec, lF.spec]) nC.spec .none := eqn Tryz.f362
theorem kJ.eq : Eqn (Q [iQ.spec]) kJ.spec .none := eqn Tryz.f307
theorem fC.eq : Eqn (Q []) fC.spec .none := eqn Tryz.f54
theorem jM.eq : Eqn (Q []) jM.spec .none := eqn Tryz.f276
theorem aU.eq : Eqn (Q []) aU.spec .none := eqn Tryz.f72
theorem jt.eq : Eqn (Q []) jt.spec .none := eqn Tryz.f366
theorem fB.eq : Eqn (Q []) fB.spec .none := eqn Tryz.f135
end Go.Mach
set_option linter.unusedVariables false
set_option maxRecDepth 100000
namespace Go.Mach
open Go.Proofs
theorem dm.eq (G : ay) : Eqn (Q [jx.spec, cK.spec G, aE.spec G, dQ.spec G, aQ.spec G, gM.spec]) (dm.g.sp 130 fun x => R.dm G x.1 x.2.1 x.2.2.1 x.2.2.2) (.r (.l (.r (.r (.r (.r (.two (.piece [(.nrm, ⟨[], [10] ++ rg 43 9, [(2, aF), (3, (.box (.frz aP)))], [6, 7]⟩), (.ret, ⟨[], [10] ++ rg 43 11, [(2, aF), (4, (.box (.seq .i (.seq .s (.seq .i (.seq (.frz aI) (.seq (.seq .b (.own .w)) (.seq (.own .h) .i))))))))], [3, 6, 7]⟩)] .none) (.r (.l (.loop ⟨[], [10] ++ rg 12 6 ++ rg 54 80, [(2, aF), (3, (.box (.frz aP)))], [12, 13]⟩ [(.ret, ⟨[], [10] ++ rg 12 6 ++ rg 54 80, [(2, aF), (4, (.box (.frz aT)))], [3, 12, 13]⟩)] (.l (.two (.piece [(.nrm, ⟨[], [12, 13] ++ rg 54 28, [(2, aF)], [16, 17]⟩), (.ret, ⟨[], [12, 13] ++ rg 54 29, [(2, aF), (4, (.box (.frz aT)))], [16, 17]⟩)] (.r (.l (.r (.l (.piece [(.nrm, ⟨[(81, vb)], rg 75 6, [], []⟩)] .none)))))) (.r (.r (.l (.piece [(.nrm, ⟨[], [10] ++ rg 97 9, [(2, aF), (3, (.box (.frz aP)))], [24, 25]⟩), (.ret, ⟨[], [10] ++ rg 97 11, [(2, aF), (4, (.box (.seq .i (.seq .s (.seq .i (.seq (.frz aI) (.seq (.seq .b (.own .w)) (.seq (.own .h) .i))))))))], [3, 24, 25]⟩)] .none)))))))))))))))) := eqn Tryz.f130
theorem eg.eq : Eqn (Q [kZ.spec, jg.spec, ki.spec, dB.spec]) eg.spec (.r (.r (.r (.r (.l (.l (.loop ⟨[(5, vb), (6, vb)], [2, 3, 7] ++ rg 17 62, [(0, bH)], []⟩ [(.ext 0, ⟨[(6, vb)], [2, 3, 5, 7] ++ rg 17 62, [(0, bH)], []⟩), (.ret, ⟨[(2, vb), (3, vi)], [5, 6, 7] ++ rg 17 62, [(0, bH)], []⟩)] (.r (.l (.piece [(.nrm, ⟨[(5, vb), (6, vb)], [7] ++ rg 34 16 ++ rg 60 7 ++ rg 69 10, [], []⟩), (.ret, ⟨[(2, vb), (3, vi)], [7] ++ rg 34 35, [(0, bH)], []⟩)] (.l (.r (.two (.l (.two (.piece [(.nrm, ⟨[(44, vb)], rg 45 5, [], []⟩)] .none) (.r (.l (.piece [(.nrm, ⟨[(60, vb)], rg 61 6, [], []⟩)] .none))))) (.l (.piece [(.nrm, ⟨[(5, vb)], rg 69 5, [], []⟩)] .none))))))))))))))) := eqn Tryz.f104
theorem dP.eq (G : ay) : Eqn (Q [aE.spec G, eI.spec]) (dP.g.sp 127 fun x => R.dP G x.1 x.2.1 x.2.2) (.r (.l (.r (.l (.loop ⟨[(15, vi)], rg 8 5 ++ rg 16 42, [(2, aF)], [0, 1]⟩ [(.ext 0, ⟨[], rg 8 5 ++ rg 15 43, [(2, aF)], [0, 1]⟩), (.ret, ⟨[], rg 8 5 ++ rg 15 43, [(2, aF), (4, (.box (.frz aT)))], [0, 1]⟩)] (.r (.r (.l (.l (.r (.r (.r (.l (.piece [(.nrm, ⟨[], [11, 12] ++ rg 27 16 ++ [46], [(2, aF), (11, (.box (.frz aA)))], [5, 6]⟩), (.ret, ⟨[], [11, 12] ++ rg 27 19, [(2, aF), (4, (.box (.frz aT)))], [5, 6]⟩)] .none)))))))))))))) := eqn Tryz.f127
theorem fj.eq : Eqn (Q [lg.spec, jg.spec, dB.spec, eg.spec]) fj.spec (.r (.l (.r (.r (.l (.l (.loop ⟨[(5, vb)], [2, 3, 4] ++ rg 6 67, [(0, bH)], []⟩ [(.ext 0, ⟨[(5, vb)], [2, 3, 4] ++ rg 6 67, [(0, bH)], []⟩), (.ret, ⟨[(2, vb), (3, vi), (4, vi)], rg 5 68, [(0, bH)], []⟩)] (.r (.l (.r (.l (.l (.two (.piece [(.nrm, ⟨[(30, vb)], rg 31 6, [], []⟩)] .none) (.two (.l (.piece [(.nrm, ⟨[(5, vb)], rg 37 5, [], []⟩)] .none)) (.l (.piece [(.nrm, ⟨[(49, vb)], rg 50 6, [], []⟩)] .none)))))))))))))))) := eqn Tryz.f70
theorem cq.eq (G : ay) : Eqn (Q [aX.spec, aL.spec, aE.spec G, cj.spec, ae.spec, iY.spec]) (cq.g.sp 201 fun x => R.cq G x.1 x.2.1 x.2.2) (.r (.r (.r (.l (.r (.l (.loop ⟨[(27, vi)], [7] ++ rg 11 4 ++ rg 28 44, [(2, aF)], [5, 6]⟩ [(.ext 0, ⟨[], [7] ++ rg 11 4 ++ rg 27 45, [(2, aF)], [5, 6]⟩), (.ret, ⟨[(7, vi)], rg 11 4 ++ rg 27 45, [(2, aF), (4, (.box (.frz aA)))], [5, 6]⟩)] .none))))))) := eqn Tryz.f201
theorem nD.eq : Eqn (Q [jZ.spec, di.spec, gS.spec]) nD.spec (.r (.r (.r (.l (.r (.l (.loop ⟨[(26, vi)], rg 9 5 ++ rg 27 45, [(7, (.own .w))], []⟩ [(.ext 0, ⟨[], rg 9 5 ++ rg 26 46, [(7, (.own .w))], []⟩)] (.r (.r (.l (.l (.r (.r (.l (.r (.l (.loop ⟨[(11, (false, (.frz (.int .u64)))), (33, vi)], [12, 13] ++ rg 34 29, [(7, (.own .w))], []⟩ [(.ext 2, ⟨[(11, (false, (.frz (.int .u64))))], [12, 13] ++ rg 33 30, [(7, (.own .w))], []⟩)] .none))))))))))))))))) := eqn Tryz.f363
theorem kA.eq : Eqn (Q [fl.spec]) kA.spec (.r (.r (.r (.l (.r (.l (.loop ⟨[(5, (false, (.own .h))), (6, vi)], [2, 3, 4, 7, 8] ++ rg 12 43, [], []⟩ [(.ext 0, ⟨[(5, (false, (.own .h)))], [2, 3, 4, 6, 7, 8] ++ rg 12 43, [], []⟩), (.ret, ⟨[(2, (false, (.own .h))), (3, vi), (4, vi)], rg 5 4 ++ rg 12 43, [], []⟩)] (.r (.l (.r (.l (.l (.l (.piece [(.nrm, ⟨[(36, vb)], rg 37 6, [], []⟩)] .none)))))))))))))) := eqn Tryz.f20
theorem bj.eq (G : bG) : Eqn (Q [fV.spec, aY.spec G, bV.spec, bA.spec G, bF.spec, aM.spec, aW.spec G, aG.spec]) (bj.g.sp 74 fun x => R.bj G x) (.r (.l (.r (.l (.l (.piece [(.nrm, ⟨[(8, vb)], rg 9 6, [], []⟩)] .none)))))) := eqn Tryz.f74
theorem fx.eq : Eqn (Q [aX.spec, aL.spec, aC.spec, bJ.spec]) fx.spec (.r (.r (.l (.piece [(.nrm, ⟨[(8, vi)], rg 9 14 ++ rg 27 10, [], []⟩), (.ret, ⟨[(7, vi)], rg 9 22 ++ rg 33 8, [(2, aF), (9, (.box (.frz aA)))], [0, 1]⟩)] (.l (.l (.piece [(.nrm, ⟨[(9, vb)], rg 10 13, [], []⟩)] .none))))))) := eqn Tryz.f329
theorem lr.eq : Eqn (Q [gx.spec, iT.spec]) lr.spec (.r (.l (.r (.l (.loop ⟨[(7, vi)], [2, 3, 4] ++ rg 8 19, [], []⟩ [(.ext 0, ⟨[], [2, 3, 4] ++ rg 7 20, [], []⟩), (.ret, ⟨[(2, vb)], [3, 4] ++ rg 7 20, [], []⟩)] (.r (.r (.l (.l (.r (.r (.l (.piece [(.nrm, ⟨[(25, vb)], rg 14 11, [], []⟩)] .none))))))))))))) := eqn Tryz.f77
theorem al.eq : Eqn (Q [fS.spec]) al.spec (.r (.l (.r (.l (.loop ⟨[(8, vi)], [4, 5] ++ rg 9 10, [], []⟩ [(.ext 0, ⟨[], [4, 5] ++ rg 8 11, [], []⟩), (.ret, ⟨[(4, vi)], [5] ++ rg 8 11, [], []⟩)] .none))))) := eqn Tryz.f161
theorem bQ.eq : Eqn (Q [iu.spec]) bQ.spec (.r (.l (.r (.l (.loop ⟨[(8, vi)], [4, 5] ++ rg 9 10, [], []⟩ [(.ext 0, ⟨[], [4, 5] ++ rg 8 11, [], []⟩), (.ret, ⟨[(4, vi)], [5] ++ rg 8 11, [], []⟩)] .none))))) := eqn Tryz.f57
theorem iK.eq : Eqn (Q [jM.spec, gu.spec, bJ.spec]) iK.spec (.r (.l (.r (.l (.r (.r (.r (.r (.r (.r (.r (.r (.r (.r (.r (.l (.l (.piece [(.nrm, ⟨[(32, vb)], rg 19 13, [], []⟩)] .none)))))))))))))))))) := eqn Tryz.f248
theorem bV.eq : Eqn (Q [fV.spec, aM.spec, aO.spec, aG.spec]) bV.spec (.r (.l (.l (.piece [(.nrm, ⟨[(19, vb)], rg 5 14, [(0, aD)], []⟩)] .none)))) := eqn Tryz.f114
theorem dK.eq (G : ay) : Eqn (Q [cE.spec, aQ.spec G, ba.spec]) (dK.g.sp 170 fun x => R.dK G x.1 x.2.1 x.2.2.1 x.2.2.2.1 x.2.2.2.2) .none := eqn Tryz.f170
theorem cg.eq : Eqn (Q []) cg.spec (.r (.l (.loop ⟨[(2, vi), (3, vi)], rg 7 21, [(0, (.own .y))], []⟩ [(.ext 0, ⟨[], [2, 3] ++ rg 7 21, [(0, (.own .y))], []⟩)] .none))) := eqn Tryz.f100
theorem er.eq : Eqn (Q [ko.spec, cu.spec, bu.spec, cF.spec, aL.spec, cU.spec, lJ.spec]) er.spec .none := eqn Tryz.f332
theorem cw.eq (G : ay) : Eqn (Q [cK.spec G, aQ.spec G]) (cw.g.sp 128 fun x => R.cw G x.1 x.2.1 x.2.2) .none := eqn Tryz.f128
theorem gA.eq : Eqn (Q [bc.spec]) gA.spec (.r (.r (.r (.l (.l (.piece [(.nrm, ⟨[(42, vb)], rg 20 22, [], []⟩)] .none)))))) := eqn Tryz.f399
theorem gu.eq : Eqn (Q [dq.spec]) gu.spec (.r (.r (.l (.l (.piece [(.nrm, ⟨[(13, vb)], rg 5 8, [], []⟩)] .none))))) := eqn Tryz.f259
theorem mF.eq : Eqn (Q []) mF.spec (.r (.l (.r (.l (.r (.r (.l (.piece [(.nrm, ⟨[(15, vb)], rg 16 4, [], []⟩)] .none)))))))) := eqn Tryz.f44
theorem dW.eq : Eqn (Q [bc.spec, eV.spec, eQ.spec]) dW.spec .none := eqn Tryz.f260
theorem dY.eq : Eqn (Q [dX.spec]) dY.spec .none := eqn Tryz.f385
theorem fU.eq : Eqn (Q [gx.spec, iT.spec]) fU.spec .none := eqn Tryz.f140
theorem eG.eq : Eqn (Q [cY.spec, aX.spec]) eG.spec .none := eqn Tryz.f270
theorem fH.eq : Eqn (Q [lV.spec, fw.spec]) fH.spec .none := eqn Tryz.f393
theorem im.eq : Eqn (Q [lB.spec, kU.spec]) im.spec .none := eqn Tryz.f373
theorem gY.eq : Eqn (Q [iL.spec]) gY.spec .none := eqn Tryz.f86
theorem nH.eq : Eqn (Q [lC.spec, lD.spec]) nH.spec .none := eqn Tryz.f318
theorem fy.eq : Eqn (Q []) fy.spec .none := eqn Tryz.f122
theorem fb.eq : Eqn (Q []) fb.spec .none := eqn Tryz.f349
theorem gr.eq : Eqn (Q []) gr.spec .none := eqn Tryz.f83
theorem kk.eq : Eqn (Q []) kk.spec .none := eqn Tryz.f48
theorem kV.eq : Eqn (Q []) kV.spec .none := eqn Tryz.f325
theorem jl.eq : Eqn (Q []) jl.spec .none := eqn Tryz.f213
end Go.Mach
set_option linter.unusedVariables false
set_option maxRecDepth 100000
namespace Go.Mach
open Go.Proofs
theorem iN.eq : Eqn (Q [lD.spec, bC.spec, ae.spec, iY.spec, kP.spec, jT.spec, kK.spec]) iN.spec (.r (.two (.l (.loop ⟨[(0, (false, (.bor (.own .h))))], rg 11 11, [], []⟩ [(.ext 0, ⟨[(0, (false, (.bor (.own .h))))], rg 11 11, [], []⟩)] (.l (.l (.piece [(.nrm, ⟨[(19, vb)], rg 11 8, [], []⟩)] .none))))) (.two (.l (.loop ⟨[(0, (false, (.bor (.own .h))))], rg 22 17, [], []⟩ [(.ext 2, ⟨[(0, (false, (.bor (.own .h))))], rg 22 17, [], []⟩)] (.l (.l (.piece [(.nrm, ⟨[(33, vb)], rg 22 11, [], []⟩)] .none))))) (.r (.r (.r (.two (.piece [(.nrm, ⟨[(5, (false, (.bor (.own .h))))], rg 49 9, [], []⟩)] (.l (.piece [(.nrm, ⟨[(55, vb)], rg 49 6, [], []⟩)] .none))) (.r (.l (.piece [(.nrm, ⟨[(8, vb)], [9, 10] ++ rg 62 21 ++ [84, 85], [(7, (.box (.frz aI)))], []⟩), (.ret, ⟨[(3, vb)], [9, 10] ++ rg 62 4 ++ rg 67 17, [(1, (.box (.frz aI)))], []⟩)] (.l (.r (.r (.l (.piece [(.nrm, ⟨[(67, vb)], rg 68 8, [], []⟩)] .none))))))))))))))) := eqn Tryz.f143
theorem ei.eq : Eqn ({ P := Tryz.prog, specs := [gy.spec, eJ.spec], ety := pL Tryz.prog ([(31, (.seq .i (.seq .s (.seq (.frz (.list (.int .u16))) (.seq (.frz aI) (.seq (.frz az) (.own .i)))))))] ++ owned) } : Env) ei.spec (.r (.r (.two (.l (.piece [(.nrm, ⟨[(26, vb)], rg 13 13, [], []⟩)] .none)) (.r (.l (.r (.l (.loop ⟨[(5, (false, (.own (.seq .i (.seq .s (.seq (.frz (.list (.int .u16))) (.seq (.frz aI) (.seq (.frz az) (.own .i))))))))), (6, vi)], rg 30 20, [], [0]⟩ [(.ext 0, ⟨[(5, (false, (.own (.seq .i (.seq .s (.seq (.frz (.list (.int .u16))) (.seq (.frz aI) (.seq (.frz az) (.own .i)))))))))], [6] ++ rg 30 20, [], [0]⟩)] .none)))))))) := eqn Tryz.f3
theorem gB.eq : Eqn (Q [bu.spec, bT.spec, bn.spec, cA.spec, jA.spec, hB.spec, ey.spec, dz.spec, et.spec, gh.spec, aC.spec, dZ.spec, gi.spec, eE.spec, ak.spec, fw.spec]) gB.spec (.r (.r (.r (.r (.r (.two (.piece [(.nrm, ⟨[(15, vb)], rg 92 6, [], []⟩)] .none) (.l (.l (.l (.piece [(.nrm, ⟨[(98, vb)], rg 99 26, [], []⟩)] (.two (.piece [(.nrm, ⟨[(98, vb)], rg 99 8, [], []⟩)] .none) (.r (.l (.piece [(.nrm, ⟨[(98, vb)], rg 107 11, [], []⟩)] .none)))))))))))))) := eqn Tryz.f338
theorem bX.eq (G : ay) : Eqn (Q [aE.spec G]) (bX.g.sp 229 fun x => R.bX G x.1 x.2.1 x.2.2) (.r (.r (.l (.r (.l (.loop ⟨[(9, (false, (.own (.frz aA)))), (16, vi)], [6, 8, 11, 12, 13] ++ rg 17 19, [(2, aF)], [0, 1]⟩ [(.ext 0, ⟨[(9, (false, (.own (.frz aA))))], [6, 8, 11, 12, 13] ++ rg 16 20, [(2, aF)], [0, 1]⟩), (.ret, ⟨[(6, (false, (.own (.frz aA)))), (8, vi)], [9, 11, 12, 13] ++ rg 16 20, [(2, aF), (4, (.box (.frz aA)))], [0, 1]⟩)] .none)))))) := eqn Tryz.f229
theorem ko.eq : Eqn (Q [di.spec, gS.spec, iD.spec, cg.spec]) ko.spec (.r (.r (.r (.r (.l (.l (.loop ⟨[(3, (false, (.own .w))), (4, (false, (.own .y)))], [5, 6] ++ rg 12 34, [], [2]⟩ [(.ext 0, ⟨[(4, (false, (.own .y)))], [3, 5, 6] ++ rg 12 34, [], [2]⟩)] (.r (.l (.r (.l (.r (.l (.loop ⟨[(5, (false, (.frz (.int .u64)))), (6, vi)], rg 18 20, [(3, (.own .w))], []⟩ [(.ext 2, ⟨[(5, (false, (.frz (.int .u64))))], [6] ++ rg 18 20, [(3, (.own .w))], []⟩)] .none)))))))))))))) := eqn Tryz.f66
theorem bf.eq (G : bG) : Eqn (Q [aU.spec, bw.spec, aN.spec, cO.spec G, aG.spec]) (bf.g.sp 413 fun x => R.bf G x) (.r (.r (.r (.l (.loop ⟨[], rg 8 17, [(0, aD), (3, (.box mS))], [2]⟩ [(.ret, ⟨[], rg 8 17, [(0, aD), (1, (.box mS))], [2, 3]⟩)] (.l (.r (.l (.l (.piece [(.nrm, ⟨[(21, vb)], rg 15 6, [(0, aD)], []⟩)] .none)))))))))) := eqn Tryz.f413
theorem cI.eq (G : bG) : Eqn (Q [aU.spec, bK.spec G, aY.spec G, aN.spec, aw.spec, aW.spec G]) (cI.g.sp 189 fun x => R.cI G x) (.r (.r (.r (.r (.l (.piece [(.nrm, ⟨[], rg 14 22, [(0, aD), (4, (.box mS))], [3]⟩)] (.l (.piece [(.nrm, ⟨[(19, vb)], rg 14 5, [], []⟩)] .none)))))))) := eqn Tryz.f189
theorem gZ.eq : Eqn (Q [ke.spec, jJ.spec, aL.spec, aC.spec, eI.spec, fD.spec]) gZ.spec (.r (.r (.two (.l (.two (.piece [(.nrm, ⟨[(27, vb)], rg 28 6, [], []⟩)] .none) (.r (.l (.piece [(.nrm, ⟨[(38, vb)], rg 39 5, [], []⟩)] .none))))) (.l (.r (.l (.piece [(.nrm, ⟨[(68, vb)], rg 64 4, [], []⟩)] .none))))))) := eqn Tryz.f283
theorem ew.eq : Eqn (Q [mA.spec, b8.spec]) ew.spec (.r (.r (.l (.r (.l (.loop ⟨[(6, (false, .h)), (8, vi)], [4, 5] ++ rg 9 26, [(0, bH)], []⟩ [(.ext 0, ⟨[(6, (false, .h))], [4, 5] ++ rg 8 27, [(0, bH)], []⟩), (.ret, ⟨[(4, (false, .h)), (5, vi)], [6] ++ rg 8 27, [(0, bH)], []⟩)] .none)))))) := eqn Tryz.f182
theorem jS.eq : Eqn (Q []) jS.spec (.r (.l (.loop ⟨[(1, vi)], rg 4 31, [], []⟩ [(.ret, ⟨[(4, vb)], [1] ++ rg 5 30, [], []⟩)] (.l (.r (.l (.piece [(.nrm, ⟨[], rg 11 12, [], []⟩), (.ret, ⟨[(4, vb)], rg 11 12, [], []⟩)] (.r (.l (.r (.r (.l (.piece [(.nrm, ⟨[(19, vb)], [20, 21, 22], [], []⟩)] .none))))))))))))) := eqn Tryz.f50
theorem dB.eq : Eqn (Q []) dB.spec (.r (.l (.r (.l (.loop ⟨[(8, vi)], [4, 5] ++ rg 9 34, [], []⟩ [(.ext 0, ⟨[], [4, 5] ++ rg 8 35, [], []⟩), (.ret, ⟨[(4, vb)], [5] ++ rg 8 35, [], []⟩)] (.r (.r (.l (.l (.r (.l (.piece [(.nrm, ⟨[(41, vb)], rg 11 30, [], []⟩)] .none)))))))))))) := eqn Tryz.f103
theorem jL.eq : Eqn (Q []) jL.spec (.r (.l (.l (.loop ⟨[(0, (false, (.frz (.list (.int .u32)))))], rg 3 17, [], []⟩ [(.ext 0, ⟨[(0, (false, (.frz (.list (.int .u32)))))], rg 3 17, [], []⟩)] (.l (.l (.piece [(.nrm, ⟨[(14, vb)], rg 3 11, [], []⟩)] .none))))))) := eqn Tryz.f98
theorem iJ.eq : Eqn (Q [db.spec, cF.spec, aL.spec, bl.spec, dW.spec]) iJ.spec (.r (.l (.l (.r (.r (.r (.r (.l (.piece [(.nrm, ⟨[(37, vb)], rg 38 6, [], []⟩)] .none))))))))) := eqn Tryz.f351
theorem fF.eq : Eqn (Q [ke.spec, jJ.spec, aL.spec, aC.spec, fD.spec]) fF.spec (.r (.r (.l (.l (.l (.piece [(.nrm, ⟨[(26, vb)], rg 27 6, [], []⟩)] .none)))))) := eqn Tryz.f221
theorem jU.eq : Eqn (Q []) jU.spec (.r (.r (.l (.r (.l (.loop ⟨[(5, vi)], [4] ++ rg 11 15, [], []⟩ [(.ext 0, ⟨[], [4, 5] ++ rg 11 15, [], []⟩), (.ret, ⟨[(4, vb)], [5] ++ rg 11 15, [], []⟩)] .none)))))) := eqn Tryz.f12
theorem ct.eq (G : ay) : Eqn (Q [bX.spec G, dF.spec G, cr.spec G]) (ct.g.sp 228 fun x => R.ct G x.1 x.2.1 x.2.2) .none := eqn Tryz.f228
theorem gC.eq : Eqn (Q [dv.spec, ak.spec, ae.spec]) gC.spec (.r (.r (.l (.r (.l (.piece [(.nrm, ⟨[(33, vb)], rg 28 5, [], []⟩)] .none)))))) := eqn Tryz.f19
theorem kC.eq : Eqn (Q [gK.spec]) kC.spec (.r (.l (.r (.l (.r (.r (.r (.r (.r (.r (.l (.piece [(.nrm, ⟨[(24, vb)], [25, 26, 27], [], []⟩)] .none)))))))))))) := eqn Tryz.f410
theorem gj.eq : Eqn (Q []) gj.spec (.r (.l (.l (.loop ⟨[(1, vi)], rg 5 15, [], []⟩ [(.ext 0, ⟨[(1, vi)], rg 5 15, [], []⟩)] .none)))) := eqn Tryz.f59
theorem eR.eq : Eqn (Q [cz.spec, cP.spec (cf fuel), cE.spec]) eR.spec .none := eqn Tryz.f18
theorem iW.eq : Eqn (Q []) iW.spec (.r (.l (.r (.l (.l (.piece [(.nrm, ⟨[(4, vb)], rg 5 12, [], []⟩)] .none)))))) := eqn Tryz.f287
theorem fc.eq : Eqn (Q [eP.spec, jF.spec, jU.spec]) fc.spec .none := eqn Tryz.f7
theorem aC.eq : Eqn (Q [eG.spec, cy.spec]) aC.spec .none := eqn Tryz.f243
theorem cS.eq : Eqn (Q [iT.spec]) cS.spec .none := eqn Tryz.f110
theorem kL.eq : Eqn (Q [gV.spec, eh.spec]) kL.spec .none := eqn Tryz.f300
theorem iv.eq : Eqn (Q [aV.spec]) iv.spec .none := eqn Tryz.f56
theorem fR.eq : Eqn (Q [mA.spec]) fR.spec .none := eqn Tryz.f217
theorem ff.eq : Eqn (Q [dC.spec]) ff.spec .none := eqn Tryz.f316
theorem dc.eq : Eqn (Q [cu.spec]) dc.spec .none := eqn Tryz.f281
theorem cQ.eq : Eqn (Q [mX.spec]) cQ.spec .none := eqn Tryz.f64
theorem eF.eq : Eqn (Q []) eF.spec .none := eqn Tryz.f401
theorem iT.eq : Eqn (Q []) iT.spec .none := eqn Tryz.f105
theorem kE.eq : Eqn (Q []) kE.spec .none := eqn Tryz.f58
theorem jg.eq : Eqn (Q []) jg.spec .none := eqn Tryz.f102
theorem lj.eq : Eqn (Q []) lj.spec .none := eqn Tryz.f9
end Go.Mach
set_option linter.unusedVariables false
set_option maxRecDepth 100000
namespace Go.Mach
open Go.Proofs
theorem dx.eq : Eqn (Q [aX.spec, cE.spec, ba.spec, eI.spec, cj.spec, ae.spec]) dx.spec (.r (.r (.r (.two (.piece [(.nrm, ⟨[(10, vb)], rg 29 8, [], []⟩)] .none) (.two (.piece [(.nrm, ⟨[], [11, 12] ++ rg 37 10 ++ rg 49 11, [(2, aF), (7, (.box (.seq .i (.seq .i (.seq (.own (.frz bo)) (.seq (.own (.frz bd)) (.seq .s (.seq .i (.seq .i (.seq (.seq .i (.seq (.frz aI) (.seq (.seq .b (.own .w)) (.seq (.own .h) .i)))) (.seq .i (.seq .i (.seq .i (.seq .i (.own .y)))))))))))))))], [0, 1]⟩), (.ret, ⟨[(7, vi)], [11, 12] ++ rg 37 12, [(2, aF), (4, (.box (.seq .i (.seq (.frz aI) (.seq (.seq .b (.own .w)) (.seq (.own .h) .i))))))], [0, 1]⟩)] .none) (.r (.two (.piece [(.nrm, ⟨[], rg 63 13, [(7, (.box la))], [11, 12, 13, 14, 15]⟩)] (.l (.l (.piece [(.nrm, ⟨[(63, vb)], rg 64 5, [], []⟩)] .none)))) (.r (.l (.l (.piece [(.nrm, ⟨[(86, vb)], rg 82 4, [], []⟩)] .none))))))))))) := eqn Tryz.f62
theorem bO.eq (G : bG) : Eqn (Q [ax.spec, cB.spec G, bw.spec, aM.spec, aO.spec, bO.spec G, mC.spec, gr.spec]) (bO.g.sp 268 fun x => R.bO G x) (.r (.r (.two (.piece [(.nrm, ⟨[], rg 8 12 ++ rg 33 4, [], []⟩), (.ret, ⟨[], [4] ++ rg 8 54, [(0, aD), (1, (.box mS))], []⟩)] (.two (.piece [(.nrm, ⟨[(15, vb)], rg 8 7, [], []⟩)] .none) (.l (.l (.r (.r (.r (.l (.r (.r (.l (.piece [(.nrm, ⟨[], rg 46 11, [(0, aD)], []⟩)] (.l (.piece [(.nrm, ⟨[(54, vb)], rg 46 8, [], []⟩)] .none)))))))))))))) (.r (.l (.r (.l (.piece [(.nrm, ⟨[(78, vb)], rg 66 12, [], []⟩)] .none)))))))) := eqn Tryz.f268
theorem cO.eq (G : bG) : Eqn (Q [kq.spec, aU.spec, ax.spec, aK.spec G, aN.spec, aM.spec, aw.spec, aO.spec, ae.spec]) (cO.g.sp 425 fun x => R.cO G x) (.r (.r (.r (.two (.piece [(.nrm, ⟨[], [8, 9] ++ rg 13 22, [(4, (.box mS))], [3]⟩), (.ret, ⟨[], rg 8 7 ++ [19, 20, 27, 28, 29], [(0, aD), (1, (.box mS))], [3]⟩)] (.r (.l (.r (.r (.r (.r (.l (.piece [(.nrm, ⟨[(27, vb)], [28, 29], [], []⟩)] .none))))))))) (.r (.l (.l (.piece [(.nrm, ⟨[(49, vb)], rg 42 7, [], []⟩)] .none)))))))) := eqn Tryz.f425
theorem iH.eq : Eqn (Q [dU.spec, bn.spec, aX.spec, aC.spec, eX.spec]) iH.spec (.r (.r (.r (.r (.r (.two (.piece [(.nrm, ⟨[(16, vi)], [15] ++ rg 44 10, [], []⟩), (.ret, ⟨[(11, vi)], [15, 16] ++ rg 44 15, [(2, aF), (5, (.box (.frz aA)))], [0, 1]⟩)] .none) (.l (.piece [(.nrm, ⟨[(16, vi)], rg 59 24 ++ rg 87 9, [], []⟩), (.ret, ⟨[(11, vi)], rg 59 28, [(2, aF), (5, (.box (.frz aA)))], [0, 1]⟩)] (.l (.l (.piece [(.nrm, ⟨[(59, vb)], rg 60 23, [], []⟩)] .none))))))))))) := eqn Tryz.f347
theorem jT.eq : Eqn (Q [du.spec, ae.spec, ig.spec]) jT.spec (.r (.r (.l (.r (.l (.loop ⟨[(3, vb), (8, vi)], [2, 5] ++ rg 9 28, [], []⟩ [(.ext 0, ⟨[(3, vb)], [2, 5] ++ rg 8 29, [], []⟩), (.ret, ⟨[(2, vb)], [3, 5] ++ rg 8 29, [], []⟩)] (.r (.r (.l (.l (.r (.two (.piece [(.nrm, ⟨[(3, vb)], rg 12 5, [], []⟩)] .none) (.l (.l (.piece [(.nrm, ⟨[(17, vb)], rg 18 14, [], []⟩)] (.r (.r (.l (.piece [(.nrm, ⟨[(17, vb)], rg 20 6, [], []⟩)] .none))))))))))))))))))) := eqn Tryz.f175
theorem mJ.eq : Eqn (Q []) mJ.spec (.r (.r (.r (.l (.r (.l (.loop ⟨[(5, (false, (.own .w))), (6, (false, (.frz (.int .u64)))), (13, vi)], [7] ++ rg 14 32, [], []⟩ [(.ext 0, ⟨[(5, (false, (.own .w))), (6, (false, (.frz (.int .u64))))], [7] ++ rg 13 33, [], []⟩)] (.r (.r (.l (.l (.r (.two (.piece [(.nrm, ⟨[(6, (false, (.frz (.int .u64))))], rg 16 11, [], []⟩)] .none) (.l (.piece [(.nrm, ⟨[(6, (false, (.frz (.int .u64))))], rg 27 11, [], []⟩)] .none))))))))))))))) := eqn Tryz.f310
theorem cL.eq (G : ay) : Eqn (Q [cR.spec, dF.spec G, aX.spec, aC.spec, bJ.spec]) (cL.g.sp 392 fun x => R.cL G x.1 x.2) (.r (.two (.l (.piece [(.nrm, ⟨[(24, vb)], rg 12 12, [], []⟩)] .none)) (.r (.r (.r (.l (.piece [(.nrm, ⟨[(8, vi)], rg 41 6, [], []⟩)] (.l (.piece [(.nrm, ⟨[(46, vb)], rg 41 5, [], []⟩)] .none))))))))) := eqn Tryz.f392
theorem gL.eq : Eqn (Q [db.spec, dq.spec, cF.spec, aL.spec, aV.spec]) gL.spec (.r (.two (.piece [(.nrm, ⟨[], [10, 11, 12, 18, 19, 23, 24] ++ rg 28 5, [], []⟩), (.ret, ⟨[(9, vi)], rg 10 26, [(4, (.box (.frz aA)))], []⟩)] .none) (.l (.l (.piece [(.nrm, ⟨[(44, vb)], rg 36 8, [], []⟩)] .none))))) := eqn Tryz.f353
theorem fe.eq : Eqn (Q []) fe.spec (.r (.r (.r (.l (.r (.l (.loop ⟨[(17, vi)], [4, 5, 7] ++ rg 18 17, [(2, (.own .i))], []⟩ [(.ext 0, ⟨[], [4, 5, 7] ++ rg 17 18, [(2, (.own .i))], []⟩)] (.r (.r (.l (.l (.r (.r (.l (.loop ⟨[(25, vi)], [7] ++ rg 26 8, [(2, (.own .i))], []⟩ [(.ext 2, ⟨[], [7] ++ rg 25 9, [(2, (.own .i))], []⟩)] .none))))))))))))))) := eqn Tryz.f15
theorem bn.eq : Eqn (Q []) bn.spec (.r (.l (.r (.l (.two (.piece [(.nrm, ⟨[(4, vb)], [5, 6], [], []⟩)] .none) (.r (.two (.piece [(.nrm, ⟨[(7, vb)], [8, 9], [], []⟩)] .none) (.r (.two (.piece [(.nrm, ⟨[(10, vb)], [11, 12], [], []⟩)] .none) (.r (.l (.piece [(.nrm, ⟨[(13, vb)], [14, 15], [], []⟩)] .none)))))))))))) := eqn Tryz.f346
theorem au.eq : Eqn (Q [fy.spec]) au.spec (.r (.l (.r (.l (.loop ⟨[(8, vi)], [4, 5] ++ rg 9 10, [], []⟩ [(.ext 0, ⟨[], [4, 5] ++ rg 8 11, [], []⟩), (.ret, ⟨[(4, vi)], [5] ++ rg 8 11, [], []⟩)] .none))))) := eqn Tryz.f121
theorem ch.eq : Eqn (Q [bP.spec]) ch.spec (.r (.r (.l (.l (.loop ⟨[(5, (false, (.own .y)))], rg 6 24, [(0, bH)], []⟩ [(.ext 0, ⟨[(5, (false, (.own .y)))], rg 6 24, [(0, bH)], []⟩)] .none))))) := eqn Tryz.f139
theorem jk.eq : Eqn (Q [aV.spec]) jk.spec (.r (.l (.r (.l (.loop ⟨[(7, vi)], [2, 3, 4] ++ rg 8 10, [], []⟩ [(.ext 0, ⟨[], [2, 3, 4] ++ rg 7 11, [], []⟩), (.ret, ⟨[(2, vb)], [3, 4] ++ rg 7 11, [], []⟩)] .none))))) := eqn Tryz.f27
theorem ef.eq : Eqn (Q [jw.spec, bP.spec, cS.spec]) ef.spec (.r (.r (.l (.l (.r (.r (.l (.piece [(.nrm, ⟨[(17, vb)], rg 18 6, [], []⟩)] .none)))))))) := eqn Tryz.f141
theorem bA.eq (G : bG) : Eqn (Q [ax.spec, aj.spec G, dH.spec]) (bA.g.sp 117 fun x => R.bA G x.1 x.2.1 x.2.2) .none := eqn Tryz.f117
theorem ib.eq : Eqn (Q []) ib.spec (.r (.r (.l (.r (.l (.loop ⟨[(5, (false, (.own .i))), (8, vi)], rg 9 5, [], []⟩ [(.ext 0, ⟨[(5, (false, (.own .i)))], rg 8 6, [], []⟩)] .none)))))) := eqn Tryz.f79
theorem aQ.eq (G : ay) : Eqn (Q [dt.spec G, cc.spec]) (aQ.g.sp 63 fun x => R.aQ G x.1 x.2.1 x.2.2.1 x.2.2.2) .none := eqn Tryz.f63
theorem kD.eq : Eqn (Q [lC.spec, nI.spec, nG.spec, nJ.spec, nH.spec, lK.spec, dc.spec, ff.spec]) kD.spec .none := eqn Tryz.f290
theorem gR.eq : Eqn (Q [ea.spec, gK.spec]) gR.spec (.r (.l (.l (.piece [(.nrm, ⟨[(21, vb)], rg 5 16, [], []⟩)] .none)))) := eqn Tryz.f398
theorem dv.eq : Eqn (Q [ko.spec, jd 67 (.int .u16), cQ.spec, kq.spec, ae.spec]) dv.spec .none := eqn Tryz.f37
theorem bZ.eq : Eqn (Q [eO.spec]) bZ.spec .none := eqn Tryz.f110
theorem eV.eq : Eqn (Q [al.spec]) eV.spec .none := eqn Tryz.f124
theorem iM.eq : Eqn (Q [cQ.spec, lb.spec, jO.spec]) iM.spec .none := eqn Tryz.f293
theorem gM.eq : Eqn (Q [aX.spec, gX.spec]) gM.spec .none := eqn Tryz.f169
theorem jO.eq : Eqn (Q [ec.spec, fG.spec, jY.spec]) jO.spec .none := eqn Tryz.f232
theorem di.eq : Eqn (Q [lX.spec, jd 123 (.int .u32)]) di.spec .none := eqn Tryz.f97
theorem bJ.eq : Eqn (Q [bc.spec]) bJ.spec .none := eqn Tryz.f261
theorem iY.eq : Eqn (Q [dw.spec]) iY.spec .none := eqn Tryz.f163
theorem ec.eq : Eqn (Q [mF.spec, fB.spec]) ec.spec .none := eqn Tryz.f95
theorem fK.eq : Eqn (Q []) fK.spec .none := eqn Tryz.f417
theorem iu.eq : Eqn (Q []) iu.spec .none := eqn Tryz.f32
theorem kP.eq : Eqn (Q []) kP.spec .none := eqn Tryz.f174
theorem lg.eq : Eqn (Q []) lg.spec .none := eqn Tryz.f101
theorem kZ.eq : Eqn (Q []) kZ.spec .none := eqn Tryz.f137
theorem lX.eq : Eqn (Q []) lX.spec .none := eqn Tryz.f45
end Go.Mach
