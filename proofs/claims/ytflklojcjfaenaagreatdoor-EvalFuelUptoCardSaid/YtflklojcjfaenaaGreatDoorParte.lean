/-
  Proved here: the law renlaw12.EvalFuel returns true for every input of the stated bulk and leaves its arguments as they were; no further condition.
  By an AI agent; no person has read it.
-/
import Derived.Test.YtflklojcjfaenaaGreatDoorPartd
import Derived.KernelRfl
import Derived.Test.YtflklojcjfaenaaGreatDoorProg
set_option linter.all false
set_option linter.deprecated false
set_option linter.unusedVariables false
set_option maxRecDepth 20000
noncomputable section
namespace Go.Mach
abbrev lV.g : Sg := ⟨[.val true (.frz aI), .val true (.frz aI)], [vb]⟩
def R.lV (a_0 : aI.den) (b_1 : aI.den) : Res (Bool) :=
  Res.given (lV.g.i (a_0, b_1)) (Res.bind (R.ec a_0) fun r1 => Res.given (ec.g.o r1) (Res.bind (R.ec b_1) fun r2 => Res.given (ec.g.o r2) (Res.bind (R.fG r1) fun r3 => Res.br (!r3) (Res.bind (R.fG r2) fun r4 => Res.br (!r4) (Res.bind (R.jY r1) fun r5 => Res.given (jY.g.o r5) (Res.bind (R.jY r2) fun r6 => Res.given (jY.g.o r6) (Res.ok ((ilt r5 r6))))) (Res.ok (false))) (Res.ok (false)))))
abbrev kQ.g : Sg := ⟨[.val true (.bor (.seq .i (.seq (.frz aI) (.seq (.seq .b (.own .w)) (.seq (.own .h) .i))))), .val true (.bor (.seq .i (.seq (.frz aI) (.seq (.seq .b (.own .w)) (.seq (.own .h) .i)))))], [vi, vb]⟩
def R.kQ (x_0 : aA.den) (y_1 : aA.den) : Res ((Int × Bool)) :=
  Res.given (kQ.g.i (x_0, y_1)) (Res.bind (α := Bool) (Res.br (x_0.1 == 4) (Res.ok ((y_1.1 == 4))) (Res.ok (false))) fun x1 => Res.br x1 (Res.bind (R.lB x_0.2.2.1 y_1.2.2.1) fun r2 => Res.given (lB.g.o r2) (Res.ok ((r2, true)))) (Res.br (x_0.1 == 4) (Res.bind (R.im x_0.2.2.1 y_1.2.1) fun r3 => Res.given (im.g.o r3) (Res.ok (r3))) (Res.br (y_1.1 == 4) (Res.bind (R.im y_1.2.2.1 x_0.2.1) fun r4 => Res.given (im.g.o r4) (Res.ok ((IntKind.wrap .i64 (0 - r4.1), r4.2)))) (Res.bind (R.lV x_0.2.1 y_1.2.1) fun r5 => Res.br r5 (Res.ok (((-1), true))) (Res.bind (R.jO x_0.2.1 y_1.2.1) fun r6 => Res.br r6 (Res.ok ((0, true))) (Res.bind (R.lV y_1.2.1 x_0.2.1) fun r7 => Res.ok ((1, r7))))))))
abbrev jE.g : Sg := ⟨[.val true (.frz aA), .val true (.frz aA), .b, .b], [(true, (.frz aA)), vi]⟩
def R.jE (a_0 : aA.den) (b_1 : aA.den) (turned_2 : Bool) (not_3 : Bool) : Res ((aA.den × Int)) :=
  Res.given (jE.g.i (a_0, (b_1, (turned_2, not_3)))) (Res.bind (α := Bool) (Res.br (a_0.1 == 6) (Res.ok (true)) (Res.ok ((b_1.1 == 6)))) fun x1 => Res.br x1 (Res.ok (((0, ((0, 0), ((false, ([] : List Int)), (([] : List Int), 0)))), 3))) (Res.bind (α := Bool) (Res.br (a_0.1 == 5) (Res.ok ((b_1.1 == 5))) (Res.ok (false))) fun x2 => Res.br x2 (Res.bind (α := (aA.den × aA.den)) (Res.br turned_2 (Res.ok ((b_1, a_0))) (Res.ok ((a_0, b_1)))) fun x3 => Res.bind (R.ld x3.1.2.2.2.1 x3.2.2.2.2.1) fun r4 => Res.bind (R.bT (!(r4 == not_3))) fun r5 => Res.given (bT.g.o r5) (Res.ok ((r5, 0)))) (Res.bind (α := Bool) (Res.br (a_0.1 == 5) (Res.br (b_1.1 == 4) (Res.ok (true)) (Res.br (a_0.1 == 4) (Res.ok ((b_1.1 == 5))) (Res.ok (false)))) (Res.br (a_0.1 == 4) (Res.ok ((b_1.1 == 5))) (Res.ok (false)))) fun x6 => Res.br x6 (Res.ok (((0, ((0, 0), ((false, ([] : List Int)), (([] : List Int), 0)))), 3))) (Res.bind (R.dC a_0) fun r7 => Res.given (dC.g.o r7) (Res.br (!(r7.2 == 0)) (Res.ok (((0, ((0, 0), ((false, ([] : List Int)), (([] : List Int), 0)))), r7.2))) (Res.bind (R.dC b_1) fun r8 => Res.given (dC.g.o r8) (Res.br (!(r8.2 == 0)) (Res.ok (((0, ((0, 0), ((false, ([] : List Int)), (([] : List Int), 0)))), r8.2))) (Res.bind (α := (aA.den × aA.den)) (Res.br turned_2 (Res.ok ((r8.1, r7.1))) (Res.ok ((r7.1, r8.1)))) fun x9 => Res.bind (R.kQ x9.1 x9.2) fun r10 => Res.given (kQ.g.o r10) (Res.br r10.2 (Res.bind (R.bT (!((ilt r10.1 0) == not_3))) fun r11 => Res.given (bT.g.o r11) (Res.ok ((r11, 0)))) (Res.bind (R.bT false) fun r12 => Res.given (bT.g.o r12) (Res.ok ((r12, 0)))))))))))))
abbrev eW.g : Sg := ⟨[.val false (.bor (.own .w)), .val false (.bor (.own .w))], [vb]⟩
def R.eW (s1_0 : (List Int)) (s2_1 : (List Int)) : Res (Bool) :=
  Res.given (eW.g.i (s1_0, s2_1)) (Res.br (!((s1_0.length : Int) == (s2_1.length : Int))) (Res.ok (false)) (Res.bind (Res.loop (α := Int) (β := (Unit ⊕ Bool)) (fun x1 => Res.br (ilt x1 (s1_0.length : Int)) (Res.eN .w s1_0 x1 fun e2 => Res.eN .w s2_1 x1 fun e3 => Res.br (!(e2 == e3)) (Res.ok (.done (.inr false))) (Res.ok (.next (IntKind.wrap .i64 (x1 + 1))))) (Res.ok (.done (.inl ())))) fuel 0) fun x4 => Res.sum x4 (fun x5 => Res.ok (true)) (fun z6 => Res.ok (z6))))
abbrev lb.g : Sg := ⟨[.val true (.bor (.seq .i (.seq (.frz aI) (.seq (.seq .b (.own .w)) (.seq (.own .h) .i))))), .val true (.bor (.seq .i (.seq (.frz aI) (.seq (.seq .b (.own .w)) (.seq (.own .h) .i)))))], [vb]⟩
def R.lb (a_0 : aA.den) (b_1 : aA.den) : Res (Bool) :=
  Res.given (lb.g.i (a_0, b_1)) (Res.br (a_0.1 == b_1.1) (Res.br ((a_0.2.1.1 == b_1.2.1.1) && ((a_0.2.1.2 == b_1.2.1.2) && true)) (Res.br (a_0.2.2.1.1 == b_1.2.2.1.1) (Res.bind (R.eW a_0.2.2.1.2 b_1.2.2.1.2) fun r1 => Res.br r1 (Res.bind (R.dw a_0.2.2.2.1 b_1.2.2.2.1) fun r2 => Res.br r2 (Res.ok ((a_0.2.2.2.2 == b_1.2.2.2.2))) (Res.ok (false))) (Res.ok (false))) (Res.ok (false))) (Res.ok (false))) (Res.ok (false)))
abbrev iM.g : Sg := ⟨[.val true (.frz aA), .val true (.frz aA)], [vb]⟩
def R.iM (a_0 : aA.den) (b_1 : aA.den) : Res (Bool) :=
  Res.given (iM.g.i (a_0, b_1)) (Res.bind (R.cQ a_0) fun r1 => Res.given (cQ.g.o r1) (Res.bind (R.cQ b_1) fun r2 => Res.given (cQ.g.o r2) (Res.br (!(r1.1 == r2.1)) (Res.ok (false)) (Res.br (r1.1 == 3) (Res.bind (R.jO r1.2.1 r2.2.1) fun r3 => Res.ok (r3)) (Res.bind (R.lb r1 r2) fun r4 => Res.ok (r4))))))
abbrev kV.g : Sg := ⟨[.val true (.bor (.seq .i (.seq (.frz aI) (.seq (.seq .b (.own .w)) (.seq (.own .h) .i)))))], [vb]⟩
def R.kV (v_0 : aA.den) : Res (Bool) :=
  Res.given (kV.g.i v_0) (Res.br (v_0.1 == 0) (Res.ok (true)) (Res.ok ((v_0.1 == 1))))
abbrev iA.g : Sg := ⟨[.val true (.frz aA)], [(true, (.frz aA))]⟩
def R.iA (v_0 : aA.den) : Res (aA.den) :=
  Res.given (iA.g.i v_0) (Res.br (v_0.1 == 2) (Res.bind (R.cu (0, v_0.2.2.2.2)) fun r1 => Res.given (cu.g.o r1) (Res.ok (r1))) (Res.ok (v_0)))
abbrev mL.g : Sg := ⟨[.val true (.bor (.seq .b (.own .w))), .val true (.bor (.seq .b (.own .w)))], [vb]⟩
def R.mL (a_0 : az.den) (b_1 : az.den) : Res (Bool) :=
  Res.given (mL.g.i (a_0, b_1)) (Res.bind (R.lB a_0 b_1) fun r1 => Res.given (lB.g.o r1) (Res.ok ((r1 == 0))))
abbrev kl.g : Sg := ⟨[.val true (.bor (.seq .b (.own .w))), .val true (.frz aI)], [vb]⟩
def R.kl (b_0 : az.den) (a_1 : aI.den) : Res (Bool) :=
  Res.given (kl.g.i (b_0, a_1)) (Res.br (a_1.1 == 1) (Res.br ((b_0.2.length : Int) == 0) (Res.ok (true)) (Res.br (a_1.1 == 0) (Res.bind (R.kU a_1.2) fun r1 => Res.given (kU.g.o r1) (Res.bind (R.mL b_0 r1) fun r2 => Res.ok (r2))) (Res.ok (false)))) (Res.br (a_1.1 == 0) (Res.bind (R.kU a_1.2) fun r3 => Res.given (kU.g.o r3) (Res.bind (R.mL b_0 r3) fun r4 => Res.ok (r4))) (Res.ok (false))))
abbrev kW.g : Sg := ⟨[.val true (.frz aA), .val true (.frz aA)], [vb, vi]⟩
def R.kW (a_0 : aA.den) (b_1 : aA.den) : Res ((Bool × Int)) :=
  Res.given (kW.g.i (a_0, b_1)) (Res.bind (R.cQ a_0) fun r1 => Res.given (cQ.g.o r1) (Res.bind (R.cQ b_1) fun r2 => Res.given (cQ.g.o r2) (Res.br (r1.1 == r2.1) (Res.bind (R.iM r1 r2) fun r3 => Res.ok ((r3, 0))) (Res.bind (α := Bool) (Res.bind (R.kV r1) fun r4 => Res.br r4 (Res.ok (true)) (Res.bind (R.kV r2) fun r5 => Res.ok (r5))) fun x6 => Res.br x6 (Res.bind (R.kV r1) fun r7 => Res.br r7 (Res.bind (R.kV r2) fun r8 => Res.ok ((r8, 0))) (Res.ok ((false, 0)))) (Res.bind (R.iA r1) fun r9 => Res.given (iA.g.o r9) (Res.bind (R.iA r2) fun r10 => Res.given (iA.g.o r10) (Res.bind (α := (aA.den × aA.den)) (Res.br (ilt r10.1 r9.1) (Res.ok ((r10, r9))) (Res.ok ((r9, r10)))) fun x11 => Res.br (x11.1.1 == x11.2.1) (Res.bind (R.iM x11.1 x11.2) fun r12 => Res.ok ((r12, 0))) (Res.bind (α := Bool) (Res.br (x11.1.1 == 3) (Res.ok ((x11.2.1 == 4))) (Res.ok (false))) fun x13 => Res.br x13 (Res.bind (R.kl x11.2.2.2.1 x11.1.2.1) fun r14 => Res.ok ((r14, 0))) (Res.bind (α := Bool) (Res.br (x11.1.1 == 3) (Res.ok ((x11.2.1 == 5))) (Res.ok (false))) fun x15 => Res.br x15 (Res.bind (R.bu x11.2) fun r16 => Res.given (bu.g.o r16) (Res.br (r16.2 == 0) (Res.bind (R.jO x11.1.2.1 r16.1) fun r17 => Res.ok ((r17, r16.2))) (Res.ok ((false, r16.2))))) (Res.ok ((false, 3))))))))))))
abbrev iP.g : Sg := ⟨[.s, .val true (.frz aA), .val true (.frz aA)], [(true, (.frz aA)), vi]⟩
def R.iP (op_0 : (List UInt8)) (a_1 : aA.den) (b_2 : aA.den) : Res ((aA.den × Int)) :=
  Res.given (iP.g.i (op_0, (a_1, b_2))) (Res.bind (R.cQ a_1) fun r1 => Res.given (cQ.g.o r1) (Res.bind (R.cQ b_2) fun r2 => Res.given (cQ.g.o r2) (Res.br (op_0 == [43]) (Res.bind (α := Bool) (Res.br (r1.1 == 5) (Res.ok (true)) (Res.ok ((r2.1 == 5)))) fun x3 => Res.br x3 (Res.bind (R.lR r1 r2) fun r4 => Res.given (lR.g.o r4) (Res.ok (r4))) (Res.bind (R.kD op_0 r1 r2) fun r5 => Res.given (kD.g.o r5) (Res.ok (r5)))) (Res.bind (α := Bool) (Res.br (op_0 == [45]) (Res.ok ((op_0 == [45]))) (Res.br (op_0 == [42]) (Res.ok ((op_0 == [42]))) (Res.br (op_0 == [47]) (Res.ok ((op_0 == [47]))) (Res.ok ((op_0 == [37])))))) fun x6 => Res.br x6 (Res.bind (R.kD op_0 r1 r2) fun r7 => Res.given (kD.g.o r7) (Res.ok (r7))) (Res.bind (α := Bool) (Res.br (op_0 == [38]) (Res.ok ((op_0 == [38]))) (Res.br (op_0 == [124]) (Res.ok ((op_0 == [124]))) (Res.br (op_0 == [94]) (Res.ok ((op_0 == [94]))) (Res.br (op_0 == [60, 60]) (Res.ok ((op_0 == [60, 60]))) (Res.br (op_0 == [62, 62]) (Res.ok ((op_0 == [62, 62]))) (Res.ok ((op_0 == [62, 62, 62])))))))) fun x8 => Res.br x8 (Res.bind (R.lM op_0 r1 r2) fun r9 => Res.given (lM.g.o r9) (Res.ok (r9))) (Res.br (op_0 == [60]) (Res.bind (R.jE r1 r2 false false) fun r10 => Res.given (jE.g.o r10) (Res.ok (r10))) (Res.br (op_0 == [62]) (Res.bind (R.jE r1 r2 true false) fun r11 => Res.given (jE.g.o r11) (Res.ok (r11))) (Res.br (op_0 == [60, 61]) (Res.bind (R.jE r1 r2 true true) fun r12 => Res.given (jE.g.o r12) (Res.ok (r12))) (Res.br (op_0 == [62, 61]) (Res.bind (R.jE r1 r2 false true) fun r13 => Res.given (jE.g.o r13) (Res.ok (r13))) (Res.br (op_0 == [61, 61, 61]) (Res.bind (R.iM r1 r2) fun r14 => Res.bind (R.bT r14) fun r15 => Res.given (bT.g.o r15) (Res.ok ((r15, 0)))) (Res.br (op_0 == [33, 61, 61]) (Res.bind (R.iM r1 r2) fun r16 => Res.bind (R.bT (!r16)) fun r17 => Res.given (bT.g.o r17) (Res.ok ((r17, 0)))) (Res.bind (α := Bool) (Res.br (op_0 == [61, 61]) (Res.ok ((op_0 == [61, 61]))) (Res.ok ((op_0 == [33, 61])))) fun x18 => Res.br x18 (Res.bind (R.kW r1 r2) fun r19 => Res.given (kW.g.o r19) (Res.br (!(r19.2 == 0)) (Res.ok (((0, ((0, 0), ((false, ([] : List Int)), (([] : List Int), 0)))), r19.2))) (Res.bind (R.bT (r19.1 == (op_0 == [61, 61]))) fun r20 => Res.given (bT.g.o r20) (Res.ok ((r20, 0)))))) (Res.ok (((0, ((0, 0), ((false, ([] : List Int)), (([] : List Int), 0)))), 3)))))))))))))))
abbrev cA.g : Sg := ⟨[.val false (.bor (.own (.frz aA))), .i], [(true, (.frz aA))]⟩
def R.cA (l_0 : (List aA.den)) (i_1 : Int) : Res (aA.den) :=
  Res.given (cA.g.i (l_0, i_1)) (Res.br (ilt i_1 (l_0.length : Int)) (Res.eN (.frz aA) l_0 i_1 fun e1 => Res.ok (e1)) (Res.ok ((0, ((0, 0), ((false, ([] : List Int)), (([] : List Int), 0)))))))
abbrev fw.g : Sg := ⟨[.val true (.frz aI)], [(true, (.frz aI))]⟩
def R.fw (a_0 : aI.den) : Res (aI.den) :=
  Res.given (fw.g.i a_0) (Res.bind (R.ec a_0) fun r1 => Res.given (ec.g.o r1) (Res.bind (α := Bool) (Res.br (r1.1 == 2) (Res.ok (true)) (Res.ok ((r1.1 == 1)))) fun x2 => Res.br x2 (Res.bind (R.dA 0) fun r3 => Res.given (dA.g.o r3) (Res.ok (r3))) (Res.ok (r1))))
abbrev lN.g : Sg := ⟨[.val true (.frz aI)], [vi, vb]⟩
def R.lN (a_0 : aI.den) : Res ((Int × Bool)) :=
  Res.given (lN.g.i a_0) (Res.bind (R.fw a_0) fun r1 => Res.given (fw.g.o r1) (Res.bind (α := Bool) (Res.br (!(r1.1 == 0)) (Res.ok (true)) (Res.ok ((ilt r1.2 0)))) fun x2 => Res.br x2 (Res.ok ((0, false))) (Res.ok ((r1.2, true)))))
abbrev dU.g : Sg := ⟨[.val true (.frz aA)], [vi, vi]⟩
def R.dU (v_0 : aA.den) : Res ((Int × Int)) :=
  Res.given (dU.g.i v_0) (Res.bind (R.cQ v_0) fun r1 => Res.given (cQ.g.o r1) (Res.br (r1.1 == 0) (Res.ok ((0, 0))) (Res.bind (R.bu r1) fun r2 => Res.given (bu.g.o r2) (Res.br (!(r2.2 == 0)) (Res.ok ((0, r2.2))) (Res.bind (R.lN r2.1) fun r3 => Res.given (lN.g.o r3) (Res.br (!r3.2) (Res.ok ((0, 2))) (Res.ok ((r3.1, 0)))))))))
abbrev fJ.g : Sg := ⟨[.obj aF, .val false (.bor (.own (.frz aA)))], [(true, (.frz aA)), vi]⟩
def R.fJ (r_0 : aF.den) (l_1 : (List aA.den)) : Res ((aA.den × Int) × aF.den) :=
  Res.given (fJ.g.i (r_0, l_1)) (Res.bind (R.cA l_1 0) fun r1 => Res.given (cA.g.o r1) (Res.bind (R.dU r1) fun r2 => Res.given (dU.g.o r2) (Res.br (!(r2.2 == 0)) (Res.bind (R.aC r_0 r2.2) fun r3 => Res.given (aC.g.o r3) (Res.ok (r3))) (Res.bind (R.cA l_1 1) fun r4 => Res.given (cA.g.o r4) (Res.br (!(r4.1 == 0)) (Res.bind (R.aL r_0) fun r5 => Res.given (aL.g.o r5) (Res.ok (r5))) (Res.bind (R.cR r_0 (1, (0, (0, (0, (0, (false, (false, (0, (0, ((0, 0), (([] : List Int), r2.1)))))))))))) fun r6 => Res.given (cR.g.o r6) (Res.br (!(r6.1.2 == 0)) (Res.ok ((((0, ((0, 0), ((false, ([] : List Int)), (([] : List Int), 0)))), r6.1.2), r6.2))) (Res.br (!(r6.1.1.2.1 == 0)) (Res.bind (R.aC r6.2 2) fun r7 => Res.given (aC.g.o r7) (Res.ok (r7))) (Res.bind (R.aX r6.2 (6, (0, (([] : List bo.den), (([] : List bd.den), (([] : List UInt8), (0, (0, ((0, ((0, 0), ((false, ([] : List Int)), (([] : List Int), 0)))), (0, (r6.1.1.2.2.1, (0, (r2.1, ([] : List Int)))))))))))))) fun r8 => Res.given (aX.g.o r8) (Res.ok (r8)))))))))))
abbrev fQ.g : Sg := ⟨[.val false (.bor aF), .val true (.bor (.seq .i (.seq (.frz aI) (.seq (.seq .b (.own .w)) (.seq (.own .h) .i)))))], [vb]⟩
def R.fQ (r_0 : ((List aB.den) × (iy.den × ((List hJ.den) × (Int × (ir.den × (Int × (Int × (iU.den × kS.den))))))))) (v_1 : aA.den) : Res (Bool) :=
  Res.given (fQ.g.i (r_0, v_1)) (Res.br (!(v_1.1 == 6)) (Res.ok (false)) (Res.bind (R.bJ r_0.2.2.2.2.1 v_1.2.2.2.2) fun r1 => Res.given (bJ.g.o r1) (Res.br (r1 == 5) (Res.ok (true)) (Res.ok ((r1 == 6))))))
abbrev fL.g : Sg := ⟨[.obj aF, .val false (.bor (.own (.frz aA)))], [(true, (.frz aA)), vi]⟩
def R.fL (r_0 : aF.den) (l_1 : (List aA.den)) : Res ((aA.den × Int) × aF.den) :=
  Res.given (fL.g.i (r_0, l_1)) (Res.bind (R.cA l_1 0) fun r1 => Res.given (cA.g.o r1) (Res.bind (R.fQ r_0 r1) fun r2 => Res.br (!r2) (Res.bind (R.aC r_0 1) fun r3 => Res.given (aC.g.o r3) (Res.ok (r3))) (Res.bind (R.eX r_0 r1.2.2.2.2) fun r4 => Res.given (eX.g.o r4) (Res.bind (R.cA l_1 1) fun r5 => Res.given (cA.g.o r5) (Res.bind (R.dU r5) fun r6 => Res.given (dU.g.o r6) (Res.br (!(r6.2 == 0)) (Res.bind (R.aC r_0 r6.2) fun r7 => Res.given (aC.g.o r7) (Res.ok (r7))) (Res.br (ilt r4 r6.1) (Res.bind (R.aC r_0 2) fun r8 => Res.given (aC.g.o r8) (Res.ok (r8))) (Res.bind (α := (Int ⊕ (Int × (aF.den × aA.den)))) (Res.bind (R.cA l_1 2) fun r9 => Res.given (cA.g.o r9) (Res.br (!(r9.1 == 0)) (Res.bind (R.dU r9) fun r10 => Res.given (dU.g.o r10) (Res.br (!(r10.2 == 0)) (Res.bind (R.aC r_0 r10.2) fun r11 => Res.given (aC.g.o r11) (Res.ok (.inr (r11.1.2, (r11.2, r11.1.1))))) (Res.br (ilt (IntKind.wrap .i64 (r4 - r6.1)) r10.1) (Res.bind (R.aC r_0 2) fun r12 => Res.given (aC.g.o r12) (Res.ok (.inr (r12.1.2, (r12.2, r12.1.1))))) (Res.ok (.inl r10.1))))) (Res.ok (.inl (IntKind.wrap .i64 (r4 - r6.1)))))) fun n13 => Res.sum n13 (fun n14 => Res.bind (R.aX r_0 (8, (0, (([] : List bo.den), (([] : List bd.den), (([] : List UInt8), (0, (0, ((0, ((0, 0), ((false, ([] : List Int)), (([] : List Int), 0)))), (0, (r1.2.2.2.2, (r6.1, (n14, ([] : List Int)))))))))))))) fun r16 => Res.given (aX.g.o r16) (Res.ok (r16))) (fun z15 => Res.ok (((z15.2.2, z15.1), z15.2.1)))))))))))
abbrev eC.g : Sg := ⟨[.s, .s], [vb]⟩
def R.eC (s_0 : (List UInt8)) (suffix_1 : (List UInt8)) : Res (Bool) :=
  Res.given (eC.g.i (s_0, suffix_1)) (Res.br (ile (suffix_1.length : Int) (s_0.length : Int)) (Res.ai (ile 0 (IntKind.wrap .i64 ((s_0.length : Int) - (suffix_1.length : Int))) && ile (IntKind.wrap .i64 ((s_0.length : Int) - (suffix_1.length : Int))) s_0.length) (Res.ok (((List.drop (Int.toNat (IntKind.wrap .i64 ((s_0.length : Int) - (suffix_1.length : Int)))) s_0) == suffix_1)))) (Res.ok (false)))
abbrev dh.g : Sg := ⟨[.s, .s], [vs, vb]⟩
def R.dh (s_0 : (List UInt8)) (suffix_1 : (List UInt8)) : Res (((List UInt8) × Bool)) :=
  Res.given (dh.g.i (s_0, suffix_1)) (Res.bind (R.eC s_0 suffix_1) fun r1 => Res.br (!r1) (Res.ok ((s_0, false))) (Res.ai (ile 0 (IntKind.wrap .i64 ((s_0.length : Int) - (suffix_1.length : Int))) && ile (IntKind.wrap .i64 ((s_0.length : Int) - (suffix_1.length : Int))) s_0.length) (Res.ok (((List.take (Int.toNat (IntKind.wrap .i64 ((s_0.length : Int) - (suffix_1.length : Int)))) s_0), true)))))
abbrev eh.g : Sg := ⟨[.s, .s], [vs, vb]⟩
def R.eh (s_0 : (List UInt8)) (suffix_1 : (List UInt8)) : Res (((List UInt8) × Bool)) :=
  Res.given (eh.g.i (s_0, suffix_1)) (Res.bind (R.dh s_0 suffix_1) fun r1 => Res.given (dh.g.o r1) (Res.ok (r1)))
abbrev gV.g : Sg := ⟨[.s], [vi]⟩
def R.gV (s_0 : (List UInt8)) : Res (Int) :=
  Res.given (gV.g.i s_0) (Res.bind (R.fb) fun r1 => Res.given (fb.g.o r1) (Res.bind (R.cT r1 s_0) fun r2 => Res.given (cT.g.o r2) (Res.ok (IntKind.wrap .i64 (1 + r2)))))
abbrev kL.g : Sg := ⟨[.s], [vi]⟩
def R.kL (s_0 : (List UInt8)) : Res (Int) :=
  Res.given (kL.g.i s_0) (Res.bind (R.eh s_0 [65, 114, 114, 97, 121]) fun r1 => Res.given (eh.g.o r1) (Res.br r1.2 (Res.bind (R.gV r1.1) fun r2 => Res.given (gV.g.o r2) (Res.ok (r2))) (Res.ok (0))))
abbrev iH.g : Sg := ⟨[.obj aF, .i, .i, .val true (.frz aA), .val true (.frz aA)], [(true, (.frz aA)), vi]⟩
def R.iH (r_0 : aF.den) (kind_1 : Int) (ref_2 : Int) (b_3 : aA.den) (c_4 : aA.den) : Res ((aA.den × Int) × aF.den) :=
  Res.given (iH.g.i (r_0, (kind_1, (ref_2, (b_3, c_4))))) (Res.bind (R.bn kind_1) fun r1 => Res.given (bn.g.o r1) (Res.bind (R.eX r_0 ref_2) fun r2 => Res.given (eX.g.o r2) (Res.bind (R.dU b_3) fun r3 => Res.given (dU.g.o r3) (Res.br (!(r3.2 == 0)) (Res.bind (R.aC r_0 r3.2) fun r4 => Res.given (aC.g.o r4) (Res.ok (r4))) (Res.ai (!(r1 == 0)) (Res.br (!((Int.tmod r3.1 r1) == 0)) (Res.bind (R.aC r_0 2) fun r5 => Res.given (aC.g.o r5) (Res.ok (r5))) (Res.bind (α := (Int ⊕ (Int × (aF.den × aA.den)))) (Res.br (!(c_4.1 == 0)) (Res.bind (R.dU c_4) fun r6 => Res.given (dU.g.o r6) (Res.br (!(r6.2 == 0)) (Res.bind (R.aC r_0 r6.2) fun r7 => Res.given (aC.g.o r7) (Res.ok (.inr (r7.1.2, (r7.2, r7.1.1))))) (Res.ok (.inl r6.1)))) (Res.ok (.inl 0))) fun n8 => Res.sum n8 (fun n9 => Res.bind (α := (Int ⊕ (Int × (aF.den × aA.den)))) (Res.bind (α := Bool) (Res.br (c_4.1 == 0) (Res.ai (!(r1 == 0)) (Res.br (!((Int.tmod r2 r1) == 0)) (Res.ok (true)) (Res.br (ilt r2 r3.1) (Res.ok (true)) (Res.ai (!(r1 == 0)) (Res.ok ((ilt (IntKind.wrap .i64 (Int.tdiv (IntKind.wrap .i64 (r2 - r3.1)) r1)) n9))))))) (Res.br (ilt r2 r3.1) (Res.ok (true)) (Res.ai (!(r1 == 0)) (Res.ok ((ilt (IntKind.wrap .i64 (Int.tdiv (IntKind.wrap .i64 (r2 - r3.1)) r1)) n9)))))) fun x11 => Res.br x11 (Res.bind (R.aC r_0 2) fun r12 => Res.given (aC.g.o r12) (Res.ok (.inr (r12.1.2, (r12.2, r12.1.1))))) (Res.br (c_4.1 == 0) (Res.ai (!(r1 == 0)) (Res.ok (.inl (IntKind.wrap .i64 (Int.tdiv (IntKind.wrap .i64 (r2 - r3.1)) r1))))) (Res.ok (.inl n9)))) fun n13 => Res.sum n13 (fun n14 => Res.bind (R.aX r_0 (7, (0, (([] : List bo.den), (([] : List bd.den), (([] : List UInt8), (0, (0, ((0, ((0, 0), ((false, ([] : List Int)), (([] : List Int), 0)))), (kind_1, (ref_2, (r3.1, (n14, ([] : List Int)))))))))))))) fun r16 => Res.given (aX.g.o r16) (Res.ok (r16))) (fun z15 => Res.ok (((z15.2.2, z15.1), z15.2.1)))) (fun z10 => Res.ok (((z10.2.2, z10.1), z10.2.1))))))))))
abbrev fp.g : Sg := ⟨[.obj aF, .i, .val false (.bor (.own (.frz aA)))], [(true, (.frz aA)), vi]⟩
def R.fp (r_0 : aF.den) (kind_1 : Int) (l_2 : (List aA.den)) : Res ((aA.den × Int) × aF.den) :=
  Res.given (fp.g.i (r_0, (kind_1, l_2))) (Res.bind (R.cA l_2 0) fun r1 => Res.given (cA.g.o r1) (Res.bind (R.cA l_2 1) fun r2 => Res.given (cA.g.o r2) (Res.bind (R.cA l_2 2) fun r3 => Res.given (cA.g.o r3) (Res.bind (R.bn kind_1) fun r4 => Res.given (bn.g.o r4) (Res.bind (R.fQ r_0 r1) fun r5 => Res.br r5 (Res.bind (R.iH r_0 kind_1 r1.2.2.2.2 r2 r3) fun r6 => Res.given (iH.g.o r6) (Res.ok (r6))) (Res.br (r1.1 == 6) (Res.bind (R.aL r_0) fun r7 => Res.given (aL.g.o r7) (Res.ok (r7))) (Res.bind (R.dU r1) fun r8 => Res.given (dU.g.o r8) (Res.br (!(r8.2 == 0)) (Res.bind (R.aC r_0 r8.2) fun r9 => Res.given (aC.g.o r9) (Res.ok (r9))) (Res.ai (!(r4 == 0)) (Res.br (ilt (IntKind.wrap .i64 (Int.tdiv 4096 r4)) r8.1) (Res.bind (R.aC r_0 2) fun r10 => Res.given (aC.g.o r10) (Res.ok (r10))) (Res.ai (ile 0 (IntKind.wrap .i64 (r8.1 * r4)) && (ile (IntKind.wrap .i64 (r8.1 * r4)) (IntKind.wrap .i64 (r8.1 * r4)) && decide ((Int.toNat (IntKind.wrap .i64 (r8.1 * r4))) * 1 ≤ 2 ^ 47))) (Res.bind (R.aX r_0 (5, (0, (([] : List bo.den), (([] : List bd.den), (([] : List UInt8), (0, (0, ((0, ((0, 0), ((false, ([] : List Int)), (([] : List Int), 0)))), (0, (0, (0, (0, (List.replicate (Int.toNat (IntKind.wrap .i64 (r8.1 * r4))) (0 : Int))))))))))))))) fun r11 => Res.given (aX.g.o r11) (Res.br (!(r11.1.2 == 0)) (Res.ok (r11)) (Res.bind (R.aX r11.2 (7, (0, (([] : List bo.den), (([] : List bd.den), (([] : List UInt8), (0, (0, ((0, ((0, 0), ((false, ([] : List Int)), (([] : List Int), 0)))), (kind_1, (r11.1.1.2.2.2.2, (0, (r8.1, ([] : List Int)))))))))))))) fun r12 => Res.given (aX.g.o r12) (Res.ok (r12))))))))))))))))
abbrev dG.g : Sg := ⟨[.val false (.bor (.own .h)), .val false (.bor (.own .h))], [vi]⟩
def R.dG (a_0 : (List Int)) (b_1 : (List Int)) : Res (Int) :=
  Res.given (dG.g.i (a_0, b_1)) (Res.bind (R.fg a_0) fun r1 => Res.given (fg.g.o r1) (Res.bind (R.fg b_1) fun r2 => Res.given (fg.g.o r2) (Res.ok (IntKind.wrap .i64 (r1.1 - r2.1)))))
abbrev aS.g : Sg := ⟨[.obj (.own (.frz (.list (.int .u16)))), .i, .i, .val false (.bor (.clo 405 .nil))], []⟩
def R.aS (data_0 : (List (List Int))) (a_1 : Int) (b_2 : Int) (cmp_3 : Unit) : Res (Unit × (List (List Int))) :=
  Res.given (aS.g.i (data_0, (a_1, (b_2, cmp_3)))) (Res.bind (Res.loop (α := (Int × (List (List Int)))) (β := (List (List Int))) (fun i1 => Res.br (ilt i1.1 b_2) (Res.bind (Res.loop (α := (Int × (List (List Int)))) (β := (List (List Int))) (fun j2 => Res.bind (α := Bool) (Res.br (ilt a_1 j2.1) (Res.ai (ile 0 j2.1 && ilt j2.1 j2.2.length) (Res.idx (.list (.int .u16)) j2.2 (0 + Int.toNat j2.1) fun e3 => Res.ai (ile 0 (IntKind.wrap .i64 (j2.1 - 1)) && ilt (IntKind.wrap .i64 (j2.1 - 1)) j2.2.length) (Res.idx (.list (.int .u16)) j2.2 (0 + Int.toNat (IntKind.wrap .i64 (j2.1 - 1))) fun e4 => Res.bind (R.dG e3 e4) fun r5 => Res.given (dG.g.o r5) (Res.ok ((ilt r5 0)))))) (Res.ok (false))) fun x6 => Res.br x6 (Res.ai (ile 0 (IntKind.wrap .i64 (j2.1 - 1)) && ilt (IntKind.wrap .i64 (j2.1 - 1)) j2.2.length) (Res.idx (.list (.int .u16)) j2.2 (0 + Int.toNat (IntKind.wrap .i64 (j2.1 - 1))) fun e7 => Res.ai (ile 0 j2.1 && ilt j2.1 j2.2.length) (Res.idx (.list (.int .u16)) j2.2 (0 + Int.toNat j2.1) fun e8 => Res.ai (ile 0 j2.1 && ilt j2.1 j2.2.length) (Res.idx (.list (.int .u16)) j2.2 (0 + Int.toNat j2.1) fun e9 => Res.ai (ile 0 (IntKind.wrap .i64 (j2.1 - 1)) && ilt (IntKind.wrap .i64 (j2.1 - 1)) (List.set j2.2 (0 + Int.toNat j2.1) e7).length) (Res.idx (.list (.int .u16)) (List.set j2.2 (0 + Int.toNat j2.1) e7) (0 + Int.toNat (IntKind.wrap .i64 (j2.1 - 1))) fun e10 => Res.ok (.next ((IntKind.wrap .i64 (j2.1 - 1), (List.set (List.set j2.2 (0 + Int.toNat j2.1) e7) (0 + Int.toNat (IntKind.wrap .i64 (j2.1 - 1))) e8))))))))) (Res.ok (.done (j2.2)))) fuel i1) fun x11 => Res.ok (.next ((IntKind.wrap .i64 (i1.1 + 1), x11)))) (Res.ok (.done (i1.2)))) fuel (IntKind.wrap .i64 (a_1 + 1), data_0)) fun x12 => Res.ok (((), x12)))
abbrev aR.g : Sg := ⟨[.obj (.own (.frz (.list (.int .u16)))), .i, .i, .i, .val false (.bor (.clo 405 .nil))], []⟩
def R.aR (data_0 : (List (List Int))) (a_1 : Int) (b_2 : Int) (n_3 : Int) (cmp_4 : Unit) : Res (Unit × (List (List Int))) :=
  Res.given (aR.g.i (data_0, (a_1, (b_2, (n_3, cmp_4))))) (Res.bind (Res.loop (α := (Int × (List (List Int)))) (β := (List (List Int))) (fun i1 => Res.br (ilt i1.1 n_3) (Res.ai (ile 0 (IntKind.wrap .i64 (b_2 + i1.1)) && ilt (IntKind.wrap .i64 (b_2 + i1.1)) i1.2.length) (Res.idx (.list (.int .u16)) i1.2 (0 + Int.toNat (IntKind.wrap .i64 (b_2 + i1.1))) fun e2 => Res.ai (ile 0 (IntKind.wrap .i64 (a_1 + i1.1)) && ilt (IntKind.wrap .i64 (a_1 + i1.1)) i1.2.length) (Res.idx (.list (.int .u16)) i1.2 (0 + Int.toNat (IntKind.wrap .i64 (a_1 + i1.1))) fun e3 => Res.ai (ile 0 (IntKind.wrap .i64 (a_1 + i1.1)) && ilt (IntKind.wrap .i64 (a_1 + i1.1)) i1.2.length) (Res.idx (.list (.int .u16)) i1.2 (0 + Int.toNat (IntKind.wrap .i64 (a_1 + i1.1))) fun e4 => Res.ai (ile 0 (IntKind.wrap .i64 (b_2 + i1.1)) && ilt (IntKind.wrap .i64 (b_2 + i1.1)) (List.set i1.2 (0 + Int.toNat (IntKind.wrap .i64 (a_1 + i1.1))) e2).length) (Res.idx (.list (.int .u16)) (List.set i1.2 (0 + Int.toNat (IntKind.wrap .i64 (a_1 + i1.1))) e2) (0 + Int.toNat (IntKind.wrap .i64 (b_2 + i1.1))) fun e5 => Res.ok (.next ((IntKind.wrap .i64 (i1.1 + 1), (List.set (List.set i1.2 (0 + Int.toNat (IntKind.wrap .i64 (a_1 + i1.1))) e2) (0 + Int.toNat (IntKind.wrap .i64 (b_2 + i1.1))) e3))))))))) (Res.ok (.done (i1.2)))) fuel (0, data_0)) fun x6 => Res.ok (((), x6)))
abbrev af.g : Sg := ⟨[.obj (.own (.frz (.list (.int .u16)))), .i, .i, .i, .val false (.bor (.clo 405 .nil))], []⟩
def R.af (data_0 : (List (List Int))) (a_1 : Int) (m_2 : Int) (b_3 : Int) (cmp_4 : Unit) : Res (Unit × (List (List Int))) :=
  Res.given (af.g.i (data_0, (a_1, (m_2, (b_3, cmp_4))))) (Res.bind (Res.loop (α := (Int × (Int × (List (List Int))))) (β := (Int × (List (List Int)))) (fun i1 => Res.br (!(i1.1 == i1.2.1)) (Res.br (ilt i1.2.1 i1.1) (Res.bind (R.aR i1.2.2 (IntKind.wrap .i64 (m_2 - i1.1)) m_2 i1.2.1 ()) fun r2 => Res.given (aR.g.o r2) (Res.ok (.next ((IntKind.wrap .i64 (i1.1 - i1.2.1), (i1.2.1, r2.2)))))) (Res.bind (R.aR i1.2.2 (IntKind.wrap .i64 (m_2 - i1.1)) (IntKind.wrap .i64 ((IntKind.wrap .i64 (m_2 + i1.2.1)) - i1.1)) i1.1 ()) fun r3 => Res.given (aR.g.o r3) (Res.ok (.next ((i1.1, (IntKind.wrap .i64 (i1.2.1 - i1.1), r3.2))))))) (Res.ok (.done ((i1.1, i1.2.2))))) fuel (IntKind.wrap .i64 (m_2 - a_1), (IntKind.wrap .i64 (b_3 - m_2), data_0))) fun i4 => Res.bind (R.aR i4.2 (IntKind.wrap .i64 (m_2 - i4.1)) m_2 i4.1 ()) fun r5 => Res.given (aR.g.o r5) (Res.ok (((), r5.2))))
abbrev aJ.g : Sg := ⟨[.obj (.own (.frz (.list (.int .u16)))), .i, .i, .i, .val false (.bor (.clo 405 .nil))], []⟩
def R.aJ : Nat → (List (List Int)) → Int → Int → Int → Unit → Res (Unit × (List (List Int)))
  | 0, _, _, _, _, _ => .stuck
  | fu + 1, data_0, a_1, m_2, b_3, cmp_4 => Res.given (aJ.g.i (data_0, (a_1, (m_2, (b_3, cmp_4))))) (Res.br ((IntKind.wrap .i64 (m_2 - a_1)) == 1) (Res.bind (Res.loop (α := (Int × Int)) (β := Int) (fun i1 => Res.br (ilt i1.1 i1.2) (Res.ai (ile 0 1) (Res.ai (ile 0 (IntKind.wrap .i64 (jm .u64 (IntKind.wrap .u64 (IntKind.wrap .i64 (i1.1 + i1.2))) 1)) && ilt (IntKind.wrap .i64 (jm .u64 (IntKind.wrap .u64 (IntKind.wrap .i64 (i1.1 + i1.2))) 1)) data_0.length) (Res.idx (.list (.int .u16)) data_0 (0 + Int.toNat (IntKind.wrap .i64 (jm .u64 (IntKind.wrap .u64 (IntKind.wrap .i64 (i1.1 + i1.2))) 1))) fun e2 => Res.ai (ile 0 a_1 && ilt a_1 data_0.length) (Res.idx (.list (.int .u16)) data_0 (0 + Int.toNat a_1) fun e3 => Res.bind (R.dG e2 e3) fun r4 => Res.given (dG.g.o r4) (Res.br (ilt r4 0) (Res.ok (.next ((IntKind.wrap .i64 ((IntKind.wrap .i64 (jm .u64 (IntKind.wrap .u64 (IntKind.wrap .i64 (i1.1 + i1.2))) 1)) + 1), i1.2)))) (Res.ok (.next ((i1.1, IntKind.wrap .i64 (jm .u64 (IntKind.wrap .u64 (IntKind.wrap .i64 (i1.1 + i1.2))) 1)))))))))) (Res.ok (.done (i1.1)))) fuel (m_2, b_3)) fun i5 => Res.bind (Res.loop (α := (Int × (List (List Int)))) (β := (List (List Int))) (fun k6 => Res.br (ilt k6.1 (IntKind.wrap .i64 (i5 - 1))) (Res.ai (ile 0 (IntKind.wrap .i64 (k6.1 + 1)) && ilt (IntKind.wrap .i64 (k6.1 + 1)) k6.2.length) (Res.idx (.list (.int .u16)) k6.2 (0 + Int.toNat (IntKind.wrap .i64 (k6.1 + 1))) fun e7 => Res.ai (ile 0 k6.1 && ilt k6.1 k6.2.length) (Res.idx (.list (.int .u16)) k6.2 (0 + Int.toNat k6.1) fun e8 => Res.ai (ile 0 k6.1 && ilt k6.1 k6.2.length) (Res.idx (.list (.int .u16)) k6.2 (0 + Int.toNat k6.1) fun e9 => Res.ai (ile 0 (IntKind.wrap .i64 (k6.1 + 1)) && ilt (IntKind.wrap .i64 (k6.1 + 1)) (List.set k6.2 (0 + Int.toNat k6.1) e7).length) (Res.idx (.list (.int .u16)) (List.set k6.2 (0 + Int.toNat k6.1) e7) (0 + Int.toNat (IntKind.wrap .i64 (k6.1 + 1))) fun e10 => Res.ok (.next ((IntKind.wrap .i64 (k6.1 + 1), (List.set (List.set k6.2 (0 + Int.toNat k6.1) e7) (0 + Int.toNat (IntKind.wrap .i64 (k6.1 + 1))) e8))))))))) (Res.ok (.done (k6.2)))) fuel (a_1, data_0)) fun x11 => Res.ok (((), x11))) (Res.br ((IntKind.wrap .i64 (b_3 - m_2)) == 1) (Res.bind (Res.loop (α := (Int × Int)) (β := Int) (fun i12 => Res.br (ilt i12.1 i12.2) (Res.ai (ile 0 1) (Res.ai (ile 0 m_2 && ilt m_2 data_0.length) (Res.idx (.list (.int .u16)) data_0 (0 + Int.toNat m_2) fun e13 => Res.ai (ile 0 (IntKind.wrap .i64 (jm .u64 (IntKind.wrap .u64 (IntKind.wrap .i64 (i12.1 + i12.2))) 1)) && ilt (IntKind.wrap .i64 (jm .u64 (IntKind.wrap .u64 (IntKind.wrap .i64 (i12.1 + i12.2))) 1)) data_0.length) (Res.idx (.list (.int .u16)) data_0 (0 + Int.toNat (IntKind.wrap .i64 (jm .u64 (IntKind.wrap .u64 (IntKind.wrap .i64 (i12.1 + i12.2))) 1))) fun e14 => Res.bind (R.dG e13 e14) fun r15 => Res.given (dG.g.o r15) (Res.br (!(ilt r15 0)) (Res.ok (.next ((IntKind.wrap .i64 ((IntKind.wrap .i64 (jm .u64 (IntKind.wrap .u64 (IntKind.wrap .i64 (i12.1 + i12.2))) 1)) + 1), i12.2)))) (Res.ok (.next ((i12.1, IntKind.wrap .i64 (jm .u64 (IntKind.wrap .u64 (IntKind.wrap .i64 (i12.1 + i12.2))) 1)))))))))) (Res.ok (.done (i12.1)))) fuel (a_1, m_2)) fun i16 => Res.bind (Res.loop (α := (Int × (List (List Int)))) (β := (List (List Int))) (fun k17 => Res.br (ilt i16 k17.1) (Res.ai (ile 0 (IntKind.wrap .i64 (k17.1 - 1)) && ilt (IntKind.wrap .i64 (k17.1 - 1)) k17.2.length) (Res.idx (.list (.int .u16)) k17.2 (0 + Int.toNat (IntKind.wrap .i64 (k17.1 - 1))) fun e18 => Res.ai (ile 0 k17.1 && ilt k17.1 k17.2.length) (Res.idx (.list (.int .u16)) k17.2 (0 + Int.toNat k17.1) fun e19 => Res.ai (ile 0 k17.1 && ilt k17.1 k17.2.length) (Res.idx (.list (.int .u16)) k17.2 (0 + Int.toNat k17.1) fun e20 => Res.ai (ile 0 (IntKind.wrap .i64 (k17.1 - 1)) && ilt (IntKind.wrap .i64 (k17.1 - 1)) (List.set k17.2 (0 + Int.toNat k17.1) e18).length) (Res.idx (.list (.int .u16)) (List.set k17.2 (0 + Int.toNat k17.1) e18) (0 + Int.toNat (IntKind.wrap .i64 (k17.1 - 1))) fun e21 => Res.ok (.next ((IntKind.wrap .i64 (k17.1 - 1), (List.set (List.set k17.2 (0 + Int.toNat k17.1) e18) (0 + Int.toNat (IntKind.wrap .i64 (k17.1 - 1))) e19))))))))) (Res.ok (.done (k17.2)))) fuel (m_2, data_0)) fun x22 => Res.ok (((), x22))) (Res.ai (ile 0 1) (Res.bind (α := (Int × Int)) (Res.br (ilt (IntKind.wrap .i64 (jm .u64 (IntKind.wrap .u64 (IntKind.wrap .i64 (a_1 + b_3))) 1)) m_2) (Res.ok ((IntKind.wrap .i64 ((IntKind.wrap .i64 ((IntKind.wrap .i64 (jm .u64 (IntKind.wrap .u64 (IntKind.wrap .i64 (a_1 + b_3))) 1)) + m_2)) - b_3), IntKind.wrap .i64 (jm .u64 (IntKind.wrap .u64 (IntKind.wrap .i64 (a_1 + b_3))) 1)))) (Res.ok ((a_1, m_2)))) fun start23 => Res.bind (Res.loop (α := (Int × Int)) (β := Int) (fun start24 => Res.br (ilt start24.1 start24.2) (Res.ai (ile 0 1) (Res.ai (ile 0 (IntKind.wrap .i64 ((IntKind.wrap .i64 ((IntKind.wrap .i64 ((IntKind.wrap .i64 (jm .u64 (IntKind.wrap .u64 (IntKind.wrap .i64 (a_1 + b_3))) 1)) + m_2)) - 1)) - (IntKind.wrap .i64 (jm .u64 (IntKind.wrap .u64 (IntKind.wrap .i64 (start24.1 + start24.2))) 1)))) && ilt (IntKind.wrap .i64 ((IntKind.wrap .i64 ((IntKind.wrap .i64 ((IntKind.wrap .i64 (jm .u64 (IntKind.wrap .u64 (IntKind.wrap .i64 (a_1 + b_3))) 1)) + m_2)) - 1)) - (IntKind.wrap .i64 (jm .u64 (IntKind.wrap .u64 (IntKind.wrap .i64 (start24.1 + start24.2))) 1)))) data_0.length) (Res.idx (.list (.int .u16)) data_0 (0 + Int.toNat (IntKind.wrap .i64 ((IntKind.wrap .i64 ((IntKind.wrap .i64 ((IntKind.wrap .i64 (jm .u64 (IntKind.wrap .u64 (IntKind.wrap .i64 (a_1 + b_3))) 1)) + m_2)) - 1)) - (IntKind.wrap .i64 (jm .u64 (IntKind.wrap .u64 (IntKind.wrap .i64 (start24.1 + start24.2))) 1))))) fun e25 => Res.ai (ile 0 (IntKind.wrap .i64 (jm .u64 (IntKind.wrap .u64 (IntKind.wrap .i64 (start24.1 + start24.2))) 1)) && ilt (IntKind.wrap .i64 (jm .u64 (IntKind.wrap .u64 (IntKind.wrap .i64 (start24.1 + start24.2))) 1)) data_0.length) (Res.idx (.list (.int .u16)) data_0 (0 + Int.toNat (IntKind.wrap .i64 (jm .u64 (IntKind.wrap .u64 (IntKind.wrap .i64 (start24.1 + start24.2))) 1))) fun e26 => Res.bind (R.dG e25 e26) fun r27 => Res.given (dG.g.o r27) (Res.br (!(ilt r27 0)) (Res.ok (.next ((IntKind.wrap .i64 ((IntKind.wrap .i64 (jm .u64 (IntKind.wrap .u64 (IntKind.wrap .i64 (start24.1 + start24.2))) 1)) + 1), start24.2)))) (Res.ok (.next ((start24.1, IntKind.wrap .i64 (jm .u64 (IntKind.wrap .u64 (IntKind.wrap .i64 (start24.1 + start24.2))) 1)))))))))) (Res.ok (.done (start24.1)))) fuel start23) fun start28 => Res.bind (α := (List (List Int))) (Res.bind (α := Bool) (Res.br (ilt start28 m_2) (Res.ok ((ilt m_2 (IntKind.wrap .i64 ((IntKind.wrap .i64 ((IntKind.wrap .i64 (jm .u64 (IntKind.wrap .u64 (IntKind.wrap .i64 (a_1 + b_3))) 1)) + m_2)) - start28))))) (Res.ok (false))) fun x29 => Res.br x29 (Res.bind (R.af data_0 start28 m_2 (IntKind.wrap .i64 ((IntKind.wrap .i64 ((IntKind.wrap .i64 (jm .u64 (IntKind.wrap .u64 (IntKind.wrap .i64 (a_1 + b_3))) 1)) + m_2)) - start28)) ()) fun r30 => Res.given (af.g.o r30) (Res.ok (r30.2))) (Res.ok (data_0))) fun x31 => Res.bind (α := (List (List Int))) (Res.bind (α := Bool) (Res.br (ilt a_1 start28) (Res.ok ((ilt start28 (IntKind.wrap .i64 (jm .u64 (IntKind.wrap .u64 (IntKind.wrap .i64 (a_1 + b_3))) 1))))) (Res.ok (false))) fun x32 => Res.br x32 (Res.bind (R.aJ fu x31 a_1 start28 (IntKind.wrap .i64 (jm .u64 (IntKind.wrap .u64 (IntKind.wrap .i64 (a_1 + b_3))) 1)) ()) fun r33 => Res.given (aJ.g.o r33) (Res.ok (r33.2))) (Res.ok (x31))) fun x34 => Res.bind (α := Bool) (Res.br (ilt (IntKind.wrap .i64 (jm .u64 (IntKind.wrap .u64 (IntKind.wrap .i64 (a_1 + b_3))) 1)) (IntKind.wrap .i64 ((IntKind.wrap .i64 ((IntKind.wrap .i64 (jm .u64 (IntKind.wrap .u64 (IntKind.wrap .i64 (a_1 + b_3))) 1)) + m_2)) - start28))) (Res.ok ((ilt (IntKind.wrap .i64 ((IntKind.wrap .i64 ((IntKind.wrap .i64 (jm .u64 (IntKind.wrap .u64 (IntKind.wrap .i64 (a_1 + b_3))) 1)) + m_2)) - start28)) b_3))) (Res.ok (false))) fun x35 => Res.br x35 (Res.bind (R.aJ fu x34 (IntKind.wrap .i64 (jm .u64 (IntKind.wrap .u64 (IntKind.wrap .i64 (a_1 + b_3))) 1)) (IntKind.wrap .i64 ((IntKind.wrap .i64 ((IntKind.wrap .i64 (jm .u64 (IntKind.wrap .u64 (IntKind.wrap .i64 (a_1 + b_3))) 1)) + m_2)) - start28)) b_3 ()) fun r36 => Res.given (aJ.g.o r36) (Res.ok (((), r36.2)))) (Res.ok (((), x34)))))))
abbrev aa.g : Sg := ⟨[.obj (.own (.frz (.list (.int .u16)))), .i, .val false (.bor (.clo 405 .nil))], []⟩
def R.aa (data_0 : (List (List Int))) (n_1 : Int) (cmp_2 : Unit) : Res (Unit × (List (List Int))) :=
  Res.given (aa.g.i (data_0, (n_1, cmp_2))) (Res.bind (Res.loop (α := (Int × (Int × (List (List Int))))) (β := (Int × (List (List Int)))) (fun a1 => Res.br (ile a1.2.1 n_1) (Res.bind (R.aS a1.2.2 a1.1 a1.2.1 ()) fun r2 => Res.given (aS.g.o r2) (Res.ok (.next ((a1.2.1, (IntKind.wrap .i64 (a1.2.1 + 20), r2.2)))))) (Res.ok (.done ((a1.1, a1.2.2))))) fuel (0, (20, data_0))) fun a3 => Res.bind (R.aS a3.2 a3.1 n_1 ()) fun r4 => Res.given (aS.g.o r4) (Res.bind (Res.loop (α := (Int × (List (List Int)))) (β := (List (List Int))) (fun blockSize5 => Res.br (ilt blockSize5.1 n_1) (Res.bind (Res.loop (α := (Int × (Int × (List (List Int))))) (β := (Int × (List (List Int)))) (fun a6 => Res.br (ile a6.2.1 n_1) (Res.bind (R.aJ fuel a6.2.2 a6.1 (IntKind.wrap .i64 (a6.1 + blockSize5.1)) a6.2.1 ()) fun r7 => Res.given (aJ.g.o r7) (Res.ok (.next ((a6.2.1, (IntKind.wrap .i64 (a6.2.1 + (IntKind.wrap .i64 (2 * blockSize5.1))), r7.2)))))) (Res.ok (.done ((a6.1, a6.2.2))))) fuel (0, (IntKind.wrap .i64 (2 * blockSize5.1), blockSize5.2))) fun a8 => Res.br (ilt (IntKind.wrap .i64 (a8.1 + blockSize5.1)) n_1) (Res.bind (R.aJ fuel a8.2 a8.1 (IntKind.wrap .i64 (a8.1 + blockSize5.1)) n_1 ()) fun r9 => Res.given (aJ.g.o r9) (Res.ok (.next ((IntKind.wrap .i64 (blockSize5.1 * 2), r9.2))))) (Res.ok (.next ((IntKind.wrap .i64 (blockSize5.1 * 2), a8.2))))) (Res.ok (.done (blockSize5.2)))) fuel (20, r4.2)) fun x10 => Res.ok (((), x10))))
abbrev aZ.g : Sg := ⟨[.obj (.own (.frz (.list (.int .u16)))), .val false (.bor (.clo 405 .nil))], []⟩
def R.aZ (x_0 : (List (List Int))) (cmp_1 : Unit) : Res (Unit × (List (List Int))) :=
  Res.given (aZ.g.i (x_0, cmp_1)) (Res.bind (R.aa x_0 (x_0.length : Int) ()) fun r1 => Res.given (aa.g.o r1) (Res.ok (((), r1.2))))
abbrev gW.g : Sg := ⟨[.val false (.bor eY), .i], [(false, (.own (.frz (.list (.int .u16)))))]⟩
def R.gW (h_0 : ir.den) (ref_1 : Int) : Res ((List (List Int))) :=
  Res.given (gW.g.i (h_0, ref_1)) (Res.bind (R.bc h_0 ref_1) fun r1 => Res.br (!r1) (Res.ok (([] : List (List Int)))) (Res.eN la h_0.2 ref_1 fun e2 => Res.bind (Res.loop (α := ((List (List Int)) × ((List (List Int)) × Int))) (β := ((List (List Int)) × (List (List Int)))) (fun places3 => Res.br (ilt places3.2.2 (e2.2.2.1.length : Int)) (Res.eN (.frz bo) e2.2.2.1 places3.2.2 fun e4 => Res.bind (Res.ok e4.1) fun r5 => Res.given (mj (.int .u16) r5) (Res.bind (R.fg r5) fun r6 => Res.given (fg.g.o r6) (Res.br r6.2 (Res.ai (decide ((places3.1.length + [r5].length) * 24 ≤ 2 ^ 47)) (Res.ok (.next (((places3.1 ++ [r5]), (places3.2.1, IntKind.wrap .i64 (places3.2.2 + 1))))))) (Res.ai (decide ((places3.2.1.length + [r5].length) * 24 ≤ 2 ^ 47)) (Res.ok (.next ((places3.1, ((places3.2.1 ++ [r5]), IntKind.wrap .i64 (places3.2.2 + 1)))))))))) (Res.ok (.done ((places3.1, places3.2.1))))) fuel (([] : List (List Int)), (([] : List (List Int)), 0))) fun places7 => Res.bind (R.aZ places7.1 ()) fun r8 => Res.given (aZ.g.o r8) (Res.ai (decide ((r8.2.length + places7.2.length) * 24 ≤ 2 ^ 47)) (Res.ok ((r8.2 ++ places7.2))))))
abbrev iF.g : Sg := ⟨[.obj aF, .val true (.bor (.seq .i (.seq (.frz aI) (.seq (.seq .b (.own .w)) (.seq (.own .h) .i)))))], [(true, (.frz aA)), vi]⟩
def R.iF (r_0 : aF.den) (x_1 : aA.den) : Res ((aA.den × Int) × aF.den) :=
  Res.given (iF.g.i (r_0, x_1)) (Res.bind (R.jv x_1) fun r1 => Res.br r1 (Res.bind (R.aC r_0 1) fun r2 => Res.given (aC.g.o r2) (Res.ok (r2))) (Res.bind (α := Int) (Res.br (x_1.1 == 6) (Res.bind (R.bJ r_0.2.2.2.2.1 x_1.2.2.2.2) fun r3 => Res.given (bJ.g.o r3) (Res.ok (r3))) (Res.ok (0))) fun kind4 => Res.bind (α := ((List (List Int)) ⊕ (Int × (aF.den × aA.den)))) (Res.br (kind4 == 1) (Res.bind (R.gW r_0.2.2.2.2.1 x_1.2.2.2.2) fun r5 => Res.given (gW.g.o r5) (Res.ok (.inl r5))) (Res.br (kind4 == 2) (Res.bind (R.bl r_0.2.2.2.2.1 x_1.2.2.2.2) fun r6 => Res.given (bl.g.o r6) (Res.bind (Res.loop (α := ((List (List Int)) × Int)) (β := (List (List Int))) (fun l7 => Res.br (ilt l7.2 r6) (Res.bind (R.gN l7.2) fun r8 => Res.given (gN.g.o r8) (Res.ai (decide ((l7.1.length + [r8].length) * 24 ≤ 2 ^ 47)) (Res.ok (.next (((l7.1 ++ [r8]), IntKind.wrap .i64 (l7.2 + 1))))))) (Res.ok (.done (l7.1)))) fuel (([] : List (List Int)), 0)) fun l9 => Res.ok (.inl l9))) (Res.bind (R.aL r_0) fun r10 => Res.given (aL.g.o r10) (Res.ok (.inr (r10.1.2, (r10.2, r10.1.1))))))) fun l11 => Res.sum l11 (fun l12 => Res.bind (R.aX r_0 (2, (0, (([] : List bo.den), (([] : List bd.den), (([] : List UInt8), (0, (0, ((0, ((0, 0), ((false, ([] : List Int)), (([] : List Int), 0)))), (0, (0, (0, (0, ([] : List Int)))))))))))))) fun r14 => Res.given (aX.g.o r14) (Res.br (!(r14.1.2 == 0)) (Res.ok (r14)) (Res.bind (Res.loop (α := (Int × eY.den)) (β := eY.den) (fun x15 => Res.br (ilt x15.1 (l12.length : Int)) (Res.ai (ile 0 x15.1 && ilt x15.1 l12.length) (Res.idx (.list (.int .u16)) l12 (0 + Int.toNat x15.1) fun e16 => Res.bind (R.gN x15.1) fun r17 => Res.given (gN.g.o r17) (Res.bind (R.cY e16) fun r18 => Res.given (cY.g.o r18) (Res.bind (R.cj x15.2 r14.1.1.2.2.2.2 r17 r18) fun r19 => Res.given (cj.g.o r19) (Res.ok (.next ((IntKind.wrap .i64 (x15.1 + 1), r19.2)))))))) (Res.ok (.done (x15.2)))) fuel (0, r14.2.2.2.2.2.1)) fun x20 => Res.ok (((r14.1.1, 0), (r14.2.1, (r14.2.2.1, (r14.2.2.2.1, (r14.2.2.2.2.1, (x20, r14.2.2.2.2.2.2)))))))))) (fun z13 => Res.ok (((z13.2.2, z13.1), z13.2.1)))))
abbrev fx.g : Sg := ⟨[.obj aF, .val true (.bor (.seq .i (.seq (.frz aI) (.seq (.seq .b (.own .w)) (.seq (.own .h) .i))))), .val true (.bor (.seq .i (.seq (.frz aI) (.seq (.seq .b (.own .w)) (.seq (.own .h) .i)))))], [(true, (.frz aA)), vi]⟩
def R.fx (r_0 : aF.den) (p_1 : aA.den) (q_2 : aA.den) : Res ((aA.den × Int) × aF.den) :=
  Res.given (fx.g.i (r_0, (p_1, q_2))) (Res.bind (α := (Int ⊕ (Int × (aF.den × aA.den)))) (Res.bind (α := Bool) (Res.br (p_1.1 == 6) (Res.bind (R.bJ r_0.2.2.2.2.1 p_1.2.2.2.2) fun r1 => Res.given (bJ.g.o r1) (Res.ok ((!(r1 == 1))))) (Res.ok (false))) fun x2 => Res.br x2 (Res.bind (R.aL r_0) fun r3 => Res.given (aL.g.o r3) (Res.ok (.inr (r3.1.2, (r3.2, r3.1.1))))) (Res.br (p_1.1 == 6) (Res.ok (.inl p_1.2.2.2.2)) (Res.br (!(p_1.1 == 1)) (Res.bind (R.aC r_0 1) fun r4 => Res.given (aC.g.o r4) (Res.ok (.inr (r4.1.2, (r4.2, r4.1.1))))) (Res.ok (.inl (-2)))))) fun proto5 => Res.sum proto5 (fun proto6 => Res.br (!(q_2.1 == 0)) (Res.bind (R.aL r_0) fun r8 => Res.given (aL.g.o r8) (Res.ok (r8))) (Res.bind (R.aX r_0 (1, (proto6, (([] : List bo.den), (([] : List bd.den), (([] : List UInt8), (0, (0, ((0, ((0, 0), ((false, ([] : List Int)), (([] : List Int), 0)))), (0, (0, (0, (0, ([] : List Int)))))))))))))) fun r9 => Res.given (aX.g.o r9) (Res.ok (r9)))) (fun z7 => Res.ok (((z7.2.2, z7.1), z7.2.1))))
abbrev iG.g : Sg := ⟨[.obj aF, .val true (.bor (.seq .i (.seq (.frz aI) (.seq (.seq .b (.own .w)) (.seq (.own .h) .i))))), .val false (.bor (.own (.frz aA)))], [(true, (.frz aA)), vi]⟩
def R.iG (r_0 : aF.den) (this_1 : aA.den) (l_2 : (List aA.den)) : Res ((aA.den × Int) × aF.den) :=
  Res.given (iG.g.i (r_0, (this_1, l_2))) (Res.bind (α := Bool) (Res.br (!(this_1.1 == 6)) (Res.ok (true)) (Res.bind (R.bJ r_0.2.2.2.2.1 this_1.2.2.2.2) fun r1 => Res.given (bJ.g.o r1) (Res.ok ((!(r1 == 2)))))) fun x2 => Res.br x2 (Res.bind (R.aL r_0) fun r3 => Res.given (aL.g.o r3) (Res.ok (r3))) (Res.bind (Res.loop (α := (Int × eY.den)) (β := eY.den) (fun x4 => Res.br (ilt x4.1 (l_2.length : Int)) (Res.eN (.frz aA) l_2 x4.1 fun e5 => Res.bind (R.bl x4.2 this_1.2.2.2.2) fun r6 => Res.given (bl.g.o r6) (Res.bind (R.gN r6) fun r7 => Res.given (gN.g.o r7) (Res.bind (R.cj x4.2 this_1.2.2.2.2 r7 e5) fun r8 => Res.given (cj.g.o r8) (Res.ok (.next ((IntKind.wrap .i64 (x4.1 + 1), r8.2))))))) (Res.ok (.done (x4.2)))) fuel (0, r_0.2.2.2.2.1)) fun x9 => Res.bind (R.bl x9 this_1.2.2.2.2) fun r10 => Res.given (bl.g.o r10) (Res.bind (R.cF r10) fun r11 => Res.given (cF.g.o r11) (Res.ok (((r11, 0), (r_0.1, (r_0.2.1, (r_0.2.2.1, (r_0.2.2.2.1, (x9, r_0.2.2.2.2.2)))))))))))
abbrev gf.g : Sg := ⟨[.obj eY, .i], [(true, (.frz aA)), vb]⟩
def R.gf (h_0 : eY.den) (ref_1 : Int) : Res ((aA.den × Bool) × eY.den) :=
  Res.given (gf.g.i (h_0, ref_1)) (Res.bind (R.bl h_0 ref_1) fun r1 => Res.given (bl.g.o r1) (Res.br (r1 == 0) (Res.ok ((((0, ((0, 0), ((false, ([] : List Int)), (([] : List Int), 0)))), false), h_0))) (Res.eN la h_0.2 ref_1 fun e2 => Res.ai ((Int.toNat ref_1) == (Int.toNat ref_1)) (Res.ai ((Int.toNat ref_1) == (Int.toNat ref_1)) (Res.ai (ile 0 (IntKind.wrap .i64 ((e2.2.2.1.length : Int) - 1)) && ilt (IntKind.wrap .i64 ((e2.2.2.1.length : Int) - 1)) e2.2.2.1.length) (Res.idx bo e2.2.2.1 (0 + Int.toNat (IntKind.wrap .i64 ((e2.2.2.1.length : Int) - 1))) fun e3 => Res.ai ((Int.toNat ref_1) == (Int.toNat ref_1)) (Res.ai (ile 0 (IntKind.wrap .i64 ((e2.2.2.1.length : Int) - 1)) && ile (IntKind.wrap .i64 ((e2.2.2.1.length : Int) - 1)) e2.2.2.1.length) (Res.ai ((Int.toNat ref_1) == (Int.toNat ref_1)) (Res.bind (R.eQ e3.2) fun r4 => Res.given (eQ.g.o r4) (Res.ok (((r4, true), (h_0.1, (List.set h_0.2 (Int.toNat ref_1) (e2.1, (e2.2.1, ((List.take (Int.toNat (IntKind.wrap .i64 ((e2.2.2.1.length : Int) - 1))) (List.drop 0 e2.2.2.1)), e2.2.2.2)))))))))))))))))
abbrev lJ.g : Sg := ⟨[.s], [(true, (.frz aI)), vb]⟩
def R.lJ (s_0 : (List UInt8)) : Res ((aI.den × Bool)) :=
  Res.given (lJ.g.i s_0) (Res.br (s_0 == [78, 97, 78]) (Res.bind (R.fB) fun r1 => Res.given (fB.g.o r1) (Res.ok ((r1, true)))) (Res.br (s_0 == [73, 110, 102, 105, 110, 105, 116, 121]) (Res.bind (R.jl false) fun r2 => Res.given (jl.g.o r2) (Res.ok ((r2, true)))) (Res.br (s_0 == [45, 73, 110, 102, 105, 110, 105, 116, 121]) (Res.bind (R.jl true) fun r3 => Res.given (jl.g.o r3) (Res.ok ((r3, true)))) (Res.bind (sI s_0) fun r4 => Res.given (pI.g.o r4) (Res.bind (α := Bool) (Res.br (!r4.2) (Res.ok (true)) (Res.bind (rp r4.1) fun r5 => Res.given (qD.g.o r5) (Res.ok ((!(r5 == s_0)))))) fun x6 => Res.br x6 (Res.bind (R.fB) fun r7 => Res.given (fB.g.o r7) (Res.ok ((r7, false)))) (Res.bind (R.nR r4.1) fun r8 => Res.given (nR.g.o r8) (Res.ok (r8))))))))
abbrev er.g : Sg := ⟨[.obj aF, .val true (.frz aA), .i], [(true, (.frz aA)), vi]⟩
def R.er (r_0 : aF.den) (x_1 : aA.den) (n_2 : Int) : Res ((aA.den × Int) × aF.den) :=
  Res.given (er.g.i (r_0, (x_1, n_2))) (Res.br (n_2 == 0) (Res.bind (R.cF 0) fun r1 => Res.given (cF.g.o r1) (Res.ok (((r1, 0), r_0)))) (Res.br (x_1.1 == 4) (Res.bind (R.ko x_1.2.2.1) fun r2 => Res.given (ko.g.o r2) (Res.bind (R.lJ r2) fun r3 => Res.given (lJ.g.o r3) (Res.br (!r3.2) (Res.bind (R.aL r_0) fun r4 => Res.given (aL.g.o r4) (Res.ok (r4))) (Res.bind (R.cu r3.1) fun r5 => Res.given (cu.g.o r5) (Res.ok (((r5, 0), r_0))))))) (Res.bind (R.bu x_1) fun r6 => Res.given (bu.g.o r6) (Res.bind (R.cu r6.1) fun r7 => Res.given (cu.g.o r7) (Res.bind (R.cU r_0 r7 r6.2) fun r8 => Res.given (cU.g.o r8) (Res.ok (r8)))))))
abbrev fq.g : Sg := ⟨[.obj aF, .val true (.frz aA)], [(true, (.frz aA)), vi]⟩
def R.fq (r_0 : aF.den) (x_1 : aA.den) : Res ((aA.den × Int) × aF.den) :=
  Res.given (fq.g.i (r_0, x_1)) (Res.br (x_1.1 == 3) (Res.bind (R.fw x_1.2.1) fun r1 => Res.given (fw.g.o r1) (Res.bind (α := Bool) (Res.br (!(x_1.2.1.1 == 2)) (Res.ok ((r1.1 == 0))) (Res.ok (false))) fun x2 => Res.br x2 (Res.bind (R.kU r1.2) fun r3 => Res.given (kU.g.o r3) (Res.bind (R.eU r3) fun r4 => Res.given (eU.g.o r4) (Res.ok (((r4, 0), r_0))))) (Res.bind (R.aC r_0 2) fun r5 => Res.given (aC.g.o r5) (Res.ok (r5))))) (Res.bind (R.gG x_1) fun r6 => Res.given (gG.g.o r6) (Res.bind (R.eU r6.1) fun r7 => Res.given (eU.g.o r7) (Res.bind (R.cU r_0 r7 r6.2) fun r8 => Res.given (cU.g.o r8) (Res.ok (r8))))))
abbrev fO.g : Sg := ⟨[.obj aF, .s, .val true (.frz aA)], [(true, (.frz aA)), vi]⟩
def R.fO (r_0 : aF.den) (s_1 : (List UInt8)) (x_2 : aA.den) : Res ((aA.den × Int) × aF.den) :=
  Res.given (fO.g.i (r_0, (s_1, x_2))) (Res.bind (R.cY ([] : List Int)) fun r1 => Res.given (cY.g.o r1) (Res.bind (α := (aA.den ⊕ (Int × (aF.den × aA.den)))) (Res.br (!(x_2.1 == 0)) (Res.bind (R.dv x_2) fun r2 => Res.given (dv.g.o r2) (Res.br (!(r2.2 == 0)) (Res.bind (R.aC r_0 r2.2) fun r3 => Res.given (aC.g.o r3) (Res.ok (.inr (r3.1.2, (r3.2, r3.1.1))))) (Res.bind (R.cY r2.1) fun r4 => Res.given (cY.g.o r4) (Res.ok (.inl r4))))) (Res.ok (.inl r1))) fun x5 => Res.sum x5 (fun x6 => Res.bind (R.aX r_0 (10, (0, (([] : List bo.den), (([] : List bd.den), (s_1, (0, (0, (x6, (0, (0, (0, (0, ([] : List Int)))))))))))))) fun r8 => Res.given (aX.g.o r8) (Res.ok (r8))) (fun z7 => Res.ok (((z7.2.2, z7.1), z7.2.1)))))
abbrev dX.g : Sg := ⟨[.s, .s], [vb]⟩
def R.dX (s_0 : (List UInt8)) (prefix_1 : (List UInt8)) : Res (Bool) :=
  Res.given (dX.g.i (s_0, prefix_1)) (Res.br (ile (prefix_1.length : Int) (s_0.length : Int)) (Res.ai (ile 0 (prefix_1.length : Int) && ile (prefix_1.length : Int) s_0.length) (Res.ok (((List.take (Int.toNat (prefix_1.length : Int)) s_0) == prefix_1)))) (Res.ok (false)))
abbrev dy.g : Sg := ⟨[.s, .s], [vb]⟩
def R.dy (s_0 : (List UInt8)) (prefix_1 : (List UInt8)) : Res (Bool) :=
  Res.given (dy.g.i (s_0, prefix_1)) (Res.bind (R.dX s_0 prefix_1) fun r1 => Res.ok (r1))
abbrev dY.g : Sg := ⟨[.s, .s], [vs]⟩
def R.dY (s_0 : (List UInt8)) (prefix_1 : (List UInt8)) : Res ((List UInt8)) :=
  Res.given (dY.g.i (s_0, prefix_1)) (Res.bind (R.dX s_0 prefix_1) fun r1 => Res.br r1 (Res.ai (ile 0 (prefix_1.length : Int) && ile (prefix_1.length : Int) s_0.length) (Res.ok ((List.drop (Int.toNat (prefix_1.length : Int)) s_0)))) (Res.ok (s_0)))
abbrev dL.g : Sg := ⟨[.s, .s], [vs]⟩
def R.dL (s_0 : (List UInt8)) (prefix_1 : (List UInt8)) : Res ((List UInt8)) :=
  Res.given (dL.g.i (s_0, prefix_1)) (Res.bind (R.dY s_0 prefix_1) fun r1 => Res.given (dY.g.o r1) (Res.ok (r1)))
abbrev lO.g : Sg := ⟨[.i, .val false (.bor (.own .y))], [(false, (.frz (.int .u64))), vb]⟩
def R.lO (kind_0 : Int) (b_1 : (List Int)) : Res ((Int × Bool)) :=
  Res.given (lO.g.i (kind_0, b_1)) (Res.bind (α := Bool) (Res.bind (R.bn kind_0) fun r1 => Res.given (bn.g.o r1) (Res.br (r1 == 0) (Res.ok (true)) (Res.bind (R.bn kind_0) fun r2 => Res.given (bn.g.o r2) (Res.ok ((!((b_1.length : Int) == r2))))))) fun x3 => Res.br x3 (Res.ok ((0, false))) (Res.bind (Res.loop (α := (Int × Int)) (β := Int) (fun w4 => Res.br (ilt w4.2 (b_1.length : Int)) (Res.eN .y b_1 w4.2 fun e5 => Res.ai (ile 0 (IntKind.wrap .i64 (8 * w4.2))) (Res.ok (.next ((iC .or .u64 w4.1 (qx .u64 (IntKind.wrap .u64 e5) (IntKind.wrap .i64 (8 * w4.2))), IntKind.wrap .i64 (w4.2 + 1)))))) (Res.ok (.done (w4.1)))) fuel (0, 0)) fun w6 => Res.ok ((w6, true))))
abbrev ij.g : Sg := ⟨[.i, .val false (.frz (.int .u64))], [(false, (.frz (.int .u64)))]⟩
def R.ij (size_0 : Int) (w_1 : Int) : Res (Int) :=
  Res.given (ij.g.i (size_0, w_1)) (Res.bind (R.eF size_0) fun r1 => Res.given (eF.g.o r1) (Res.bind (R.jK r1 w_1) fun r2 => Res.given (jK.g.o r2) (Res.bind (R.cg r2) fun r3 => Res.given (cg.g.o r3) (Res.bind (R.eF size_0) fun r4 => Res.given (eF.g.o r4) (Res.bind (R.lO r4 r3.2) fun r5 => Res.given (lO.g.o r5) (Res.ok (r5.1)))))))
end Go.Mach
end
set_option linter.unusedVariables false
set_option maxRecDepth 20000
noncomputable section
namespace Go.Mach
abbrev fo.g : Sg := ⟨[.obj aF, .s, .val true (.bor (.seq .i (.seq (.frz aI) (.seq (.seq .b (.own .w)) (.seq (.own .h) .i))))), .val false (.bor (.own (.frz aA)))], [(true, (.frz aA)), vi]⟩
def R.fo (r_0 : aF.den) (s_1 : (List UInt8)) (this_2 : aA.den) (l_3 : (List aA.den)) : Res ((aA.den × Int) × aF.den) :=
  Res.given (fo.g.i (r_0, (s_1, (this_2, l_3)))) (Res.bind (R.ak r_0.2.2.2.2.1 this_2.2.2.2.2) fun r1 => Res.given (ak.g.o r1) (Res.bind (α := Bool) (Res.br (!(this_2.1 == 6)) (Res.ok (true)) (Res.ok ((!(r1.1.1 == 8))))) fun x2 => Res.br x2 (Res.bind (R.aC r_0 1) fun r3 => Res.given (aC.g.o r3) (Res.ok (r3))) (Res.ai (ile 0 3 && ile 3 s_1.length) (Res.bind (R.gV (List.drop (Int.toNat 3) s_1)) fun r4 => Res.given (gV.g.o r4) (Res.bind (R.dy s_1 [115, 101, 116]) fun r5 => Res.bind (R.bn r4) fun r6 => Res.given (bn.g.o r6) (Res.bind (R.cA l_3 0) fun r7 => Res.given (cA.g.o r7) (Res.bind (R.dU r7) fun r8 => Res.given (dU.g.o r8) (Res.br (!(r8.2 == 0)) (Res.bind (R.aC r_0 r8.2) fun r9 => Res.given (aC.g.o r9) (Res.ok (r9))) (Res.bind (α := ((Int × Int) ⊕ (Int × (aF.den × aA.den)))) (Res.br r5 (Res.bind (R.cA l_3 1) fun r10 => Res.given (cA.g.o r10) (Res.bind (R.jH r4 r10) fun r11 => Res.given (jH.g.o r11) (Res.br (!(r11.2 == 0)) (Res.bind (R.aC r_0 r11.2) fun r12 => Res.given (aC.g.o r12) (Res.ok (.inr (r12.1.2, (r12.2, r12.1.1))))) (Res.ok (.inl (r11.1, 2)))))) (Res.ok (.inl (0, 1)))) fun w13 => Res.sum w13 (fun w14 => Res.bind (R.cA l_3 w14.2) fun r16 => Res.given (cA.g.o r16) (Res.bind (R.gl r16) fun r17 => Res.bind (α := (Int ⊕ (Int × (aF.den × aA.den)))) (Res.bind (α := Bool) (Res.br (ilt r1.1.2.2.2.2.2.2.2.2.2.2.2.1 r6) (Res.ok (true)) (Res.ok ((ilt (IntKind.wrap .i64 (r1.1.2.2.2.2.2.2.2.2.2.2.2.1 - r6)) r8.1)))) fun x18 => Res.br x18 (Res.bind (R.aC r_0 2) fun r19 => Res.given (aC.g.o r19) (Res.ok (.inr (r19.1.2, (r19.2, r19.1.1))))) (Res.bind (α := Bool) (Res.br r5 (Res.ok ((!r17))) (Res.ok (false))) fun x20 => Res.br x20 (Res.bind (R.ij r6 w14.1) fun r21 => Res.given (ij.g.o r21) (Res.ok (.inl r21))) (Res.ok (.inl w14.1)))) fun w22 => Res.sum w22 (fun w23 => Res.br r5 (Res.bind (R.dZ r_0 (r1.1.1, (r1.1.2.1, ((), ((), (r1.1.2.2.2.2.1, (r1.1.2.2.2.2.2.1, (r1.1.2.2.2.2.2.2.1, (r1.1.2.2.2.2.2.2.2.1, (r1.1.2.2.2.2.2.2.2.2.1, (r1.1.2.2.2.2.2.2.2.2.2.1, (r1.1.2.2.2.2.2.2.2.2.2.2.1, (r1.1.2.2.2.2.2.2.2.2.2.2.2.1, ())))))))))))) (IntKind.wrap .i64 (r1.1.2.2.2.2.2.2.2.2.2.2.1 + r8.1)) r6 w23 false false) fun r25 => Res.given (dZ.g.o r25) (Res.ok ((((0, ((0, 0), ((false, ([] : List Int)), (([] : List Int), 0)))), r25.1), r25.2)))) (Res.bind (R.dz r_0 (r1.1.1, (r1.1.2.1, ((), ((), (r1.1.2.2.2.2.1, (r1.1.2.2.2.2.2.1, (r1.1.2.2.2.2.2.2.1, (r1.1.2.2.2.2.2.2.2.1, (r1.1.2.2.2.2.2.2.2.2.1, (r1.1.2.2.2.2.2.2.2.2.2.1, (r1.1.2.2.2.2.2.2.2.2.2.2.1, (r1.1.2.2.2.2.2.2.2.2.2.2.2.1, ())))))))))))) (IntKind.wrap .i64 (r1.1.2.2.2.2.2.2.2.2.2.2.1 + r8.1)) r6 false false) fun r26 => Res.given (dz.g.o r26) (Res.br (!(r26.1.2 == 0)) (Res.ok ((((0, ((0, 0), ((false, ([] : List Int)), (([] : List Int), 0)))), r26.1.2), r26.2))) (Res.br (!r17) (Res.bind (R.ij r6 r26.1.1) fun r27 => Res.given (ij.g.o r27) (Res.bind (R.eE r4 r27) fun r28 => Res.given (eE.g.o r28) (Res.ok (((r28, 0), r26.2))))) (Res.bind (R.eE r4 r26.1.1) fun r29 => Res.given (eE.g.o r29) (Res.ok (((r29, 0), r26.2)))))))) (fun z24 => Res.ok (((z24.2.2, z24.1), z24.2.1))))) (fun z15 => Res.ok (((z15.2.2, z15.1), z15.2.1))))))))))))
abbrev gh.g : Sg := ⟨[.obj aF, .val true lE, .val true (.frz aA)], [vi, (true, (.frz aA)), vi]⟩
def R.gh (r_0 : aF.den) (c_1 : lE.den) (v_2 : aA.den) : Res ((Int × (aA.den × Int)) × aF.den) :=
  Res.given (gh.g.i (r_0, (c_1, v_2))) (Res.bind (R.dU v_2) fun r1 => Res.given (dU.g.o r1) (Res.bind (α := Int) (Res.bind (α := Bool) (Res.br (r1.2 == 0) (Res.ok ((ile c_1.2.2.2.2.2.2.2.2.2.2.2.1 r1.1))) (Res.ok (false))) fun x2 => Res.br x2 (Res.ok (2)) (Res.ok (r1.2))) fun s3 => Res.br (!(s3 == 0)) (Res.bind (R.aC r_0 s3) fun r4 => Res.given (aC.g.o r4) (Res.ok (((0, r4.1), r4.2)))) (Res.ok (((r1.1, ((0, ((0, 0), ((false, ([] : List Int)), (([] : List Int), 0)))), 0)), r_0)))))
abbrev fH.g : Sg := ⟨[.val true (.frz aI)], [(true, (.frz aI))]⟩
def R.fH (a_0 : aI.den) : Res (aI.den) :=
  Res.given (fH.g.i a_0) (Res.bind (R.fw a_0) fun r1 => Res.given (fw.g.o r1) (Res.bind (R.lV r1 (0, 0)) fun r2 => Res.br r2 (Res.ok ((0, 0))) (Res.ok (r1))))
abbrev gi.g : Sg := ⟨[.obj aF, .val true lE, .val true lE, .i, .val true (.frz aA), .val true (.frz aA)], [(true, (.frz aA)), vi]⟩
def R.gi (r_0 : aF.den) (c_1 : lE.den) (b_2 : lE.den) (n_3 : Int) (v_4 : aA.den) (q_5 : aA.den) : Res ((aA.den × Int) × aF.den) :=
  Res.given (gi.g.i (r_0, (c_1, (b_2, (n_3, (v_4, q_5)))))) (Res.bind (R.jH c_1.2.2.2.2.2.2.2.2.1 v_4) fun r1 => Res.given (jH.g.o r1) (Res.br (!(r1.2 == 0)) (Res.bind (R.aC r_0 r1.2) fun r2 => Res.given (aC.g.o r2) (Res.ok (r2))) (Res.bind (R.bu q_5) fun r3 => Res.given (bu.g.o r3) (Res.br (!(r3.2 == 0)) (Res.bind (R.aC r_0 r3.2) fun r4 => Res.given (aC.g.o r4) (Res.ok (r4))) (Res.bind (α := aI.den) (Res.br (r3.1.1 == 2) (Res.ok ((3, 0))) (Res.ok (r3.1))) fun x5 => Res.bind (R.bn c_1.2.2.2.2.2.2.2.2.1) fun r6 => Res.given (bn.g.o r6) (Res.bind (R.fH x5) fun r7 => Res.given (fH.g.o r7) (Res.bind (R.cR r_0 (6, (b_2.2.2.2.2.2.2.2.2.2.1, (IntKind.wrap .i64 (c_1.2.2.2.2.2.2.2.2.2.2.1 + (IntKind.wrap .i64 (n_3 * r6))), (r6, (0, (false, (false, (0, (r1.1, (r7, (([] : List Int), 0)))))))))))) fun r8 => Res.given (cR.g.o r8) (Res.br (!(r8.1.2 == 0)) (Res.ok ((((0, ((0, 0), ((false, ([] : List Int)), (([] : List Int), 0)))), r8.1.2), r8.2))) (Res.br (r8.1.1.2.1 == 0) (Res.bind (R.ae [111, 107]) fun r9 => Res.given (ae.g.o r9) (Res.bind (R.cY r9) fun r10 => Res.given (cY.g.o r10) (Res.ok (((r10, 0), r8.2))))) (Res.br (r8.1.1.2.1 == 1) (Res.bind (R.ae [110, 111, 116, 45, 101, 113, 117, 97, 108]) fun r11 => Res.given (ae.g.o r11) (Res.bind (R.cY r11) fun r12 => Res.given (cY.g.o r12) (Res.ok (((r12, 0), r8.2))))) (Res.bind (R.ae [116, 105, 109, 101, 100, 45, 111, 117, 116]) fun r13 => Res.given (ae.g.o r13) (Res.bind (R.cY r13) fun r14 => Res.given (cY.g.o r14) (Res.ok (((r14, 0), r8.2)))))))))))))))
abbrev et.g : Sg := ⟨[.obj aF, .val true lE, .val true lE, .i, .val true (.frz aA)], [(true, (.frz aA)), vi]⟩
def R.et (r_0 : aF.den) (c_1 : lE.den) (b_2 : lE.den) (n_3 : Int) (v_4 : aA.den) : Res ((aA.den × Int) × aF.den) :=
  Res.given (et.g.i (r_0, (c_1, (b_2, (n_3, v_4))))) (Res.bind (α := (aI.den ⊕ (Int × (aF.den × aA.den)))) (Res.br (!(v_4.1 == 0)) (Res.bind (R.bu v_4) fun r1 => Res.given (bu.g.o r1) (Res.br (!(r1.2 == 0)) (Res.bind (R.aC r_0 r1.2) fun r2 => Res.given (aC.g.o r2) (Res.ok (.inr (r2.1.2, (r2.2, r2.1.1))))) (Res.bind (R.fH r1.1) fun r3 => Res.given (fH.g.o r3) (Res.ok (.inl r3))))) (Res.ok (.inl (3, 0)))) fun x4 => Res.sum x4 (fun x5 => Res.br (!(b_2.1 == 6)) (Res.bind (R.cF 0) fun r7 => Res.given (cF.g.o r7) (Res.ok (((r7, 0), r_0)))) (Res.bind (R.bn c_1.2.2.2.2.2.2.2.2.1) fun r8 => Res.given (bn.g.o r8) (Res.bind (R.cR r_0 (7, (b_2.2.2.2.2.2.2.2.2.2.1, (IntKind.wrap .i64 (c_1.2.2.2.2.2.2.2.2.2.2.1 + (IntKind.wrap .i64 (n_3 * r8))), (0, (0, (false, (false, (0, (0, (x5, (([] : List Int), 0)))))))))))) fun r9 => Res.given (cR.g.o r9) (Res.br (!(r9.1.2 == 0)) (Res.ok ((((0, ((0, 0), ((false, ([] : List Int)), (([] : List Int), 0)))), r9.1.2), r9.2))) (Res.bind (R.cF (IntKind.wrap .i64 (iC .and .u64 r9.1.1.1 9007199254740991))) fun r10 => Res.given (cF.g.o r10) (Res.ok (((r10, 0), r9.2)))))))) (fun z6 => Res.ok (((z6.2.2, z6.1), z6.2.1))))
abbrev hB.g : Sg := ⟨[.i, .val true (.frz aA)], [(true, (.frz aA)), (false, (.frz (.int .u64))), vi]⟩
def R.hB (kind_0 : Int) (v_1 : aA.den) : Res ((aA.den × (Int × Int))) :=
  Res.given (hB.g.i (kind_0, v_1)) (Res.bind (R.ea kind_0) fun r1 => Res.br r1 (Res.bind (R.gG v_1) fun r2 => Res.given (gG.g.o r2) (Res.bind (R.eU r2.1) fun r3 => Res.given (eU.g.o r3) (Res.bind (R.gU kind_0 r2.1) fun r4 => Res.given (gU.g.o r4) (Res.ok ((r3, (r4, r2.2))))))) (Res.bind (R.bu v_1) fun r5 => Res.given (bu.g.o r5) (Res.bind (R.fw r5.1) fun r6 => Res.given (fw.g.o r6) (Res.bind (R.cu r6) fun r7 => Res.given (cu.g.o r7) (Res.bind (R.gR kind_0 r6) fun r8 => Res.given (gR.g.o r8) (Res.ok ((r7, (r8, r5.2)))))))))
abbrev jh.g : Sg := ⟨[.i, .i, .val false (.frz (.int .u64)), .val false (.frz (.int .u64))], [(false, (.frz (.int .u64))), vb]⟩
def R.jh (kind_0 : Int) (op_1 : Int) (old_2 : Int) (by_3 : Int) : Res ((Int × Bool)) :=
  Res.given (jh.g.i (kind_0, (op_1, (old_2, by_3)))) (Res.bind (R.bn kind_0) fun r1 => Res.given (bn.g.o r1) (Res.br (r1 == 0) (Res.ok ((0, false))) (Res.br (op_1 == 1) (Res.bind (R.gK kind_0 (IntKind.wrap .u64 (old_2 + by_3))) fun r2 => Res.given (gK.g.o r2) (Res.ok ((r2, true)))) (Res.br (op_1 == 2) (Res.bind (R.gK kind_0 (iC .and .u64 old_2 by_3)) fun r3 => Res.given (gK.g.o r3) (Res.ok ((r3, true)))) (Res.br (op_1 == 3) (Res.bind (R.gK kind_0 (iC .or .u64 old_2 by_3)) fun r4 => Res.given (gK.g.o r4) (Res.ok ((r4, true)))) (Res.br (op_1 == 4) (Res.bind (R.gK kind_0 (IntKind.wrap .u64 (old_2 - by_3))) fun r5 => Res.given (gK.g.o r5) (Res.ok ((r5, true)))) (Res.br (op_1 == 5) (Res.bind (R.gK kind_0 (iC .xor .u64 old_2 by_3)) fun r6 => Res.given (gK.g.o r6) (Res.ok ((r6, true)))) (Res.br (op_1 == 6) (Res.bind (R.gK kind_0 by_3) fun r7 => Res.given (gK.g.o r7) (Res.ok ((r7, true)))) (Res.ok ((0, false)))))))))))
abbrev ey.g : Sg := ⟨[.obj aF, .val true lE, .i, .val true (.frz iU)], [(true, (.frz aA)), vi]⟩
def R.ey (r_0 : aF.den) (c_1 : lE.den) (n_2 : Int) (q_3 : iU.den) : Res ((aA.den × Int) × aF.den) :=
  Res.given (ey.g.i (r_0, (c_1, (n_2, q_3)))) (Res.bind (R.bn c_1.2.2.2.2.2.2.2.2.1) fun r1 => Res.given (bn.g.o r1) (Res.bind (R.ak r_0.2.2.2.2.1 c_1.2.2.2.2.2.2.2.2.2.1) fun r2 => Res.given (ak.g.o r2) (Res.br (!(r2.1.1 == 5)) (Res.bind (R.cR r_0 (q_3.1, (r2.1.2.2.2.2.2.2.2.2.2.1, (IntKind.wrap .i64 (c_1.2.2.2.2.2.2.2.2.2.2.1 + (IntKind.wrap .i64 (n_2 * r1))), (r1, (q_3.2.2.2.2.1, (true, (true, q_3.2.2.2.2.2.2.2)))))))) fun r3 => Res.given (cR.g.o r3) (Res.br (!(r3.1.2 == 0)) (Res.ok ((((0, ((0, 0), ((false, ([] : List Int)), (([] : List Int), 0)))), r3.1.2), r3.2))) (Res.bind (R.eE c_1.2.2.2.2.2.2.2.2.1 r3.1.1.1) fun r4 => Res.given (eE.g.o r4) (Res.ok (((r4, 0), r3.2)))))) (Res.bind (R.dz r_0 (c_1.1, (c_1.2.1, ((), ((), (c_1.2.2.2.2.1, (c_1.2.2.2.2.2.1, (c_1.2.2.2.2.2.2.1, (c_1.2.2.2.2.2.2.2.1, (c_1.2.2.2.2.2.2.2.2.1, (c_1.2.2.2.2.2.2.2.2.2.1, (c_1.2.2.2.2.2.2.2.2.2.2.1, (c_1.2.2.2.2.2.2.2.2.2.2.2.1, ())))))))))))) (IntKind.wrap .i64 (c_1.2.2.2.2.2.2.2.2.2.2.1 + (IntKind.wrap .i64 (n_2 * r1)))) r1 true true) fun r5 => Res.given (dz.g.o r5) (Res.bind (R.jh c_1.2.2.2.2.2.2.2.2.1 q_3.2.2.2.2.1 r5.1.1 q_3.2.2.2.2.2.2.2.1) fun r6 => Res.given (jh.g.o r6) (Res.bind (α := Int) (Res.br (q_3.1 == 5) (Res.br (r5.1.1 == q_3.2.2.2.2.2.2.2.2.1) (Res.ok (q_3.2.2.2.2.2.2.2.1)) (Res.ok (r5.1.1))) (Res.ok (r6.1))) fun w7 => Res.bind (R.dZ r5.2 (c_1.1, (c_1.2.1, ((), ((), (c_1.2.2.2.2.1, (c_1.2.2.2.2.2.1, (c_1.2.2.2.2.2.2.1, (c_1.2.2.2.2.2.2.2.1, (c_1.2.2.2.2.2.2.2.2.1, (c_1.2.2.2.2.2.2.2.2.2.1, (c_1.2.2.2.2.2.2.2.2.2.2.1, (c_1.2.2.2.2.2.2.2.2.2.2.2.1, ())))))))))))) (IntKind.wrap .i64 (c_1.2.2.2.2.2.2.2.2.2.2.1 + (IntKind.wrap .i64 (n_2 * r1)))) r1 w7 true true) fun r8 => Res.given (dZ.g.o r8) (Res.bind (R.eE c_1.2.2.2.2.2.2.2.2.1 r5.1.1) fun r9 => Res.given (eE.g.o r9) (Res.ok (((r9, 0), r8.2))))))))))
abbrev jA.g : Sg := ⟨[.s], [vi]⟩
def R.jA (s_0 : (List UInt8)) : Res (Int) :=
  Res.given (jA.g.i s_0) (Res.br (s_0 == [97, 100, 100]) (Res.ok (1)) (Res.br (s_0 == [97, 110, 100]) (Res.ok (2)) (Res.br (s_0 == [111, 114]) (Res.ok (3)) (Res.br (s_0 == [115, 117, 98]) (Res.ok (4)) (Res.br (s_0 == [120, 111, 114]) (Res.ok (5)) (Res.ok (6)))))))
abbrev gB.g : Sg := ⟨[.obj aF, .s, .val false (.bor (.own (.frz aA)))], [(true, (.frz aA)), vi]⟩
def R.gB (r_0 : aF.den) (s_1 : (List UInt8)) (l_2 : (List aA.den)) : Res ((aA.den × Int) × aF.den) :=
  Res.given (gB.g.i (r_0, (s_1, l_2))) (Res.br (s_1 == [105, 115, 76, 111, 99, 107, 70, 114, 101, 101]) (Res.bind (R.cA l_2 0) fun r1 => Res.given (cA.g.o r1) (Res.bind (R.bu r1) fun r2 => Res.given (bu.g.o r2) (Res.br (!(r2.2 == 0)) (Res.bind (R.aC r_0 r2.2) fun r3 => Res.given (aC.g.o r3) (Res.ok (r3))) (Res.bind (R.fw r2.1) fun r4 => Res.given (fw.g.o r4) (Res.br (r4.1 == 0) (Res.br (r4.2 == 1) (Res.bind (R.bT true) fun r5 => Res.given (bT.g.o r5) (Res.ok (((r5, 0), r_0)))) (Res.br (r4.2 == 2) (Res.bind (R.bT true) fun r6 => Res.given (bT.g.o r6) (Res.ok (((r6, 0), r_0)))) (Res.br (r4.2 == 4) (Res.bind (R.bT true) fun r7 => Res.given (bT.g.o r7) (Res.ok (((r7, 0), r_0)))) (Res.bind (R.bT (r4.2 == 8)) fun r8 => Res.given (bT.g.o r8) (Res.ok (((r8, 0), r_0))))))) (Res.bind (R.bT false) fun r9 => Res.given (bT.g.o r9) (Res.ok (((r9, 0), r_0))))))))) (Res.bind (R.cA l_2 0) fun r10 => Res.given (cA.g.o r10) (Res.bind (R.ak r_0.2.2.2.2.1 r10.2.2.2.2) fun r11 => Res.given (ak.g.o r11) (Res.bind (R.ak r_0.2.2.2.2.1 r11.1.2.2.2.2.2.2.2.2.2.1) fun r12 => Res.given (ak.g.o r12) (Res.bind (α := Bool) (Res.br (s_1 == [119, 97, 105, 116]) (Res.ok (true)) (Res.ok ((s_1 == [110, 111, 116, 105, 102, 121])))) fun waits13 => Res.bind (α := Bool) (Res.bind (α := Bool) (Res.br (!(r10.1 == 6)) (Res.ok (true)) (Res.ok ((!(r11.1.1 == 7))))) fun x14 => Res.br x14 (Res.ok (x14)) (Res.bind (α := Bool) (Res.br waits13 (Res.br (!(r11.1.2.2.2.2.2.2.2.2.1 == 5)) (Res.ok ((!(r11.1.2.2.2.2.2.2.2.2.1 == 7)))) (Res.ok (false))) (Res.ok (false))) fun x15 => Res.br x15 (Res.ok (x15)) (Res.br (s_1 == [119, 97, 105, 116]) (Res.ok ((!(r12.1.1 == 6)))) (Res.ok (false))))) fun x16 => Res.br x16 (Res.bind (R.aC r_0 1) fun r17 => Res.given (aC.g.o r17) (Res.ok (r17))) (Res.bind (R.cA l_2 1) fun r18 => Res.given (cA.g.o r18) (Res.bind (R.gh r_0 (r11.1.1, (r11.1.2.1, ((), ((), (r11.1.2.2.2.2.1, (r11.1.2.2.2.2.2.1, (r11.1.2.2.2.2.2.2.1, (r11.1.2.2.2.2.2.2.2.1, (r11.1.2.2.2.2.2.2.2.2.1, (r11.1.2.2.2.2.2.2.2.2.2.1, (r11.1.2.2.2.2.2.2.2.2.2.2.1, (r11.1.2.2.2.2.2.2.2.2.2.2.2.1, ())))))))))))) r18) fun r19 => Res.given (gh.g.o r19) (Res.br (!(r19.1.2.2 == 0)) (Res.ok ((r19.1.2, r19.2))) (Res.bind (R.bn r11.1.2.2.2.2.2.2.2.2.1) fun r20 => Res.given (bn.g.o r20) (Res.br (s_1 == [108, 111, 97, 100]) (Res.bind (R.dz r19.2 (r11.1.1, (r11.1.2.1, ((), ((), (r11.1.2.2.2.2.1, (r11.1.2.2.2.2.2.1, (r11.1.2.2.2.2.2.2.1, (r11.1.2.2.2.2.2.2.2.1, (r11.1.2.2.2.2.2.2.2.2.1, (r11.1.2.2.2.2.2.2.2.2.2.1, (r11.1.2.2.2.2.2.2.2.2.2.2.1, (r11.1.2.2.2.2.2.2.2.2.2.2.2.1, ())))))))))))) (IntKind.wrap .i64 (r11.1.2.2.2.2.2.2.2.2.2.2.1 + (IntKind.wrap .i64 (r19.1.1 * r20)))) r20 true true) fun r21 => Res.given (dz.g.o r21) (Res.br (!(r21.1.2 == 0)) (Res.ok ((((0, ((0, 0), ((false, ([] : List Int)), (([] : List Int), 0)))), r21.1.2), r21.2))) (Res.bind (R.eE r11.1.2.2.2.2.2.2.2.2.1 r21.1.1) fun r22 => Res.given (eE.g.o r22) (Res.ok (((r22, 0), r21.2)))))) (Res.br (s_1 == [119, 97, 105, 116]) (Res.bind (R.cA l_2 2) fun r23 => Res.given (cA.g.o r23) (Res.bind (R.cA l_2 3) fun r24 => Res.given (cA.g.o r24) (Res.bind (R.gi r19.2 (r11.1.1, (r11.1.2.1, ((), ((), (r11.1.2.2.2.2.1, (r11.1.2.2.2.2.2.1, (r11.1.2.2.2.2.2.2.1, (r11.1.2.2.2.2.2.2.2.1, (r11.1.2.2.2.2.2.2.2.2.1, (r11.1.2.2.2.2.2.2.2.2.2.1, (r11.1.2.2.2.2.2.2.2.2.2.2.1, (r11.1.2.2.2.2.2.2.2.2.2.2.2.1, ())))))))))))) (r12.1.1, (r12.1.2.1, ((), ((), (r12.1.2.2.2.2.1, (r12.1.2.2.2.2.2.1, (r12.1.2.2.2.2.2.2.1, (r12.1.2.2.2.2.2.2.2.1, (r12.1.2.2.2.2.2.2.2.2.1, (r12.1.2.2.2.2.2.2.2.2.2.1, (r12.1.2.2.2.2.2.2.2.2.2.2.1, (r12.1.2.2.2.2.2.2.2.2.2.2.2.1, ())))))))))))) r19.1.1 r23 r24) fun r25 => Res.given (gi.g.o r25) (Res.ok (r25))))) (Res.br (s_1 == [110, 111, 116, 105, 102, 121]) (Res.bind (R.cA l_2 2) fun r26 => Res.given (cA.g.o r26) (Res.bind (R.et r19.2 (r11.1.1, (r11.1.2.1, ((), ((), (r11.1.2.2.2.2.1, (r11.1.2.2.2.2.2.1, (r11.1.2.2.2.2.2.2.1, (r11.1.2.2.2.2.2.2.2.1, (r11.1.2.2.2.2.2.2.2.2.1, (r11.1.2.2.2.2.2.2.2.2.2.1, (r11.1.2.2.2.2.2.2.2.2.2.2.1, (r11.1.2.2.2.2.2.2.2.2.2.2.2.1, ())))))))))))) (r12.1.1, (r12.1.2.1, ((), ((), (r12.1.2.2.2.2.1, (r12.1.2.2.2.2.2.1, (r12.1.2.2.2.2.2.2.1, (r12.1.2.2.2.2.2.2.2.1, (r12.1.2.2.2.2.2.2.2.2.1, (r12.1.2.2.2.2.2.2.2.2.2.1, (r12.1.2.2.2.2.2.2.2.2.2.2.1, (r12.1.2.2.2.2.2.2.2.2.2.2.2.1, ())))))))))))) r19.1.1 r26) fun r27 => Res.given (et.g.o r27) (Res.ok (r27)))) (Res.bind (R.cA l_2 2) fun r28 => Res.given (cA.g.o r28) (Res.bind (R.hB r11.1.2.2.2.2.2.2.2.2.1 r28) fun r29 => Res.given (hB.g.o r29) (Res.br (!(r29.2.2 == 0)) (Res.bind (R.aC r19.2 r29.2.2) fun r30 => Res.given (aC.g.o r30) (Res.ok (r30))) (Res.br (s_1 == [115, 116, 111, 114, 101]) (Res.bind (R.dZ r19.2 (r11.1.1, (r11.1.2.1, ((), ((), (r11.1.2.2.2.2.1, (r11.1.2.2.2.2.2.1, (r11.1.2.2.2.2.2.2.1, (r11.1.2.2.2.2.2.2.2.1, (r11.1.2.2.2.2.2.2.2.2.1, (r11.1.2.2.2.2.2.2.2.2.2.1, (r11.1.2.2.2.2.2.2.2.2.2.2.1, (r11.1.2.2.2.2.2.2.2.2.2.2.2.1, ())))))))))))) (IntKind.wrap .i64 (r11.1.2.2.2.2.2.2.2.2.2.2.1 + (IntKind.wrap .i64 (r19.1.1 * r20)))) r20 r29.2.1 true true) fun r31 => Res.given (dZ.g.o r31) (Res.br (!(r31.1 == 0)) (Res.ok ((((0, ((0, 0), ((false, ([] : List Int)), (([] : List Int), 0)))), r31.1), r31.2))) (Res.ok (((r29.1, 0), r31.2))))) (Res.br (s_1 == [99, 111, 109, 112, 97, 114, 101, 69, 120, 99, 104, 97, 110, 103, 101]) (Res.bind (R.cA l_2 3) fun r32 => Res.given (cA.g.o r32) (Res.bind (R.hB r11.1.2.2.2.2.2.2.2.2.1 r32) fun r33 => Res.given (hB.g.o r33) (Res.br (!(r33.2.2 == 0)) (Res.bind (R.aC r19.2 r33.2.2) fun r34 => Res.given (aC.g.o r34) (Res.ok (r34))) (Res.bind (R.ey r19.2 (r11.1.1, (r11.1.2.1, ((), ((), (r11.1.2.2.2.2.1, (r11.1.2.2.2.2.2.1, (r11.1.2.2.2.2.2.2.1, (r11.1.2.2.2.2.2.2.2.1, (r11.1.2.2.2.2.2.2.2.2.1, (r11.1.2.2.2.2.2.2.2.2.2.1, (r11.1.2.2.2.2.2.2.2.2.2.2.1, (r11.1.2.2.2.2.2.2.2.2.2.2.2.1, ())))))))))))) r19.1.1 (5, (0, (0, (0, (0, (false, (false, (r33.2.1, (r29.2.1, ((0, 0), (([] : List Int), 0)))))))))))) fun r35 => Res.given (ey.g.o r35) (Res.ok (r35)))))) (Res.bind (R.jA s_1) fun r36 => Res.given (jA.g.o r36) (Res.bind (R.ey r19.2 (r11.1.1, (r11.1.2.1, ((), ((), (r11.1.2.2.2.2.1, (r11.1.2.2.2.2.2.1, (r11.1.2.2.2.2.2.2.1, (r11.1.2.2.2.2.2.2.2.1, (r11.1.2.2.2.2.2.2.2.2.1, (r11.1.2.2.2.2.2.2.2.2.2.1, (r11.1.2.2.2.2.2.2.2.2.2.2.1, (r11.1.2.2.2.2.2.2.2.2.2.2.2.1, ())))))))))))) r19.1.1 (4, (0, (0, (0, (r36, (false, (false, (r29.2.1, (0, ((0, 0), (([] : List Int), 0)))))))))))) fun r37 => Res.given (ey.g.o r37) (Res.ok (r37)))))))))))))))))))))
end Go.Mach
end
set_option linter.unusedVariables false
set_option maxRecDepth 20000
noncomputable section
namespace Go.Mach
abbrev cP.g : Sg := ⟨[.obj aF, .val false (.frz (.list (.int .i64))), .val true (.frz aP)], [(true, (.frz aT))]⟩
abbrev aQ.g : Sg := ⟨[.obj aF, .i, .val true (.frz aP), .val false (.frz (.list .str))], [(true, (.frz aT))]⟩
abbrev dt.g : Sg := ⟨[.obj aF, .i, .val true (.frz aP), .val false (.frz (.list .str))], [(true, (.frz aT))]⟩
abbrev aE.g : Sg := ⟨[.obj aF, .i, .val true (.frz aP)], [(true, (.frz aA)), vi]⟩
abbrev dM.g : Sg := ⟨[.obj aF, .i, .val true (.frz aP)], [(true, (.frz aT))]⟩
abbrev dP.g : Sg := ⟨[.obj aF, .val false (.frz (.list (.int .i64))), .val true (.frz aP)], [(true, (.frz aT))]⟩
abbrev cw.g : Sg := ⟨[.obj aF, .val false (.frz (.list (.int .i64))), .val true (.frz aP)], [(true, (.frz aT))]⟩
abbrev dO.g : Sg := ⟨[.obj aF, .val false (.frz (.list (.int .i64))), .val true (.frz aP), .val false (.frz (.list .str))], [(true, (.frz aT))]⟩
abbrev dm.g : Sg := ⟨[.obj aF, .val false (.frz (.list (.int .i64))), .val true (.frz aP), .val false (.frz (.list .str))], [(true, (.frz aT))]⟩
abbrev eL.g : Sg := ⟨[.obj aF, .val false (.frz (.list (.int .i64))), .val true (.frz aP)], [(true, (.frz aT))]⟩
abbrev dS.g : Sg := ⟨[.obj aF, .i, .val true (.frz aP)], [(true, (.frz aA)), vi]⟩
abbrev cK.g : Sg := ⟨[.obj aF, .i, .val true (.frz aP)], [vb, (true, (.frz aT))]⟩
abbrev dQ.g : Sg := ⟨[.obj aF, .i, .val true (.frz aP)], [(true, (.frz aP)), (true, (.frz aT))]⟩
abbrev dK.g : Sg := ⟨[.obj aF, .s, .i, .val true (.frz aA), .val true (.frz aP)], [(true, (.frz aT))]⟩
abbrev dV.g : Sg := ⟨[.obj aF, .val false (.frz (.list (.int .i64))), .val true (.frz aP)], [(true, (.frz aA)), vi]⟩
abbrev cq.g : Sg := ⟨[.obj aF, .val false (.frz (.list (.int .i64))), .val true (.frz aP)], [(true, (.frz aA)), vi]⟩
abbrev cC.g : Sg := ⟨[.obj aF, .i, .val true (.frz aB), .val true (.frz aP)], [(true, (.frz aA)), vi]⟩
abbrev dN.g : Sg := ⟨[.obj aF, .s, .i, .val true (.frz aP)], [(true, (.frz aA)), vi]⟩
abbrev dn.g : Sg := ⟨[.obj aF, .val true (.frz aB), .val true (.frz aP)], [(true, (.frz aA)), vi]⟩
abbrev cn.g : Sg := ⟨[.obj aF, .val true (.frz aB), .val true (.frz aP)], [(true, (.frz aA)), vi]⟩
abbrev dJ.g : Sg := ⟨[.obj aF, .val true (.frz aB), .val true (.frz aP)], [(true, (.frz aA)), vi]⟩
abbrev cm.g : Sg := ⟨[.obj aF, .val true (.frz aB), .val true (.frz aP)], [(true, (.frz aA)), vi]⟩
abbrev ct.g : Sg := ⟨[.obj aF, .val false (.frz (.list (.int .i64))), .val true (.frz aP)], [(true, (.frz aA)), vi]⟩
abbrev bX.g : Sg := ⟨[.obj aF, .val false (.frz (.list (.int .i64))), .val true (.frz aP)], [(false, (.own (.frz aA))), (true, (.frz aA)), vi]⟩
abbrev dI.g : Sg := ⟨[.obj aF, .val true (.frz aA), .val false (.frz (.list aA))], [(true, (.frz aA)), vi]⟩
abbrev cN.g : Sg := ⟨[.obj aF, .i, .val true (.frz aP)], [(true, (.frz aA)), vi]⟩
abbrev bt.g : Sg := ⟨[.obj aF, .i, .val true (.frz aP)], [(true, (.frz jQ)), (true, (.frz aA)), vi]⟩
abbrev cr.g : Sg := ⟨[.obj aF, .i, .val true (.frz aP)], [(true, (.frz aA)), (true, (.frz aA)), vi]⟩
abbrev dF.g : Sg := ⟨[.obj aF, .val true (.frz aA), .val true (.frz aA), .val false (.frz (.list aA))], [(true, (.frz aA)), vi]⟩
abbrev cp.g : Sg := ⟨[.obj aF, .s, .val false (.frz (.list aA))], [(true, (.frz aA)), vi]⟩
abbrev cd.g : Sg := ⟨[.obj aF, .i, .val true (.frz aA), .val false (.frz (.list aA))], [(true, (.frz aA)), vi]⟩
abbrev dE.g : Sg := ⟨[.obj aF, .s, .val true (.frz aA), .val false (.frz (.list aA))], [(true, (.frz aA)), vi]⟩
abbrev dp.g : Sg := ⟨[.obj aF, .s, .val true (.frz aA)], [(true, (.frz aA)), vi]⟩
abbrev cL.g : Sg := ⟨[.obj aF, .val true (.frz aA)], [(true, (.frz aA)), vi]⟩
structure ay where
  cP : aF.den → (List Int) → aP.den → Res (aT.den × aF.den)
  aQ : aF.den → Int → aP.den → (List (List UInt8)) → Res (aT.den × aF.den)
  dt : aF.den → Int → aP.den → (List (List UInt8)) → Res (aT.den × aF.den)
  aE : aF.den → Int → aP.den → Res ((aA.den × Int) × aF.den)
  dM : aF.den → Int → aP.den → Res (aT.den × aF.den)
  dP : aF.den → (List Int) → aP.den → Res (aT.den × aF.den)
  cw : aF.den → (List Int) → aP.den → Res (aT.den × aF.den)
  dO : aF.den → (List Int) → aP.den → (List (List UInt8)) → Res (aT.den × aF.den)
  dm : aF.den → (List Int) → aP.den → (List (List UInt8)) → Res (aT.den × aF.den)
  eL : aF.den → (List Int) → aP.den → Res (aT.den × aF.den)
  dS : aF.den → Int → aP.den → Res ((aA.den × Int) × aF.den)
  cK : aF.den → Int → aP.den → Res ((Bool × aT.den) × aF.den)
  dQ : aF.den → Int → aP.den → Res ((aP.den × aT.den) × aF.den)
  dK : aF.den → (List UInt8) → Int → aA.den → aP.den → Res (aT.den × aF.den)
  dV : aF.den → (List Int) → aP.den → Res ((aA.den × Int) × aF.den)
  cq : aF.den → (List Int) → aP.den → Res ((aA.den × Int) × aF.den)
  cC : aF.den → Int → aB.den → aP.den → Res ((aA.den × Int) × aF.den)
  dN : aF.den → (List UInt8) → Int → aP.den → Res ((aA.den × Int) × aF.den)
  dn : aF.den → aB.den → aP.den → Res ((aA.den × Int) × aF.den)
  cn : aF.den → aB.den → aP.den → Res ((aA.den × Int) × aF.den)
  dJ : aF.den → aB.den → aP.den → Res ((aA.den × Int) × aF.den)
  cm : aF.den → aB.den → aP.den → Res ((aA.den × Int) × aF.den)
  ct : aF.den → (List Int) → aP.den → Res ((aA.den × Int) × aF.den)
  bX : aF.den → (List Int) → aP.den → Res (((List aA.den) × (aA.den × Int)) × aF.den)
  dI : aF.den → aA.den → (List aA.den) → Res ((aA.den × Int) × aF.den)
  cN : aF.den → Int → aP.den → Res ((aA.den × Int) × aF.den)
  bt : aF.den → Int → aP.den → Res ((jQ.den × (aA.den × Int)) × aF.den)
  cr : aF.den → Int → aP.den → Res ((aA.den × (aA.den × Int)) × aF.den)
  dF : aF.den → aA.den → aA.den → (List aA.den) → Res ((aA.den × Int) × aF.den)
  cp : aF.den → (List UInt8) → (List aA.den) → Res ((aA.den × Int) × aF.den)
  cd : aF.den → Int → aA.den → (List aA.den) → Res ((aA.den × Int) × aF.den)
  dE : aF.den → (List UInt8) → aA.den → (List aA.den) → Res ((aA.den × Int) × aF.den)
  dp : aF.den → (List UInt8) → aA.den → Res ((aA.den × Int) × aF.den)
  cL : aF.den → aA.den → Res ((aA.den × Int) × aF.den)
def R.cP (G : ay) (r_0 : aF.den) (l_1 : (List Int)) (e_2 : aP.den) : Res (aT.den × aF.den) :=
  Res.given (cP.g.i (r_0, (l_1, e_2))) (Res.bind (Res.loop (α := (Int × aF.den)) (β := (aF.den ⊕ (aF.den × aT.den))) (fun x1 => Res.br (ilt x1.1 (l_1.length : Int)) (Res.idx (.int .i64) l_1 x1.1 fun e2 => Res.bind (G.aQ x1.2 e2 e_2 ([] : List (List UInt8))) fun r3 => Res.given (aQ.g.o r3) (Res.br (!(r3.1.1 == 0)) (Res.ok (.done (.inr (r3.2, r3.1)))) (Res.ok (.next ((IntKind.wrap .i64 (x1.1 + 1), r3.2)))))) (Res.ok (.done (.inl x1.2)))) fuel (0, r_0)) fun x4 => Res.sum x4 (fun x5 => Res.ok (((0, (([] : List UInt8), (0, ((0, 0), ((false, ([] : List Int)), (([] : List Int), 0)))))), x5))) (fun z6 => Res.ok ((z6.2, z6.1))))
def R.aQ (G : ay) (r_0 : aF.den) (n_1 : Int) (e_2 : aP.den) (labels_3 : (List (List UInt8))) : Res (aT.den × aF.den) :=
  Res.given (aQ.g.i (r_0, (n_1, (e_2, labels_3)))) (Res.bind (R.cc r_0) fun r1 => Res.given (cc.g.o r1) (Res.br (!r1.1) (Res.ok (((5, (([] : List UInt8), (0, ((0, 0), ((false, ([] : List Int)), (([] : List Int), 0)))))), r1.2))) (Res.bind (G.dt r1.2 n_1 e_2 labels_3) fun r2 => Res.given (dt.g.o r2) (Res.ok ((r2.1, (r2.2.1, (r2.2.2.1, (r2.2.2.2.1, (r2.2.2.2.2.1, (r2.2.2.2.2.2.1, (IntKind.wrap .i64 (r2.2.2.2.2.2.2.1 - 1), r2.2.2.2.2.2.2.2))))))))))))
def R.dt (G : ay) (r_0 : aF.den) (n_1 : Int) (e_2 : aP.den) (labels_3 : (List (List UInt8))) : Res (aT.den × aF.den) :=
  Res.given (dt.g.i (r_0, (n_1, (e_2, labels_3)))) (Res.idx aB r_0.1 n_1 fun e1 => Res.br (e1.1 == 3) (Res.idx (.int .i64) e1.2.2.2.2.2 0 fun e2 => Res.bind (G.aE r_0 e2 e_2) fun r3 => Res.given (aE.g.o r3) (Res.br (!(r3.1.2 == 0)) (Res.ok (((r3.1.2, (([] : List UInt8), r3.1.1)), r3.2))) (Res.ok (((0, (([] : List UInt8), (0, ((0, 0), ((false, ([] : List Int)), (([] : List Int), 0)))))), r3.2))))) (Res.br (e1.1 == 4) (Res.bind (G.dM r_0 n_1 e_2) fun r4 => Res.given (dM.g.o r4) (Res.ok (r4))) (Res.bind (α := Bool) (Res.br (e1.1 == 5) (Res.ok ((e1.1 == 5))) (Res.ok ((e1.1 == 6)))) fun x5 => Res.br x5 (Res.bind (G.dP r_0 e1.2.2.2.2.2 e_2) fun r6 => Res.given (dP.g.o r6) (Res.ok (r6))) (Res.br (e1.1 == 8) (Res.bind (G.cw r_0 e1.2.2.2.2.2 e_2) fun r7 => Res.given (cw.g.o r7) (Res.ok (r7))) (Res.br (e1.1 == 9) (Res.bind (G.dO r_0 e1.2.2.2.2.2 e_2 labels_3) fun r8 => Res.given (dO.g.o r8) (Res.ok (r8))) (Res.br (e1.1 == 10) (Res.bind (G.dm r_0 e1.2.2.2.2.2 e_2 labels_3) fun r9 => Res.given (dm.g.o r9) (Res.ok (r9))) (Res.br (e1.1 == 12) (Res.ok (((1, (e1.2.1, (0, ((0, 0), ((false, ([] : List Int)), (([] : List Int), 0)))))), r_0))) (Res.br (e1.1 == 13) (Res.ok (((2, (e1.2.1, (0, ((0, 0), ((false, ([] : List Int)), (([] : List Int), 0)))))), r_0))) (Res.br (e1.1 == 14) (Res.br ((e1.2.2.2.2.2.length : Int) == 0) (Res.ok (((3, (([] : List UInt8), (0, ((0, 0), ((false, ([] : List Int)), (([] : List Int), 0)))))), r_0))) (Res.idx (.int .i64) e1.2.2.2.2.2 0 fun e10 => Res.bind (G.aE r_0 e10 e_2) fun r11 => Res.given (aE.g.o r11) (Res.bind (R.gP 3 r11.1.1 r11.1.2) fun r12 => Res.given (gP.g.o r12) (Res.ok ((r12, r11.2)))))) (Res.br (e1.1 == 15) (Res.idx (.int .i64) e1.2.2.2.2.2 0 fun e13 => Res.bind (G.aE r_0 e13 e_2) fun r14 => Res.given (aE.g.o r14) (Res.bind (R.gP 4 r14.1.1 r14.1.2) fun r15 => Res.given (gP.g.o r15) (Res.ok ((r15, r14.2))))) (Res.br (e1.1 == 16) (Res.bind (G.eL r_0 e1.2.2.2.2.2 e_2) fun r16 => Res.given (eL.g.o r16) (Res.ok (r16))) (Res.br (e1.1 == 18) (Res.idx (.int .i64) e1.2.2.2.2.2 0 fun e17 => Res.bind (Res.ok labels_3) fun r18 => Res.given (mj .str r18) (Res.ai (decide ((r18.length + [e1.2.1].length) * 16 ≤ 2 ^ 47)) (Res.bind (G.aQ r_0 e17 e_2 (r18 ++ [e1.2.1])) fun r19 => Res.given (aQ.g.o r19) (Res.bind (α := Bool) (Res.br (r19.1.1 == 1) (Res.ok ((r19.1.2.1 == e1.2.1))) (Res.ok (false))) fun x20 => Res.br x20 (Res.ok (((0, (([] : List UInt8), (0, ((0, 0), ((false, ([] : List Int)), (([] : List Int), 0)))))), r19.2))) (Res.ok (r19)))))) (Res.ok (((0, (([] : List UInt8), (0, ((0, 0), ((false, ([] : List Int)), (([] : List Int), 0)))))), r_0)))))))))))))))
def R.aE (G : ay) (r_0 : aF.den) (n_1 : Int) (e_2 : aP.den) : Res ((aA.den × Int) × aF.den) :=
  Res.given (aE.g.i (r_0, (n_1, e_2))) (Res.bind (R.cc r_0) fun r1 => Res.given (cc.g.o r1) (Res.br (!r1.1) (Res.ok ((((0, ((0, 0), ((false, ([] : List Int)), (([] : List Int), 0)))), 5), r1.2))) (Res.bind (G.dS r1.2 n_1 e_2) fun r2 => Res.given (dS.g.o r2) (Res.ok ((r2.1, (r2.2.1, (r2.2.2.1, (r2.2.2.2.1, (r2.2.2.2.2.1, (r2.2.2.2.2.2.1, (IntKind.wrap .i64 (r2.2.2.2.2.2.2.1 - 1), r2.2.2.2.2.2.2.2))))))))))))
def R.dM (G : ay) (r_0 : aF.den) (n_1 : Int) (e_2 : aP.den) : Res (aT.den × aF.den) :=
  Res.given (dM.g.i (r_0, (n_1, e_2))) (Res.bind (α := ((aF.den × aP.den) ⊕ (aF.den × aT.den))) (Res.bind (R.gm r_0.1 n_1) fun r1 => Res.given (gm.g.o r1) (Res.br (ilt 0 (r1.length : Int)) (Res.bind (R.cE r_0 e_2.1) fun r2 => Res.given (cE.g.o r2) (Res.br (!(r2.1.2 == 0)) (Res.ok (.inr (r2.2, (r2.1.2, (([] : List UInt8), (0, ((0, 0), ((false, ([] : List Int)), (([] : List Int), 0))))))))) (Res.bind (R.cz r2.2 n_1 (r2.1.1, e_2.2)) fun r3 => Res.given (cz.g.o r3) (Res.br (!(r3.1.2 == 0)) (Res.ok (.inr (r3.2, (r3.1.2, (([] : List UInt8), r3.1.1))))) (Res.ok (.inl (r3.2, (r2.1.1, e_2.2)))))))) (Res.ok (.inl (r_0, e_2))))) fun x4 => Res.sum x4 (fun x5 => Res.idx aB x5.1.1 n_1 fun e7 => Res.bind (G.cP x5.1 e7.2.2.2.2.2 x5.2) fun r8 => Res.given (cP.g.o r8) (Res.ok (r8))) (fun z6 => Res.ok ((z6.2, z6.1))))
def R.dP (G : ay) (r_0 : aF.den) (l_1 : (List Int)) (e_2 : aP.den) : Res (aT.den × aF.den) :=
  Res.given (dP.g.i (r_0, (l_1, e_2))) (Res.bind (Res.loop (α := (Int × aF.den)) (β := (aF.den ⊕ (aF.den × aT.den))) (fun x1 => Res.br (ilt x1.1 (l_1.length : Int)) (Res.idx (.int .i64) l_1 x1.1 fun e2 => Res.idx aB x1.2.1 e2 fun e3 => Res.bind (α := ((aF.den × aA.den) ⊕ (aF.den × aT.den))) (Res.br (ilt 0 (e3.2.2.2.2.2.length : Int)) (Res.idx (.int .i64) e3.2.2.2.2.2 0 fun e4 => Res.bind (G.aE x1.2 e4 e_2) fun r5 => Res.given (aE.g.o r5) (Res.br (!(r5.1.2 == 0)) (Res.ok (.inr (r5.2, (r5.1.2, (([] : List UInt8), r5.1.1))))) (Res.ok (.inl (r5.2, r5.1.1))))) (Res.ok (.inl (x1.2, (0, ((0, 0), ((false, ([] : List Int)), (([] : List Int), 0)))))))) fun x6 => Res.sum x6 (fun x7 => Res.bind (R.eI x7.1.2.2.2.2.1 e_2.1 e3.2.1 x7.2 true) fun r9 => Res.given (eI.g.o r9) (Res.ok (.next ((IntKind.wrap .i64 (x1.1 + 1), (x7.1.1, (x7.1.2.1, (x7.1.2.2.1, (x7.1.2.2.2.1, (r9.2, x7.1.2.2.2.2.2)))))))))) (fun z8 => Res.ok (.done (.inr z8)))) (Res.ok (.done (.inl x1.2)))) fuel (0, r_0)) fun x10 => Res.sum x10 (fun x11 => Res.ok (((0, (([] : List UInt8), (0, ((0, 0), ((false, ([] : List Int)), (([] : List Int), 0)))))), x11))) (fun z12 => Res.ok ((z12.2, z12.1))))
def R.cw (G : ay) (r_0 : aF.den) (k_1 : (List Int)) (e_2 : aP.den) : Res (aT.den × aF.den) :=
  Res.given (cw.g.i (r_0, (k_1, e_2))) (Res.idx (.int .i64) k_1 0 fun e1 => Res.bind (G.cK r_0 e1 e_2) fun r2 => Res.given (cK.g.o r2) (Res.br (!(r2.1.2.1 == 0)) (Res.ok ((r2.1.2, r2.2))) (Res.br r2.1.1 (Res.idx (.int .i64) k_1 1 fun e3 => Res.bind (G.aQ r2.2 e3 e_2 ([] : List (List UInt8))) fun r4 => Res.given (aQ.g.o r4) (Res.ok (r4))) (Res.br (ilt 2 (k_1.length : Int)) (Res.idx (.int .i64) k_1 2 fun e5 => Res.bind (G.aQ r2.2 e5 e_2 ([] : List (List UInt8))) fun r6 => Res.given (aQ.g.o r6) (Res.ok (r6))) (Res.ok (((0, (([] : List UInt8), (0, ((0, 0), ((false, ([] : List Int)), (([] : List Int), 0)))))), r2.2)))))))
def R.dO (G : ay) (r_0 : aF.den) (k_1 : (List Int)) (e_2 : aP.den) (labels_3 : (List (List UInt8))) : Res (aT.den × aF.den) :=
  Res.given (dO.g.i (r_0, (k_1, (e_2, labels_3)))) (Res.bind (Res.loop (α := aF.den) (β := (aF.den × aT.den)) (fun x1 => Res.idx (.int .i64) k_1 0 fun e2 => Res.bind (G.cK x1 e2 e_2) fun r3 => Res.given (cK.g.o r3) (Res.bind (α := Bool) (Res.br (!(r3.1.2.1 == 0)) (Res.ok (true)) (Res.ok ((!r3.1.1)))) fun x4 => Res.br x4 (Res.ok (.done ((r3.2, r3.1.2)))) (Res.idx (.int .i64) k_1 1 fun e5 => Res.bind (G.aQ r3.2 e5 e_2 ([] : List (List UInt8))) fun r6 => Res.given (aQ.g.o r6) (Res.bind (R.jx r6.1 labels_3) fun r7 => Res.given (jx.g.o r7) (Res.br r7.1 (Res.ok (.next (r6.2))) (Res.ok (.done ((r6.2, r7.2))))))))) fuel r_0) fun x8 => Res.ok ((x8.2, x8.1)))
def R.dm (G : ay) (r_0 : aF.den) (k_1 : (List Int)) (e_2 : aP.den) (labels_3 : (List (List UInt8))) : Res (aT.den × aF.den) :=
  Res.given (dm.g.i (r_0, (k_1, (e_2, labels_3)))) (Res.idx (.int .i64) k_1 0 fun e1 => Res.bind (G.dQ r_0 e1 e_2) fun r2 => Res.given (dQ.g.o r2) (Res.br (!(r2.1.2.1 == 0)) (Res.ok ((r2.1.2, r2.2))) (Res.idx (.int .i64) k_1 0 fun e3 => Res.idx aB r2.2.1 e3 fun e4 => Res.bind (α := ((aF.den × aP.den) ⊕ (aF.den × aT.den))) (Res.br (e4.1 == 5) (Res.bind (R.gM r2.2 r2.1.1) fun r5 => Res.given (gM.g.o r5) (Res.br (!(r5.1.2 == 0)) (Res.ok (.inr (r5.2, (r5.1.2, (([] : List UInt8), (0, ((0, 0), ((false, ([] : List Int)), (([] : List Int), 0))))))))) (Res.ok (.inl (r5.2, r5.1.1))))) (Res.ok (.inl (r2.2, r2.1.1)))) fun x6 => Res.sum x6 (fun x7 => Res.bind (Res.loop (α := (aF.den × aP.den)) (β := (aF.den × aT.den)) (fun x9 => Res.bind (α := (aF.den ⊕ (aF.den × aT.den))) (Res.idx (.int .i64) k_1 1 fun e10 => Res.idx aB x9.1.1 e10 fun e11 => Res.br (!(e11.1 == 11)) (Res.idx (.int .i64) k_1 1 fun e12 => Res.bind (G.cK x9.1 e12 x9.2) fun r13 => Res.given (cK.g.o r13) (Res.bind (α := Bool) (Res.br (!(r13.1.2.1 == 0)) (Res.ok (true)) (Res.ok ((!r13.1.1)))) fun x14 => Res.br x14 (Res.ok (.inr (r13.2, r13.1.2))) (Res.ok (.inl r13.2)))) (Res.ok (.inl x9.1))) fun x15 => Res.sum x15 (fun x16 => Res.idx (.int .i64) k_1 3 fun e18 => Res.bind (G.aQ x16 e18 x9.2 ([] : List (List UInt8))) fun r19 => Res.given (aQ.g.o r19) (Res.bind (R.jx r19.1 labels_3) fun r20 => Res.given (jx.g.o r20) (Res.br (!r20.1) (Res.ok (.done ((r19.2, r20.2)))) (Res.bind (α := ((aF.den × aP.den) ⊕ (aF.den × aT.den))) (Res.br (e4.1 == 5) (Res.bind (R.gM r19.2 x9.2) fun r21 => Res.given (gM.g.o r21) (Res.br (!(r21.1.2 == 0)) (Res.ok (.inr (r21.2, (r21.1.2, (([] : List UInt8), (0, ((0, 0), ((false, ([] : List Int)), (([] : List Int), 0))))))))) (Res.ok (.inl (r21.2, r21.1.1))))) (Res.ok (.inl (r19.2, x9.2)))) fun x22 => Res.sum x22 (fun x23 => Res.idx (.int .i64) k_1 2 fun e25 => Res.idx aB x23.1.1 e25 fun e26 => Res.br (e26.1 == 11) (Res.ok (.next (x23))) (Res.idx (.int .i64) k_1 2 fun e27 => Res.bind (G.aE x23.1 e27 x23.2) fun r28 => Res.given (aE.g.o r28) (Res.br (!(r28.1.2 == 0)) (Res.ok (.done ((r28.2, (r28.1.2, (([] : List UInt8), r28.1.1)))))) (Res.ok (.next ((r28.2, x23.2))))))) (fun z24 => Res.ok (.done (z24))))))) (fun z17 => Res.ok (.done (z17)))) fuel x7) fun x29 => Res.ok ((x29.2, x29.1))) (fun z8 => Res.ok ((z8.2, z8.1))))))
def R.eL (G : ay) (r_0 : aF.den) (k_1 : (List Int)) (e_2 : aP.den) : Res (aT.den × aF.den) :=
  Res.given (eL.g.i (r_0, (k_1, e_2))) (Res.idx (.int .i64) k_1 0 fun e1 => Res.bind (G.aQ r_0 e1 e_2 ([] : List (List UInt8))) fun r2 => Res.given (aQ.g.o r2) (Res.bind (α := (aF.den × aT.den)) (Res.idx (.int .i64) k_1 1 fun e3 => Res.idx aB r2.2.1 e3 fun e4 => Res.bind (α := Bool) (Res.br (r2.1.1 == 4) (Res.ok ((e4.1 == 17))) (Res.ok (false))) fun x5 => Res.br x5 (Res.idx (.int .i64) e4.2.2.2.2.2 0 fun e6 => Res.bind (G.dK r2.2 e4.2.1 e6 r2.1.2.2 e_2) fun r7 => Res.given (dK.g.o r7) (Res.ok ((r7.2, r7.1)))) (Res.ok ((r2.2, r2.1)))) fun x8 => Res.bind (α := Bool) (Res.br (x8.2.1 == 5) (Res.ok (true)) (Res.idx (.int .i64) k_1 2 fun e9 => Res.idx aB x8.1.1 e9 fun e10 => Res.ok ((e10.1 == 11)))) fun x11 => Res.br x11 (Res.ok ((x8.2, x8.1))) (Res.idx (.int .i64) k_1 2 fun e12 => Res.bind (G.aQ x8.1 e12 e_2 ([] : List (List UInt8))) fun r13 => Res.given (aQ.g.o r13) (Res.br (!(r13.1.1 == 0)) (Res.ok (r13)) (Res.ok ((x8.2, r13.2)))))))
def R.dS (G : ay) (r_0 : aF.den) (n_1 : Int) (e_2 : aP.den) : Res ((aA.den × Int) × aF.den) :=
  Res.given (dS.g.i (r_0, (n_1, e_2))) (Res.idx aB r_0.1 n_1 fun e1 => Res.br (e1.1 == 30) (Res.bind (R.cu e1.2.2.2.1) fun r2 => Res.given (cu.g.o r2) (Res.ok (((r2, 0), r_0)))) (Res.br (e1.1 == 31) (Res.bind (R.eU e1.2.2.2.2.1) fun r3 => Res.given (eU.g.o r3) (Res.ok (((r3, 0), r_0)))) (Res.br (e1.1 == 32) (Res.bind (R.cY e1.2.2.1) fun r4 => Res.given (cY.g.o r4) (Res.ok (((r4, 0), r_0)))) (Res.br (e1.1 == 33) (Res.bind (R.fZ r_0 e1.2.1 e_2) fun r5 => Res.given (fZ.g.o r5) (Res.ok (r5))) (Res.bind (α := Bool) (Res.br (e1.1 == 34) (Res.ok ((e1.1 == 34))) (Res.ok ((e1.1 == 35)))) fun x6 => Res.br x6 (Res.bind (R.bT (e1.1 == 34)) fun r7 => Res.given (bT.g.o r7) (Res.ok (((r7, 0), r_0)))) (Res.br (e1.1 == 36) (Res.ok ((((1, ((0, 0), ((false, ([] : List Int)), (([] : List Int), 0)))), 0), r_0))) (Res.br (e1.1 == 37) (Res.br (!e_2.2.2) (Res.bind (R.aL r_0) fun r8 => Res.given (aL.g.o r8) (Res.ok (r8))) (Res.ok (((e_2.2.1, 0), r_0)))) (Res.br (e1.1 == 38) (Res.bind (G.dV r_0 e1.2.2.2.2.2 e_2) fun r9 => Res.given (dV.g.o r9) (Res.ok (r9))) (Res.br (e1.1 == 39) (Res.bind (G.cq r_0 e1.2.2.2.2.2 e_2) fun r10 => Res.given (cq.g.o r10) (Res.ok (r10))) (Res.bind (α := Bool) (Res.br (e1.1 == 41) (Res.ok ((e1.1 == 41))) (Res.ok ((e1.1 == 42)))) fun x11 => Res.br x11 (Res.bind (R.dx r_0 n_1 e_2) fun r12 => Res.given (dx.g.o r12) (Res.ok (r12))) (Res.bind (G.cC r_0 n_1 e1 e_2) fun r13 => Res.given (cC.g.o r13) (Res.ok (r13)))))))))))))
def R.cK (G : ay) (r_0 : aF.den) (n_1 : Int) (e_2 : aP.den) : Res ((Bool × aT.den) × aF.den) :=
  Res.given (cK.g.i (r_0, (n_1, e_2))) (Res.bind (G.aE r_0 n_1 e_2) fun r1 => Res.given (aE.g.o r1) (Res.br (!(r1.1.2 == 0)) (Res.ok (((false, (r1.1.2, (([] : List UInt8), r1.1.1))), r1.2))) (Res.bind (R.gl r1.1.1) fun r2 => Res.ok (((r2, (0, (([] : List UInt8), (0, ((0, 0), ((false, ([] : List Int)), (([] : List Int), 0))))))), r1.2)))))
def R.dQ (G : ay) (r_0 : aF.den) (n_1 : Int) (e_2 : aP.den) : Res ((aP.den × aT.den) × aF.den) :=
  Res.given (dQ.g.i (r_0, (n_1, e_2))) (Res.idx aB r_0.1 n_1 fun e1 => Res.br (e1.1 == 11) (Res.ok (((e_2, (0, (([] : List UInt8), (0, ((0, 0), ((false, ([] : List Int)), (([] : List Int), 0))))))), r_0))) (Res.bind (α := Bool) (Res.br (e1.1 == 5) (Res.ok ((e1.1 == 5))) (Res.ok ((e1.1 == 6)))) fun x2 => Res.br x2 (Res.bind (R.cE r_0 e_2.1) fun r3 => Res.given (cE.g.o r3) (Res.br (!(r3.1.2 == 0)) (Res.ok (((e_2, (r3.1.2, (([] : List UInt8), (0, ((0, 0), ((false, ([] : List Int)), (([] : List Int), 0))))))), r3.2))) (Res.bind (Res.loop (α := (Int × eY.den)) (β := eY.den) (fun x4 => Res.br (ilt x4.1 (e1.2.2.2.2.2.length : Int)) (Res.idx (.int .i64) e1.2.2.2.2.2 x4.1 fun e5 => Res.idx aB r3.2.1 e5 fun e6 => Res.bind (R.ba x4.2 r3.1.1 e6.2.1 (0, ((0, 0), ((false, ([] : List Int)), (([] : List Int), 0)))) false (e1.1 == 6)) fun r7 => Res.given (ba.g.o r7) (Res.ok (.next ((IntKind.wrap .i64 (x4.1 + 1), r7.2))))) (Res.ok (.done (x4.2)))) fuel (0, r3.2.2.2.2.2.1)) fun x8 => Res.bind (G.aQ (r3.2.1, (r3.2.2.1, (r3.2.2.2.1, (r3.2.2.2.2.1, (x8, r3.2.2.2.2.2.2))))) n_1 (r3.1.1, e_2.2) ([] : List (List UInt8))) fun r9 => Res.given (aQ.g.o r9) (Res.ok ((((r3.1.1, e_2.2), r9.1), r9.2)))))) (Res.bind (G.aE r_0 n_1 e_2) fun r10 => Res.given (aE.g.o r10) (Res.bind (R.gP 0 r10.1.1 r10.1.2) fun r11 => Res.given (gP.g.o r11) (Res.ok (((e_2, r11), r10.2)))))))
def R.dK (G : ay) (r_0 : aF.den) (name_1 : (List UInt8)) (n_2 : Int) (v_3 : aA.den) (e_4 : aP.den) : Res (aT.den × aF.den) :=
  Res.given (dK.g.i (r_0, (name_1, (n_2, (v_3, e_4))))) (Res.br (!(name_1 == ([] : List UInt8))) (Res.bind (R.cE r_0 e_4.1) fun r1 => Res.given (cE.g.o r1) (Res.br (!(r1.1.2 == 0)) (Res.ok (((r1.1.2, (([] : List UInt8), (0, ((0, 0), ((false, ([] : List Int)), (([] : List Int), 0)))))), r1.2))) (Res.bind (R.ba r1.2.2.2.2.2.1 r1.1.1 name_1 v_3 true false) fun r2 => Res.given (ba.g.o r2) (Res.bind (G.aQ (r1.2.1, (r1.2.2.1, (r1.2.2.2.1, (r1.2.2.2.2.1, (r2.2, r1.2.2.2.2.2.2))))) n_2 (r1.1.1, e_4.2) ([] : List (List UInt8))) fun r3 => Res.given (aQ.g.o r3) (Res.ok (r3)))))) (Res.bind (G.aQ r_0 n_2 e_4 ([] : List (List UInt8))) fun r4 => Res.given (aQ.g.o r4) (Res.ok (r4))))
def R.dV (G : ay) (r_0 : aF.den) (k_1 : (List Int)) (e_2 : aP.den) : Res ((aA.den × Int) × aF.den) :=
  Res.given (dV.g.i (r_0, (k_1, e_2))) (Res.bind (R.aX r_0 (2, (0, (([] : List bo.den), (([] : List bd.den), (([] : List UInt8), (0, (0, ((0, ((0, 0), ((false, ([] : List Int)), (([] : List Int), 0)))), (0, (0, (0, (0, ([] : List Int)))))))))))))) fun r1 => Res.given (aX.g.o r1) (Res.br (!(r1.1.2 == 0)) (Res.ok (r1)) (Res.bind (Res.loop (α := (Int × aF.den)) (β := (aF.den ⊕ (Int × (aF.den × aA.den)))) (fun x2 => Res.br (ilt x2.1 (k_1.length : Int)) (Res.idx (.int .i64) k_1 x2.1 fun e3 => Res.bind (G.aE x2.2 e3 e_2) fun r4 => Res.given (aE.g.o r4) (Res.br (!(r4.1.2 == 0)) (Res.ok (.done (.inr (r4.1.2, (r4.2, r4.1.1))))) (Res.bind (R.gN x2.1) fun r5 => Res.given (gN.g.o r5) (Res.bind (R.cj r4.2.2.2.2.2.1 r1.1.1.2.2.2.2 r5 r4.1.1) fun r6 => Res.given (cj.g.o r6) (Res.ok (.next ((IntKind.wrap .i64 (x2.1 + 1), (r4.2.1, (r4.2.2.1, (r4.2.2.2.1, (r4.2.2.2.2.1, (r6.2, r4.2.2.2.2.2.2))))))))))))) (Res.ok (.done (.inl x2.2)))) fuel (0, r1.2)) fun x7 => Res.sum x7 (fun x8 => Res.ok (((r1.1.1, 0), x8))) (fun z9 => Res.ok (((z9.2.2, z9.1), z9.2.1))))))
def R.cq (G : ay) (r_0 : aF.den) (k_1 : (List Int)) (e_2 : aP.den) : Res ((aA.den × Int) × aF.den) :=
  Res.given (cq.g.i (r_0, (k_1, e_2))) (Res.bind (R.aX r_0 (1, ((-1), (([] : List bo.den), (([] : List bd.den), (([] : List UInt8), (0, (0, ((0, ((0, 0), ((false, ([] : List Int)), (([] : List Int), 0)))), (0, (0, (0, (0, ([] : List Int)))))))))))))) fun r1 => Res.given (aX.g.o r1) (Res.br (!(r1.1.2 == 0)) (Res.ok (r1)) (Res.bind (Res.loop (α := (Int × aF.den)) (β := (aF.den ⊕ (Int × (aF.den × aA.den)))) (fun x2 => Res.br (ilt x2.1 (k_1.length : Int)) (Res.idx (.int .i64) k_1 x2.1 fun e3 => Res.idx aB x2.2.1 e3 fun e4 => Res.idx (.int .i64) e4.2.2.2.2.2 0 fun e5 => Res.bind (G.aE x2.2 e5 e_2) fun r6 => Res.given (aE.g.o r6) (Res.br (!(r6.1.2 == 0)) (Res.ok (.done (.inr (r6.1.2, (r6.2, r6.1.1))))) (Res.bind (R.ae [95, 95, 112, 114, 111, 116, 111, 95, 95]) fun r7 => Res.given (ae.g.o r7) (Res.bind (R.iY e4.2.2.1 r7) fun r8 => Res.br r8 (Res.bind (R.aL r6.2) fun r9 => Res.given (aL.g.o r9) (Res.ok (.done (.inr (r9.1.2, (r9.2, r9.1.1)))))) (Res.bind (R.cj r6.2.2.2.2.2.1 r1.1.1.2.2.2.2 e4.2.2.1 r6.1.1) fun r10 => Res.given (cj.g.o r10) (Res.ok (.next ((IntKind.wrap .i64 (x2.1 + 1), (r6.2.1, (r6.2.2.1, (r6.2.2.2.1, (r6.2.2.2.2.1, (r10.2, r6.2.2.2.2.2.2)))))))))))))) (Res.ok (.done (.inl x2.2)))) fuel (0, r1.2)) fun x11 => Res.sum x11 (fun x12 => Res.ok (((r1.1.1, 0), x12))) (fun z13 => Res.ok (((z13.2.2, z13.1), z13.2.1))))))
def R.cC (G : ay) (r_0 : aF.den) (n_1 : Int) (x_2 : aB.den) (e_3 : aP.den) : Res ((aA.den × Int) × aF.den) :=
  Res.given (cC.g.i (r_0, (n_1, (x_2, e_3)))) (Res.br (x_2.1 == 43) (Res.idx (.int .i64) x_2.2.2.2.2.2 0 fun e1 => Res.bind (G.dN r_0 x_2.2.1 e1 e_3) fun r2 => Res.given (dN.g.o r2) (Res.ok (r2))) (Res.bind (α := Bool) (Res.br (x_2.1 == 44) (Res.ok ((x_2.1 == 44))) (Res.ok ((x_2.1 == 45)))) fun x3 => Res.br x3 (Res.bind (G.dn r_0 x_2 e_3) fun r4 => Res.given (dn.g.o r4) (Res.ok (r4))) (Res.br (x_2.1 == 46) (Res.bind (G.cn r_0 x_2 e_3) fun r5 => Res.given (cn.g.o r5) (Res.ok (r5))) (Res.br (x_2.1 == 47) (Res.bind (G.dJ r_0 x_2 e_3) fun r6 => Res.given (dJ.g.o r6) (Res.ok (r6))) (Res.br (x_2.1 == 48) (Res.idx (.int .i64) x_2.2.2.2.2.2 0 fun e7 => Res.bind (G.aE r_0 e7 e_3) fun r8 => Res.given (aE.g.o r8) (Res.br (!(r8.1.2 == 0)) (Res.ok (r8)) (Res.bind (R.gl r8.1.1) fun r9 => Res.br r9 (Res.idx (.int .i64) x_2.2.2.2.2.2 1 fun e10 => Res.bind (G.aE r8.2 e10 e_3) fun r11 => Res.given (aE.g.o r11) (Res.ok (r11))) (Res.idx (.int .i64) x_2.2.2.2.2.2 2 fun e12 => Res.bind (G.aE r8.2 e12 e_3) fun r13 => Res.given (aE.g.o r13) (Res.ok (r13)))))) (Res.br (x_2.1 == 49) (Res.bind (G.cm r_0 x_2 e_3) fun r14 => Res.given (cm.g.o r14) (Res.ok (r14))) (Res.br (x_2.1 == 50) (Res.bind (G.ct r_0 x_2.2.2.2.2.2 e_3) fun r15 => Res.given (ct.g.o r15) (Res.ok (r15))) (Res.br (x_2.1 == 51) (Res.idx (.int .i64) x_2.2.2.2.2.2 0 fun e16 => Res.bind (G.aE r_0 e16 e_3) fun r17 => Res.given (aE.g.o r17) (Res.br (!(r17.1.2 == 0)) (Res.ok (r17)) (Res.ai (ile 0 1 && ile 1 x_2.2.2.2.2.2.length) (Res.bind (G.bX r17.2 (List.drop (Int.toNat 1) x_2.2.2.2.2.2) e_3) fun r18 => Res.given (bX.g.o r18) (Res.br (!(r18.1.2.2 == 0)) (Res.ok ((r18.1.2, r18.2))) (Res.bind (G.dI r18.2 r17.1.1 r18.1.1) fun r19 => Res.given (dI.g.o r19) (Res.ok (r19)))))))) (Res.bind (G.cN r_0 n_1 e_3) fun r20 => Res.given (cN.g.o r20) (Res.ok (r20)))))))))))
def R.dN (G : ay) (r_0 : aF.den) (op_1 : (List UInt8)) (n_2 : Int) (e_3 : aP.den) : Res ((aA.den × Int) × aF.den) :=
  Res.given (dN.g.i (r_0, (op_1, (n_2, e_3)))) (Res.br (!(op_1 == [116, 121, 112, 101, 111, 102])) (Res.bind (G.aE r_0 n_2 e_3) fun r1 => Res.given (aE.g.o r1) (Res.br (!(r1.1.2 == 0)) (Res.ok (r1)) (Res.bind (R.kM op_1 r1.1.1) fun r2 => Res.given (kM.g.o r2) (Res.bind (R.cU r1.2 r2.1 r2.2) fun r3 => Res.given (cU.g.o r3) (Res.ok (r3)))))) (Res.bind (α := ((Int × (aF.den × aA.den)) ⊕ (Int × (aF.den × aA.den)))) (Res.idx aB r_0.1 n_2 fun e4 => Res.br (e4.1 == 33) (Res.bind (R.cc r_0) fun r5 => Res.given (cc.g.o r5) (Res.br (!r5.1) (Res.ok (.inr (5, (r5.2, (0, ((0, 0), ((false, ([] : List Int)), (([] : List Int), 0)))))))) (Res.bind (R.fF r5.2 e4.2.1 e_3 true) fun r6 => Res.given (fF.g.o r6) (Res.ok (.inl (r6.1.2, ((r6.2.1, (r6.2.2.1, (r6.2.2.2.1, (r6.2.2.2.2.1, (r6.2.2.2.2.2.1, (IntKind.wrap .i64 (r6.2.2.2.2.2.2.1 - 1), r6.2.2.2.2.2.2.2)))))), r6.1.1))))))) (Res.bind (G.aE r_0 n_2 e_3) fun r7 => Res.given (aE.g.o r7) (Res.ok (.inl (r7.1.2, (r7.2, r7.1.1)))))) fun how8 => Res.sum how8 (fun how9 => Res.br (!(how9.1 == 0)) (Res.ok (((how9.2.2, how9.1), how9.2.1))) (Res.bind (R.iK how9.2.1 how9.2.2) fun r11 => Res.given (iK.g.o r11) (Res.bind (R.ae r11) fun r12 => Res.given (ae.g.o r12) (Res.bind (R.cY r12) fun r13 => Res.given (cY.g.o r13) (Res.ok (((r13, 0), how9.2.1))))))) (fun z10 => Res.ok (((z10.2.2, z10.1), z10.2.1)))))
def R.dn (G : ay) (r_0 : aF.den) (x_1 : aB.den) (e_2 : aP.den) : Res ((aA.den × Int) × aF.den) :=
  Res.given (dn.g.i (r_0, (x_1, e_2))) (Res.idx (.int .i64) x_1.2.2.2.2.2 0 fun e1 => Res.bind (G.bt r_0 e1 e_2) fun r2 => Res.given (bt.g.o r2) (Res.br (!(r2.1.2.2 == 0)) (Res.ok ((r2.1.2, r2.2))) (Res.bind (R.fa r2.2 r2.1.1 e_2) fun r3 => Res.given (fa.g.o r3) (Res.br (!(r3.1.2 == 0)) (Res.ok (r3)) (Res.bind (R.dC r3.1.1) fun r4 => Res.given (dC.g.o r4) (Res.br (!(r4.2 == 0)) (Res.bind (R.aC r3.2 r4.2) fun r5 => Res.given (aC.g.o r5) (Res.ok (r5))) (Res.bind (α := Int) (Res.br (x_1.2.1 == [45, 45]) (Res.ok ((-1))) (Res.ok (1))) fun by6 => Res.bind (R.lQ r4.1 by6) fun r7 => Res.given (lQ.g.o r7) (Res.br (!(r7.2 == 0)) (Res.bind (R.aC r3.2 r7.2) fun r8 => Res.given (aC.g.o r8) (Res.ok (r8))) (Res.bind (R.gT r3.2 r2.1.1 r7.1 e_2) fun r9 => Res.given (gT.g.o r9) (Res.br (!(r9.1.2 == 0)) (Res.ok (r9)) (Res.br (x_1.1 == 44) (Res.ok (((r7.1, 0), r9.2))) (Res.ok (((r4.1, 0), r9.2))))))))))))))
def R.cn (G : ay) (r_0 : aF.den) (x_1 : aB.den) (e_2 : aP.den) : Res ((aA.den × Int) × aF.den) :=
  Res.given (cn.g.i (r_0, (x_1, e_2))) (Res.idx (.int .i64) x_1.2.2.2.2.2 0 fun e1 => Res.bind (G.aE r_0 e1 e_2) fun r2 => Res.given (aE.g.o r2) (Res.br (!(r2.1.2 == 0)) (Res.ok (r2)) (Res.idx (.int .i64) x_1.2.2.2.2.2 1 fun e3 => Res.bind (G.aE r2.2 e3 e_2) fun r4 => Res.given (aE.g.o r4) (Res.br (!(r4.1.2 == 0)) (Res.ok (r4)) (Res.br (x_1.2.1 == [105, 110]) (Res.bind (R.ja r4.2 r2.1.1 r4.1.1) fun r5 => Res.given (ja.g.o r5) (Res.ok (r5))) (Res.bind (R.iP x_1.2.1 r2.1.1 r4.1.1) fun r6 => Res.given (iP.g.o r6) (Res.bind (R.cU r4.2 r6.1 r6.2) fun r7 => Res.given (cU.g.o r7) (Res.ok (r7)))))))))
def R.dJ (G : ay) (r_0 : aF.den) (x_1 : aB.den) (e_2 : aP.den) : Res ((aA.den × Int) × aF.den) :=
  Res.given (dJ.g.i (r_0, (x_1, e_2))) (Res.idx (.int .i64) x_1.2.2.2.2.2 0 fun e1 => Res.bind (G.aE r_0 e1 e_2) fun r2 => Res.given (aE.g.o r2) (Res.br (!(r2.1.2 == 0)) (Res.ok (r2)) (Res.bind (α := Bool) (Res.br (x_1.2.1 == [38, 38]) (Res.bind (R.gl r2.1.1) fun r3 => Res.ok ((!r3))) (Res.br (x_1.2.1 == [124, 124]) (Res.bind (R.gl r2.1.1) fun r4 => Res.ok (r4)) (Res.br (!(r2.1.1.1 == 0)) (Res.ok ((!(r2.1.1.1 == 1)))) (Res.ok (false))))) fun enough5 => Res.br enough5 (Res.ok (((r2.1.1, 0), r2.2))) (Res.idx (.int .i64) x_1.2.2.2.2.2 1 fun e6 => Res.bind (G.aE r2.2 e6 e_2) fun r7 => Res.given (aE.g.o r7) (Res.ok (r7))))))
def R.cm (G : ay) (r_0 : aF.den) (x_1 : aB.den) (e_2 : aP.den) : Res ((aA.den × Int) × aF.den) :=
  Res.given (cm.g.i (r_0, (x_1, e_2))) (Res.idx (.int .i64) x_1.2.2.2.2.2 0 fun e1 => Res.bind (G.bt r_0 e1 e_2) fun r2 => Res.given (bt.g.o r2) (Res.br (!(r2.1.2.2 == 0)) (Res.ok ((r2.1.2, r2.2))) (Res.ai (ile 0 (IntKind.wrap .i64 ((x_1.2.1.length : Int) - 1)) && ile (IntKind.wrap .i64 ((x_1.2.1.length : Int) - 1)) x_1.2.1.length) (Res.bind (α := ((aF.den × aA.den) ⊕ (Int × (aF.den × aA.den)))) (Res.br (!((List.take (Int.toNat (IntKind.wrap .i64 ((x_1.2.1.length : Int) - 1))) x_1.2.1) == ([] : List UInt8))) (Res.bind (R.fa r2.2 r2.1.1 e_2) fun r3 => Res.given (fa.g.o r3) (Res.br (!(r3.1.2 == 0)) (Res.ok (.inr (r3.1.2, (r3.2, r3.1.1)))) (Res.ok (.inl (r3.2, r3.1.1))))) (Res.ok (.inl (r2.2, (0, ((0, 0), ((false, ([] : List Int)), (([] : List Int), 0)))))))) fun x4 => Res.sum x4 (fun x5 => Res.idx (.int .i64) x_1.2.2.2.2.2 1 fun e7 => Res.bind (G.aE x5.1 e7 e_2) fun r8 => Res.given (aE.g.o r8) (Res.br (!(r8.1.2 == 0)) (Res.ok (r8)) (Res.bind (α := (aA.den ⊕ (Int × (aF.den × aA.den)))) (Res.br (!((List.take (Int.toNat (IntKind.wrap .i64 ((x_1.2.1.length : Int) - 1))) x_1.2.1) == ([] : List UInt8))) (Res.bind (R.iP (List.take (Int.toNat (IntKind.wrap .i64 ((x_1.2.1.length : Int) - 1))) x_1.2.1) x5.2 r8.1.1) fun r9 => Res.given (iP.g.o r9) (Res.br (!(r9.2 == 0)) (Res.bind (R.aC r8.2 r9.2) fun r10 => Res.given (aC.g.o r10) (Res.ok (.inr (r10.1.2, (r10.2, r10.1.1))))) (Res.ok (.inl r9.1)))) (Res.ok (.inl r8.1.1))) fun x11 => Res.sum x11 (fun x12 => Res.bind (R.gT r8.2 r2.1.1 x12 e_2) fun r14 => Res.given (gT.g.o r14) (Res.br (!(r14.1.2 == 0)) (Res.ok (r14)) (Res.ok (((x12, 0), r14.2))))) (fun z13 => Res.ok (((z13.2.2, z13.1), z13.2.1)))))) (fun z6 => Res.ok (((z6.2.2, z6.1), z6.2.1)))))))
def R.ct (G : ay) (r_0 : aF.den) (k_1 : (List Int)) (e_2 : aP.den) : Res ((aA.den × Int) × aF.den) :=
  Res.given (ct.g.i (r_0, (k_1, e_2))) (Res.idx (.int .i64) k_1 0 fun e1 => Res.bind (G.cr r_0 e1 e_2) fun r2 => Res.given (cr.g.o r2) (Res.br (!(r2.1.2.2 == 0)) (Res.ok (((r2.1.1, r2.1.2.2), r2.2))) (Res.ai (ile 0 1 && ile 1 k_1.length) (Res.bind (G.bX r2.2 (List.drop (Int.toNat 1) k_1) e_2) fun r3 => Res.given (bX.g.o r3) (Res.br (!(r3.1.2.2 == 0)) (Res.ok ((r3.1.2, r3.2))) (Res.bind (G.dF r3.2 r2.1.1 r2.1.2.1 r3.1.1) fun r4 => Res.given (dF.g.o r4) (Res.ok (r4))))))))
def R.bX (G : ay) (r_0 : aF.den) (k_1 : (List Int)) (e_2 : aP.den) : Res (((List aA.den) × (aA.den × Int)) × aF.den) :=
  Res.given (bX.g.i (r_0, (k_1, e_2))) (Res.bind (Res.loop (α := ((List aA.den) × (Int × aF.den))) (β := (((List aA.den) × aF.den) ⊕ ((List aA.den) × (Int × (aF.den × aA.den))))) (fun l1 => Res.br (ilt l1.2.1 (k_1.length : Int)) (Res.idx (.int .i64) k_1 l1.2.1 fun e2 => Res.bind (G.aE l1.2.2 e2 e_2) fun r3 => Res.given (aE.g.o r3) (Res.br (!(r3.1.2 == 0)) (Res.ok (.done (.inr (([] : List aA.den), (r3.1.2, (r3.2, r3.1.1)))))) (Res.ai (decide ((l1.1.length + [r3.1.1].length) * 88 ≤ 2 ^ 47)) (Res.ok (.next (((l1.1 ++ [r3.1.1]), (IntKind.wrap .i64 (l1.2.1 + 1), r3.2)))))))) (Res.ok (.done (.inl (l1.1, l1.2.2))))) fuel (([] : List aA.den), (0, r_0))) fun l4 => Res.sum l4 (fun l5 => Res.ok (((l5.1, ((0, ((0, 0), ((false, ([] : List Int)), (([] : List Int), 0)))), 0)), l5.2))) (fun z6 => Res.ok (((z6.1, (z6.2.2.2, z6.2.1)), z6.2.2.1))))
def R.dI (G : ay) (r_0 : aF.den) (f_1 : aA.den) (l_2 : (List aA.den)) : Res ((aA.den × Int) × aF.den) :=
  Res.given (dI.g.i (r_0, (f_1, l_2))) (Res.br (!(f_1.1 == 6)) (Res.bind (R.aC r_0 1) fun r1 => Res.given (aC.g.o r1) (Res.ok (r1))) (Res.bind (R.ak r_0.2.2.2.2.1 f_1.2.2.2.2) fun r2 => Res.given (ak.g.o r2) (Res.br (!r2.2) (Res.bind (R.gu f_1.2.2.2.2) fun r3 => Res.given (gu.g.o r3) (Res.bind (G.cp r_0 r3 l_2) fun r4 => Res.given (cp.g.o r4) (Res.ok (r4)))) (Res.bind (α := Bool) (Res.br (!(r2.1.1 == 3)) (Res.ok (true)) (Res.ok ((!(r2.1.2.2.2.2.2.2.2.2.1 == 0))))) fun x5 => Res.br x5 (Res.bind (R.aC r_0 1) fun r6 => Res.given (aC.g.o r6) (Res.ok (r6))) (Res.bind (α := (Int ⊕ (Int × (aF.den × aA.den)))) (Res.bind (R.ae [112, 114, 111, 116, 111, 116, 121, 112, 101]) fun r7 => Res.given (ae.g.o r7) (Res.bind (R.dW r_0.2.2.2.2.1 f_1.2.2.2.2 r7) fun r8 => Res.given (dW.g.o r8) (Res.br (r8.1.1 == 6) (Res.bind (R.bJ r_0.2.2.2.2.1 r8.1.2.2.2.2) fun r9 => Res.given (bJ.g.o r9) (Res.br (!(r9 == 1)) (Res.bind (R.aL r_0) fun r10 => Res.given (aL.g.o r10) (Res.ok (.inr (r10.1.2, (r10.2, r10.1.1))))) (Res.ok (.inl r8.1.2.2.2.2)))) (Res.ok (.inl (-1)))))) fun proto11 => Res.sum proto11 (fun proto12 => Res.bind (R.aX r_0 (1, (proto12, (([] : List bo.den), (([] : List bd.den), (([] : List UInt8), (0, (0, ((0, ((0, 0), ((false, ([] : List Int)), (([] : List Int), 0)))), (0, (0, (0, (0, ([] : List Int)))))))))))))) fun r14 => Res.given (aX.g.o r14) (Res.br (!(r14.1.2 == 0)) (Res.ok (r14)) (Res.bind (G.cd r14.2 f_1.2.2.2.2 r14.1.1 l_2) fun r15 => Res.given (cd.g.o r15) (Res.bind (α := Bool) (Res.br (!(r15.1.2 == 0)) (Res.ok (true)) (Res.ok ((r15.1.1.1 == 6)))) fun x16 => Res.br x16 (Res.ok (r15)) (Res.ok (((r14.1.1, 0), r15.2))))))) (fun z13 => Res.ok (((z13.2.2, z13.1), z13.2.1))))))))
def R.cN (G : ay) (r_0 : aF.den) (n_1 : Int) (e_2 : aP.den) : Res ((aA.den × Int) × aF.den) :=
  Res.given (cN.g.i (r_0, (n_1, e_2))) (Res.bind (G.bt r_0 n_1 e_2) fun r1 => Res.given (bt.g.o r1) (Res.br (!(r1.1.2.2 == 0)) (Res.ok ((r1.1.2, r1.2))) (Res.bind (R.fI r1.2 r1.1.1) fun r2 => Res.given (fI.g.o r2) (Res.ok (r2)))))
def R.bt (G : ay) (r_0 : aF.den) (n_1 : Int) (e_2 : aP.den) : Res ((jQ.den × (aA.den × Int)) × aF.den) :=
  Res.given (bt.g.i (r_0, (n_1, e_2))) (Res.idx aB r_0.1 n_1 fun e1 => Res.br (e1.1 == 33) (Res.ok ((((e1.2.1, ((0, ((0, 0), ((false, ([] : List Int)), (([] : List Int), 0)))), (0, ((0, 0), ((false, ([] : List Int)), (([] : List Int), 0)))))), ((0, ((0, 0), ((false, ([] : List Int)), (([] : List Int), 0)))), 0)), r_0))) (Res.idx (.int .i64) e1.2.2.2.2.2 0 fun e2 => Res.bind (G.aE r_0 e2 e_2) fun r3 => Res.given (aE.g.o r3) (Res.br (!(r3.1.2 == 0)) (Res.ok ((((([] : List UInt8), ((0, ((0, 0), ((false, ([] : List Int)), (([] : List Int), 0)))), (0, ((0, 0), ((false, ([] : List Int)), (([] : List Int), 0)))))), r3.1), r3.2))) (Res.br (e1.1 == 52) (Res.bind (R.ae e1.2.1) fun r4 => Res.given (ae.g.o r4) (Res.bind (R.cY r4) fun r5 => Res.given (cY.g.o r5) (Res.ok ((((([] : List UInt8), (r3.1.1, r5)), ((0, ((0, 0), ((false, ([] : List Int)), (([] : List Int), 0)))), 0)), r3.2))))) (Res.idx (.int .i64) e1.2.2.2.2.2 1 fun e6 => Res.bind (G.aE r3.2 e6 e_2) fun r7 => Res.given (aE.g.o r7) (Res.br (!(r7.1.2 == 0)) (Res.ok ((((([] : List UInt8), ((0, ((0, 0), ((false, ([] : List Int)), (([] : List Int), 0)))), (0, ((0, 0), ((false, ([] : List Int)), (([] : List Int), 0)))))), r7.1), r7.2))) (Res.ok ((((([] : List UInt8), (r3.1.1, r7.1.1)), ((0, ((0, 0), ((false, ([] : List Int)), (([] : List Int), 0)))), 0)), r7.2)))))))))
def R.cr (G : ay) (r_0 : aF.den) (n_1 : Int) (e_2 : aP.den) : Res ((aA.den × (aA.den × Int)) × aF.den) :=
  Res.given (cr.g.i (r_0, (n_1, e_2))) (Res.idx aB r_0.1 n_1 fun e1 => Res.bind (α := Bool) (Res.br (!(e1.1 == 52)) (Res.ok ((!(e1.1 == 53)))) (Res.ok (false))) fun x2 => Res.br x2 (Res.bind (G.aE r_0 n_1 e_2) fun r3 => Res.given (aE.g.o r3) (Res.ok (((r3.1.1, ((0, ((0, 0), ((false, ([] : List Int)), (([] : List Int), 0)))), r3.1.2)), r3.2)))) (Res.bind (R.cc r_0) fun r4 => Res.given (cc.g.o r4) (Res.br (!r4.1) (Res.ok ((((0, ((0, 0), ((false, ([] : List Int)), (([] : List Int), 0)))), ((0, ((0, 0), ((false, ([] : List Int)), (([] : List Int), 0)))), 5)), r4.2))) (Res.bind (G.bt r4.2 n_1 e_2) fun r5 => Res.given (bt.g.o r5) (Res.bind (α := (Int × (aF.den × aA.den))) (Res.br (r5.1.2.2 == 0) (Res.bind (R.fI r5.2 r5.1.1) fun r6 => Res.given (fI.g.o r6) (Res.ok ((r6.1.2, (r6.2, r6.1.1))))) (Res.ok ((r5.1.2.2, (r5.2, r5.1.2.1))))) fun how7 => Res.ok (((how7.2.2, (r5.1.1.2.1, how7.1)), (how7.2.1.1, (how7.2.1.2.1, (how7.2.1.2.2.1, (how7.2.1.2.2.2.1, (how7.2.1.2.2.2.2.1, (IntKind.wrap .i64 (how7.2.1.2.2.2.2.2.1 - 1), how7.2.1.2.2.2.2.2.2)))))))))))))
def R.dF (G : ay) (r_0 : aF.den) (f_1 : aA.den) (this_2 : aA.den) (l_3 : (List aA.den)) : Res ((aA.den × Int) × aF.den) :=
  Res.given (dF.g.i (r_0, (f_1, (this_2, l_3)))) (Res.br (!(f_1.1 == 6)) (Res.bind (R.aC r_0 1) fun r1 => Res.given (aC.g.o r1) (Res.ok (r1))) (Res.bind (R.gu f_1.2.2.2.2) fun r2 => Res.given (gu.g.o r2) (Res.bind (R.jM r2) fun r3 => Res.br r3 (Res.bind (G.dE r_0 r2 this_2 l_3) fun r4 => Res.given (dE.g.o r4) (Res.ok (r4))) (Res.bind (R.bJ r_0.2.2.2.2.1 f_1.2.2.2.2) fun r5 => Res.given (bJ.g.o r5) (Res.br (!(r5 == 3)) (Res.bind (R.aC r_0 1) fun r6 => Res.given (aC.g.o r6) (Res.ok (r6))) (Res.bind (G.cd r_0 f_1.2.2.2.2 this_2 l_3) fun r7 => Res.given (cd.g.o r7) (Res.ok (r7))))))))
def R.cp (G : ay) (r_0 : aF.den) (s_1 : (List UInt8)) (l_2 : (List aA.den)) : Res ((aA.den × Int) × aF.den) :=
  Res.given (cp.g.i (r_0, (s_1, l_2))) (Res.bind (α := Bool) (Res.br (s_1 == [79, 98, 106, 101, 99, 116]) (Res.ok ((s_1 == [79, 98, 106, 101, 99, 116]))) (Res.br (s_1 == [65, 114, 114, 97, 121]) (Res.ok ((s_1 == [65, 114, 114, 97, 121]))) (Res.br (s_1 == [78, 117, 109, 98, 101, 114]) (Res.ok ((s_1 == [78, 117, 109, 98, 101, 114]))) (Res.br (s_1 == [83, 116, 114, 105, 110, 103]) (Res.ok ((s_1 == [83, 116, 114, 105, 110, 103]))) (Res.ok ((s_1 == [66, 111, 111, 108, 101, 97, 110]))))))) fun x1 => Res.br x1 (Res.bind (R.aL r_0) fun r2 => Res.given (aL.g.o r2) (Res.ok (r2))) (Res.bind (α := Bool) (Res.br (s_1 == [69, 114, 114, 111, 114]) (Res.ok ((s_1 == [69, 114, 114, 111, 114]))) (Res.br (s_1 == [84, 121, 112, 101, 69, 114, 114, 111, 114]) (Res.ok ((s_1 == [84, 121, 112, 101, 69, 114, 114, 111, 114]))) (Res.br (s_1 == [82, 97, 110, 103, 101, 69, 114, 114, 111, 114]) (Res.ok ((s_1 == [82, 97, 110, 103, 101, 69, 114, 114, 111, 114]))) (Res.br (s_1 == [82, 101, 102, 101, 114, 101, 110, 99, 101, 69, 114, 114, 111, 114]) (Res.ok ((s_1 == [82, 101, 102, 101, 114, 101, 110, 99, 101, 69, 114, 114, 111, 114]))) (Res.ok ((s_1 == [83, 121, 110, 116, 97, 120, 69, 114, 114, 111, 114]))))))) fun x3 => Res.br x3 (Res.bind (G.dE r_0 s_1 (0, ((0, 0), ((false, ([] : List Int)), (([] : List Int), 0)))) l_2) fun r4 => Res.given (dE.g.o r4) (Res.ok (r4))) (Res.br (s_1 == [65, 114, 114, 97, 121, 66, 117, 102, 102, 101, 114]) (Res.bind (R.cA l_2 0) fun r5 => Res.given (cA.g.o r5) (Res.bind (R.dU r5) fun r6 => Res.given (dU.g.o r6) (Res.br (!(r6.2 == 0)) (Res.bind (R.aC r_0 r6.2) fun r7 => Res.given (aC.g.o r7) (Res.ok (r7))) (Res.br (ilt 4096 r6.1) (Res.bind (R.aC r_0 2) fun r8 => Res.given (aC.g.o r8) (Res.ok (r8))) (Res.ai (ile 0 r6.1 && (ile r6.1 r6.1 && decide ((Int.toNat r6.1) * 1 ≤ 2 ^ 47))) (Res.bind (R.aX r_0 (5, (0, (([] : List bo.den), (([] : List bd.den), (([] : List UInt8), (0, (0, ((0, ((0, 0), ((false, ([] : List Int)), (([] : List Int), 0)))), (0, (0, (0, (0, (List.replicate (Int.toNat r6.1) (0 : Int))))))))))))))) fun r9 => Res.given (aX.g.o r9) (Res.ok (r9)))))))) (Res.br (s_1 == [83, 104, 97, 114, 101, 100, 65, 114, 114, 97, 121, 66, 117, 102, 102, 101, 114]) (Res.bind (R.fJ r_0 l_2) fun r10 => Res.given (fJ.g.o r10) (Res.ok (r10))) (Res.br (s_1 == [68, 97, 116, 97, 86, 105, 101, 119]) (Res.bind (R.fL r_0 l_2) fun r11 => Res.given (fL.g.o r11) (Res.ok (r11))) (Res.bind (R.kL s_1) fun r12 => Res.given (kL.g.o r12) (Res.br (ilt 0 r12) (Res.bind (R.fp r_0 r12 l_2) fun r13 => Res.given (fp.g.o r13) (Res.ok (r13))) (Res.bind (R.aC r_0 1) fun r14 => Res.given (aC.g.o r14) (Res.ok (r14))))))))))
def R.cd (G : ay) (r_0 : aF.den) (ref_1 : Int) (this_2 : aA.den) (l_3 : (List aA.den)) : Res ((aA.den × Int) × aF.den) :=
  Res.given (cd.g.i (r_0, (ref_1, (this_2, l_3)))) (Res.bind (R.ak r_0.2.2.2.2.1 ref_1) fun r1 => Res.given (ak.g.o r1) (Res.bind (R.cE r_0 r1.1.2.2.2.2.2.2.1) fun r2 => Res.given (cE.g.o r2) (Res.br (!(r2.1.2 == 0)) (Res.ok ((((0, ((0, 0), ((false, ([] : List Int)), (([] : List Int), 0)))), r2.1.2), r2.2))) (Res.bind (α := aP.den) (Res.br (r1.1.2.2.2.2.2.2.2.2.1 == 1) (Res.ok ((r2.1.1, (r1.1.2.2.2.2.2.2.2.1, true)))) (Res.br (r1.1.2.2.2.2.2.2.2.2.1 == 2) (Res.ok ((r2.1.1, ((0, ((0, 0), ((false, ([] : List Int)), (([] : List Int), 0)))), false)))) (Res.ok ((r2.1.1, (this_2, true)))))) fun x3 => Res.idx aB r2.2.1 r1.1.2.2.2.2.2.1 fun e4 => Res.ai (ile 0 (IntKind.wrap .i64 ((e4.2.2.2.2.2.length : Int) - 1)) && ile (IntKind.wrap .i64 ((e4.2.2.2.2.2.length : Int) - 1)) e4.2.2.2.2.2.length) (Res.bind (Res.loop (α := (Int × eY.den)) (β := eY.den) (fun x5 => Res.br (ilt x5.1 ((List.take (Int.toNat (IntKind.wrap .i64 ((e4.2.2.2.2.2.length : Int) - 1))) e4.2.2.2.2.2).length : Int)) (Res.idx (.int .i64) (List.take (Int.toNat (IntKind.wrap .i64 ((e4.2.2.2.2.2.length : Int) - 1))) e4.2.2.2.2.2) x5.1 fun e6 => Res.idx aB r2.2.1 e6 fun e7 => Res.bind (R.cA l_3 x5.1) fun r8 => Res.given (cA.g.o r8) (Res.bind (R.ba x5.2 r2.1.1 e7.2.1 r8 true false) fun r9 => Res.given (ba.g.o r9) (Res.ok (.next ((IntKind.wrap .i64 (x5.1 + 1), r9.2)))))) (Res.ok (.done (x5.2)))) fuel (0, r2.2.2.2.2.2.1)) fun x10 => Res.idx (.int .i64) e4.2.2.2.2.2 (IntKind.wrap .i64 ((e4.2.2.2.2.2.length : Int) - 1)) fun e11 => Res.idx aB r2.2.1 e11 fun e12 => Res.br (!(e12.1 == 4)) (Res.bind (G.aE (r2.2.1, (r2.2.2.1, (r2.2.2.2.1, (r2.2.2.2.2.1, (x10, r2.2.2.2.2.2.2))))) e11 x3) fun r13 => Res.given (aE.g.o r13) (Res.ok (r13))) (Res.bind (R.cz (r2.2.1, (r2.2.2.1, (r2.2.2.2.1, (r2.2.2.2.2.1, (x10, r2.2.2.2.2.2.2))))) e11 x3) fun r14 => Res.given (cz.g.o r14) (Res.br (!(r14.1.2 == 0)) (Res.ok (r14)) (Res.idx aB r14.2.1 e11 fun e15 => Res.bind (G.cP r14.2 e15.2.2.2.2.2 x3) fun r16 => Res.given (cP.g.o r16) (Res.br (r16.1.1 == 3) (Res.ok (((r16.1.2.2, 0), r16.2))) (Res.bind (α := Bool) (Res.br (r16.1.1 == 4) (Res.ok ((r16.1.1 == 4))) (Res.ok ((r16.1.1 == 5)))) fun x17 => Res.br x17 (Res.ok (((r16.1.2.2, r16.1.1), r16.2))) (Res.ok ((((0, ((0, 0), ((false, ([] : List Int)), (([] : List Int), 0)))), 0), r16.2)))))))))))))
def R.dE (G : ay) (r_0 : aF.den) (s_1 : (List UInt8)) (this_2 : aA.den) (l_3 : (List aA.den)) : Res ((aA.den × Int) × aF.den) :=
  Res.given (dE.g.i (r_0, (s_1, (this_2, l_3)))) (Res.bind (R.cA l_3 0) fun r1 => Res.given (cA.g.o r1) (Res.bind (α := Bool) (Res.br (s_1 == [79, 98, 106, 101, 99, 116]) (Res.ok ((s_1 == [79, 98, 106, 101, 99, 116]))) (Res.ok ((s_1 == [65, 114, 114, 97, 121])))) fun x2 => Res.br x2 (Res.bind (R.aL r_0) fun r3 => Res.given (aL.g.o r3) (Res.ok (r3))) (Res.br (s_1 == [79, 98, 106, 101, 99, 116, 46, 107, 101, 121, 115]) (Res.bind (R.iF r_0 r1) fun r4 => Res.given (iF.g.o r4) (Res.ok (r4))) (Res.br (s_1 == [79, 98, 106, 101, 99, 116, 46, 99, 114, 101, 97, 116, 101]) (Res.bind (R.cA l_3 1) fun r5 => Res.given (cA.g.o r5) (Res.bind (R.fx r_0 r1 r5) fun r6 => Res.given (fx.g.o r6) (Res.ok (r6)))) (Res.br (s_1 == [65, 114, 114, 97, 121, 46, 105, 115, 65, 114, 114, 97, 121]) (Res.br (r1.1 == 6) (Res.bind (R.bJ r_0.2.2.2.2.1 r1.2.2.2.2) fun r7 => Res.given (bJ.g.o r7) (Res.bind (R.bT (r7 == 2)) fun r8 => Res.given (bT.g.o r8) (Res.ok (((r8, 0), r_0))))) (Res.bind (R.bT false) fun r9 => Res.given (bT.g.o r9) (Res.ok (((r9, 0), r_0))))) (Res.br (s_1 == [65, 114, 114, 97, 121, 35, 112, 117, 115, 104]) (Res.bind (R.iG r_0 this_2 l_3) fun r10 => Res.given (iG.g.o r10) (Res.ok (r10))) (Res.br (s_1 == [65, 114, 114, 97, 121, 35, 112, 111, 112]) (Res.bind (α := Bool) (Res.br (!(this_2.1 == 6)) (Res.ok (true)) (Res.bind (R.bJ r_0.2.2.2.2.1 this_2.2.2.2.2) fun r11 => Res.given (bJ.g.o r11) (Res.ok ((!(r11 == 2)))))) fun x12 => Res.br x12 (Res.bind (R.aL r_0) fun r13 => Res.given (aL.g.o r13) (Res.ok (r13))) (Res.bind (R.gf r_0.2.2.2.2.1 this_2.2.2.2.2) fun r14 => Res.given (gf.g.o r14) (Res.ok (((r14.1.1, 0), (r_0.1, (r_0.2.1, (r_0.2.2.1, (r_0.2.2.2.1, (r14.2, r_0.2.2.2.2.2)))))))))) (Res.br (s_1 == [78, 117, 109, 98, 101, 114]) (Res.bind (R.er r_0 r1 (l_3.length : Int)) fun r15 => Res.given (er.g.o r15) (Res.ok (r15))) (Res.br (s_1 == [83, 116, 114, 105, 110, 103]) (Res.br ((l_3.length : Int) == 0) (Res.bind (R.cY ([] : List Int)) fun r16 => Res.given (cY.g.o r16) (Res.ok (((r16, 0), r_0)))) (Res.bind (R.dv r1) fun r17 => Res.given (dv.g.o r17) (Res.bind (R.cY r17.1) fun r18 => Res.given (cY.g.o r18) (Res.bind (R.cU r_0 r18 r17.2) fun r19 => Res.given (cU.g.o r19) (Res.ok (r19)))))) (Res.br (s_1 == [66, 111, 111, 108, 101, 97, 110]) (Res.bind (R.gl r1) fun r20 => Res.bind (R.bT r20) fun r21 => Res.given (bT.g.o r21) (Res.ok (((r21, 0), r_0)))) (Res.br (s_1 == [66, 105, 103, 73, 110, 116]) (Res.bind (R.fq r_0 r1) fun r22 => Res.given (fq.g.o r22) (Res.ok (r22))) (Res.bind (α := Bool) (Res.br (s_1 == [69, 114, 114, 111, 114]) (Res.ok ((s_1 == [69, 114, 114, 111, 114]))) (Res.br (s_1 == [84, 121, 112, 101, 69, 114, 114, 111, 114]) (Res.ok ((s_1 == [84, 121, 112, 101, 69, 114, 114, 111, 114]))) (Res.br (s_1 == [82, 97, 110, 103, 101, 69, 114, 114, 111, 114]) (Res.ok ((s_1 == [82, 97, 110, 103, 101, 69, 114, 114, 111, 114]))) (Res.br (s_1 == [82, 101, 102, 101, 114, 101, 110, 99, 101, 69, 114, 114, 111, 114]) (Res.ok ((s_1 == [82, 101, 102, 101, 114, 101, 110, 99, 101, 69, 114, 114, 111, 114]))) (Res.ok ((s_1 == [83, 121, 110, 116, 97, 120, 69, 114, 114, 111, 114]))))))) fun x23 => Res.br x23 (Res.bind (R.fO r_0 s_1 r1) fun r24 => Res.given (fO.g.o r24) (Res.ok (r24))) (Res.bind (R.dy s_1 [68, 97, 116, 97, 86, 105, 101, 119, 35]) fun r25 => Res.br r25 (Res.bind (R.dL s_1 [68, 97, 116, 97, 86, 105, 101, 119, 35]) fun r26 => Res.given (dL.g.o r26) (Res.bind (R.fo r_0 r26 this_2 l_3) fun r27 => Res.given (fo.g.o r27) (Res.ok (r27)))) (Res.bind (R.dy s_1 [65, 116, 111, 109, 105, 99, 115, 46]) fun r28 => Res.br r28 (Res.bind (R.dL s_1 [65, 116, 111, 109, 105, 99, 115, 46]) fun r29 => Res.given (dL.g.o r29) (Res.bind (R.gB r_0 r29 l_3) fun r30 => Res.given (gB.g.o r30) (Res.ok (r30)))) (Res.bind (R.dy s_1 [36, 50, 54, 50, 46, 97, 103, 101, 110, 116, 46]) fun r31 => Res.br r31 (Res.bind (R.dL s_1 [36, 50, 54, 50, 46, 97, 103, 101, 110, 116, 46]) fun r32 => Res.given (dL.g.o r32) (Res.bind (G.dp r_0 r32 r1) fun r33 => Res.given (dp.g.o r33) (Res.ok (r33)))) (Res.bind (R.aC r_0 1) fun r34 => Res.given (aC.g.o r34) (Res.ok (r34))))))))))))))))))
def R.dp (G : ay) (r_0 : aF.den) (s_1 : (List UInt8)) (x_2 : aA.den) : Res ((aA.den × Int) × aF.den) :=
  Res.given (dp.g.i (r_0, (s_1, x_2))) (Res.bind (α := (iU.den ⊕ (Int × (aF.den × aA.den)))) (Res.br (s_1 == [115, 116, 97, 114, 116]) (Res.br (!(x_2.1 == 5)) (Res.bind (R.aL r_0) fun r1 => Res.given (aL.g.o r1) (Res.ok (.inr (r1.1.2, (r1.2, r1.1.1))))) (Res.ok (.inl (8, (0, (0, (0, (0, (false, (false, (0, (0, ((0, 0), (x_2.2.2.2.1, 0)))))))))))))) (Res.br (s_1 == [98, 114, 111, 97, 100, 99, 97, 115, 116]) (Res.bind (R.ak r_0.2.2.2.2.1 x_2.2.2.2.2) fun r2 => Res.given (ak.g.o r2) (Res.bind (α := Bool) (Res.br (!(x_2.1 == 6)) (Res.ok (true)) (Res.ok ((!(r2.1.1 == 6))))) fun x3 => Res.br x3 (Res.bind (R.aC r_0 1) fun r4 => Res.given (aC.g.o r4) (Res.ok (.inr (r4.1.2, (r4.2, r4.1.1))))) (Res.ok (.inl (9, (r2.1.2.2.2.2.2.2.2.2.2.1, (0, (0, (0, (false, (false, (0, (0, ((0, 0), (([] : List Int), r2.1.2.2.2.2.2.2.2.2.2.2.2.1))))))))))))))) (Res.br (s_1 == [114, 101, 99, 101, 105, 118, 101, 66, 114, 111, 97, 100, 99, 97, 115, 116]) (Res.bind (G.cL r_0 x_2) fun r5 => Res.given (cL.g.o r5) (Res.ok (.inr (r5.1.2, (r5.2, r5.1.1))))) (Res.br (s_1 == [114, 101, 112, 111, 114, 116]) (Res.bind (R.dv x_2) fun r6 => Res.given (dv.g.o r6) (Res.br (!(r6.2 == 0)) (Res.bind (R.aC r_0 r6.2) fun r7 => Res.given (aC.g.o r7) (Res.ok (.inr (r7.1.2, (r7.2, r7.1.1))))) (Res.ok (.inl (11, (0, (0, (0, (0, (false, (false, (0, (0, ((0, 0), (r6.1, 0))))))))))))))) (Res.br (s_1 == [103, 101, 116, 82, 101, 112, 111, 114, 116]) (Res.ok (.inl (12, (0, (0, (0, (0, (false, (false, (0, (0, ((0, 0), (([] : List Int), 0))))))))))))) (Res.br (s_1 == [115, 108, 101, 101, 112]) (Res.bind (R.bu x_2) fun r8 => Res.given (bu.g.o r8) (Res.br (!(r8.2 == 0)) (Res.bind (R.aC r_0 r8.2) fun r9 => Res.given (aC.g.o r9) (Res.ok (.inr (r9.1.2, (r9.2, r9.1.1))))) (Res.bind (R.fH r8.1) fun r10 => Res.given (fH.g.o r10) (Res.ok (.inl (13, (0, (0, (0, (0, (false, (false, (0, (0, (r10, (([] : List Int), 0)))))))))))))))) (Res.ok (.inl (14, (0, (0, (0, (0, (false, (false, (0, (0, ((0, 0), (([] : List Int), 0))))))))))))))))))) fun x11 => Res.sum x11 (fun x12 => Res.bind (R.cR r_0 x12) fun r14 => Res.given (cR.g.o r14) (Res.br (!(r14.1.2 == 0)) (Res.ok ((((0, ((0, 0), ((false, ([] : List Int)), (([] : List Int), 0)))), r14.1.2), r14.2))) (Res.br (x12.1 == 14) (Res.bind (R.cF (IntKind.wrap .i64 (iC .and .u64 r14.1.1.1 9007199254740991))) fun r15 => Res.given (cF.g.o r15) (Res.ok (((r15, 0), r14.2)))) (Res.bind (α := Bool) (Res.br (x12.1 == 12) (Res.ok ((!(r14.1.1.2.1 == 0)))) (Res.ok (false))) fun x16 => Res.br x16 (Res.ok ((((1, ((0, 0), ((false, ([] : List Int)), (([] : List Int), 0)))), 0), r14.2))) (Res.br (x12.1 == 12) (Res.bind (R.cY r14.1.1.2.2.2.2) fun r17 => Res.given (cY.g.o r17) (Res.ok (((r17, 0), r14.2)))) (Res.ok ((((0, ((0, 0), ((false, ([] : List Int)), (([] : List Int), 0)))), 0), r14.2)))))))) (fun z13 => Res.ok (((z13.2.2, z13.1), z13.2.1))))
def R.cL (G : ay) (r_0 : aF.den) (f_1 : aA.den) : Res ((aA.den × Int) × aF.den) :=
  Res.given (cL.g.i (r_0, f_1)) (Res.bind (α := Bool) (Res.br (!(f_1.1 == 6)) (Res.ok (true)) (Res.bind (R.bJ r_0.2.2.2.2.1 f_1.2.2.2.2) fun r1 => Res.given (bJ.g.o r1) (Res.ok ((!(r1 == 3)))))) fun x2 => Res.br x2 (Res.bind (R.aC r_0 1) fun r3 => Res.given (aC.g.o r3) (Res.ok (r3))) (Res.bind (R.cR r_0 (10, (0, (0, (0, (0, (false, (false, (0, (0, ((0, 0), (([] : List Int), 0)))))))))))) fun r4 => Res.given (cR.g.o r4) (Res.br (!(r4.1.2 == 0)) (Res.ok ((((0, ((0, 0), ((false, ([] : List Int)), (([] : List Int), 0)))), r4.1.2), r4.2))) (Res.bind (α := Int) (Res.bind (α := Bool) (Res.br (ilt r4.1.1.2.2.2.1 0) (Res.ok (true)) (Res.ok ((ilt 9007199254740991 r4.1.1.2.2.2.1)))) fun x5 => Res.br x5 (Res.ok (0)) (Res.ok (r4.1.1.2.2.2.1))) fun n6 => Res.bind (R.aX r4.2 (6, (0, (([] : List bo.den), (([] : List bd.den), (([] : List UInt8), (0, (0, ((0, ((0, 0), ((false, ([] : List Int)), (([] : List Int), 0)))), (0, (r4.1.1.2.2.1, (0, (n6, ([] : List Int)))))))))))))) fun r7 => Res.given (aX.g.o r7) (Res.br (!(r7.1.2 == 0)) (Res.ok (r7)) (Res.bind (G.dF r7.2 f_1 (0, ((0, 0), ((false, ([] : List Int)), (([] : List Int), 0)))) [r7.1.1]) fun r8 => Res.given (dF.g.o r8) (Res.br (!(r8.1.2 == 0)) (Res.ok (r8)) (Res.ok ((((0, ((0, 0), ((false, ([] : List Int)), (([] : List Int), 0)))), 0), r8.2))))))))))
def cf : Nat → ay
  | 0 => { cP := fun _ _ _ => .stuck, aQ := fun _ _ _ _ => .stuck, dt := fun _ _ _ _ => .stuck, aE := fun _ _ _ => .stuck, dM := fun _ _ _ => .stuck, dP := fun _ _ _ => .stuck, cw := fun _ _ _ => .stuck, dO := fun _ _ _ _ => .stuck, dm := fun _ _ _ _ => .stuck, eL := fun _ _ _ => .stuck, dS := fun _ _ _ => .stuck, cK := fun _ _ _ => .stuck, dQ := fun _ _ _ => .stuck, dK := fun _ _ _ _ _ => .stuck, dV := fun _ _ _ => .stuck, cq := fun _ _ _ => .stuck, cC := fun _ _ _ _ => .stuck, dN := fun _ _ _ _ => .stuck, dn := fun _ _ _ => .stuck, cn := fun _ _ _ => .stuck, dJ := fun _ _ _ => .stuck, cm := fun _ _ _ => .stuck, ct := fun _ _ _ => .stuck, bX := fun _ _ _ => .stuck, dI := fun _ _ _ => .stuck, cN := fun _ _ _ => .stuck, bt := fun _ _ _ => .stuck, cr := fun _ _ _ => .stuck, dF := fun _ _ _ _ => .stuck, cp := fun _ _ _ => .stuck, cd := fun _ _ _ _ => .stuck, dE := fun _ _ _ _ => .stuck, dp := fun _ _ _ => .stuck, cL := fun _ _ => .stuck }
  | n + 1 => { cP := R.cP (cf n), aQ := R.aQ (cf n), dt := R.dt (cf n), aE := R.aE (cf n), dM := R.dM (cf n), dP := R.dP (cf n), cw := R.cw (cf n), dO := R.dO (cf n), dm := R.dm (cf n), eL := R.eL (cf n), dS := R.dS (cf n), cK := R.cK (cf n), dQ := R.dQ (cf n), dK := R.dK (cf n), dV := R.dV (cf n), cq := R.cq (cf n), cC := R.cC (cf n), dN := R.dN (cf n), dn := R.dn (cf n), cn := R.cn (cf n), dJ := R.dJ (cf n), cm := R.cm (cf n), ct := R.ct (cf n), bX := R.bX (cf n), dI := R.dI (cf n), cN := R.cN (cf n), bt := R.bt (cf n), cr := R.cr (cf n), dF := R.dF (cf n), cp := R.cp (cf n), cd := R.cd (cf n), dE := R.dE (cf n), dp := R.dp (cf n), cL := R.cL (cf n) }
end Go.Mach
end
set_option linter.unusedVariables false
set_option maxRecDepth 20000
noncomputable section
namespace Go.Mach
abbrev eR.g : Sg := ⟨[.obj aF], [(true, (.frz aT))]⟩
def R.eR (r_0 : aF.den) : Res (aT.den × aF.den) :=
  Res.given (eR.g.i r_0) (Res.bind (R.cE r_0 (-1)) fun r1 => Res.given (cE.g.o r1) (Res.br (!(r1.1.2 == 0)) (Res.ok (((r1.1.2, (([] : List UInt8), (0, ((0, 0), ((false, ([] : List Int)), (([] : List Int), 0)))))), r1.2))) (Res.bind (R.cz r1.2 0 (r1.1.1, ((0, ((0, 0), ((false, ([] : List Int)), (([] : List Int), 0)))), false))) fun r2 => Res.given (cz.g.o r2) (Res.br (!(r2.1.2 == 0)) (Res.ok (((r2.1.2, (([] : List UInt8), r2.1.1)), r2.2))) (Res.idx aB r2.2.1 0 fun e3 => Res.bind ((cf fuel).cP r2.2 e3.2.2.2.2.2 (r1.1.1, ((0, ((0, 0), ((false, ([] : List Int)), (([] : List Int), 0)))), false))) fun r4 => Res.given (cP.g.o r4) (Res.ok (r4)))))))
abbrev gC.g : Sg := ⟨[.val false (.bor aF), .val true (.frz aA)], [(false, (.own .h))]⟩
def R.gC (r_0 : ((List aB.den) × (iy.den × ((List hJ.den) × (Int × (ir.den × (Int × (Int × (iU.den × kS.den))))))))) (v_1 : aA.den) : Res ((List Int)) :=
  Res.given (gC.g.i (r_0, v_1)) (Res.br (!(v_1.1 == 6)) (Res.bind (R.dv v_1) fun r1 => Res.given (dv.g.o r1) (Res.ok (r1.1))) (Res.bind (R.ak r_0.2.2.2.2.1 v_1.2.2.2.2) fun r2 => Res.given (ak.g.o r2) (Res.bind (α := Bool) (Res.br r2.2 (Res.ok ((r2.1.1 == 10))) (Res.ok (false))) fun x3 => Res.br x3 (Res.bind (R.ae r2.1.2.2.2.2.1) fun r4 => Res.given (ae.g.o r4) (Res.ok (r4))) (Res.bind (R.ae [111, 98, 106, 101, 99, 116]) fun r5 => Res.given (ae.g.o r5) (Res.ok (r5))))))
abbrev gp.g : Sg := ⟨[.val true (.frz (.list aB)), .val true (.frz iy), .val false (.frz (.list hJ))], [(true, (.frz iU)), (true, (.frz kS))]⟩
def R.gp (t_0 : (List aB.den)) (lim_1 : iy.den) (l_2 : (List hJ.den)) : Res ((iU.den × kS.den)) :=
  Res.given (gp.g.i (t_0, (lim_1, l_2))) (Res.bind (R.mG lim_1.1) fun r1 => Res.given (mG.g.o r1) (Res.bind (R.eR (t_0, (lim_1, (l_2, (0, (r1, (0, (0, ((0, (0, (0, (0, (0, (false, (false, (0, (0, ((0, 0), (([] : List Int), 0))))))))))), (0, ([] : List Int))))))))))) fun r2 => Res.given (eR.g.o r2) (Res.br (r2.1.1 == 5) (Res.ok (r2.2.2.2.2.2.2.2.2)) (Res.br (r2.1.1 == 4) (Res.bind (R.gC r2.2 r2.1.2.2) fun r3 => Res.given (gC.g.o r3) (Res.ok (((0, (0, (0, (0, (0, (false, (false, (0, (0, ((0, 0), (([] : List Int), 0))))))))))), (2, r3))))) (Res.ok (((0, (0, (0, (0, (0, (false, (false, (0, (0, ((0, 0), (([] : List Int), 0))))))))))), (1, ([] : List Int)))))))))
abbrev gy.g : Sg := ⟨[.val true (.frz (.list aB)), .val true (.frz iy), .val false (.frz (.list hJ))], [(true, (.frz iU)), (true, (.frz kS))]⟩
def R.gy (t_0 : (List aB.den)) (lim_1 : iy.den) (l_2 : (List hJ.den)) : Res ((iU.den × kS.den)) :=
  Res.given (gy.g.i (t_0, (lim_1, l_2))) (Res.bind (R.gJ t_0) fun r1 => Res.given (gJ.g.o r1) (Res.bind (α := Bool) (Res.br (!(r1.2 == 0)) (Res.ok (true)) (Res.bind (R.lj lim_1) fun r2 => Res.ok ((!r2)))) fun x3 => Res.br x3 (Res.ok (((0, (0, (0, (0, (0, (false, (false, (0, (0, ((0, 0), (([] : List Int), 0))))))))))), (0, ([] : List Int))))) (Res.bind (R.gp t_0 lim_1 l_2) fun r4 => Res.given (gp.g.o r4) (Res.ok (r4)))))
abbrev eP.g : Sg := ⟨[.s, .val false (.frz (.list hJ))], [(true, (.frz iU)), (true, (.frz kS))]⟩
def R.eP (s_0 : (List UInt8)) (l_1 : (List hJ.den)) : Res ((iU.den × kS.den)) :=
  Res.given (eP.g.i (s_0, l_1)) (Res.bind (R.i7 (mo s_0)) fun r1 => Res.given (i7.g.o r1) (Res.bind (R.gy r1.1 (100, (50, 500)) l_1) fun r2 => Res.given (gy.g.o r2) (Res.ok (r2))))
abbrev jF.g : Sg := ⟨[.s], [(false, (.own .h))]⟩
def R.jF (s_0 : (List UInt8)) : Res ((List Int)) :=
  Res.given (jF.g.i s_0) (Res.bind (Res.loop (α := ((List Int) × Int)) (β := (List Int)) (fun out1 => Res.br (ilt out1.2 (s_0.length : Int)) (Res.idx (.int .u8) (mo s_0) out1.2 fun e2 => Res.ai (decide ((out1.1.length + [IntKind.wrap .u16 e2].length) * 2 ≤ 2 ^ 47)) (Res.ok (.next (((out1.1 ++ [IntKind.wrap .u16 e2]), IntKind.wrap .i64 (out1.2 + 1)))))) (Res.ok (.done (out1.1)))) fuel (([] : List Int), 0)) fun out3 => Res.ok (out3))
abbrev jU.g : Sg := ⟨[.val false (.bor (.own .h)), .val false (.bor (.own .h))], [vb]⟩
def R.jU (a_0 : (List Int)) (b_1 : (List Int)) : Res (Bool) :=
  Res.given (jU.g.i (a_0, b_1)) (Res.br (!((a_0.length : Int) == (b_1.length : Int))) (Res.ok (false)) (Res.bind (Res.loop (α := Int) (β := (Unit ⊕ Bool)) (fun i1 => Res.br (ilt i1 (a_0.length : Int)) (Res.eN .h a_0 i1 fun e2 => Res.eN .h b_1 i1 fun e3 => Res.br (!(e2 == e3)) (Res.ok (.done (.inr false))) (Res.ok (.next (IntKind.wrap .i64 (i1 + 1))))) (Res.ok (.done (.inl ())))) fuel 0) fun x4 => Res.sum x4 (fun x5 => Res.ok (true)) (fun z6 => Res.ok (z6))))
abbrev fc.g : Sg := ⟨[.s, .i, .s], [vb]⟩
def R.fc (s_0 : (List UInt8)) (kind_1 : Int) (text_2 : (List UInt8)) : Res (Bool) :=
  Res.given (fc.g.i (s_0, (kind_1, text_2))) (Res.bind (R.eP s_0 ([] : List hJ.den)) fun r1 => Res.given (eP.g.o r1) (Res.br (r1.1.1 == 0) (Res.br (r1.2.1 == kind_1) (Res.bind (R.jF text_2) fun r2 => Res.given (jF.g.o r2) (Res.bind (R.jU r1.2.2 r2) fun r3 => Res.ok (r3))) (Res.ok (false))) (Res.ok (false))))
abbrev eJ.g : Sg := ⟨[], [vb]⟩
def R.eJ  : Res (Bool) :=
  Res.given (eJ.g.i ()) (Res.bind (R.eP [65, 116, 111, 109, 105, 99, 115, 46, 108, 111, 97, 100, 40, 110, 101, 119, 32, 73, 110, 116, 51, 50, 65, 114, 114, 97, 121, 40, 110, 101, 119, 32, 83, 104, 97, 114, 101, 100, 65, 114, 114, 97, 121, 66, 117, 102, 102, 101, 114, 40, 56, 41, 41, 44, 32, 49, 41] ([] : List hJ.den)) fun r1 => Res.given (eP.g.o r1) (Res.bind (R.eP [65, 116, 111, 109, 105, 99, 115, 46, 108, 111, 97, 100, 40, 110, 101, 119, 32, 73, 110, 116, 51, 50, 65, 114, 114, 97, 121, 40, 110, 101, 119, 32, 83, 104, 97, 114, 101, 100, 65, 114, 114, 97, 121, 66, 117, 102, 102, 101, 114, 40, 56, 41, 41, 44, 32, 49, 41] [(0, (0, (3, (0, ([] : List Int)))))]) fun r2 => Res.given (eP.g.o r2) (Res.bind (R.eP [108, 101, 116, 32, 102, 32, 61, 32, 40, 41, 32, 61, 62, 32, 102, 40, 41, 59, 32, 102, 40, 41] ([] : List hJ.den)) fun r3 => Res.given (eP.g.o r3) (Res.bind (R.fc [108, 101, 116, 32, 120, 32, 61, 32, 49, 59, 32, 120, 32, 61, 32, 120, 32, 43, 32, 49] 1 ([] : List UInt8)) fun r4 => Res.br r4 (Res.bind (R.fc [116, 104, 114, 111, 119, 32, 110, 101, 119, 32, 69, 114, 114, 111, 114, 40, 39, 97, 39, 41] 2 [69, 114, 114, 111, 114]) fun r5 => Res.br r5 (Res.bind (R.fc [110, 117, 108, 108, 46, 120] 2 [84, 121, 112, 101, 69, 114, 114, 111, 114]) fun r6 => Res.br r6 (Res.bind (R.fc [49, 32, 47, 32, 50] 3 ([] : List UInt8)) fun r7 => Res.br r7 (Res.bind (R.fc [77, 97, 116, 104] 3 ([] : List UInt8)) fun r8 => Res.br r8 (Res.br (r1.1.1 == 1) (Res.br (r1.1.2.2.2.2.2.2.2.2.2.2.2 == 8) (Res.br (r1.2.1 == 0) (Res.br (r2.1.1 == 2) (Res.br (r2.1.2.1 == 3) (Res.br (r2.1.2.2.1 == 4) (Res.br (r2.1.2.2.2.1 == 4) (Res.br r2.1.2.2.2.2.2.1 (Res.br (r2.2.1 == 0) (Res.ok ((ile 4 r3.2.1))) (Res.ok (false))) (Res.ok (false))) (Res.ok (false))) (Res.ok (false))) (Res.ok (false))) (Res.ok (false))) (Res.ok (false))) (Res.ok (false))) (Res.ok (false))) (Res.ok (false))) (Res.ok (false))) (Res.ok (false))) (Res.ok (false))) (Res.ok (false))))))
abbrev ei.g : Sg := ⟨[.i, .i], [vb]⟩
def R.ei (n_0 : Int) (fuel_1 : Int) : Res (Bool) :=
  Res.given (ei.g.i (n_0, fuel_1)) (Res.bind (R.eJ) fun r1 => Res.br (!r1) (Res.ok (false)) (Res.bind (α := Bool) (Res.br (ilt n_0 0) (Res.ok (true)) (Res.br (ilt 1000 n_0) (Res.ok (true)) (Res.br (ilt fuel_1 0) (Res.ok (true)) (Res.ok ((ilt 3000 fuel_1)))))) fun x2 => Res.br x2 (Res.bind (R.eJ) fun r3 => Res.ok (r3)) (Res.bind (Res.loop (α := ((List aB.den) × Int)) (β := (List aB.den)) (fun x4 => Res.br (ilt x4.2 n_0) (Res.eN (.seq .i (.seq .s (.seq (.frz (.list (.int .u16))) (.seq (.frz aI) (.seq (.frz az) (.own .i)))))) x4.1 0 fun e5 => Res.ai ((Int.toNat 0) == (Int.toNat 0)) (Res.ai (decide ((e5.2.2.2.2.2.length + [IntKind.wrap .i64 (x4.2 + 1)].length) * 8 ≤ 2 ^ 47)) (Res.ai (ile 0 0 && (Int.toNat 0) == (Int.toNat 0)) (Res.ai ((Int.toNat 0) == (Int.toNat 0)) (Res.ai (decide (((List.set x4.1 (Int.toNat 0) (e5.1, (e5.2.1, (e5.2.2.1, (e5.2.2.2.1, (e5.2.2.2.2.1, (e5.2.2.2.2.2 ++ [IntKind.wrap .i64 (x4.2 + 1)]))))))).length + [(2, (([] : List UInt8), (([] : List Int), ((0, 0), ((false, ([] : List Int)), ([] : List Int))))))].length) * 120 ≤ 2 ^ 47)) (Res.ok (.next ((((List.set x4.1 (Int.toNat 0) (e5.1, (e5.2.1, (e5.2.2.1, (e5.2.2.2.1, (e5.2.2.2.2.1, (e5.2.2.2.2.2 ++ [IntKind.wrap .i64 (x4.2 + 1)]))))))) ++ [(2, (([] : List UInt8), (([] : List Int), ((0, 0), ((false, ([] : List Int)), ([] : List Int))))))]), IntKind.wrap .i64 (x4.2 + 1)))))))))) (Res.ok (.done (x4.1)))) fuel ([(1, (([] : List UInt8), (([] : List Int), ((0, 0), ((false, ([] : List Int)), ([] : List Int))))))], 0)) fun x6 => Res.bind (R.gy x6 (1, (1, fuel_1)) ([] : List hJ.den)) fun r7 => Res.given (gy.g.o r7) (Res.bind (R.gy x6 (0, (1, fuel_1)) ([] : List hJ.den)) fun r8 => Res.given (gy.g.o r8) (Res.bind (R.eJ) fun r9 => Res.br r9 (Res.br ((r7.2.1 == 1) == (ile n_0 fuel_1)) (Res.br ((r7.2.1 == 6) == (ilt fuel_1 n_0)) (Res.ok ((r8.2.1 == 4))) (Res.ok (false))) (Res.ok (false))) (Res.ok (false)))))))
end Go.Mach
end
set_option linter.unusedVariables false
set_option maxRecDepth 100000
noncomputable section
namespace Go.Mach
open Go.Proofs
def owned : List (TypeId × Sh) := [(104, la)]
abbrev Q (l : List Spec) : Env := { P := Tryz.prog, specs := l, ety := pL Tryz.prog owned }
def fl.spec : Spec := fl.g.sp 40 fun x => R.fl x
def kA.spec : Spec := kA.g.sp 20 fun x => R.kA x
def lg.spec : Spec := lg.g.sp 101 fun x => R.lg x
def jg.spec : Spec := jg.g.sp 102 fun x => R.jg x
def dB.spec : Spec := dB.g.sp 103 fun x => R.dB x.1 x.2
def kZ.spec : Spec := kZ.g.sp 137 fun x => R.kZ x
def ki.spec : Spec := ki.g.sp 138 fun x => R.ki x
def eg.spec : Spec := eg.g.sp 104 fun x => R.eg x
def fj.spec : Spec := fj.g.sp 70 fun x => R.fj x
def iT.spec : Spec := iT.g.sp 105 fun x => R.iT x
def gx.spec : Spec := gx.g.sp 107 fun x => R.gx x
def fU.spec : Spec := fU.g.sp 140 fun x => R.fU x
def bx.spec : Spec := bx.g.sp 110 fun x => R.bx x.1 x.2.1 x.2.2
def bW.spec : Spec := bW.g.sp 139 fun x => R.bW x.1 x.2
def jn.spec : Spec := jn.g.sp 119 fun x => R.jn x
def fm.spec : Spec := fm.g.sp 106 fun x => R.fm x
def bP.spec : Spec := bP.g.sp 110 fun x => R.bP x.1 x.2.1 x.2.2
def ch.spec : Spec := ch.g.sp 139 fun x => R.ch x.1 x.2
def km.spec : Spec := km.g.sp 209 fun x => R.km x
def jL.spec : Spec := jL.g.sp 98 fun x => R.jL x
def iD.spec : Spec := iD.g.sp 98 fun x => R.iD x
def eT.spec : Spec := eT.g.sp 210 fun x => R.eT x.1 x.2
def jw.spec : Spec := jw.g.sp 172 fun x => R.jw x
def cS.spec : Spec := cS.g.sp 110 fun x => R.cS x.1 x.2.1 x.2.2
def ef.spec : Spec := ef.g.sp 141 fun x => R.ef x.1 x.2
def eO.spec : Spec := eO.g.sp 173 fun x => R.eO x.1 x.2
def bZ.spec : Spec := bZ.g.sp 110 fun x => R.bZ x.1 x.2.1 x.2.2
def ev.spec : Spec := ev.g.sp 142 fun x => R.ev x.1 x.2
def ae.spec : Spec := ae.g.sp 39 fun x => R.ae x
def kP.spec : Spec := kP.g.sp 174 fun x => R.kP x
def ig.spec : Spec := ig.g.sp 178 fun x => R.ig x
def eM.spec : Spec := eM.g.sp 238 fun x => R.eM x.1 x.2
def du.spec : Spec := du.g.sp 211 fun x => R.du x.1 x.2
def jT.spec : Spec := jT.g.sp 175 fun x => R.jT x
def dw.spec : Spec := dw.g.sp 193 fun x => R.dw x.1 x.2
def iY.spec : Spec := iY.g.sp 163 fun x => R.iY x.1 x.2
def iw.spec : Spec := iw.g.sp 177 fun x => R.iw x
def bD.spec : Spec := bD.g.sp 212 fun x => R.bD x.1 x.2
def bC.spec : Spec := bC.g.sp 176 fun x => R.bC x.1 x.2
def kK.spec : Spec := kK.g.sp 179 fun x => R.kK x
def mF.spec : Spec := mF.g.sp 44 fun x => R.mF x
def fB.spec : Spec := fB.g.sp 135 fun _ => R.fB
def ec.spec : Spec := ec.g.sp 95 fun x => R.ec x
def jl.spec : Spec := jl.g.sp 213 fun x => R.jl x
def dA.spec : Spec := dA.g.sp 214 fun x => R.dA x
def fh.spec : Spec := fh.g.sp 215 fun x => R.fh x
def lD.spec : Spec := lD.g.sp 180 fun x => R.lD x
def iN.spec : Spec := iN.g.sp 143 fun x => R.iN x
def ed.spec : Spec := ed.g.sp 108 fun x => R.ed x
def mA.spec : Spec := mA.g.sp 218 fun x => R.mA x
def fR.spec : Spec := fR.g.sp 217 fun x => R.fR x
def b8.spec : Spec := b8.g.sp 110 fun x => R.b8 x.1 x.2.1 x.2.2
def ew.spec : Spec := ew.g.sp 182 fun x => R.ew x.1 x.2
def eo.spec : Spec := eo.g.sp 144 fun x => R.eo x
def ee.spec : Spec := ee.g.sp 109 fun x => R.ee x
def fi.spec : Spec := fi.g.sp 145 fun x => R.fi x
def lW.spec : Spec := lW.g.sp 146 fun x => R.lW x
def fk.spec : Spec := fk.g.sp 111 fun x => R.fk x
def fN.spec : Spec := fN.g.sp 71 fun x => R.fN x
def kT.spec : Spec := kT.g.sp 41 fun x => R.kT x
def aU.spec : Spec := aU.g.sp 72 fun x => R.aU x.1 x.2
def aM.spec : Spec := aM.g.sp 73 fun x => R.aM x
def fV.spec : Spec := fV.g.sp 112 fun x => R.fV x.1 x.2
def aw.spec : Spec := aw.g.sp 152 fun x => R.aw x.1 x.2
def aG.spec : Spec := aG.g.sp 115 fun x => R.aG x.1 x.2
def cX.spec : Spec := cX.g.sp 187 fun x => R.cX x.1 x.2
def aO.spec : Spec := aO.g.sp 151 fun x => R.aO x
def bV.spec : Spec := bV.g.sp 114 fun x => R.bV x
def bF.spec : Spec := bF.g.sp 116 fun x => R.bF x
def aN.spec : Spec := aN.g.sp 147 fun x => R.aN x.1 x.2
def ax.spec : Spec := ax.g.sp 148 fun x => R.ax x.1 x.2.1 x.2.2
def bw.spec : Spec := bw.g.sp 150 fun x => R.bw x
def dH.spec : Spec := dH.g.sp 153 fun x => R.dH x
def bI.spec : Spec := bI.g.sp 155 fun x => R.bI x.1 x.2
def fA.spec : Spec := fA.g.sp 184 fun x => R.fA x
def ga.spec : Spec := ga.g.sp 78 fun x => R.ga x
def cT.spec : Spec := cT.g.sp 84 fun x => R.cT x.1 x.2
def aV.spec : Spec := aV.g.sp 51 fun x => R.aV x.1 x.2
def mC.spec : Spec := mC.g.sp 186 fun x => R.mC x.1 x.2
def gr.spec : Spec := gr.g.sp 83 fun x => R.gr x
def eH.spec : Spec := eH.g.sp 190 fun x => R.eH x.1 x.2
def eu.spec : Spec := eu.g.sp 191 fun x => R.eu x
def jc.spec : Spec := jc.g.sp 269 fun x => R.jc x
def kq.spec : Spec := kq.g.sp 65 fun x => R.kq x
def bj.spec (G : bG) : Spec := bj.g.sp 74 fun x => G.bj x
def aY.spec (G : bG) : Spec := aY.g.sp 113 fun x => G.aY x
def bA.spec (G : bG) : Spec := bA.g.sp 117 fun x => G.bA x.1 x.2.1 x.2.2
def aW.spec (G : bG) : Spec := aW.g.sp 118 fun x => G.aW x
def aK.spec (G : bG) : Spec := aK.g.sp 149 fun x => G.aK x
def aj.spec (G : bG) : Spec := aj.g.sp 154 fun x => G.aj x
def cM.spec (G : bG) : Spec := cM.g.sp 156 fun x => G.cM x.1 x.2
def bR.spec (G : bG) : Spec := bR.g.sp 157 fun x => G.bR x
def b9.spec (G : bG) : Spec := b9.g.sp 183 fun x => G.b9 x.1 x.2
def cJ.spec (G : bG) : Spec := cJ.g.sp 185 fun x => G.cJ x
def bU.spec (G : bG) : Spec := bU.g.sp 188 fun x => G.bU x
def cI.spec (G : bG) : Spec := cI.g.sp 189 fun x => G.cI x
def cV.spec (G : bG) : Spec := cV.g.sp 192 fun x => G.cV x
def bg.spec (G : bG) : Spec := bg.g.sp 219 fun x => G.bg x
def bK.spec (G : bG) : Spec := bK.g.sp 220 fun x => G.bK x.1 x.2
def aq.spec (G : bG) : Spec := aq.g.sp 240 fun x => G.aq x.1 x.2
def bz.spec (G : bG) : Spec := bz.g.sp 241 fun x => G.bz x.1 x.2
def bO.spec (G : bG) : Spec := bO.g.sp 268 fun x => G.bO x
def cB.spec (G : bG) : Spec := cB.g.sp 306 fun x => G.cB x
def bh.spec (G : bG) : Spec := bh.g.sp 354 fun x => G.bh x
def av.spec (G : bG) : Spec := av.g.sp 355 fun x => G.av x
def bS.spec (G : bG) : Spec := bS.g.sp 356 fun x => G.bS x.1 x.2
def bY.spec (G : bG) : Spec := bY.g.sp 395 fun x => G.bY x
def bk.spec (G : bG) : Spec := bk.g.sp 396 fun x => G.bk x.1 x.2
def bf.spec (G : bG) : Spec := bf.g.sp 413 fun x => G.bf x
def cO.spec (G : bG) : Spec := cO.g.sp 425 fun x => G.cO x
def eA.spec : Spec := eA.g.sp 42 fun x => R.eA x
def jC.spec (fu : Nat) : Spec := jC.g.sp 75 fun x => R.jC fu x.1 x.2
def j8.spec : Spec := j8.g.sp 43 fun x => R.j8 x
def gv.spec : Spec := gv.g.sp 26 fun x => R.gv x
def da.spec : Spec := da.g.sp 25 fun x => R.da x
def jb.spec : Spec := jb.g.sp 21 fun x => R.jb x
def ia.spec : Spec := ia.g.sp 22 fun x => R.ia x
def lX.spec : Spec := lX.g.sp 45 fun x => R.lX x
def lr.spec : Spec := lr.g.sp 77 fun x => R.lr x
def ku.spec : Spec := ku.g.sp 76 fun x => R.ku x
def pB.env (P : Program) : Env := { P := P, specs := [], ety := pL P owned }
def iB.spec : Spec := iB.g.sp 46 fun x => R.iB x
def gI.spec : Spec := gI.g.sp 23 fun x => R.gI x
def ib.spec : Spec := ib.g.sp 79 fun x => R.ib x.1 x.2
def jq.spec : Spec := jq.g.sp 47 fun x => R.jq x.1 x.2
def kk.spec : Spec := kk.g.sp 48 fun x => R.kk x
def gE.spec : Spec := gE.g.sp 80 fun x => R.gE x
def mb.spec : Spec := mb.g.sp 81 fun x => R.mb x
def ez.spec : Spec := ez.g.sp 82 fun x => R.ez x
def lf.spec : Spec := lf.g.sp 49 fun x => R.lf x.1 x.2
def jS.spec : Spec := jS.g.sp 50 fun x => R.jS x.1 x.2
def i6.spec : Spec := i6.g.sp 24 fun x => R.i6 x.1 x.2
def lv.spec : Spec := lv.g.sp 14 fun x => R.lv x
def kn.spec : Spec := kn.g.sp 14 fun x => R.kn x
def fe.spec : Spec := fe.g.sp 15 fun x => R.fe x
def gd.spec : Spec := gd.g.sp 52 fun x => R.gd x
def il.spec : Spec := il.g.sp 53 fun x => R.il x.1 x.2
def fC.spec : Spec := fC.g.sp 54 fun x => R.fC x
def eb.spec : Spec := eb.g.sp 28 fun x => R.eb x.1 x.2
def jk.spec : Spec := jk.g.sp 27 fun x => R.jk x
def iv.spec : Spec := iv.g.sp 56 fun x => R.iv x.1 x.2
def bE.spec : Spec := bE.g.sp 85 fun x => R.bE x.1 x.2
def bB.spec : Spec := bB.g.sp 55 fun x => R.bB x.1 x.2
def je.spec : Spec := je.g.sp 29 fun x => R.je x.1 x.2.1 x.2.2
def gH.spec : Spec := gH.g.sp 30 fun x => R.gH x.1 x.2.1 x.2.2
def iu.spec : Spec := iu.g.sp 32 fun x => R.iu x.1 x.2.1 x.2.2
def bQ.spec : Spec := bQ.g.sp 57 fun x => R.bQ x.1 x.2
def bM.spec : Spec := bM.g.sp 31 fun x => R.bM x.1 x.2
def kE.spec : Spec := kE.g.sp 58 fun x => R.kE x
def gj.spec : Spec := gj.g.sp 59 fun x => R.gj x.1 x.2
def jz.spec : Spec := jz.g.sp 33 fun x => R.jz x.1 x.2.1 x.2.2
def ic.spec : Spec := ic.g.sp 16 fun x => R.ic x.1 x.2.1 x.2.2
def gJ.spec : Spec := gJ.g.sp 8 fun x => R.gJ x
def i7.spec : Spec := i7.g.sp 11 fun x => R.i7 x
def lj.spec : Spec := lj.g.sp 9 fun x => R.lj x
def mG.spec : Spec := mG.g.sp 17 fun x => R.mG x
def eQ.spec : Spec := eQ.g.sp 89 fun x => R.eQ x
def iL.spec : Spec := iL.g.sp 120 fun x => R.iL x
def gY.spec : Spec := gY.g.sp 86 fun x => R.gY x.1 x.2
def cy.spec : Spec := cy.g.sp 87 fun x => R.cy x.1 x.2
def aX.spec : Spec := aX.g.sp 60 fun x => R.aX x.1 x.2
def cE.spec : Spec := cE.g.sp 34 fun x => R.cE x.1 x.2
def bc.spec : Spec := bc.g.sp 68 fun x => R.bc x.1 x.2
def fy.spec : Spec := fy.g.sp 122 fun x => R.fy x.1 x.2
def au.spec : Spec := au.g.sp 121 fun x => R.au x.1 x.2
def eK.spec : Spec := eK.g.sp 88 fun x => R.eK x.1 x.2.1 x.2.2
def ba.spec : Spec := ba.g.sp 61 fun x => R.ba x.1 x.2.1 x.2.2.1 x.2.2.2.1 x.2.2.2.2.1 x.2.2.2.2.2
def fS.spec : Spec := fS.g.sp 162 fun x => R.fS x.1 x.2
def al.spec : Spec := al.g.sp 161 fun x => R.al x.1 x.2
def eV.spec : Spec := eV.g.sp 124 fun x => R.eV x.1 x.2.1 x.2.2
def cj.spec : Spec := cj.g.sp 90 fun x => R.cj x.1 x.2.1 x.2.2.1 x.2.2.2
def eI.spec : Spec := eI.g.sp 91 fun x => R.eI x.1 x.2.1 x.2.2.1 x.2.2.2.1 x.2.2.2.2
def dx.spec : Spec := dx.g.sp 62 fun x => R.dx x.1 x.2.1 x.2.2
def cz.spec : Spec := cz.g.sp 35 fun x => R.cz x.1 x.2.1 x.2.2
def cc.spec : Spec := cc.g.sp 92 fun x => R.cc x
def gP.spec : Spec := gP.g.sp 131 fun x => R.gP x.1 x.2.1 x.2.2
def gm.spec : Spec := gm.g.sp 165 fun x => R.gm x.1 x.2
def jx.spec : Spec := jx.g.sp 167 fun x => R.jx x.1 x.2
def gX.spec : Spec := gX.g.sp 204 fun x => R.gX x.1 x.2
def gM.spec : Spec := gM.g.sp 169 fun x => R.gM x.1 x.2
def cu.spec : Spec := cu.g.sp 194 fun x => R.cu x
def eU.spec : Spec := eU.g.sp 195 fun x => R.eU x
def cY.spec : Spec := cY.g.sp 196 fun x => R.cY x
def fD.spec : Spec := fD.g.sp 242 fun x => R.fD x.1 x.2.1 x.2.2
def eG.spec : Spec := eG.g.sp 270 fun x => R.eG x.1 x.2
def aC.spec : Spec := aC.g.sp 243 fun x => R.aC x.1 x.2
def iS.spec : Spec := iS.g.sp 271 fun _ => R.iS
def gQ.spec : Spec := gQ.g.sp 348 fun x => R.gQ x
def fb.spec : Spec := fb.g.sp 349 fun _ => R.fb
def dq.spec : Spec := dq.g.sp 302 fun _ => R.dq
def db.spec : Spec := db.g.sp 272 fun x => R.db x
def jJ.spec : Spec := jJ.g.sp 244 fun x => R.jJ x
def ke.spec : Spec := ke.g.sp 245 fun x => R.ke x
def aL.spec : Spec := aL.g.sp 199 fun x => R.aL x
def fF.spec : Spec := fF.g.sp 221 fun x => R.fF x.1 x.2.1 x.2.2.1 x.2.2.2
def fZ.spec : Spec := fZ.g.sp 197 fun x => R.fZ x.1 x.2.1 x.2.2
def bT.spec : Spec := bT.g.sp 198 fun x => R.bT x
def jf.spec : Spec := jf.g.sp 134 fun x => R.jf x
def mX.spec : Spec := mX.g.sp 94 fun x => R.mX x
def cQ.spec : Spec := cQ.g.sp 64 fun x => R.cQ x
def fG.spec : Spec := fG.g.sp 264 fun x => R.fG x
def jY.spec : Spec := jY.g.sp 265 fun x => R.jY x
def jO.spec : Spec := jO.g.sp 232 fun x => R.jO x.1 x.2
def gl.spec : Spec := gl.g.sp 203 fun x => R.gl x
def gN.spec : Spec := gN.g.sp 222 fun x => R.gN x
def bu.spec : Spec := bu.g.sp 273 fun x => R.bu x
def kt.spec : Spec := kt.g.sp 277 fun x => R.kt x
def dC.spec : Spec := dC.g.sp 251 fun x => R.dC x
def di.spec : Spec := di.g.sp 97 fun x => R.di x
def gS.spec : Spec := gS.g.sp 99 fun x => R.gS x
def lF.spec : Spec := lF.g.sp 274 fun x => R.lF x
def iQ.spec : Spec := iQ.g.sp 308 fun x => R.iQ x
def kJ.spec : Spec := kJ.g.sp 307 fun x => R.kJ x
def mB.spec : Spec := mB.g.sp 275 fun x => R.mB x.1 x.2.1 x.2.2
def kM.spec : Spec := kM.g.sp 247 fun x => R.kM x.1 x.2
def cU.spec : Spec := cU.g.sp 246 fun x => R.cU x.1 x.2.1 x.2.2
def bJ.spec : Spec := bJ.g.sp 261 fun x => R.bJ x.1 x.2
def gu.spec : Spec := gu.g.sp 259 fun x => R.gu x
def jM.spec : Spec := jM.g.sp 276 fun x => R.jM x
def iK.spec : Spec := iK.g.sp 248 fun x => R.iK x.1 x.2
def jv.spec : Spec := jv.g.sp 303 fun x => R.jv x
def cg.spec : Spec := cg.g.sp 100 fun x => R.cg x
def ko.spec : Spec := ko.g.sp 66 fun x => R.ko x
def dv.spec : Spec := dv.g.sp 37 fun x => R.dv x
def cF.spec : Spec := cF.g.sp 350 fun x => R.cF x
def fg.spec : Spec := fg.g.sp 285 fun x => R.fg x
def iI.spec : Spec := iI.g.sp 304 fun x => R.iI x.1 x.2.1 x.2.2
def ak.spec : Spec := ak.g.sp 38 fun x => R.ak x.1 x.2
def dW.spec : Spec := dW.g.sp 260 fun x => R.dW x.1 x.2.1 x.2.2
def fE.spec : Spec := fE.g.sp 286 fun x => R.fE x.1 x.2.1 x.2.2
def iW.spec : Spec := iW.g.sp 287 fun x => R.iW x
def bl.spec : Spec := bl.g.sp 288 fun x => R.bl x.1 x.2
def iJ.spec : Spec := iJ.g.sp 351 fun x => R.iJ x.1 x.2.1 x.2.2.1 x.2.2.2.1 x.2.2.2.2
def pS.env (P : Program) : Env := { P := P, specs := [bc.spec], ety := pL P owned }
def eX.spec : Spec := eX.g.sp 343 fun x => R.eX x.1 x.2
def bn.spec : Spec := bn.g.sp 346 fun x => R.bn x
def ea.spec : Spec := ea.g.sp 361 fun x => R.ea x
def eF.spec : Spec := eF.g.sp 401 fun x => R.eF x
def cR.spec : Spec := cR.g.sp 341 fun x => R.cR x.1 x.2
def dz.spec : Spec := dz.g.sp 383 fun x => R.dz x.1 x.2.1 x.2.2.1 x.2.2.2.1 x.2.2.2.2.1 x.2.2.2.2.2
def iz.spec : Spec := iz.g.sp 424 fun x => R.iz x.1 x.2
def j9.spec : Spec := j9.g.sp 409 fun x => R.j9 x.1 x.2
def gK.spec : Spec := gK.g.sp 415 fun x => R.gK x.1 x.2
def kC.spec : Spec := kC.g.sp 410 fun x => R.kC x.1 x.2
def eE.spec : Spec := eE.g.sp 384 fun x => R.eE x.1 x.2
def fP.spec : Spec := fP.g.sp 352 fun x => R.fP x.1 x.2.1 x.2.2
def gL.spec : Spec := gL.g.sp 353 fun x => R.gL x.1 x.2.1 x.2.2.1 x.2.2.2
def gD.spec : Spec := gD.g.sp 305 fun x => R.gD x.1 x.2.1 x.2.2
def fI.spec : Spec := fI.g.sp 263 fun x => R.fI x.1 x.2
def fa.spec : Spec := fa.g.sp 250 fun x => R.fa x.1 x.2.1 x.2.2
def kU.spec : Spec := kU.g.sp 280 fun x => R.kU x
def mJ.spec : Spec := mJ.g.sp 310 fun x => R.mJ x.1 x.2
def jZ.spec : Spec := jZ.g.sp 309 fun x => R.jZ x.1 x.2
def lT.spec : Spec := lT.g.sp 357 fun x => R.lT x
def kX.spec : Spec := kX.g.sp 311 fun x => R.kX x.1 x.2
def kR.spec : Spec := kR.g.sp 358 fun x => R.kR x.1 x.2.1 x.2.2
def jR.spec : Spec := jR.g.sp 312 fun x => R.jR x.1 x.2
def ky.spec : Spec := ky.g.sp 279 fun x => R.ky x.1 x.2
def fX.spec : Spec := fX.g.sp 278 fun x => R.fX x.1 x.2
def ep.spec : Spec := ep.g.sp 313 fun x => R.ep x
def nR.spec : Spec := nR.g.sp 314 fun x => R.nR x
def lC.spec : Spec := lC.g.sp 282 fun x => R.lC x.1 x.2
def dc.spec : Spec := dc.g.sp 281 fun x => R.dc x.1 x.2
def lQ.spec : Spec := lQ.g.sp 252 fun x => R.lQ x.1 x.2
def gZ.spec : Spec := gZ.g.sp 283 fun x => R.gZ x.1 x.2.1 x.2.2.1 x.2.2.2
def j7.spec : Spec := j7.g.sp 434 fun x => R.j7 x
def lI.spec : Spec := lI.g.sp 421 fun x => R.lI x
def jX.spec : Spec := jX.g.sp 435 fun x => R.jX x
def jy.spec : Spec := jy.g.sp 422 fun x => R.jy x
def jV.spec : Spec := jV.g.sp 423 fun x => R.jV x
def jj.spec : Spec := jj.g.sp 407 fun x => R.jj x
def gG.spec : Spec := gG.g.sp 380 fun x => R.gG x
def nA.spec : Spec := nA.g.sp 436 fun x => R.nA x.1 x.2
def lS.spec : Spec := lS.g.sp 437 fun x => R.lS x
def j6.spec : Spec := j6.g.sp 426 fun x => R.j6 x.1 x.2
def mM.spec : Spec := mM.g.sp 414 fun x => R.mM x
def gU.spec : Spec := gU.g.sp 397 fun x => R.gU x.1 x.2
def gR.spec : Spec := gR.g.sp 398 fun x => R.gR x.1 x.2
def jH.spec : Spec := jH.g.sp 359 fun x => R.jH x.1 x.2
def jK.spec : Spec := jK.g.sp 400 fun x => R.jK x.1 x.2
def gA.spec : Spec := gA.g.sp 399 fun x => R.gA x.1 x.2.1 x.2.2.1 x.2.2.2
def dZ.spec : Spec := dZ.g.sp 360 fun x => R.dZ x.1 x.2.1 x.2.2.1 x.2.2.2.1 x.2.2.2.2.1 x.2.2.2.2.2.1 x.2.2.2.2.2.2
def jD.spec : Spec := jD.g.sp 315 fun x => R.jD x.1 x.2.1 x.2.2.1 x.2.2.2
def jB.spec : Spec := jB.g.sp 284 fun x => R.jB x.1 x.2.1 x.2.2
def gT.spec : Spec := gT.g.sp 253 fun x => R.gT x.1 x.2.1 x.2.2.1 x.2.2.2
def ja.spec : Spec := ja.g.sp 254 fun x => R.ja x.1 x.2.1 x.2.2
def lR.spec : Spec := lR.g.sp 289 fun x => R.lR x.1 x.2
def ff.spec : Spec := ff.g.sp 316 fun x => R.ff x.1 x.2
def nC.spec : Spec := nC.g.sp 362 fun x => R.nC x.1 x.2
def nD.spec : Spec := nD.g.sp 363 fun x => R.nD x.1 x.2
def kN.spec : Spec := kN.g.sp 416 fun x => R.kN x.1 x.2
def jI.spec : Spec := jI.g.sp 402 fun x => R.jI x.1 x.2
def nE.spec : Spec := nE.g.sp 364 fun x => R.nE x.1 x.2
def nM.spec : Spec := nM.g.sp 365 fun x => R.nM x.1 x.2
def lK.spec : Spec := lK.g.sp 317 fun x => R.lK x.1 x.2.1 x.2.2
def nH.spec : Spec := nH.g.sp 318 fun x => R.nH x.1 x.2
def jt.spec : Spec := jt.g.sp 366 fun x => R.jt x
def dd.spec : Spec := dd.g.sp 367 fun x => R.dd x
def gF.spec : Spec := gF.g.sp 369 fun x => R.gF x
def kI.spec : Spec := kI.g.sp 368 fun x => R.kI x.1 x.2
def gz.spec : Spec := gz.g.sp 370 fun x => R.gz x.1 x.2
def nG.spec : Spec := nG.g.sp 319 fun x => R.nG x.1 x.2
def nI.spec : Spec := nI.g.sp 320 fun x => R.nI x.1 x.2
def nJ.spec : Spec := nJ.g.sp 321 fun x => R.nJ x.1 x.2
def kD.spec : Spec := kD.g.sp 290 fun x => R.kD x.1 x.2.1 x.2.2
def lM.spec : Spec := lM.g.sp 291 fun x => R.lM x.1 x.2.1 x.2.2
def fK.spec : Spec := fK.g.sp 417 fun x => R.fK x
def eS.spec : Spec := eS.g.sp 403 fun x => R.eS x.1 x.2
def de.spec : Spec := de.g.sp 371 fun x => R.de x.1 x.2
def ld.spec : Spec := ld.g.sp 322 fun x => R.ld x.1 x.2
def lB.spec : Spec := lB.g.sp 372 fun x => R.lB x.1 x.2
def im.spec : Spec := im.g.sp 373 fun x => R.im x.1 x.2
def lV.spec : Spec := lV.g.sp 374 fun x => R.lV x.1 x.2
def kQ.spec : Spec := kQ.g.sp 323 fun x => R.kQ x.1 x.2
def jE.spec : Spec := jE.g.sp 292 fun x => R.jE x.1 x.2.1 x.2.2.1 x.2.2.2
def eW.spec : Spec := eW.g.sp 375 fun x => R.eW x.1 x.2
def lb.spec : Spec := lb.g.sp 324 fun x => R.lb x.1 x.2
def iM.spec : Spec := iM.g.sp 293 fun x => R.iM x.1 x.2
def kV.spec : Spec := kV.g.sp 325 fun x => R.kV x
def iA.spec : Spec := iA.g.sp 326 fun x => R.iA x
def mL.spec : Spec := mL.g.sp 376 fun x => R.mL x.1 x.2
def kl.spec : Spec := kl.g.sp 327 fun x => R.kl x.1 x.2
def kW.spec : Spec := kW.g.sp 294 fun x => R.kW x.1 x.2
def iP.spec : Spec := iP.g.sp 255 fun x => R.iP x.1 x.2.1 x.2.2
def cA.spec : Spec := cA.g.sp 297 fun x => R.cA x.1 x.2
def fw.spec : Spec := fw.g.sp 379 fun x => R.fw x
def lN.spec : Spec := lN.g.sp 340 fun x => R.lN x
def dU.spec : Spec := dU.g.sp 296 fun x => R.dU x
def fJ.spec : Spec := fJ.g.sp 298 fun x => R.fJ x.1 x.2
def fQ.spec : Spec := fQ.g.sp 342 fun x => R.fQ x.1 x.2
def fL.spec : Spec := fL.g.sp 299 fun x => R.fL x.1 x.2
def eC.spec : Spec := eC.g.sp 412 fun x => R.eC x.1 x.2
def dh.spec : Spec := dh.g.sp 394 fun x => R.dh x.1 x.2
def eh.spec : Spec := eh.g.sp 344 fun x => R.eh x.1 x.2
def gV.spec : Spec := gV.g.sp 345 fun x => R.gV x
def kL.spec : Spec := kL.g.sp 300 fun x => R.kL x
def iH.spec : Spec := iH.g.sp 347 fun x => R.iH x.1 x.2.1 x.2.2.1 x.2.2.2.1 x.2.2.2.2
def fp.spec : Spec := fp.g.sp 301 fun x => R.fp x.1 x.2.1 x.2.2
def dG.spec : Spec := dG.g.sp 405 fun x => R.dG x.1 x.2
def aS.spec : Spec := aS.g.sp 427 fun x => R.aS x.1 x.2.1 x.2.2.1 x.2.2.2
def aR.spec : Spec := aR.g.sp 442 fun x => R.aR x.1 x.2.1 x.2.2.1 x.2.2.2.1 x.2.2.2.2
def af.spec : Spec := af.g.sp 438 fun x => R.af x.1 x.2.1 x.2.2.1 x.2.2.2.1 x.2.2.2.2
def aJ.spec (fu : Nat) : Spec := aJ.g.sp 428 fun x => R.aJ fu x.1 x.2.1 x.2.2.1 x.2.2.2.1 x.2.2.2.2
def aa.spec : Spec := aa.g.sp 418 fun x => R.aa x.1 x.2.1 x.2.2
def aZ.spec : Spec := aZ.g.sp 404 fun x => R.aZ x.1 x.2
def gW.spec : Spec := gW.g.sp 377 fun x => R.gW x.1 x.2
def iF.spec : Spec := iF.g.sp 328 fun x => R.iF x.1 x.2
def fx.spec : Spec := fx.g.sp 329 fun x => R.fx x.1 x.2.1 x.2.2
def iG.spec : Spec := iG.g.sp 330 fun x => R.iG x.1 x.2.1 x.2.2
def gf.spec : Spec := gf.g.sp 331 fun x => R.gf x.1 x.2
def lJ.spec : Spec := lJ.g.sp 378 fun x => R.lJ x
def er.spec : Spec := er.g.sp 332 fun x => R.er x.1 x.2.1 x.2.2
def fq.spec : Spec := fq.g.sp 333 fun x => R.fq x.1 x.2
def fO.spec : Spec := fO.g.sp 334 fun x => R.fO x.1 x.2.1 x.2.2
def dX.spec : Spec := dX.g.sp 381 fun x => R.dX x.1 x.2
def dy.spec : Spec := dy.g.sp 335 fun x => R.dy x.1 x.2
def dY.spec : Spec := dY.g.sp 385 fun x => R.dY x.1 x.2
def dL.spec : Spec := dL.g.sp 337 fun x => R.dL x.1 x.2
def lO.spec : Spec := lO.g.sp 408 fun x => R.lO x.1 x.2
def ij.spec : Spec := ij.g.sp 382 fun x => R.ij x.1 x.2
def fo.spec : Spec := fo.g.sp 336 fun x => R.fo x.1 x.2.1 x.2.2.1 x.2.2.2
def gh.spec : Spec := gh.g.sp 386 fun x => R.gh x.1 x.2.1 x.2.2
def fH.spec : Spec := fH.g.sp 393 fun x => R.fH x
def gi.spec : Spec := gi.g.sp 387 fun x => R.gi x.1 x.2.1 x.2.2.1 x.2.2.2.1 x.2.2.2.2.1 x.2.2.2.2.2
def et.spec : Spec := et.g.sp 388 fun x => R.et x.1 x.2.1 x.2.2.1 x.2.2.2.1 x.2.2.2.2
def hB.spec : Spec := hB.g.sp 389 fun x => R.hB x.1 x.2
def jh.spec : Spec := jh.g.sp 411 fun x => R.jh x.1 x.2.1 x.2.2.1 x.2.2.2
def ey.spec : Spec := ey.g.sp 390 fun x => R.ey x.1 x.2.1 x.2.2.1 x.2.2.2
def jA.spec : Spec := jA.g.sp 391 fun x => R.jA x
def gB.spec : Spec := gB.g.sp 338 fun x => R.gB x.1 x.2.1 x.2.2
def cP.spec (G : ay) : Spec := cP.g.sp 36 fun x => G.cP x.1 x.2.1 x.2.2
def aQ.spec (G : ay) : Spec := aQ.g.sp 63 fun x => G.aQ x.1 x.2.1 x.2.2.1 x.2.2.2
def dt.spec (G : ay) : Spec := dt.g.sp 93 fun x => G.dt x.1 x.2.1 x.2.2.1 x.2.2.2
def aE.spec (G : ay) : Spec := aE.g.sp 125 fun x => G.aE x.1 x.2.1 x.2.2
def dM.spec (G : ay) : Spec := dM.g.sp 126 fun x => G.dM x.1 x.2.1 x.2.2
def dP.spec (G : ay) : Spec := dP.g.sp 127 fun x => G.dP x.1 x.2.1 x.2.2
def cw.spec (G : ay) : Spec := cw.g.sp 128 fun x => G.cw x.1 x.2.1 x.2.2
def dO.spec (G : ay) : Spec := dO.g.sp 129 fun x => G.dO x.1 x.2.1 x.2.2.1 x.2.2.2
def dm.spec (G : ay) : Spec := dm.g.sp 130 fun x => G.dm x.1 x.2.1 x.2.2.1 x.2.2.2
def eL.spec (G : ay) : Spec := eL.g.sp 132 fun x => G.eL x.1 x.2.1 x.2.2
def dS.spec (G : ay) : Spec := dS.g.sp 164 fun x => G.dS x.1 x.2.1 x.2.2
def cK.spec (G : ay) : Spec := cK.g.sp 166 fun x => G.cK x.1 x.2.1 x.2.2
def dQ.spec (G : ay) : Spec := dQ.g.sp 168 fun x => G.dQ x.1 x.2.1 x.2.2
def dK.spec (G : ay) : Spec := dK.g.sp 170 fun x => G.dK x.1 x.2.1 x.2.2.1 x.2.2.2.1 x.2.2.2.2
def dV.spec (G : ay) : Spec := dV.g.sp 200 fun x => G.dV x.1 x.2.1 x.2.2
def cq.spec (G : ay) : Spec := cq.g.sp 201 fun x => G.cq x.1 x.2.1 x.2.2
def cC.spec (G : ay) : Spec := cC.g.sp 202 fun x => G.cC x.1 x.2.1 x.2.2.1 x.2.2.2
def dN.spec (G : ay) : Spec := dN.g.sp 223 fun x => G.dN x.1 x.2.1 x.2.2.1 x.2.2.2
def dn.spec (G : ay) : Spec := dn.g.sp 224 fun x => G.dn x.1 x.2.1 x.2.2
def cn.spec (G : ay) : Spec := cn.g.sp 225 fun x => G.cn x.1 x.2.1 x.2.2
def dJ.spec (G : ay) : Spec := dJ.g.sp 226 fun x => G.dJ x.1 x.2.1 x.2.2
def cm.spec (G : ay) : Spec := cm.g.sp 227 fun x => G.cm x.1 x.2.1 x.2.2
def ct.spec (G : ay) : Spec := ct.g.sp 228 fun x => G.ct x.1 x.2.1 x.2.2
def bX.spec (G : ay) : Spec := bX.g.sp 229 fun x => G.bX x.1 x.2.1 x.2.2
def dI.spec (G : ay) : Spec := dI.g.sp 230 fun x => G.dI x.1 x.2.1 x.2.2
def cN.spec (G : ay) : Spec := cN.g.sp 231 fun x => G.cN x.1 x.2.1 x.2.2
def bt.spec (G : ay) : Spec := bt.g.sp 249 fun x => G.bt x.1 x.2.1 x.2.2
def cr.spec (G : ay) : Spec := cr.g.sp 256 fun x => G.cr x.1 x.2.1 x.2.2
def dF.spec (G : ay) : Spec := dF.g.sp 257 fun x => G.dF x.1 x.2.1 x.2.2.1 x.2.2.2
def cp.spec (G : ay) : Spec := cp.g.sp 258 fun x => G.cp x.1 x.2.1 x.2.2
def cd.spec (G : ay) : Spec := cd.g.sp 262 fun x => G.cd x.1 x.2.1 x.2.2.1 x.2.2.2
def dE.spec (G : ay) : Spec := dE.g.sp 295 fun x => G.dE x.1 x.2.1 x.2.2.1 x.2.2.2
def dp.spec (G : ay) : Spec := dp.g.sp 339 fun x => G.dp x.1 x.2.1 x.2.2
def cL.spec (G : ay) : Spec := cL.g.sp 392 fun x => G.cL x.1 x.2
def eR.spec : Spec := eR.g.sp 18 fun x => R.eR x
def gC.spec : Spec := gC.g.sp 19 fun x => R.gC x.1 x.2
def gp.spec : Spec := gp.g.sp 10 fun x => R.gp x.1 x.2.1 x.2.2
def gy.spec : Spec := gy.g.sp 5 fun x => R.gy x.1 x.2.1 x.2.2
def eP.spec : Spec := eP.g.sp 6 fun x => R.eP x.1 x.2
def jF.spec : Spec := jF.g.sp 13 fun x => R.jF x
def jU.spec : Spec := jU.g.sp 12 fun x => R.jU x.1 x.2
def fc.spec : Spec := fc.g.sp 7 fun x => R.fc x.1 x.2.1 x.2.2
def eJ.spec : Spec := eJ.g.sp 4 fun _ => R.eJ
def ei.spec : Spec := ei.g.sp 3 fun x => R.ei x.1 x.2
end Go.Mach
end
