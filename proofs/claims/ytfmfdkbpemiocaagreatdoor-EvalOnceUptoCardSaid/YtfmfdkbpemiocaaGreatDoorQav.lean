/-
  Proved here: the law renlaw12.EvalOnce returns true for every input of the stated bulk and leaves its arguments as they were; no further condition.
  By an AI agent; no person has read it.
-/
import Derived.Test.YtfmfdkbpemiocaaGreatDoorQag
import Derived.Test.YtfmfdkbpemiocaaGreatDoorQah
import Derived.Test.YtfmfdkbpemiocaaGreatDoorQai
import Derived.Test.YtfmfdkbpemiocaaGreatDoorQaj
import Derived.Test.YtfmfdkbpemiocaaGreatDoorQak
import Derived.Test.YtfmfdkbpemiocaaGreatDoorQal
import Derived.Test.YtfmfdkbpemiocaaGreatDoorQam
import Derived.Test.YtfmfdkbpemiocaaGreatDoorQan
import Derived.Test.YtfmfdkbpemiocaaGreatDoorQao
import Derived.Test.YtfmfdkbpemiocaaGreatDoorQap
import Derived.Test.YtfmfdkbpemiocaaGreatDoorQaq
import Derived.Test.YtfmfdkbpemiocaaGreatDoorQar
import Derived.Test.YtfmfdkbpemiocaaGreatDoorQau
import Derived.KernelRfl
import Derived.Test.YtfmfdkbpemiocaaGreatDoorProg
set_option linter.all false
set_option linter.deprecated false
set_option maxRecDepth 100000
set_option linter.unusedVariables false
namespace Go.Mach
open Go.Proofs
theorem kQ.c{l r:List Spec}{sp:Spec}{ann:Ann}(h:Eqn (Q l) sp ann)(t:kQ r)[b:kQ l]:kQ (sp::r) :=
 have:=Has.of h
 inferInstance
theorem kQ.d{r:List Spec}{sp:Spec}(t:kQ r)[b:Has sp]:kQ (sp::r):=inferInstance
theorem kQ.a{l r:List Spec}(h:kQ l)(t:kQ r):kQ (l++r):=⟨λsp hm=>(List.mem_append.1 hm).elim (h.ok sp) (t.ok sp)⟩
theorem kQ.k{E:Env}{r:List Spec}{sp:Spec}{ann:Ann}{run:kO (sp.ps.map Par.v)->Res (outs (kO sp.rs) (boxes sp.ps))}(h:Eqn E sp ann)(t:kQ r)(hP:E.P=Tryz.prog:=by rfl)(h0:∀ x,run x=.stuck:=by exact λ_=>rfl):kQ (⟨sp.f,sp.ps,sp.rs,run⟩::r) :=
 have:=Has.stuck h hP h0
 inferInstance
theorem kQ.g{l:List Spec}{sp:Spec}(i:Nat)(h:l[i]?=some sp)[b:kQ l]:Has sp:=⟨b.ok sp (List.mem_of_getElem? h)⟩
instance {l r:List Spec} [a:kQ l] [b:kQ r]:kQ (l++r):=a.a b
instance h0:kQ L0:=inferInstanceAs (kQ [kW 32 (.int .u16),kW 46 (.int .u32),kW 185 (.int .u8),oI 112 183 bO,oI 112 184 bH,sy 122,s7 431,kW 158 .str])
instance iE.ok:∀ n,Has (iE.spec n)
 |0=>.stuck (iE.eq 0) rfl λ_=>rfl
 |n+1=>have:=iE.ok n;.of (iE.eq n)
instance h1:kQ L1:=.c gS.eq (.c mU.eq (.c mO.eq (.c fQ.eq (.c gr.eq (.c jt.eq (.c kp.eq (.c eW.eq (.c av.eq (.c jo.eq (.c gJ.eq (.c dY.eq (.c dX.eq (.c jd.eq (.c lT.eq (.c fY.eq (.c jy.eq (.c cj.eq (.c fW.eq (.c mA.eq (.c bI.eq (.c aW.eq (.c iu.eq (.c bN.eq (.c cE.eq (.c bM.eq (.c gl.eq (.c bt.eq (.c gx.eq (.d (.c ik.eq (.c eB.eq (.c jq.eq (.c lQ.eq (.c gh.eq (.c kK.eq (.c ez.eq (.c eO.eq (.c iS.eq (.c gU.eq (.c fk.eq (.c gz.eq (.c fL.eq (.c iO.eq (.c jc.eq (.c fi.eq (.c kT.eq (.c lV.eq (.c ea.eq (.c cF.eq (.c bB.eq (.c fj.eq (.c eV.eq (.c cn.eq (.c ed.eq (.c cP.eq (.c gp.eq (.c gE.eq (.c fx.eq (.c kh.eq (.c bP.eq (.c ij.eq (.c gD.eq (.c iP.eq (.c lC.eq (.c fg.eq (.c ec.eq (.c gB.eq (.c kH.eq (.c b9.eq (.c iG.eq (.c cD.eq (.c fU.eq (.c cL.eq (.c mC.eq (.c lD.eq (.c jb.eq (.c ei.eq (.c jm.eq (.c jC.eq (.c kL.eq (.c nD.eq (.c kX.eq (.c jl.eq (.c dC.eq (.c fo.eq (.c jg.eq (.c eY.eq (.c dy.eq (.c je.eq (.c bk.eq (.c dM.eq (.c aN.eq (.c cm.eq (.c iD.eq (.c jA.eq (.c j6.eq (.c gV.eq (.c iT.eq (.c gO.eq (h0))))))))))))))))))))))))))))))))))))))))))))))))))))))))))))))))))))))))))))))))))))))))))))))))))))
instance bI.ok:Has bI.spec:=.of bI.eq
instance bN.ok:Has bN.spec:=.of bN.eq
instance cE.ok:Has cE.spec:=.of cE.eq
instance bB.ok:Has bB.spec:=.of bB.eq
instance fg.ok:Has fg.spec:=.of fg.eq
instance ec.ok:Has ec.spec:=.of ec.eq
instance cL.ok:Has cL.spec:=.of cL.eq
instance cx.ok:Has cx.spec:=.inl cx.eq rfl rfl (sX (E:=qG.env Tryz.prog) mixed (.sE (kQ.ok (l:=[bB.spec])) rfl) (by kernel_rfl) (by kernel_rfl) (by kernel_rfl) (by kernel_rfl))
instance h2:kQ L2:=.c ko.eq (.c gN.eq (.c fy.eq (.c bL.eq (.c ay.eq (.c bo.eq (.c cr.eq (.c jL.eq (.c iA.eq (.c ev.eq (.c gL.eq (.c fO.eq (.c cQ.eq (.c bU.eq (.c aS.eq (.c kC.eq (.c lE.eq (.c jH.eq (.c ja.eq (.c ll.eq (.c fF.eq (.c fP.eq (.c bJ.eq (.c jS.eq (.c gv.eq (.c ah.eq (.c bu.eq (.c dD.eq (.c aL.eq (.c mR.eq (.c gM.eq (.c dV.eq (.c iK.eq (.c fI.eq (.c bC.eq (.c cG.eq (.c eH.eq (.c al.eq (.c bW.eq (.d (.c ff.eq (.c bT.eq (.c fD.eq (.c kV.eq (.c jD.eq (.c fE.eq (.c nS.eq (.c cp.eq (.c kY.eq (.c jP.eq (.c iQ.eq (.c iV.eq (.c dK.eq (.c jx.eq (.c gf.eq (.c dv.eq (.c lM.eq (.c gK.eq (.c cg.eq (.c fN.eq (.c aY.eq (.c cY.eq (.c cT.eq (.c jT.eq (h1))))))))))))))))))))))))))))))))))))))))))))))))))))))))))))))))
instance bL.ok:Has bL.spec:=.of bL.eq
instance ay.ok:Has ay.spec:=.of ay.eq
instance bo.ok:Has bo.spec:=.of bo.eq
instance bU.ok:Has bU.spec:=.of bU.eq
instance aS.ok:Has aS.spec:=.of aS.eq
instance jH.ok:Has jH.spec:=.of jH.eq
instance ff.ok:Has ff.spec:=.of ff.eq
instance bT.ok:Has bT.spec:=.of bT.eq
instance bh.ok:Has bh.spec:=.inl bh.eq rfl rfl (sX (E:=qQ.env Tryz.prog) mixed (.sE (kQ.ok (l:=[bB.spec])) rfl) (by kernel_rfl) (by kernel_rfl) (by kernel_rfl) (by kernel_rfl))
instance h3:kQ L3:=.c bF.eq (.c bY.eq (.c fX.eq (.c iR.eq (.c aw.eq (.c lU.eq (.c gR.eq (.c aO.eq (.c fV.eq (.c mr.eq (.c iZ.eq (.c lN.eq (.c jR.eq (.c iB.eq (.c bA.eq (.c dn.eq (.c c7.eq (.c fG.eq (.c fJ.eq (.c iL.eq (.c eR.eq (.c dP.eq (.c cM.eq (.c jn.eq (.c lW.eq (.c gm.eq (.c fl.eq (.c ly.eq (.c kz.eq (.c eN.eq (.d (.c iH.eq (.c jh.eq (.c lB.eq (.c jJ.eq (.c lR.eq (.c kn.eq (.c i6.eq (.c gI.eq (.c bZ.eq (.c iU.eq (.c nE.eq (.c mu.eq (.c nA.eq (.c ca.eq (.c lO.eq (.c kS.eq (.c fp.eq (.c dx.eq (.c eE.eq (.c cU.eq (.c di.eq (.c kc.eq (.c cB.eq (.c hJ.eq (.c ig.eq (h2))))))))))))))))))))))))))))))))))))))))))))))))))))))))
instance bF.ok:Has bF.spec:=.of bF.eq
instance bY.ok:Has bY.spec:=.of bY.eq
instance aO.ok:Has aO.spec:=.of aO.eq
instance iZ.ok:Has iZ.spec:=.of iZ.eq
instance eC.ok:Has eC.spec:=.inl eC.eq rfl rfl (sX (E:=qA.env Tryz.prog) mixed (.sE (kQ.ok (l:=[])) rfl) (by kernel_rfl) (by kernel_rfl) (by kernel_rfl) (by kernel_rfl))
instance aH.ok:∀ n,Has (aH.spec n)
 |0=>.stuck (aH.eq 0) rfl λ_=>rfl
 |n+1=>have:=aH.ok n;.of (aH.eq n)
instance h4:kQ L4:=.c ax.eq (.c aq.eq (.c dU.eq (.c ai.eq (.d (.c ia.eq (.c az.eq (.c aX.eq (.c bE.eq (.c ae.eq (.c cN.eq (.c dh.eq (.c iX.eq (.c iM.eq (.c js.eq (.c er.eq (.c cz.eq (.c jZ.eq (.c dd.eq (.c lX.eq (.c ic.eq (.c lv.eq (.c mw.eq (.c nB.eq (.c mm.eq (.c nC.eq (.c lL.eq (.c gg.eq (.c gi.eq (.c lx.eq (.c kf.eq (.c jj.eq (.c aP.eq (.d (.c fA.eq (h3)))))))))))))))))))))))))))))))))))
instance ax.ok:Has ax.spec:=.of ax.eq
instance ai.ok:Has ai.spec:=.of ai.eq
instance h5:kQ L5:=.c gP.eq (.c gd.eq (.c eS.eq (.c eo.eq (.c au.eq (.c bm.eq (.c dI.eq (.c cw.eq (.c cI.eq (.c mN.eq (.c eA.eq (.c gC.eq (.c gF.eq (.c kj.eq (.c mq.eq (.c jf.eq (.c kM.eq (.c aV.eq (.c dw.eq (h4)))))))))))))))))))
instance yP:∀ n,kQ (ib (dQ n))
 |0=>.k (parse_parser_item.eq (dQ 0)) (.k (parse_parser_declares.eq (dQ 0)) (.k (parse_parser_statement.eq (dQ 0)) (.k (parse_parser_assign.eq (dQ 0)) (.k (parse_parser_word.eq (dQ 0)) (.k (parse_parser_simple.eq (dQ 0)) (.k (parse_parser_body.eq (dQ 0)) (.k (parse_parser_cond.eq (dQ 0)) (.k (parse_parser_either.eq (dQ 0)) (.k (parse_parser_level.eq (dQ 0)) (.k (parse_parser_both.eq (dQ 0)) (.k (parse_parser_unary.eq (dQ 0)) (.k (parse_parser_calls.eq (dQ 0)) (.k (parse_parser_head.eq (dQ 0)) (.k (parse_parser_arguments.eq (dQ 0)) (.k (parse_parser_member.eq (dQ 0)) (.k (parse_parser_primary.eq (dQ 0)) (.k (parse_parser_list.eq (dQ 0)) (inferInstance))))))))))))))))))
 |n+1 =>
  have:=yP n;have:Has (parse_parser_assign.spec (dQ n)):=kQ.g (l:=ib (dQ n)) 3 rfl
  .c (parse_parser_item.eq (dQ n)) (.c (parse_parser_declares.eq (dQ n)) (.c (parse_parser_statement.eq (dQ n)) (.c (parse_parser_assign.eq (dQ n)) (.c (parse_parser_word.eq (dQ n)) (.c (parse_parser_simple.eq (dQ n)) (.c (parse_parser_body.eq (dQ n)) (.c (parse_parser_cond.eq (dQ n)) (.c (parse_parser_either.eq (dQ n)) (.c (parse_parser_level.eq (dQ n)) (.c (parse_parser_both.eq (dQ n)) (.c (parse_parser_unary.eq (dQ n)) (.c (parse_parser_calls.eq (dQ n)) (.c (parse_parser_head.eq (dQ n)) (.c (parse_parser_arguments.eq (dQ n)) (.c (parse_parser_member.eq (dQ n)) (.c (parse_parser_primary.eq (dQ n)) (.c (parse_parser_list.eq (dQ n)) (inferInstance))))))))))))))))))
instance h6:kQ L6:=.c fC.eq (.c mJ.eq (.c jF.eq (.c jO.eq (.c bc.eq (.c aF.eq (.c cH.eq (.c cW.eq (.c cc.eq (.c ke.eq (.c aT.eq (.c cX.eq ((.a (yP fuel) h5)))))))))))))
instance jF.ok:Has jF.spec:=.of jF.eq
instance h7:kQ L7:=.c fq.eq (.c dz.eq (.c jQ.eq (.c cC.eq (.c dB.eq (.c cV.eq (.c bj.eq (.c dm.eq (.c eL.eq (.c dk.eq (.c iq.eq (.c jk.eq (.c dO.eq (.c eQ.eq (.c dL.eq (.c eK.eq (.c cf.eq (.c cS.eq (.c gH.eq (h6)))))))))))))))))))
instance h8:kQ L8:=.c kv.eq (.c fH.eq (.c cA.eq (.c da.eq (.c ji.eq (.c dJ.eq (.c kZ.eq (.c eg.eq (.c fc.eq (.c fR.eq (.c iF.eq (.c cb.eq (.c ch.eq (.c eM.eq (.c eI.eq (.c cR.eq (.c dE.eq (.c dF.eq (.c dq.eq (.c dt.eq (h7))))))))))))))))))))
instance h9:kQ L9:=.c j8.eq (.c de.eq (.c ee.eq (.c ju.eq (.c kg.eq (.c dG.eq (.c dH.eq (h8)))))))
instance h10:kQ L10:=.c jG.eq (.c db.eq (.c eG.eq (.c ga.eq (h9))))
instance B6:∀ n,kQ (eu (bw n))
 |0=>.k (eval_run_list.eq (bw 0)) (.k (eval_run_statement.eq (bw 0)) (.k (eval_run_act.eq (bw 0)) (.k (eval_run_expression.eq (bw 0)) (.k (eval_run_block.eq (bw 0)) (.k (eval_run_decls.eq (bw 0)) (.k (eval_run_choice.eq (bw 0)) (.k (eval_run_while.eq (bw 0)) (.k (eval_run_loop.eq (bw 0)) (.k (eval_run_try.eq (bw 0)) (.k (eval_run_value.eq (bw 0)) (.k (eval_run_asked.eq (bw 0)) (.k (eval_run_first.eq (bw 0)) (.k (eval_run_catch.eq (bw 0)) (.k (eval_run_array.eq (bw 0)) (.k (eval_run_object.eq (bw 0)) (.k (eval_run_operation.eq (bw 0)) (.k (eval_run_unary.eq (bw 0)) (.k (eval_run_step.eq (bw 0)) (.k (eval_run_binary.eq (bw 0)) (.k (eval_run_logic.eq (bw 0)) (.k (eval_run_assign.eq (bw 0)) (.k (eval_run_callee.eq (bw 0)) (.k (eval_run_arguments.eq (bw 0)) (.k (eval_run_fresh.eq (bw 0)) (.k (eval_run_property.eq (bw 0)) (.k (eval_run_parts.eq (bw 0)) (.k (eval_run_called.eq (bw 0)) (.k (eval_run_call.eq (bw 0)) (.k (eval_run_builds.eq (bw 0)) (.k (eval_run_apply.eq (bw 0)) (.k (eval_run_does.eq (bw 0)) (.k (eval_run_host.eq (bw 0)) (.k (eval_run_receives.eq (bw 0)) (inferInstance))))))))))))))))))))))))))))))))))
 |n+1 =>
  have:=B6 n
  .c (eval_run_list.eq (bw n)) (.c (eval_run_statement.eq (bw n)) (.c (eval_run_act.eq (bw n)) (.c (eval_run_expression.eq (bw n)) (.c (eval_run_block.eq (bw n)) (.c (eval_run_decls.eq (bw n)) (.c (eval_run_choice.eq (bw n)) (.c (eval_run_while.eq (bw n)) (.c (eval_run_loop.eq (bw n)) (.c (eval_run_try.eq (bw n)) (.c (eval_run_value.eq (bw n)) (.c (eval_run_asked.eq (bw n)) (.c (eval_run_first.eq (bw n)) (.c (eval_run_catch.eq (bw n)) (.c (eval_run_array.eq (bw n)) (.c (eval_run_object.eq (bw n)) (.c (eval_run_operation.eq (bw n)) (.c (eval_run_unary.eq (bw n)) (.c (eval_run_step.eq (bw n)) (.c (eval_run_binary.eq (bw n)) (.c (eval_run_logic.eq (bw n)) (.c (eval_run_assign.eq (bw n)) (.c (eval_run_callee.eq (bw n)) (.c (eval_run_arguments.eq (bw n)) (.c (eval_run_fresh.eq (bw n)) (.c (eval_run_property.eq (bw n)) (.c (eval_run_parts.eq (bw n)) (.c (eval_run_called.eq (bw n)) (.c (eval_run_call.eq (bw n)) (.c (eval_run_builds.eq (bw n)) (.c (eval_run_apply.eq (bw n)) (.c (eval_run_does.eq (bw n)) (.c (eval_run_host.eq (bw n)) (.c (eval_run_receives.eq (bw n)) (inferInstance))))))))))))))))))))))))))))))))))
instance h11:kQ L11:=(.a (B6 fuel) h10)
instance h12:kQ L12:=.c cZ.eq (h11)
instance h13:kQ L13:=.c fb.eq (h12)
instance h14:kQ L14:=.c ey.eq (h13)
instance h15:kQ L15:=.c eX.eq (h14)
instance h16:kQ L16:=.c gA.eq (h15)
instance h17:kQ L17:=.c eZ.eq (h16)
instance h18:kQ L18:=.c dS.eq (h17)
instance dS.ok:Has dS.spec:=.of dS.eq
end Go.Mach

