/-
  Shared texts of the proofs of the laws renlaw13.AgentRefuses, renlaw13.AgentIs and renlaw13.AgentApart: each returns true for every input of the stated bulk and leaves its arguments as they were; no further condition.
  By an AI agent; no person has read it.
-/
import Derived.Test.YtfmfdkbpemiocaaGreatDoorPag
import Derived.Test.YtfmfdkbpemiocaaGreatDoorPah
import Derived.Test.YtfmfdkbpemiocaaGreatDoorPai
import Derived.Test.YtfmfdkbpemiocaaGreatDoorPaj
import Derived.Test.YtfmfdkbpemiocaaGreatDoorPak
import Derived.Test.YtfmfdkbpemiocaaGreatDoorPal
import Derived.Test.YtfmfdkbpemiocaaGreatDoorPam
import Derived.Test.YtfmfdkbpemiocaaGreatDoorPan
import Derived.Test.YtfmfdkbpemiocaaGreatDoorPao
import Derived.Test.YtfmfdkbpemiocaaGreatDoorPap
import Derived.Test.YtfmfdkbpemiocaaGreatDoorPaq
import Derived.Test.YtfmfdkbpemiocaaGreatDoorPar
import Derived.Test.YtfmfdkbpemiocaaGreatDoorPau
import Derived.KernelRfl
import Derived.Test.YtfmfdkbpemiocaaGreatDoorProg
set_option linter.all false
set_option linter.deprecated false
set_option maxRecDepth 100000
set_option linter.unusedVariables false
namespace Go.Mach
open Go.Proofs
theorem kU.c{l r:List Spec}{sp:Spec}{ann:Ann}(h:Eqn (Q l) sp ann)(t:kU r)[b:kU l]:kU (sp::r) :=
 have:=Has.of h
 inferInstance
theorem kU.d{r:List Spec}{sp:Spec}(t:kU r)[b:Has sp]:kU (sp::r):=inferInstance
theorem kU.a{l r:List Spec}(h:kU l)(t:kU r):kU (l++r):=⟨λsp hm=>(List.mem_append.1 hm).elim (h.ok sp) (t.ok sp)⟩
theorem kU.k{E:Env}{r:List Spec}{sp:Spec}{ann:Ann}{run:j8 (sp.ps.map Par.v)->Res (outs (j8 sp.rs) (boxes sp.ps))}(h:Eqn E sp ann)(t:kU r)(hP:E.P=Tryz.prog:=by rfl)(h0:∀ x,run x=.stuck:=by exact λ_=>rfl):kU (⟨sp.f,sp.ps,sp.rs,run⟩::r) :=
 have:=Has.stuck h hP h0
 inferInstance
instance {l r:List Spec} [a:kU l] [b:kU r]:kU (l++r):=a.a b
instance h0:kU L0:=inferInstanceAs (kU [iC 32 (.int .u16),iC 46 (.int .u32),iC 47 (.int .i64),mI 120 45 aE,iC 185 (.int .u8),mI 112 183 bR,mI 112 184 bK,sK 122,sG 431,iC 158 .str,iC 48 aS])
instance iF.ok:∀ n,Has (iF.spec n)
 |0=>.stuck (iF.eq 0) rfl λ_=>rfl
 |n+1=>have:=iF.ok n;.of (iF.eq n)
instance h1:kU L1:=.c gL.eq (.c mV.eq (.c mm.eq (.c eh.eq (.c iZ.eq (.c j5.eq (.c lA.eq (.c du.eq (.c bE.eq (.c j6.eq (.c iM.eq (.c dJ.eq (.c dI.eq (.c jx.eq (.c lS.eq (.c fL.eq (.c j7.eq (.c cY.eq (.c fH.eq (.c lv.eq (.c cL.eq (.c al.eq (.c ic.eq (.c bO.eq (.c cB.eq (.c gl.eq (.c bn.eq (.c gn.eq (.c ev.eq (.d (.c ig.eq (.c dX.eq (.c jm.eq (.c lM.eq (.c hJ.eq (.c kP.eq (.c fC.eq (.c dk.eq (.c iU.eq (.c gR.eq (.c fe.eq (.c gf.eq (.c ed.eq (.c iP.eq (.c jd.eq (.c fh.eq (.c ak.eq (.c fM.eq (.c cb.eq (.c mO.eq (.c eF.eq (.c ca.eq (.c bX.eq (.c fX.eq (.c fQ.eq (.c cZ.eq (.c eI.eq (.c cd.eq (.c gj.eq (.c gC.eq (.c fo.eq (.c ko.eq (.c bQ.eq (.c iu.eq (.c fq.eq (.c iQ.eq (.c kv.eq (.c ff.eq (.c eK.eq (.c iw.eq (.c kJ.eq (.c bx.eq (.c iK.eq (.c b9.eq (.c fK.eq (.c cG.eq (.c lg.eq (.c kp.eq (.c jh.eq (.c eM.eq (.c ji.eq (.c jI.eq (.c kQ.eq (.c my.eq (.c ke.eq (.c jl.eq (.c ct.eq (.c fi.eq (.c jo.eq (.c dw.eq (.c dQ.eq (.c jf.eq (.c bc.eq (.c cw.eq (.c aM.eq (.c cX.eq (.c iI.eq (.c aT.eq (.c gV.eq (.c iS.eq (.c gH.eq (.c bJ.eq (.c gZ.eq (.c bl.eq (.c kN.eq (.c dH.eq (h0))))))))))))))))))))))))))))))))))))))))))))))))))))))))))))))))))))))))))))))))))))))))))))))))))))))))))
instance ak.ok:Has ak.spec:=.of ak.eq
instance fM.ok:Has fM.spec:=.of fM.eq
instance cb.ok:Has cb.spec:=.of cb.eq
instance bX.ok:Has bX.spec:=.of bX.eq
instance ff.ok:Has ff.spec:=.of ff.eq
instance eK.ok:Has eK.spec:=.of eK.eq
instance cG.ok:Has cG.spec:=.of cG.eq
instance aT.ok:Has aT.spec:=.of aT.eq
instance bJ.ok:Has bJ.spec:=.of bJ.eq
instance bl.ok:Has bl.spec:=.of bl.eq
instance dS.ok:Has dS.spec:=.inl dS.eq rfl rfl (mi (E:=qI.env Tryz.prog) mixed (.nr (kU.ok (l:=[bX.spec])) rfl) (by kernel_rfl) (by kernel_rfl) (by kernel_rfl) (by kernel_rfl))
instance h2:kU L2:=.c lB.eq (.c gM.eq (.c fm.eq (.c bN.eq (.c az.eq (.c bh.eq (.c ch.eq (.c jR.eq (.c iB.eq (.c eQ.eq (.c fy.eq (.c cS.eq (.c aP.eq (.c kH.eq (.c ku.eq (.c kL.eq (.c jw.eq (.c lp.eq (.c ep.eq (.c ef.eq (.c bL.eq (.c jT.eq (.c gv.eq (.c af.eq (.c cT.eq (.c cu.eq (.c aL.eq (.c mL.eq (.c gE.eq (.c dF.eq (.c iN.eq (.c ey.eq (.c bU.eq (.c cD.eq (.c fZ.eq (.c bI.eq (.c bo.eq (.d (.c fV.eq (.c bm.eq (.c ej.eq (.c kX.eq (.c jO.eq (.c eg.eq (.c nV.eq (.c cc.eq (.c kh.eq (.c jU.eq (.c iV.eq (.c ia.eq (.c eX.eq (.c ju.eq (.c gu.eq (.c dP.eq (.c lJ.eq (.c gB.eq (.c cV.eq (.c eu.eq (.c aX.eq (.c cU.eq (.c cP.eq (.c jS.eq (.c bt.eq (.c cI.eq (.c cq.eq (h1)))))))))))))))))))))))))))))))))))))))))))))))))))))))))))))))))
instance bN.ok:Has bN.spec:=.of bN.eq
instance az.ok:Has az.spec:=.of az.eq
instance bh.ok:Has bh.spec:=.of bh.eq
instance aP.ok:Has aP.spec:=.of aP.eq
instance kL.ok:Has kL.spec:=.of kL.eq
instance fV.ok:Has fV.spec:=.of fV.eq
instance bm.ok:Has bm.spec:=.of bm.eq
instance bt.ok:Has bt.spec:=.of bt.eq
instance cI.ok:Has cI.spec:=.of cI.eq
instance cq.ok:Has cq.spec:=.of cq.eq
instance dA.ok:Has dA.spec:=.inl dA.eq rfl rfl (mi (E:=qE.env Tryz.prog) mixed (.nr (kU.ok (l:=[bX.spec])) rfl) (by kernel_rfl) (by kernel_rfl) (by kernel_rfl) (by kernel_rfl))
instance h3:kU L3:=.c bF.eq (.c bY.eq (.c fG.eq (.c iT.eq (.c aw.eq (.c lP.eq (.c gK.eq (.c aj.eq (.c fD.eq (.c mo.eq (.c ib.eq (.c lK.eq (.c jW.eq (.c iA.eq (.c bD.eq (.c fW.eq (.c dU.eq (.c er.eq (.c ei.eq (.c jc.eq (.c fU.eq (.c dD.eq (.c cM.eq (.c jg.eq (.c lN.eq (.c gi.eq (.c iG.eq (.c ly.eq (.c kz.eq (.c gW.eq (.d (.c iD.eq (.c jq.eq (.c ky.eq (.c jN.eq (.c lU.eq (.c kj.eq (.c jF.eq (.c fx.eq (.c dG.eq (.c iW.eq (.c mr.eq (.c mu.eq (.c nA.eq (.c cW.eq (.c lV.eq (.c kR.eq (.c fj.eq (.c eU.eq (.c db.eq (.c cR.eq (.c fk.eq (.c kn.eq (.c b8.eq (.c gy.eq (.c iy.eq (.c dd.eq (h2)))))))))))))))))))))))))))))))))))))))))))))))))))))))))
instance bF.ok:Has bF.spec:=.of bF.eq
instance bY.ok:Has bY.spec:=.of bY.eq
instance ib.ok:Has ib.spec:=.of ib.eq
instance dd.ok:Has dd.spec:=.of dd.eq
instance eE.ok:Has eE.spec:=.inl eE.eq rfl rfl (mi (E:=p8.env Tryz.prog) mixed (.nr (kU.ok (l:=[])) rfl) (by kernel_rfl) (by kernel_rfl) (by kernel_rfl) (by kernel_rfl))
instance aH.ok:∀ n,Has (aH.spec n)
 |0=>.stuck (aH.eq 0) rfl λ_=>rfl
 |n+1=>have:=aH.ok n;.of (aH.eq n)
instance h4:kU L4:=.c ay.eq (.c au.eq (.c fB.eq (.c cF.eq (.d (.c jQ.eq (.c bC.eq (.c ah.eq (.c bW.eq (.c ae.eq (.c dM.eq (.c eD.eq (.c iY.eq (.c iO.eq (.c jy.eq (.c gS.eq (.c de.eq (.c jt.eq (.c fF.eq (.c lO.eq (.c ij.eq (.c lj.eq (.c mw.eq (.c nD.eq (.c nE.eq (.c nB.eq (.c lL.eq (.c gp.eq (.c gh.eq (.c lx.eq (.c kc.eq (.c jk.eq (.c aN.eq (.d (.c ec.eq (h3)))))))))))))))))))))))))))))))))))
instance ay.ok:Has ay.spec:=.of ay.eq
instance yU:∀ n,kU (kF (dx n))
 |0=>.k (parse_parser_item.eq (dx 0)) (.k (parse_parser_statement.eq (dx 0)) (.k (parse_parser_assign.eq (dx 0)) (.k (parse_parser_simple.eq (dx 0)) (.k (parse_parser_cond.eq (dx 0)) (.k (parse_parser_either.eq (dx 0)) (.k (parse_parser_level.eq (dx 0)) (.k (parse_parser_both.eq (dx 0)) (.k (parse_parser_unary.eq (dx 0)) (.k (parse_parser_calls.eq (dx 0)) (.k (parse_parser_head.eq (dx 0)) (.k (parse_parser_arguments.eq (dx 0)) (.k (parse_parser_member.eq (dx 0)) (.k (parse_parser_primary.eq (dx 0)) (.k (parse_parser_list.eq (dx 0)) (inferInstance)))))))))))))))
 |n+1 =>
  have:=yU n
  .c (parse_parser_item.eq (dx n)) (.c (parse_parser_statement.eq (dx n)) (.c (parse_parser_assign.eq (dx n)) (.c (parse_parser_simple.eq (dx n)) (.c (parse_parser_cond.eq (dx n)) (.c (parse_parser_either.eq (dx n)) (.c (parse_parser_level.eq (dx n)) (.c (parse_parser_both.eq (dx n)) (.c (parse_parser_unary.eq (dx n)) (.c (parse_parser_calls.eq (dx n)) (.c (parse_parser_head.eq (dx n)) (.c (parse_parser_arguments.eq (dx n)) (.c (parse_parser_member.eq (dx n)) (.c (parse_parser_primary.eq (dx n)) (.c (parse_parser_list.eq (dx n)) (inferInstance)))))))))))))))
instance h5:kU L5:=.c gJ.eq (.c gz.eq (.c gY.eq (.c av.eq (.c cJ.eq (.c dm.eq (.c dv.eq (.c dE.eq (.c mJ.eq (.c dV.eq (.c fp.eq (.c gD.eq (.c ki.eq (.c mv.eq (.c js.eq (.c kO.eq (.c aY.eq (.c eY.eq ((.a (yU fuel) h4)))))))))))))))))))
instance h6:kU L6:=.c eo.eq (.c dY.eq (.c mF.eq (.c kS.eq (.c jV.eq (.c cH.eq (.c aF.eq (.c cC.eq (.c c7.eq (.c dy.eq (.c kg.eq (.c aU.eq (.c dn.eq (h5)))))))))))))
instance kS.ok:Has kS.spec:=.of kS.eq
instance h7:kU L7:=.c fa.eq (.c jX.eq (.c dC.eq (.c eJ.eq (.c cQ.eq (.c cN.eq (.c eG.eq (.c gU.eq (.c fg.eq (.c iq.eq (.c jr.eq (.c dB.eq (.c fT.eq (.c eW.eq (.c gT.eq (.c dz.eq (.c di.eq (.c gA.eq (h6))))))))))))))))))
instance h8:kU L8:=.c lC.eq (.c bj.eq (.c cr.eq (.c fJ.eq (.c jj.eq (.c eS.eq (.c kf.eq (.c iE.eq (.c ik.eq (.c fE.eq (.c iJ.eq (.c eA.eq (.c eC.eq (.c gO.eq (.c gP.eq (.c dh.eq (.c eT.eq (.c eR.eq (.c fY.eq (.c fc.eq (h7))))))))))))))))))))
instance bj.ok:Has bj.spec:=.of bj.eq
instance h9:kU L9:=.c kG.eq (.c ea.eq (.c iH.eq (.c jz.eq (.c kZ.eq (.c eV.eq (.c eZ.eq (h8)))))))
instance h10:kU L10:=.c gG.eq (.c fI.eq (.c gF.eq (.c gr.eq (h9))))
instance gG.ok:Has gG.spec:=.of gG.eq
instance zq:∀ n,kU (eO (bz n))
 |0=>.k (eval_run_list.eq (bz 0)) (.k (eval_run_statement.eq (bz 0)) (.k (eval_run_act.eq (bz 0)) (.k (eval_run_expression.eq (bz 0)) (.k (eval_run_block.eq (bz 0)) (.k (eval_run_decls.eq (bz 0)) (.k (eval_run_choice.eq (bz 0)) (.k (eval_run_while.eq (bz 0)) (.k (eval_run_loop.eq (bz 0)) (.k (eval_run_try.eq (bz 0)) (.k (eval_run_value.eq (bz 0)) (.k (eval_run_asked.eq (bz 0)) (.k (eval_run_first.eq (bz 0)) (.k (eval_run_catch.eq (bz 0)) (.k (eval_run_array.eq (bz 0)) (.k (eval_run_object.eq (bz 0)) (.k (eval_run_operation.eq (bz 0)) (.k (eval_run_unary.eq (bz 0)) (.k (eval_run_step.eq (bz 0)) (.k (eval_run_binary.eq (bz 0)) (.k (eval_run_logic.eq (bz 0)) (.k (eval_run_assign.eq (bz 0)) (.k (eval_run_callee.eq (bz 0)) (.k (eval_run_arguments.eq (bz 0)) (.k (eval_run_fresh.eq (bz 0)) (.k (eval_run_property.eq (bz 0)) (.k (eval_run_parts.eq (bz 0)) (.k (eval_run_called.eq (bz 0)) (.k (eval_run_call.eq (bz 0)) (.k (eval_run_builds.eq (bz 0)) (.k (eval_run_apply.eq (bz 0)) (.k (eval_run_does.eq (bz 0)) (.k (eval_run_host.eq (bz 0)) (.k (eval_run_receives.eq (bz 0)) (inferInstance))))))))))))))))))))))))))))))))))
 |n+1 =>
  have:=zq n
  .c (eval_run_list.eq (bz n)) (.c (eval_run_statement.eq (bz n)) (.c (eval_run_act.eq (bz n)) (.c (eval_run_expression.eq (bz n)) (.c (eval_run_block.eq (bz n)) (.c (eval_run_decls.eq (bz n)) (.c (eval_run_choice.eq (bz n)) (.c (eval_run_while.eq (bz n)) (.c (eval_run_loop.eq (bz n)) (.c (eval_run_try.eq (bz n)) (.c (eval_run_value.eq (bz n)) (.c (eval_run_asked.eq (bz n)) (.c (eval_run_first.eq (bz n)) (.c (eval_run_catch.eq (bz n)) (.c (eval_run_array.eq (bz n)) (.c (eval_run_object.eq (bz n)) (.c (eval_run_operation.eq (bz n)) (.c (eval_run_unary.eq (bz n)) (.c (eval_run_step.eq (bz n)) (.c (eval_run_binary.eq (bz n)) (.c (eval_run_logic.eq (bz n)) (.c (eval_run_assign.eq (bz n)) (.c (eval_run_callee.eq (bz n)) (.c (eval_run_arguments.eq (bz n)) (.c (eval_run_fresh.eq (bz n)) (.c (eval_run_property.eq (bz n)) (.c (eval_run_parts.eq (bz n)) (.c (eval_run_called.eq (bz n)) (.c (eval_run_call.eq (bz n)) (.c (eval_run_builds.eq (bz n)) (.c (eval_run_apply.eq (bz n)) (.c (eval_run_does.eq (bz n)) (.c (eval_run_host.eq (bz n)) (.c (eval_run_receives.eq (bz n)) (inferInstance))))))))))))))))))))))))))))))))))
instance h11:kU L11:=(.a (zq fuel) h10)
instance h12:kU L12:=.c eB.eq (h11)
instance h13:kU L13:=.c dN.eq (h12)
instance h14:kU L14:=.c bA.eq (.c iz.eq (h13))
instance bA.ok:Has bA.spec:=.of bA.eq
instance iz.ok:Has iz.spec:=.of iz.eq
instance h15:kU L15:=.c aZ.eq (h14)
instance aZ.ok:Has aZ.spec:=.of aZ.eq
instance bB.ok:Has bB.spec:=.inl bB.eq rfl rfl (mi (E:=pk.env Tryz.prog) mixed (.nr (kU.ok (l:=[bA.spec,cb.spec,bj.spec,fM.spec])) rfl) (by kernel_rfl) (by kernel_rfl) (by kernel_rfl) (by kernel_rfl))
instance h16:kU L16:=.d (h15)
instance cO.ok:Has cO.spec:=.inl cO.eq rfl rfl (mi (E:=nN.env Tryz.prog) mixed (.nr (kU.ok (l:=[bA.spec,cb.spec,bj.spec,fM.spec])) rfl) (by kernel_rfl) (by kernel_rfl) (by kernel_rfl) (by kernel_rfl))
instance dc.ok:Has dc.spec:=.inl dc.eq rfl rfl (mi (E:=oz.env Tryz.prog) mixed (.nr (kU.ok (l:=[bA.spec,cb.spec,bj.spec,fM.spec])) rfl) (by kernel_rfl) (by kernel_rfl) (by kernel_rfl) (by kernel_rfl))
instance cn.ok:Has cn.spec:=.inl cn.eq rfl rfl (mi (E:=nh.env Tryz.prog) mixed (.nr (kU.ok (l:=[bA.spec,cb.spec,bj.spec,fM.spec])) rfl) (by kernel_rfl) (by kernel_rfl) (by kernel_rfl) (by kernel_rfl))
instance h17:kU L17:=.d (.d (.d (h16)))
end Go.Mach

