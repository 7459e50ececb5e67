/-
  Proved here: the law renlaw12.EvalWithin returns true for every input of the stated bulk and leaves its arguments as they were; no further condition.
  By an AI agent; no person has read it.
-/
import Derived.Test.YtdmjcmcdgepoeaaGreatDoorParte
import Derived.KernelRfl
import Derived.Test.YtdmjcmcdgepoeaaGreatDoorProg
set_option linter.all false
set_option linter.deprecated false
set_option linter.unusedVariables false
set_option maxRecDepth 100000
namespace Go.Mach
open Go.Proofs
theorem eV.eq:Eqn (Q [fa.spec,cQ.spec,bN.spec,bU.spec,eE.spec,cj.spec,aF.spec,cS.spec,ct.spec,gZ.spec,gq.spec,aj.spec,cJ.spec]) eV.spec (.r (.r (.two (.l (.piece [(.nrm,⟨[(38,vb)],rg 31 7,[],[]⟩)] .none)) (.r (.r (.r (.r (.r (.r (.two (.piece [(.nrm,⟨[(17,(false,zs4)),(18,vi)],[16]++rg 63 10,[],[]⟩),(.ret,⟨[(9,vi)],[16,17]++rg 63 15,[(2,aG),(7,zs1)],[0,1]⟩)] .none) (.r (.l (.piece [(.nrm,⟨[(17,(false,zs4))],rg 82 13++rg 99 9,[],[]⟩),(.ret,⟨[(9,vi)],rg 82 17,[(2,aG),(7,zs1)],[0,1]⟩)] (.l (.two (.piece [(.nrm,⟨[(82,vb)],rg 83 12,[],[]⟩)] .none) (.r (.l (.piece [(.nrm,⟨[(99,vb)],rg 100 5,[],[]⟩)] .none)))))))))))))))))):=eqn Tryz.f373
theorem eval_run_assign.eq (G:au):Eqn (Q [eval_run_expression.spec G,fU.spec,eval_run_parts.spec G,aF.spec,eP.spec,gM.spec]) (eval_run_assign.g.sp 277 fun x=>R.eval_run_assign G x.1 x.2.1 x.2.2) (.r (.r (.r (.r (.r (.two (.piece [(.nrm,⟨[],[10]++rg 39 11,[(2,aG),(12,zs1)],[7,8]⟩),(.ret,⟨[(7,vi)],[10]++rg 39 13,[(2,aG),(5,zs1)],[7,8,12]⟩)] .none) (.r (.l (.piece [(.nrm,⟨[],[13,14]++rg 66 11++[82],[(11,zs1)],[]⟩),(.ret,⟨[(7,vi)],[13,14]++rg 66 16,[(2,aG),(5,zs1)],[18,19]⟩)] .none))))))))):=eqn Tryz.f277
theorem gu.eq:Eqn (Q [bx.spec,bE.spec,jI.spec,kh.spec]) gu.spec (.r (.two (.l (.two (.piece [(.nrm,⟨[(15,vb)],rg 16 8,[],[]⟩)] .none) (.r (.two (.piece [(.nrm,⟨[(25,vb)],rg 26 8,[],[]⟩)] .none) (.two (.l (.piece [(.nrm,⟨[],[34,35,36],[(0,zs1),(1,zs1)],[]⟩)] .none)) (.l (.piece [(.nrm,⟨[(45,vb)],rg 46 18,[],[]⟩)] .none))))))) (.r (.r (.r (.r (.l (.piece [(.nrm,⟨[],[83,84,85],[(3,zs1),(4,zs1)],[]⟩)] .none)))))))):=eqn Tryz.f330
theorem parse_parser_list.eq (G:bu):Eqn (Q [parse_parser_assign.spec G,cB.spec,af.spec,aM.spec]) (parse_parser_list.g.sp 429 fun x=>R.parse_parser_list G x.1 x.2) (.r (.r (.r (.l (.loop ⟨[(5,(false,(.own zs2)))],[4]++rg 10 16,[(0,aL)],[]⟩ [(.ret,⟨[(4,(false,(.own zs2)))],[5]++rg 10 16,[(0,aL)],[]⟩)] (.l (.r (.l (.l (.piece [(.nrm,⟨[(22,vb)],rg 15 7,[(0,aL)],[]⟩)] .none)))))))))):=eqn Tryz.f429
theorem iE.eq:Eqn (Q [jm.spec,jH.spec,iU.spec,fk.spec]) iE.spec (.r (.r (.r (.l (.r (.l (.loop ⟨[(7,(false,(.own .w))),(8,vi)],[9]++rg 16 33,[(2,(.own .w))],[]⟩ [(.ext 0,⟨[(7,(false,(.own .w)))],[8,9]++rg 16 33,[(2,(.own .w))],[]⟩)] (.r (.l (.l (.r (.l (.loop ⟨[(7,(false,(.own .w))),(9,vi)],rg 20 29,[(2,(.own .w))],[3]⟩ [(.ext 2,⟨[(7,(false,(.own .w)))],[9]++rg 20 29,[(2,(.own .w))],[3]⟩)] .none))))))))))))):=eqn Tryz.f433
theorem iI.eq:Eqn (Q [iZ.spec]) iI.spec (.r (.r (.l (.r (.l (.loop ⟨[(3,vb),(8,vi)],[2,5]++rg 9 44,[],[]⟩ [(.ext 0,⟨[(3,vb)],[2,5]++rg 8 45,[],[]⟩),(.ret,⟨[(2,vb)],[3,5]++rg 8 45,[],[]⟩)] (.r (.r (.l (.l (.r (.two (.piece [(.nrm,⟨[(3,vb)],rg 12 5,[],[]⟩)] .none) (.l (.piece [(.nrm,⟨[(51,vb)],rg 17 34,[],[]⟩)] .none)))))))))))))):=eqn Tryz.f76
theorem eR.eq:Eqn (Q [aT.spec,aK.spec,aF.spec,ay.spec]) eR.spec (.r (.r (.l (.piece [(.nrm,⟨[(8,vi)],rg 9 14++rg 27 10,[],[]⟩),(.ret,⟨[(7,vi)],rg 9 22++rg 33 8,[(2,aG),(9,zs1)],[0,1]⟩)] (.l (.l (.piece [(.nrm,⟨[(9,vb)],rg 10 13,[],[]⟩)] .none))))))):=eqn Tryz.f366
theorem eI.eq:Eqn (Q [gT.spec]) eI.spec (.r (.two (.l (.piece [(.nrm,⟨[(25,vb)],rg 7 18,[],[]⟩)] .none)) (.r (.l (.r (.l (.loop ⟨[(4,vi),(28,vi)],[2,3,6]++rg 29 13,[],[]⟩ [(.ext 0,⟨[(4,vi)],[2,3,6]++rg 28 14,[],[]⟩),(.ret,⟨[(2,vi),(3,vb)],[4,6]++rg 28 14,[],[]⟩)] .none))))))):=eqn Tryz.f323
theorem aZ.eq:Eqn (Q [eM.spec]) aZ.spec (.r (.l (.r (.l (.loop ⟨[(8,vi)],[4,5]++rg 9 10,[],[]⟩ [(.ext 0,⟨[],[4,5]++rg 8 11,[],[]⟩),(.ret,⟨[(4,vi)],[5]++rg 8 11,[],[]⟩)] .none))))):=eqn Tryz.f227
theorem eA.eq:Eqn (Q []) eA.spec (.r (.r (.l (.r (.l (.loop ⟨[(4,(false,(.own .y))),(9,vi)],[2,3,6]++rg 10 11,[],[]⟩ [(.ext 0,⟨[(4,(false,(.own .y)))],[2,3,6]++rg 9 12,[],[]⟩),(.ret,⟨[(2,vs),(3,vb)],[4,6]++rg 9 12,[],[]⟩)] .none)))))):=eqn Tryz.f73
theorem jN.eq:Eqn (Q []) jN.spec (.r (.r (.l (.r (.l (.loop ⟨[(4,vi),(9,vi)],[2,3,6]++rg 10 12,[],[]⟩ [(.ext 0,⟨[(4,vi)],[2,3,6]++rg 9 13,[],[]⟩),(.ret,⟨[(2,vi),(3,vb)],[4,6]++rg 9 13,[],[]⟩)] .none)))))):=eqn Tryz.f88
theorem fk.eq:Eqn (Q []) fk.spec (.r (.l (.l (.loop ⟨[(0,(false,(.own .w)))],rg 3 17,[],[0]⟩ [(.ext 0,⟨[(0,(false,(.own .w)))],rg 3 17,[],[0]⟩)] (.l (.l (.piece [(.nrm,⟨[(14,vb)],rg 3 11,[],[]⟩)] .none))))))):=eqn Tryz.f112
theorem gi.eq:Eqn (Q [dQ.spec]) gi.spec (.r (.two (.piece [(.nrm,⟨[(5,vb)],rg 6 6,[],[]⟩)] .none) (.l (.piece [(.nrm,⟨[(0,(false,zs4))],[12,13,14],[],[]⟩)] .none)))):=eqn Tryz.f51
theorem bc.eq:Eqn (Q []) bc.spec (.r (.l (.loop ⟨[(2,vi),(3,vi)],rg 7 21,[(0,(.own .y))],[]⟩ [(.ext 0,⟨[],[2,3]++rg 7 21,[(0,(.own .y))],[]⟩)] .none))):=eqn Tryz.f120
theorem eval_run_statement.eq (G:au):Eqn (Q [eval_run_act.spec G,bz.spec]) (eval_run_statement.g.sp 149 fun x=>R.eval_run_statement G x.1 x.2.1 x.2.2.1 x.2.2.2) .none:=eqn Tryz.f149
theorem jL.eq:Eqn (Q [ef.spec]) jL.spec (.r (.l (.r (.l (.r (.r (.r (.r (.r (.r (.l (.piece [(.nrm,⟨[(24,vb)],[25,26,27],[],[]⟩)] .none)))))))))))):=eqn Tryz.f21
theorem jW.eq:Eqn (Q [kQ.spec,kR.spec,cz.spec,dX.spec,jD.spec]) jW.spec .none:=eqn Tryz.f98
theorem fZ.eq:Eqn (Q [j7.spec,dK.spec,bK.spec]) fZ.spec .none:=eqn Tryz.f176
theorem ki.eq:Eqn (Q [dO.spec,dy.spec,lL.spec,fl.spec]) ki.spec .none:=eqn Tryz.f64
theorem ij.eq:Eqn (Q [ec.spec,jW.spec,kD.spec]) ij.spec .none:=eqn Tryz.f60
theorem cP.eq:Eqn (Q [cg.spec]) cP.spec .none:=eqn Tryz.f427
theorem fH.eq:Eqn (Q [bM.spec,dJ.spec]) fH.spec .none:=eqn Tryz.f368
theorem cw.eq:Eqn (Q [dm.spec]) cw.spec .none:=eqn Tryz.f434
theorem bm.eq:Eqn (Q [aF.spec]) bm.spec .none:=eqn Tryz.f290
theorem iq.eq:Eqn (Q [dQ.spec,iD.spec]) iq.spec .none:=eqn Tryz.f347
theorem gf.eq:Eqn (Q [cc.spec]) gf.spec .none:=eqn Tryz.f84
theorem bC.eq:Eqn (Q []) bC.spec .none:=eqn Tryz.f221
theorem gR.eq:Eqn (Q [da.spec]) gR.spec .none:=eqn Tryz.f346
theorem fg.eq:Eqn (Q [jy.spec]) fg.spec .none:=eqn Tryz.f117
theorem i7.eq:Eqn (Q []) i7.spec .none:=eqn Tryz.f59
theorem jo.eq:Eqn (Q []) jo.spec .none:=eqn Tryz.f63
theorem ia.eq:Eqn (Q []) ia.spec .none:=eqn Tryz.f35
theorem i6.eq:Eqn (Q []) i6.spec .none:=eqn Tryz.f127
end Go.Mach

set_option linter.unusedVariables false
set_option maxRecDepth 100000
namespace Go.Mach
open Go.Proofs
theorem fq.eq:Eqn (Q [bw.spec,fL.spec,jC.spec,aT.spec,aK.spec,aF.spec,bM.spec,fQ.spec,ay.spec,bj.spec]) fq.spec (.r (.r (.r (.r (.two (.piece [(.nrm,⟨[(7,vi)],rg 19 10,[],[]⟩)] .none) (.two (.piece [(.nrm,⟨[(6,(false,zs0))],[8,29]++rg 34 27,[],[]⟩),(.ret,⟨[(5,vi)],rg 29 7++[43,44],[(2,aG),(6,zs1)],[0,1]⟩)] (.r (.l (.r (.r (.r (.l (.r (.l (.loop ⟨[(6,(false,zs0)),(52,vi)],[8]++rg 53 8,[],[]⟩ [(.ext 1,⟨[(6,(false,zs0))],[8]++rg 52 9,[],[]⟩)] .none)))))))))) (.r (.r (.l (.r (.l (.loop ⟨[(73,vi)],[11,12]++rg 74 16,[(9,dz)],[8]⟩ [(.ext 3,⟨[],[11,12]++rg 73 17,[(9,dz)],[8]⟩)] .none)))))))))))):=eqn Tryz.f365
theorem eval_run_fresh.eq (G:au):Eqn (Q [gF.spec,eval_run_apply.spec G,eval_run_builds.spec G,aT.spec,aK.spec,aF.spec,ay.spec,cM.spec,aj.spec,ai.spec]) (eval_run_fresh.g.sp 280 fun x=>R.eval_run_fresh G x.1 x.2.1 x.2.2) (.r (.r (.r (.r (.two (.l (.piece [(.nrm,⟨[(50,vb)],rg 43 7,[],[]⟩)] .none)) (.r (.two (.piece [(.nrm,⟨[(10,vi)],[11,12]++rg 55 22++[81,82],[],[]⟩),(.ret,⟨[(7,vi)],[11,12]++rg 55 26,[(2,aG),(4,zs1)],[0,1]⟩)] .none) (.r (.r (.r (.l (.l (.piece [(.nrm,⟨[(109,vb)],rg 103 6,[],[]⟩)] .none))))))))))))):=eqn Tryz.f280
theorem gh.eq:Eqn (Q [cm.spec,jC.spec,aK.spec,gj.spec,aF.spec,bM.spec,cM.spec,aj.spec,bj.spec,ai.spec,eI.spec,gf.spec]) gh.spec (.r (.r (.r (.r (.r (.r (.r (.l (.piece [(.nrm,⟨[],[15,16,64,65]++rg 70 5++rg 79 14++rg 97 14,[],[]⟩),(.ret,⟨[(7,vi)],[15,16]++rg 64 66,[(2,aG),(5,zs1)],[0,1]⟩)] (.r (.l (.r (.r (.r (.l (.l (.piece [(.nrm,⟨[(92,vb)],rg 81 11,[],[]⟩)] .none))))))))))))))))):=eqn Tryz.f322
theorem parse_parser_assign.eq (G:bu):Eqn (Q [gI.spec,bD.spec,bC.spec,eQ.spec,parse_parser_assign.spec G,parse_parser_body.spec G,parse_parser_cond.spec G,aR.spec,dL.spec,lj.spec,fl.spec]) (parse_parser_assign.g.sp 215 fun x=>R.parse_parser_assign G x) (.r (.two (.r (.l (.piece [(.nrm,⟨[(21,vb)],rg 8 13,[],[]⟩)] .none))) (.r (.r (.r (.l (.l (.piece [(.nrm,⟨[(53,vb)],rg 45 8,[],[]⟩)] .none)))))))):=eqn Tryz.f215
theorem eval_run_first.eq (G:au):Eqn (Q [eval_run_expression.spec G,bk.spec,eval_run_statement.spec G,ej.spec,bF.spec]) (eval_run_first.g.sp 233 fun x=>R.eval_run_first G x.1 x.2.1 x.2.2) (.r (.r (.l (.r (.l (.r (.r (.two (.piece [(.nrm,⟨[(29,vb)],[30,31],[],[]⟩)] .none) (.l (.r (.r (.r (.l (.r (.l (.loop ⟨[(49,vi)],[12]++rg 50 23,[(9,dz)],[8]⟩ [(.ext 1,⟨[],[12]++rg 49 24,[(9,dz)],[8]⟩)] .none)))))))))))))))):=eqn Tryz.f233
theorem lU.eq:Eqn (Q [dX.spec,jD.spec,gx.spec,ju.spec,jq.spec]) lU.spec (.r (.two (.l (.piece [(.nrm,⟨[(26,vb)],rg 4 22,[],[]⟩)] .none)) (.l (.r (.l (.loop ⟨[(30,vi)],[2,3]++rg 31 29,[],[]⟩ [(.ext 0,⟨[],[2,3]++rg 30 30,[],[]⟩),(.ret,⟨[(2,vb)],[3]++rg 30 30,[],[]⟩)] (.r (.r (.l (.l (.r (.l (.piece [(.nrm,⟨[(58,vb)],rg 33 25,[],[]⟩)] .none))))))))))))):=eqn Tryz.f12
theorem dd.eq:Eqn (Q [cQ.spec,bU.spec,dq.spec,aT.spec,aF.spec,dD.spec]) dd.spec (.r (.r (.r (.r (.r (.r (.r (.l (.piece [(.nrm,⟨[(10,vi)],[9,11]++rg 51 12++rg 68 5,[],[]⟩),(.ret,⟨[(5,vi)],[9,10,11]++rg 51 26,[(2,aG),(4,zs1)],[0,1]⟩)] .none))))))))):=eqn Tryz.f337
theorem fp.eq:Eqn (Q []) fp.spec (.r (.r (.r (.l (.r (.l (.loop ⟨[(17,vi)],[4,5,7]++rg 18 17,[(2,(.own .i))],[]⟩ [(.ext 0,⟨[],[4,5,7]++rg 17 18,[(2,(.own .i))],[]⟩)] (.r (.r (.l (.l (.r (.r (.l (.loop ⟨[(25,vi)],[7]++rg 26 8,[(2,(.own .i))],[]⟩ [(.ext 2,⟨[],[7]++rg 25 9,[(2,(.own .i))],[]⟩)] .none))))))))))))))):=eqn Tryz.f56
theorem kz.eq:Eqn (Q [iO.spec,gV.spec]) kz.spec (.r (.l (.r (.l (.loop ⟨[(7,vi)],[2,3,4]++rg 8 19,[],[]⟩ [(.ext 0,⟨[],[2,3,4]++rg 7 20,[],[]⟩),(.ret,⟨[(2,vb)],[3,4]++rg 7 20,[],[]⟩)] (.r (.r (.l (.l (.r (.r (.l (.piece [(.nrm,⟨[(25,vb)],rg 14 11,[],[]⟩)] .none))))))))))))):=eqn Tryz.f100
theorem dK.eq:Eqn (Q []) dK.spec (.r (.l (.r (.l (.loop ⟨[(8,vi)],[4,5]++rg 9 34,[],[]⟩ [(.ext 0,⟨[],[4,5]++rg 8 35,[],[]⟩),(.ret,⟨[(4,vb)],[5]++rg 8 35,[],[]⟩)] (.r (.r (.l (.l (.r (.l (.piece [(.nrm,⟨[(41,vb)],rg 11 30,[],[]⟩)] .none)))))))))))):=eqn Tryz.f174
theorem kT.eq:Eqn (Q [mV.spec,da.spec,dk.spec,eH.spec,dv.spec]) kT.spec (.r (.r (.l (.l (.two (.piece [(.nrm,⟨[(10,vb)],rg 11 21,[],[]⟩)] .none) (.r (.r (.r (.r (.r (.l (.piece [(.nrm,⟨[(41,vb)],rg 42 8,[],[]⟩)] .none)))))))))))):=eqn Tryz.f320
theorem kH.eq:Eqn (Q [kV.spec,mC.spec,mK.spec,mM.spec,mO.spec,dB.spec,ed.spec]) kH.spec (.r (.r (.r (.l (.piece [(.nrm,⟨[(9,vi)],rg 47 8,[(5,(.box (.frz ax)))],[]⟩)] .none))))):=eqn Tryz.f354
theorem kF.eq:Eqn (Q [kV.spec,jl.spec,bx.spec,kT.spec,ed.spec,ca.spec]) kF.spec (.r (.r (.l (.l (.r (.r (.l (.piece [(.nrm,⟨[(18,vb)],rg 19 6,[],[]⟩)] .none)))))))):=eqn Tryz.f296
theorem eval_run_catch.eq (G:au):Eqn (Q [bk.spec,eval_run_statement.spec G,bF.spec]) (eval_run_catch.g.sp 235 fun x=>R.eval_run_catch G x.1 x.2.1 x.2.2.1 x.2.2.2.1 x.2.2.2.2) .none:=eqn Tryz.f235
theorem eval_run_callee.eq (G:au):Eqn (Q [eval_run_arguments.spec G,eval_run_call.spec G,eval_run_called.spec G]) (eval_run_callee.g.sp 278 fun x=>R.eval_run_callee G x.1 x.2.1 x.2.2) .none:=eqn Tryz.f278
theorem eT.eq:Eqn (Q [cm.spec,aj.spec,ai.spec]) eT.spec (.r (.r (.l (.r (.l (.piece [(.nrm,⟨[(33,vb)],rg 28 5,[],[]⟩)] .none)))))):=eqn Tryz.f68
theorem eval_run_property.eq (G:au):Eqn (Q [dw.spec,eval_run_parts.spec G]) (eval_run_property.g.sp 281 fun x=>R.eval_run_property G x.1 x.2.1 x.2.2) .none:=eqn Tryz.f281
theorem fR.eq:Eqn (Q [c7.spec,ef.spec]) fR.spec (.r (.l (.l (.piece [(.nrm,⟨[(21,vb)],rg 5 16,[],[]⟩)] .none)))):=eqn Tryz.f22
theorem bx.eq:Eqn (Q [dB.spec,bl.spec,b8.spec,bP.spec,j8.spec]) bx.spec .none:=eqn Tryz.f295
theorem jt.eq:Eqn (Q []) jt.spec (.r (.l (.r (.l (.l (.piece [(.nrm,⟨[(4,vb)],rg 5 33,[],[]⟩)] .none)))))):=eqn Tryz.f289
theorem cW.eq:Eqn (Q [cX.spec,bQ.spec]) cW.spec .none:=eqn Tryz.f314
theorem eE.eq:Eqn (Q [ep.spec,bQ.spec]) eE.spec .none:=eqn Tryz.f382
theorem bo.eq:Eqn (Q [cI.spec]) bo.spec .none:=eqn Tryz.f374
theorem af.eq:Eqn (Q [aM.spec]) af.spec .none:=eqn Tryz.f213
theorem fa.eq:Eqn (Q [bl.spec,iN.spec]) fa.spec .none:=eqn Tryz.f262
theorem js.eq:Eqn (Q [jl.spec,lK.spec]) js.spec .none:=eqn Tryz.f364
theorem kR.eq:Eqn (Q [(ic.spec fuel)]) kR.spec .none:=eqn Tryz.f141
theorem lL.eq:Eqn (Q [dy.spec]) lL.spec .none:=eqn Tryz.f105
theorem dO.eq:Eqn (Q []) dO.spec .none:=eqn Tryz.f106
theorem cZ.eq:Eqn (Q []) cZ.spec .none:=eqn Tryz.f432
theorem gV.eq:Eqn (Q []) gV.spec .none:=eqn Tryz.f143
theorem c7.eq:Eqn (Q []) c7.spec .none:=eqn Tryz.f14
theorem lI.eq:Eqn (Q []) lI.spec .none:=eqn Tryz.f173
theorem jy.eq:Eqn (Q []) jy.spec .none:=eqn Tryz.f37
end Go.Mach

set_option linter.unusedVariables false
set_option maxRecDepth 100000
namespace Go.Mach
open Go.Proofs
theorem eval_run_does.eq (G:au):Eqn (Q [fa.spec,bw.spec,cm.spec,bE.spec,bU.spec,ea.spec,eS.spec,eR.spec,aK.spec,de.spec,eval_run_host.spec G,fq.spec,dE.spec,gC.spec,bm.spec,aF.spec,eV.spec,fH.spec,ay.spec,cJ.spec,bo.spec]) (eval_run_does.g.sp 333 fun x=>R.eval_run_does G x.1 x.2.1 x.2.2.1 x.2.2.2) (.r (.r (.l (.r (.l (.two (.piece [(.nrm,⟨[(18,vb)],[19,20],[],[]⟩)] .none) (.r (.r (.r (.r (.r (.r (.r (.r (.r (.r (.two (.l (.l (.piece [(.nrm,⟨[(79,vb)],rg 67 12,[],[]⟩)] .none))) (.r (.r (.r (.r (.r (.r (.r (.r (.l (.piece [(.nrm,⟨[(134,vb)],rg 135 5,[],[]⟩)] .none))))))))))))))))))))))))))):=eqn Tryz.f333
theorem eF.eq:Eqn (Q [lI.spec]) eF.spec (.r (.r (.r (.r (.l (.l (.loop ⟨[],[3,6,7,8]++rg 27 63,[(0,cO),(2,zs5)],[]⟩ [(.ext 0,⟨[],[3,6,7,8]++rg 27 63,[(0,cO)],[2]⟩),(.ret,⟨[(3,vi)],[6,7,8]++rg 27 63,[(0,cO),(1,zs5)],[2]⟩)] (.two (.l (.piece [(.nrm,⟨[(50,vb)],rg 27 23,[],[]⟩)] .none)) (.l (.r (.r (.r (.l (.piece [(.nrm,⟨[],[72,73],[],[]⟩)] .none)))))))))))))):=eqn Tryz.f178
theorem aP.eq:Eqn (Q [cG.spec]) aP.spec (.r (.l (.loop ⟨[(8,vi)],[9]++rg 12 41,[(0,zs0)],[]⟩ [(.ext 0,⟨[],[8,9]++rg 12 41,[(0,zs0)],[]⟩)] (.r (.l (.l (.r (.l (.loop ⟨[(9,vi)],rg 18 35,[(0,zs0)],[]⟩ [(.ext 2,⟨[],[9]++rg 18 35,[(0,zs0)],[]⟩)] (.l (.l (.piece [(.nrm,⟨[(34,vb)],rg 18 16,[],[]⟩)] .none)))))))))))):=eqn Tryz.f448
theorem ja.eq:Eqn (Q [gI.spec]) ja.spec (.r (.two (.l (.piece [(.nrm,⟨[(10,vb)],rg 3 7,[],[]⟩)] .none)) (.l (.r (.l (.r (.r (.r (.r (.r (.r (.two (.piece [(.nrm,⟨[(19,vb)],rg 20 4,[],[]⟩)] .none) (.r (.two (.piece [(.nrm,⟨[(24,vb)],rg 25 5,[],[]⟩)] .none) (.r (.two (.piece [(.nrm,⟨[(30,vb)],[31,32,33],[],[]⟩)] .none) (.r (.two (.piece [(.nrm,⟨[(34,vb)],[35,36],[],[]⟩)] .none) (.r (.l (.piece [(.nrm,⟨[(37,vb)],[38,39,40],[],[]⟩)] .none))))))))))))))))))))):=eqn Tryz.f311
theorem dL.eq:Eqn (Q [bD.spec,cB.spec,bS.spec,af.spec,aM.spec]) dL.spec (.r (.r (.r (.r (.l (.loop ⟨[(3,(false,(.own zs2)))],[2]++rg 9 16,[(0,aL)],[]⟩ [(.ret,⟨[(2,(false,(.own zs2)))],[3]++rg 9 16,[(0,aL)],[]⟩)] (.l (.r (.l (.l (.piece [(.nrm,⟨[(21,vb)],rg 15 6,[(0,aL)],[]⟩)] .none))))))))))):=eqn Tryz.f219
theorem parse_parser_statement.eq (G:bu):Eqn (Q [gI.spec,az.spec,bD.spec,bC.spec,aR.spec,bT.spec,parse_parser_simple.spec G,parse_parser_statement.spec G,aM.spec,parse_parser_word.spec G]) (parse_parser_statement.g.sp 187 fun x=>R.parse_parser_statement G x) (.r (.r (.l (.l (.l (.piece [(.nrm,⟨[(6,vb)],rg 7 8,[],[]⟩)] .none)))))):=eqn Tryz.f187
theorem fM.eq:Eqn (Q [jt.spec,iB.spec,aK.spec,aF.spec,ch.spec,dZ.spec]) fM.spec (.r (.r (.two (.l (.two (.piece [(.nrm,⟨[(27,vb)],rg 28 6,[],[]⟩)] .none) (.r (.l (.piece [(.nrm,⟨[(38,vb)],rg 39 5,[],[]⟩)] .none))))) (.l (.r (.l (.piece [(.nrm,⟨[(68,vb)],rg 64 4,[],[]⟩)] .none))))))):=eqn Tryz.f321
theorem parse_parser_item.eq (G:bu):Eqn (Q [gI.spec,parse_parser_declares.spec G,cT.spec,bS.spec,aR.spec,parse_parser_statement.spec G,aM.spec]) (parse_parser_item.g.sp 161 fun x=>R.parse_parser_item G x) (.r (.l (.r (.l (.l (.piece [(.nrm,⟨[(8,vb)],rg 9 6,[],[]⟩)] .none)))))):=eqn Tryz.f161
theorem iF.eq:Eqn (Q []) iF.spec (.r (.l (.loop ⟨[(1,vi)],rg 4 31,[],[]⟩ [(.ret,⟨[(4,vb)],[1]++rg 5 30,[],[]⟩)] (.l (.r (.l (.piece [(.nrm,⟨[],rg 11 12,[],[]⟩),(.ret,⟨[(4,vb)],rg 11 12,[],[]⟩)] (.r (.l (.r (.r (.l (.piece [(.nrm,⟨[(19,vb)],[20,21,22],[],[]⟩)] .none))))))))))))):=eqn Tryz.f65
theorem aa.eq:Eqn (Q [ey.spec]) aa.spec (.r (.l (.r (.l (.loop ⟨[(8,vi)],[4,5]++rg 9 10,[],[]⟩ [(.ext 0,⟨[],[4,5]++rg 8 11,[],[]⟩),(.ret,⟨[(4,vi)],[5]++rg 8 11,[],[]⟩)] .none))))):=eqn Tryz.f189
theorem bA.eq:Eqn (Q [gv.spec]) bA.spec (.r (.l (.r (.l (.loop ⟨[(8,vi)],[4,5]++rg 9 10,[],[]⟩ [(.ext 0,⟨[],[4,5]++rg 8 11,[],[]⟩),(.ret,⟨[(4,vi)],[5]++rg 8 11,[],[]⟩)] .none))))):=eqn Tryz.f135
theorem fy.eq:Eqn (Q [gz.spec,gF.spec,ay.spec]) fy.spec (.r (.l (.r (.l (.r (.r (.r (.r (.r (.r (.r (.r (.r (.r (.r (.l (.l (.piece [(.nrm,⟨[(32,vb)],rg 19 13,[],[]⟩)] .none)))))))))))))))))):=eqn Tryz.f292
theorem dW.eq:Eqn (Q [jt.spec,iB.spec,aK.spec,aF.spec,dZ.spec]) dW.spec (.r (.r (.l (.l (.l (.piece [(.nrm,⟨[(26,vb)],rg 27 6,[],[]⟩)] .none)))))):=eqn Tryz.f271
theorem gP.eq:Eqn (Q []) gP.spec (.r (.r (.l (.r (.l (.loop ⟨[(5,vi)],[4]++rg 11 15,[],[]⟩ [(.ext 0,⟨[],[4,5]++rg 11 15,[],[]⟩),(.ret,⟨[(4,vb)],[5]++rg 11 15,[],[]⟩)] .none)))))):=eqn Tryz.f49
theorem ga.eq:Eqn (Q []) ga.spec (.r (.r (.l (.r (.l (.loop ⟨[(5,(false,(.own .i))),(8,vi)],rg 9 5,[],[]⟩ [(.ext 0,⟨[(5,(false,(.own .i)))],rg 8 6,[],[]⟩)] .none)))))):=eqn Tryz.f103
theorem bF.eq:Eqn (Q [bB.spec,cp.spec,dJ.spec]) bF.spec (.r (.l (.l (.piece [(.nrm,⟨[(24,vb)],rg 14 10,[],[]⟩)] .none)))):=eqn Tryz.f147
theorem dw.eq:Eqn (Q [cm.spec,jC.spec,aK.spec,eX.spec,aF.spec,gA.spec]) dw.spec .none:=eqn Tryz.f307
theorem av.eq:Eqn (Q [bA.spec]) av.spec .none:=eqn Tryz.f94
theorem mV.eq:Eqn (Q [dv.spec,cK.spec]) mV.spec (.r (.l (.l (.piece [(.nrm,⟨[(9,vb)],rg 4 5,[],[]⟩)] .none)))):=eqn Tryz.f351
theorem bW.eq:Eqn (Q [fC.spec]) bW.spec .none:=eqn Tryz.f179
theorem mC.eq:Eqn (Q [iE.spec,dQ.spec,cf.spec,fg.spec]) mC.spec .none:=eqn Tryz.f398
theorem bT.eq:Eqn (Q [gI.spec,aR.spec]) bT.spec .none:=eqn Tryz.f218
theorem bh.eq:Eqn (Q [iO.spec]) bh.spec .none:=eqn Tryz.f179
theorem bS.eq:Eqn (Q [aR.spec]) bS.spec .none:=eqn Tryz.f185
theorem dq.eq:Eqn (Q [ay.spec]) dq.spec .none:=eqn Tryz.f379
theorem eN.eq:Eqn (Q [dW.spec]) eN.spec .none:=eqn Tryz.f256
theorem lC.eq:Eqn (Q [pj 119,da.spec]) lC.spec .none:=eqn Tryz.f78
theorem bY.eq:Eqn (Q [b8.spec]) bY.spec .none:=eqn Tryz.f386
theorem dQ.eq:Eqn (Q [iD.spec]) dQ.spec .none:=eqn Tryz.f69
theorem gv.eq:Eqn (Q []) gv.spec .none:=eqn Tryz.f95
theorem az.eq:Eqn (Q []) az.spec .none:=eqn Tryz.f159
theorem kp.eq:Eqn (Q []) kp.spec .none:=eqn Tryz.f58
theorem gI.eq:Eqn (Q []) gI.spec .none:=eqn Tryz.f181
end Go.Mach

set_option linter.unusedVariables false
set_option maxRecDepth 100000
namespace Go.Mach
open Go.Proofs
theorem aW.eq:Eqn (Q [(aJ.spec fuel),aP.spec]) aW.spec (.r (.r (.two (.l (.loop ⟨[(7,vi),(8,vi)],rg 11 12,[(0,zs0)],[]⟩ [(.ext 0,⟨[(7,vi)],[8]++rg 11 12,[(0,zs0)],[]⟩)] .none)) (.r (.l (.loop ⟨[(6,vi)],[7,8,9]++rg 28 35,[(0,zs0)],[]⟩ [(.ext 2,⟨[],rg 6 4++rg 28 35,[(0,zs0)],[]⟩)] (.r (.l (.r (.l (.l (.loop ⟨[(7,vi),(8,vi)],rg 33 16,[(0,zs0)],[]⟩ [(.ext 4,⟨[(7,vi)],[8]++rg 33 16,[(0,zs0)],[]⟩)] .none)))))))))))):=eqn Tryz.f444
theorem eC.eq:Eqn (Q [fP.spec,gY.spec,dY.spec]) eC.spec (.r (.r (.r (.l (.l (.two (.piece [(.nrm,⟨[(17,vb)],rg 18 8,[],[]⟩)] .none) (.two (.r (.l (.loop ⟨[(6,(false,(.own .s))),(29,vi)],[8,9]++rg 30 27,[],[]⟩ [(.ext 1,⟨[(6,(false,(.own .s)))],[8,9]++rg 29 28,[],[]⟩)] .none))) (.two (.piece [(.nrm,⟨[(57,vb)],rg 58 15,[],[]⟩)] .none) (.r (.two (.piece [(.nrm,⟨[(79,vb)],rg 80 8,[],[]⟩)] .none) (.r (.r (.l (.r (.l (.loop ⟨[(6,(false,(.own .s))),(98,vi)],[11]++rg 99 20,[],[]⟩ [(.ext 4,⟨[(6,(false,(.own .s)))],[11]++rg 98 21,[],[]⟩)] .none)))))))))))))))):=eqn Tryz.f91
theorem parse_parser_primary.eq (G:bu):Eqn (Q [az.spec,bD.spec,parse_parser_assign.spec G,parse_parser_list.spec G,bS.spec,af.spec,aR.spec,bT.spec]) (parse_parser_primary.g.sp 428 fun x=>R.parse_parser_primary G x) (.r (.r (.r (.r (.r (.two (.r (.l (.r (.r (.r (.r (.r (.r (.r (.r (.r (.r (.r (.r (.r (.l (.r (.l (.piece [(.nrm,⟨[(4,vs)],rg 71 6,[(0,aL)],[]⟩)] .none))))))))))))))))))) (.r (.l (.l (.piece [(.nrm,⟨[(99,vb)],rg 94 5,[],[]⟩)] .none)))))))))):=eqn Tryz.f428
theorem eval_run_object.eq (G:au):Eqn (Q [aT.spec,aK.spec,eval_run_expression.spec G,bj.spec,ai.spec,gf.spec]) (eval_run_object.g.sp 260 fun x=>R.eval_run_object G x.1 x.2.1 x.2.2) (.r (.r (.r (.l (.r (.l (.loop ⟨[(27,vi)],[7]++rg 11 4++rg 28 44,[(2,aG)],[5,6]⟩ [(.ext 0,⟨[],[7]++rg 11 4++rg 27 45,[(2,aG)],[5,6]⟩),(.ret,⟨[(7,vi)],rg 11 4++rg 27 45,[(2,aG),(4,zs1)],[5,6]⟩)] .none))))))):=eqn Tryz.f260
theorem fb.eq:Eqn (Q [lR.spec,lI.spec,dK.spec]) fb.spec (.r (.l (.r (.r (.l (.l (.loop ⟨[(5,vb)],[2,3,4]++rg 6 67,[(0,cO)],[]⟩ [(.ext 0,⟨[(5,vb)],[2,3,4]++rg 6 67,[(0,cO)],[]⟩)] (.r (.l (.r (.l (.l (.two (.piece [(.nrm,⟨[(30,vb)],rg 31 6,[],[]⟩)] .none) (.two (.l (.piece [(.nrm,⟨[(5,vb)],rg 37 5,[],[]⟩)] .none)) (.l (.piece [(.nrm,⟨[(49,vb)],rg 50 6,[],[]⟩)] .none)))))))))))))))):=eqn Tryz.f157
theorem kD.eq:Eqn (Q [fY.spec]) kD.spec (.r (.r (.r (.l (.r (.l (.loop ⟨[(5,(false,(.own .h))),(6,vi)],[2,3,4,7,8]++rg 12 43,[],[]⟩ [(.ext 0,⟨[(5,(false,(.own .h)))],[2,3,4,6,7,8]++rg 12 43,[],[]⟩),(.ret,⟨[(2,(false,(.own .h))),(3,vi),(4,vi)],rg 5 4++rg 12 43,[],[]⟩)] (.r (.l (.r (.l (.l (.l (.piece [(.nrm,⟨[(36,vb)],rg 37 6,[],[]⟩)] .none)))))))))))))):=eqn Tryz.f97
theorem eo.eq:Eqn (Q [cW.spec,cX.spec,bY.spec,aK.spec,aQ.spec]) eo.spec (.r (.two (.piece [(.nrm,⟨[],[10,11,12,18,19,23,24]++rg 28 5,[],[]⟩),(.ret,⟨[(9,vi)],rg 10 26,[(4,zs1)],[]⟩)] .none) (.l (.l (.piece [(.nrm,⟨[(44,vb)],rg 36 8,[],[]⟩)] .none))))):=eqn Tryz.f389
theorem jD.eq:Eqn (Q []) jD.spec (.r (.r (.l (.r (.l (.loop ⟨[(15,vi)],[4,5,7]++rg 16 29,[(2,(.own .i))],[]⟩ [(.ext 0,⟨[],[4,5,7]++rg 15 30,[(2,(.own .i))],[]⟩)] (.r (.r (.l (.l (.r (.r (.r (.l (.loop ⟨[(31,vi)],[7]++rg 32 12,[(2,(.own .i))],[]⟩ [(.ext 2,⟨[],[7]++rg 31 13,[(2,(.own .i))],[]⟩)] .none))))))))))))))):=eqn Tryz.f42
theorem bN.eq:Eqn (Q []) bN.spec (.r (.l (.r (.l (.two (.piece [(.nrm,⟨[(4,vb)],[5,6],[],[]⟩)] .none) (.r (.two (.piece [(.nrm,⟨[(7,vb)],[8,9],[],[]⟩)] .none) (.r (.two (.piece [(.nrm,⟨[(10,vb)],[11,12],[],[]⟩)] .none) (.r (.l (.piece [(.nrm,⟨[(13,vb)],[14,15],[],[]⟩)] .none)))))))))))):=eqn Tryz.f11
theorem bK.eq:Eqn (Q [bW.spec]) bK.spec (.r (.r (.l (.l (.loop ⟨[(5,(false,(.own .y)))],rg 6 24,[(0,cO)],[]⟩ [(.ext 0,⟨[(5,(false,(.own .y)))],rg 6 24,[(0,cO)],[]⟩)] .none))))):=eqn Tryz.f207
theorem iD.eq:Eqn (Q []) iD.spec (.r (.l (.l (.loop ⟨[(0,(false,(.frz (.list (.int .u32)))))],rg 3 17,[],[]⟩ [(.ext 0,⟨[(0,(false,(.frz (.list (.int .u32)))))],rg 3 17,[],[]⟩)] (.l (.l (.piece [(.nrm,⟨[(14,vb)],rg 3 11,[],[]⟩)] .none))))))):=eqn Tryz.f112
theorem gB.eq:Eqn (Q [cW.spec,bY.spec,aK.spec,bM.spec,cM.spec]) gB.spec (.r (.l (.l (.r (.r (.r (.r (.l (.piece [(.nrm,⟨[(37,vb)],rg 38 6,[],[]⟩)] .none))))))))):=eqn Tryz.f387
theorem kY.eq:Eqn (Q [jm.spec,cf.spec,fg.spec]) kY.spec (.r (.r (.l (.l (.two (.piece [(.nrm,⟨[(11,vb)],rg 12 5,[],[]⟩)] .none) (.r (.l (.piece [(.nrm,⟨[(17,vb)],rg 18 5,[],[]⟩)] .none)))))))):=eqn Tryz.f406
theorem gY.eq:Eqn (Q []) gY.spec (.r (.r (.l (.r (.l (.loop ⟨[(5,(false,(.own .s))),(15,vi)],[7]++rg 16 13,[],[]⟩ [(.ext 0,⟨[(5,(false,(.own .s)))],[7]++rg 15 14,[],[]⟩)] .none)))))):=eqn Tryz.f131
theorem kZ.eq:Eqn (Q [da.spec,i6.spec,eh.spec,cK.spec]) kZ.spec (.r (.r (.l (.r (.l (.r (.r (.l (.piece [(.nrm,⟨[(10,vb)],[11,12],[],[]⟩)] .none))))))))):=eqn Tryz.f89
theorem parse_parser_arguments.eq (G:bu):Eqn (Q [parse_parser_list.spec G,af.spec]) (parse_parser_arguments.g.sp 391 fun x=>R.parse_parser_arguments G x) .none:=eqn Tryz.f391
theorem ik.eq:Eqn (Q [ec.spec,ke.spec,iX.spec]) ik.spec (.r (.l (.r (.l (.piece [(.nrm,⟨[(21,vb)],rg 15 6,[],[]⟩)] .none))))):=eqn Tryz.f13
theorem gj.eq:Eqn (Q [c7.spec,bN.spec,aF.spec,cS.spec,gq.spec]) gj.spec .none:=eqn Tryz.f352
theorem ct.eq:Eqn (Q [dB.spec,b8.spec,c7.spec,jQ.spec,jL.spec]) ct.spec .none:=eqn Tryz.f417
theorem ch.eq:Eqn (Q [bB.spec,cp.spec,dJ.spec]) ch.spec .none:=eqn Tryz.f168
theorem mM.eq:Eqn (Q [iE.spec,dQ.spec,cf.spec,fg.spec]) mM.spec .none:=eqn Tryz.f399
theorem dJ.eq:Eqn (Q [jb 70 (.int .u32),jb 80 (.int .u16)]) dJ.spec .none:=eqn Tryz.f166
theorem lj.eq:Eqn (Q [aQ.spec,gS.spec]) lj.spec .none:=eqn Tryz.f247
theorem aM.eq:Eqn (Q [bT.spec]) aM.spec .none:=eqn Tryz.f184
theorem eM.eq:Eqn (Q [gf.spec]) eM.spec .none:=eqn Tryz.f228
theorem cG.eq:Eqn (Q [eI.spec]) cG.spec .none:=eqn Tryz.f436
theorem gW.eq:Eqn (Q [gT.spec]) gW.spec .none:=eqn Tryz.f86
theorem ed.eq:Eqn (Q [dB.spec]) ed.spec .none:=eqn Tryz.f317
theorem ef.eq:Eqn (Q [bN.spec]) ef.spec .none:=eqn Tryz.f54
theorem fT.eq:Eqn (Q []) fT.spec .none:=eqn Tryz.f384
theorem jP.eq:Eqn (Q []) jP.spec .none:=eqn Tryz.f136
theorem lR.eq:Eqn (Q []) lR.spec .none:=eqn Tryz.f172
theorem dB.eq:Eqn (Q []) dB.spec .none:=eqn Tryz.f254
end Go.Mach

