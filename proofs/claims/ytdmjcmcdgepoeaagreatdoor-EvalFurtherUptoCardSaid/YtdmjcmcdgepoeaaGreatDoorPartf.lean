/-
  Proved here: the law renlaw12.EvalFurther returns true for every input of the stated bulk and leaves its arguments as they were; no further condition.
  By an AI agent; no person has read it.
-/
import Derived.Test.YtdmjcmcdgepoeaaGreatDoorParte
import Derived.KernelRfl
import Derived.Test.YtdmjcmcdgepoeaaGreatDoorProg
set_option linter.all false
set_option linter.deprecated false
set_option linter.unusedVariables false
set_option maxRecDepth 100000
namespace Go.Mach
open Go.Proofs
theorem dZ.eq:Eqn (Q [fp.spec,cU.spec,bP.spec,bY.spec,eg.spec,cB.spec,aE.spec,bo.spec,dH.spec,gh.spec,gy.spec,aZ.spec,cP.spec]) dZ.spec (.r (.r (.two (.l (pc [(38,vb)] (rg 31 7))) (.r (.r (.r (.r (.r (.r (.two (.piece [(.nrm,⟨[(17,(false,zs4)),(18,vi)],[16]++rg 63 10,[],[]⟩),(.ret,⟨[(9,vi)],[16,17]++rg 63 15,[(2,aG),(7,zs1)],[0,1]⟩)] .none) (.r (.l (.piece [(.nrm,⟨[(17,(false,zs4))],rg 82 13++rg 99 9,[],[]⟩),(.ret,⟨[(9,vi)],rg 82 17,[(2,aG),(7,zs1)],[0,1]⟩)] (.l (.two (pc [(82,vb)] (rg 83 12)) (.r (.l (pc [(99,vb)] (rg 100 5))))))))))))))))))):=eqn Tryz.f373
theorem eval_run_assign.eq (G:au):Eqn (Q [eval_run_expression.spec G,eR.spec,eval_run_parts.spec G,aE.spec,dh.spec,gS.spec]) (eval_run_assign.g.sp 277 fun x=>R.eval_run_assign G x.1 x.2.1 x.2.2) (.r (.r (.r (.r (.r (.two (.piece [(.nrm,⟨[],[10]++rg 39 11,[(2,aG),(12,zs1)],[7,8]⟩),(.ret,⟨[(7,vi)],[10]++rg 39 13,[(2,aG),(5,zs1)],[7,8,12]⟩)] .none) (.r (.l (.piece [(.nrm,⟨[],[13,14]++rg 66 11++[82],[(11,zs1)],[]⟩),(.ret,⟨[(7,vi)],[13,14]++rg 66 16,[(2,aG),(5,zs1)],[18,19]⟩)] .none))))))))):=eqn Tryz.f277
theorem gx.eq:Eqn (Q [cC.spec,bF.spec,jT.spec,kn.spec]) gx.spec (.r (.two (.l (.two (pc [(15,vb)] (rg 16 8)) (.r (.two (pc [(25,vb)] (rg 26 8)) (.two (.l (.piece [(.nrm,⟨[],[34,35,36],[(0,zs1),(1,zs1)],[]⟩)] .none)) (.l (pc [(45,vb)] (rg 46 18)))))))) (.r (.r (.r (.r (.l (.piece [(.nrm,⟨[],[83,84,85],[(3,zs1),(4,zs1)],[]⟩)] .none)))))))):=eqn Tryz.f330
theorem parse_parser_list.eq (G:bz):Eqn (Q [parse_parser_assign.spec G,cF.spec,ah.spec,aM.spec]) (parse_parser_list.g.sp 429 fun x=>R.parse_parser_list G x.1 x.2) (.r (.r (.r (.l (.loop ⟨[(5,(false,(.own zs2)))],[4]++rg 10 16,[(0,aL)],[]⟩ [(.ret,⟨[(4,(false,(.own zs2)))],[5]++rg 10 16,[(0,aL)],[]⟩)] (.l (.r (.l (.l (.piece [(.nrm,⟨[(22,vb)],rg 15 7,[(0,aL)],[]⟩)] .none)))))))))):=eqn Tryz.f429
theorem iG.eq:Eqn (Q [jo.spec,jO.spec,iQ.spec,fx.spec]) iG.spec (.r (.r (.r (.l (.r (.l (.loop ⟨[(7,(false,(.own .w))),(8,vi)],[9]++rg 16 33,[(2,(.own .w))],[]⟩ [(.ext 0,⟨[(7,(false,(.own .w)))],[8,9]++rg 16 33,[(2,(.own .w))],[]⟩)] (.r (.l (.l (.r (.l (.loop ⟨[(7,(false,(.own .w))),(9,vi)],rg 20 29,[(2,(.own .w))],[3]⟩ [(.ext 2,⟨[(7,(false,(.own .w)))],[9]++rg 20 29,[(2,(.own .w))],[3]⟩)] .none))))))))))))):=eqn Tryz.f433
theorem lZ.eq:Eqn (Q [eI.spec,jA.spec,iC.spec,jx.spec,jm.spec]) lZ.spec (.r (.two (.l (pc [(26,vb)] (rg 4 22))) (.l (.r (.l (.loop ⟨[(30,vi)],[2,3]++rg 31 29,[],[]⟩ [(.ext 0,⟨[],[2,3]++rg 30 30,[],[]⟩),(.ret,⟨[(2,vb)],[3]++rg 30 30,[],[]⟩)] (.r (.r (.l (.l (.r (.l (pc [(58,vb)] (rg 33 25)))))))))))))):=eqn Tryz.f12
theorem iK.eq:Eqn (Q [iW.spec]) iK.spec (.r (.r (.l (.r (.l (.loop ⟨[(3,vb),(8,vi)],[2,5]++rg 9 44,[],[]⟩ [(.ext 0,⟨[(3,vb)],[2,5]++rg 8 45,[],[]⟩),(.ret,⟨[(2,vb)],[3,5]++rg 8 45,[],[]⟩)] (.r (.r (.l (.l (.r (.two (pc [(3,vb)] (rg 12 5)) (.l (pc [(51,vb)] (rg 17 34))))))))))))))):=eqn Tryz.f76
theorem dW.eq:Eqn (Q [aT.spec,aK.spec,aE.spec,ay.spec]) dW.spec (.r (.r (.l (.piece [(.nrm,⟨[(8,vi)],rg 9 14++rg 27 10,[],[]⟩),(.ret,⟨[(7,vi)],rg 9 22++rg 33 8,[(2,aG),(9,zs1)],[0,1]⟩)] (.l (.l (pc [(9,vb)] (rg 10 13)))))))):=eqn Tryz.f366
theorem ky.eq:Eqn (Q [iP.spec,gZ.spec]) ky.spec (.r (.l (.r (.l (.loop ⟨[(7,vi)],[2,3,4]++rg 8 19,[],[]⟩ [(.ext 0,⟨[],[2,3,4]++rg 7 20,[],[]⟩),(.ret,⟨[(2,vb)],[3,4]++rg 7 20,[],[]⟩)] (.r (.r (.l (.l (.r (.r (.l (pc [(25,vb)] (rg 14 11)))))))))))))):=eqn Tryz.f100
theorem aY.eq:Eqn (Q [ef.spec]) aY.spec (.r (.l (.r (.l (.loop ⟨[(8,vi)],[4,5]++rg 9 10,[],[]⟩ [(.ext 0,⟨[],[4,5]++rg 8 11,[],[]⟩),(.ret,⟨[(4,vi)],[5]++rg 8 11,[],[]⟩)] .none))))):=eqn Tryz.f227
theorem eZ.eq:Eqn (Q []) eZ.spec (.r (.r (.l (.r (.l (.loop ⟨[(4,(false,(.own .y))),(9,vi)],[2,3,6]++rg 10 11,[],[]⟩ [(.ext 0,⟨[(4,(false,(.own .y)))],[2,3,6]++rg 9 12,[],[]⟩),(.ret,⟨[(2,vs),(3,vb)],[4,6]++rg 9 12,[],[]⟩)] .none)))))):=eqn Tryz.f73
theorem jR.eq:Eqn (Q []) jR.spec (.r (.r (.l (.r (.l (.loop ⟨[(4,vi),(9,vi)],[2,3,6]++rg 10 12,[],[]⟩ [(.ext 0,⟨[(4,vi)],[2,3,6]++rg 9 13,[],[]⟩),(.ret,⟨[(2,vi),(3,vb)],[4,6]++rg 9 13,[],[]⟩)] .none)))))):=eqn Tryz.f88
theorem fx.eq:Eqn (Q []) fx.spec (.r (.l (.l (.loop ⟨[(0,(false,(.own .w)))],rg 3 17,[],[0]⟩ [(.ext 0,⟨[(0,(false,(.own .w)))],rg 3 17,[],[0]⟩)] (.l (.l (pc [(14,vb)] (rg 3 11)))))))):=eqn Tryz.f112
theorem gq.eq:Eqn (Q [du.spec]) gq.spec (.r (.two (pc [(5,vb)] (rg 6 6)) (.l (pc [(0,(false,zs4))] [12,13,14])))):=eqn Tryz.f51
theorem bm.eq:Eqn (Q []) bm.spec (.r (.l (.loop ⟨[(2,vi),(3,vi)],rg 7 21,[(0,(.own .y))],[]⟩ [(.ext 0,⟨[],[2,3]++rg 7 21,[(0,(.own .y))],[]⟩)] .none))):=eqn Tryz.f120
theorem eval_run_statement.eq (G:au):Eqn (Q [eval_run_act.spec G,bj.spec]) (eval_run_statement.g.sp 149 fun x=>R.eval_run_statement G x.1 x.2.1 x.2.2.1 x.2.2.2) .none:=eqn Tryz.f149
theorem jQ.eq:Eqn (Q [fK.spec]) jQ.spec (.r (.l (.r (.l (.r (.r (.r (.r (.r (.r (.l (pc [(24,vb)] [25,26,27])))))))))))):=eqn Tryz.f21
theorem jY.eq:Eqn (Q [kH.spec,kP.spec,dP.spec,eI.spec,jA.spec]) jY.spec .none:=eqn Tryz.f98
theorem fo.eq:Eqn (Q [j9.spec,di.spec,bL.spec]) fo.spec .none:=eqn Tryz.f176
theorem kp.eq:Eqn (Q [dw.spec,ea.spec,lB.spec,gF.spec]) kp.spec .none:=eqn Tryz.f64
theorem ij.eq:Eqn (Q [gC.spec,jY.spec,kE.spec]) ij.spec .none:=eqn Tryz.f60
theorem cV.eq:Eqn (Q [cp.spec]) cV.spec .none:=eqn Tryz.f427
theorem eJ.eq:Eqn (Q [bG.spec,dm.spec]) eJ.spec .none:=eqn Tryz.f368
theorem dL.eq:Eqn (Q [eP.spec]) dL.spec .none:=eqn Tryz.f434
theorem bX.eq:Eqn (Q [aE.spec]) bX.spec .none:=eqn Tryz.f290
theorem ik.eq:Eqn (Q [du.spec,iE.spec]) ik.spec .none:=eqn Tryz.f347
theorem gn.eq:Eqn (Q [cj.spec]) gn.spec .none:=eqn Tryz.f84
theorem bD.eq:Eqn (Q []) bD.spec .none:=eqn Tryz.f221
theorem gY.eq:Eqn (Q [eH.spec]) gY.spec .none:=eqn Tryz.f346
theorem gA.eq:Eqn (Q [j6.spec]) gA.spec .none:=eqn Tryz.f117
theorem gZ.eq:Eqn (Q []) gZ.spec .none:=eqn Tryz.f143
theorem dU.eq:Eqn (Q []) dU.spec .none:=eqn Tryz.f14
theorem lK.eq:Eqn (Q []) lK.spec .none:=eqn Tryz.f173
theorem j6.eq:Eqn (Q []) j6.spec .none:=eqn Tryz.f37
end Go.Mach

set_option linter.unusedVariables false
set_option maxRecDepth 100000
namespace Go.Mach
open Go.Proofs
theorem ez.eq:Eqn (Q [b9.spec,fZ.spec,jB.spec,aT.spec,aK.spec,aE.spec,bG.spec,eD.spec,ay.spec,bU.spec]) ez.spec (.r (.r (.r (.r (.two (pc [(7,vi)] (rg 19 10)) (.two (.piece [(.nrm,⟨[(6,(false,zs0))],[8,29]++rg 34 27,[],[]⟩),(.ret,⟨[(5,vi)],rg 29 7++[43,44],[(2,aG),(6,zs1)],[0,1]⟩)] (.r (.l (.r (.r (.r (.l (.r (.l (.loop ⟨[(6,(false,zs0)),(52,vi)],[8]++rg 53 8,[],[]⟩ [(.ext 1,⟨[(6,(false,zs0))],[8]++rg 52 9,[],[]⟩)] .none)))))))))) (.r (.r (.l (.r (.l (.loop ⟨[(73,vi)],[11,12]++rg 74 16,[(9,eW)],[8]⟩ [(.ext 3,⟨[],[11,12]++rg 73 17,[(9,eW)],[8]⟩)] .none)))))))))))):=eqn Tryz.f365
theorem eval_run_fresh.eq (G:au):Eqn (Q [gJ.spec,eval_run_apply.spec G,eval_run_builds.spec G,aT.spec,aK.spec,aE.spec,ay.spec,cA.spec,aZ.spec,aj.spec]) (eval_run_fresh.g.sp 280 fun x=>R.eval_run_fresh G x.1 x.2.1 x.2.2) (.r (.r (.r (.r (.two (.l (pc [(50,vb)] (rg 43 7))) (.r (.two (.piece [(.nrm,⟨[(10,vi)],[11,12]++rg 55 22++[81,82],[],[]⟩),(.ret,⟨[(7,vi)],[11,12]++rg 55 26,[(2,aG),(4,zs1)],[0,1]⟩)] .none) (.r (.r (.r (.l (.l (pc [(109,vb)] (rg 103 6)))))))))))))):=eqn Tryz.f280
theorem fa.eq:Eqn (Q [cx.spec,jB.spec,aK.spec,fb.spec,aE.spec,bG.spec,cA.spec,aZ.spec,bU.spec,aj.spec,ee.spec,gn.spec]) fa.spec (.r (.r (.r (.r (.r (.r (.r (.l (.piece [(.nrm,⟨[],[15,16,64,65]++rg 70 5++rg 79 14++rg 97 14,[],[]⟩),(.ret,⟨[(7,vi)],[15,16]++rg 64 66,[(2,aG),(5,zs1)],[0,1]⟩)] (.r (.l (.r (.r (.r (.l (.l (pc [(92,vb)] (rg 81 11)))))))))))))))))):=eqn Tryz.f322
theorem parse_parser_assign.eq (G:bz):Eqn (Q [gM.spec,bE.spec,bD.spec,fE.spec,parse_parser_assign.spec G,parse_parser_body.spec G,parse_parser_cond.spec G,aR.spec,dt.spec,lq.spec,gF.spec]) (parse_parser_assign.g.sp 215 fun x=>R.parse_parser_assign G x) (.r (.two (.r (.l (pc [(21,vb)] (rg 8 13)))) (.r (.r (.r (.l (.l (pc [(53,vb)] (rg 45 8))))))))):=eqn Tryz.f215
theorem eval_run_first.eq (G:au):Eqn (Q [eval_run_expression.spec G,bS.spec,eval_run_statement.spec G,fH.spec,bA.spec]) (eval_run_first.g.sp 233 fun x=>R.eval_run_first G x.1 x.2.1 x.2.2) (.r (.r (.l (.r (.l (.r (.r (.two (pc [(29,vb)] [30,31]) (.l (.r (.r (.r (.l (.r (.l (.loop ⟨[(49,vi)],[12]++rg 50 23,[(9,eW)],[8]⟩ [(.ext 1,⟨[],[12]++rg 49 24,[(9,eW)],[8]⟩)] .none)))))))))))))))):=eqn Tryz.f233
theorem parse_parser_statement.eq (G:bz):Eqn (Q [gM.spec,bB.spec,bE.spec,bD.spec,aR.spec,bW.spec,parse_parser_simple.spec G,parse_parser_statement.spec G,aM.spec,parse_parser_word.spec G]) (parse_parser_statement.g.sp 187 fun x=>R.parse_parser_statement G x) (.r (.r (.l (.l (.l (pc [(6,vb)] (rg 7 8))))))):=eqn Tryz.f187
theorem cz.eq:Eqn (Q [cU.spec,bY.spec,dI.spec,aT.spec,aE.spec,cu.spec]) cz.spec (.r (.r (.r (.r (.r (.r (.r (.l (.piece [(.nrm,⟨[(10,vi)],[9,11]++rg 51 12++rg 68 5,[],[]⟩),(.ret,⟨[(5,vi)],[9,10,11]++rg 51 26,[(2,aG),(4,zs1)],[0,1]⟩)] .none))))))))):=eqn Tryz.f337
theorem gI.eq:Eqn (Q []) gI.spec (.r (.r (.r (.l (.r (.l (.loop ⟨[(17,vi)],[4,5,7]++rg 18 17,[(2,(.own .i))],[]⟩ [(.ext 0,⟨[],[4,5,7]++rg 17 18,[(2,(.own .i))],[]⟩)] (.r (.r (.l (.l (.r (.r (.l (.loop ⟨[(25,vi)],[7]++rg 26 8,[(2,(.own .i))],[]⟩ [(.ext 2,⟨[],[7]++rg 25 9,[(2,(.own .i))],[]⟩)] .none))))))))))))))):=eqn Tryz.f56
theorem di.eq:Eqn (Q []) di.spec (.r (.l (.r (.l (.loop ⟨[(8,vi)],[4,5]++rg 9 34,[],[]⟩ [(.ext 0,⟨[],[4,5]++rg 8 35,[],[]⟩),(.ret,⟨[(4,vb)],[5]++rg 8 35,[],[]⟩)] (.r (.r (.l (.l (.r (.l (pc [(41,vb)] (rg 11 30))))))))))))):=eqn Tryz.f174
theorem kU.eq:Eqn (Q [mY.spec,eH.spec,eL.spec,er.spec,eQ.spec]) kU.spec (.r (.r (.l (.l (.two (pc [(10,vb)] (rg 11 21)) (.r (.r (.r (.r (.r (.l (pc [(41,vb)] (rg 42 8))))))))))))):=eqn Tryz.f320
theorem kL.eq:Eqn (Q [kY.spec,mJ.spec,mN.spec,mO.spec,mM.spec,dd.spec,fI.spec]) kL.spec (.r (.r (.r (.l (.piece [(.nrm,⟨[(9,vi)],rg 47 8,[(5,(.box (.frz az)))],[]⟩)] .none))))):=eqn Tryz.f354
theorem kR.eq:Eqn (Q [kY.spec,jn.spec,cC.spec,kU.spec,fI.spec,cg.spec]) kR.spec (.r (.r (.l (.l (.r (.r (.l (pc [(18,vb)] (rg 19 6))))))))):=eqn Tryz.f296
theorem eval_run_catch.eq (G:au):Eqn (Q [bS.spec,eval_run_statement.spec G,bA.spec]) (eval_run_catch.g.sp 235 fun x=>R.eval_run_catch G x.1 x.2.1 x.2.2.1 x.2.2.2.1 x.2.2.2.2) .none:=eqn Tryz.f235
theorem eval_run_callee.eq (G:au):Eqn (Q [eval_run_arguments.spec G,eval_run_call.spec G,eval_run_called.spec G]) (eval_run_callee.g.sp 278 fun x=>R.eval_run_callee G x.1 x.2.1 x.2.2) .none:=eqn Tryz.f278
theorem dY.eq:Eqn (Q [cx.spec,aZ.spec,aj.spec]) dY.spec (.r (.r (.l (.r (.l (pc [(33,vb)] (rg 28 5))))))):=eqn Tryz.f68
theorem eval_run_property.eq (G:au):Eqn (Q [dS.spec,eval_run_parts.spec G]) (eval_run_property.g.sp 281 fun x=>R.eval_run_property G x.1 x.2.1 x.2.2) .none:=eqn Tryz.f281
theorem fe.eq:Eqn (Q [dU.spec,fK.spec]) fe.spec (.r (.l (.l (pc [(21,vb)] (rg 5 16))))):=eqn Tryz.f22
theorem cC.eq:Eqn (Q [dd.spec,bt.spec,cD.spec,bQ.spec,kD.spec]) cC.spec .none:=eqn Tryz.f295
theorem jw.eq:Eqn (Q []) jw.spec (.r (.l (.r (.l (.l (pc [(4,vb)] (rg 5 33))))))):=eqn Tryz.f289
theorem cW.eq:Eqn (Q [cd.spec,bT.spec]) cW.spec .none:=eqn Tryz.f314
theorem eg.eq:Eqn (Q [fQ.spec,bT.spec]) eg.spec .none:=eqn Tryz.f382
theorem bw.eq:Eqn (Q [cN.spec]) bw.spec .none:=eqn Tryz.f374
theorem ah.eq:Eqn (Q [aM.spec]) ah.spec .none:=eqn Tryz.f213
theorem fp.eq:Eqn (Q [bt.spec,iO.spec]) fp.spec .none:=eqn Tryz.f262
theorem jr.eq:Eqn (Q [jn.spec,lJ.spec]) jr.spec .none:=eqn Tryz.f364
theorem kP.eq:Eqn (Q [(ig.spec fuel)]) kP.spec .none:=eqn Tryz.f141
theorem lB.eq:Eqn (Q [ea.spec]) lB.spec .none:=eqn Tryz.f105
theorem dw.eq:Eqn (Q []) dw.spec .none:=eqn Tryz.f106
theorem cf.eq:Eqn (Q []) cf.spec .none:=eqn Tryz.f432
theorem bB.eq:Eqn (Q []) bB.spec .none:=eqn Tryz.f159
theorem jj.eq:Eqn (Q []) jj.spec .none:=eqn Tryz.f58
theorem gM.eq:Eqn (Q []) gM.spec .none:=eqn Tryz.f181
end Go.Mach

set_option linter.unusedVariables false
set_option maxRecDepth 100000
namespace Go.Mach
open Go.Proofs
theorem eval_run_does.eq (G:au):Eqn (Q [fp.spec,b9.spec,cx.spec,bF.spec,bY.spec,da.spec,db.spec,dW.spec,aK.spec,dB.spec,eval_run_host.spec G,ez.spec,cn.spec,fC.spec,bX.spec,aE.spec,dZ.spec,eJ.spec,ay.spec,cP.spec,bw.spec]) (eval_run_does.g.sp 333 fun x=>R.eval_run_does G x.1 x.2.1 x.2.2.1 x.2.2.2) (.r (.r (.l (.r (.l (.two (pc [(18,vb)] [19,20]) (.r (.r (.r (.r (.r (.r (.r (.r (.r (.r (.two (.l (.l (pc [(79,vb)] (rg 67 12)))) (.r (.r (.r (.r (.r (.r (.r (.r (.l (pc [(134,vb)] (rg 135 5)))))))))))))))))))))))))))):=eqn Tryz.f333
theorem ed.eq:Eqn (Q [lK.spec]) ed.spec (.r (.r (.r (.r (.l (.l (.loop ⟨[],[3,6,7,8]++rg 27 63,[(0,cR),(2,zs5)],[]⟩ [(.ext 0,⟨[],[3,6,7,8]++rg 27 63,[(0,cR)],[2]⟩),(.ret,⟨[(3,vi)],[6,7,8]++rg 27 63,[(0,cR),(1,zs5)],[2]⟩)] (.two (.l (pc [(50,vb)] (rg 27 23))) (.l (.r (.r (.r (.l (pc [] [72,73])))))))))))))):=eqn Tryz.f178
theorem aP.eq:Eqn (Q [cL.spec]) aP.spec (.r (.l (.loop ⟨[(8,vi)],[9]++rg 12 41,[(0,zs0)],[]⟩ [(.ext 0,⟨[],[8,9]++rg 12 41,[(0,zs0)],[]⟩)] (.r (.l (.l (.r (.l (.loop ⟨[(9,vi)],rg 18 35,[(0,zs0)],[]⟩ [(.ext 2,⟨[],[9]++rg 18 35,[(0,zs0)],[]⟩)] (.l (.l (pc [(34,vb)] (rg 18 16))))))))))))):=eqn Tryz.f448
theorem jV.eq:Eqn (Q [gM.spec]) jV.spec (.r (.two (.l (pc [(10,vb)] (rg 3 7))) (.l (.r (.l (.r (.r (.r (.r (.r (.r (.two (pc [(19,vb)] (rg 20 4)) (.r (.two (pc [(24,vb)] (rg 25 5)) (.r (.two (pc [(30,vb)] [31,32,33]) (.r (.two (pc [(34,vb)] [35,36]) (.r (.l (pc [(37,vb)] [38,39,40]))))))))))))))))))))):=eqn Tryz.f311
theorem dt.eq:Eqn (Q [bE.spec,cF.spec,bV.spec,ah.spec,aM.spec]) dt.spec (.r (.r (.r (.r (.l (.loop ⟨[(3,(false,(.own zs2)))],[2]++rg 9 16,[(0,aL)],[]⟩ [(.ret,⟨[(2,(false,(.own zs2)))],[3]++rg 9 16,[(0,aL)],[]⟩)] (.l (.r (.l (.l (.piece [(.nrm,⟨[(21,vb)],rg 15 6,[(0,aL)],[]⟩)] .none))))))))))):=eqn Tryz.f219
theorem kE.eq:Eqn (Q [fl.spec]) kE.spec (.r (.r (.r (.l (.r (.l (.loop ⟨[(5,(false,(.own .h))),(6,vi)],[2,3,4,7,8]++rg 12 43,[],[]⟩ [(.ext 0,⟨[(5,(false,(.own .h)))],[2,3,4,6,7,8]++rg 12 43,[],[]⟩),(.ret,⟨[(2,(false,(.own .h))),(3,vi),(4,vi)],rg 5 4++rg 12 43,[],[]⟩)] (.r (.l (.r (.l (.l (.l (pc [(36,vb)] (rg 37 6))))))))))))))):=eqn Tryz.f97
theorem eG.eq:Eqn (Q [jw.spec,iD.spec,aK.spec,aE.spec,cQ.spec,dF.spec]) eG.spec (.r (.r (.two (.l (.two (pc [(27,vb)] (rg 28 6)) (.r (.l (pc [(38,vb)] (rg 39 5)))))) (.l (.r (.l (pc [(68,vb)] (rg 64 4)))))))):=eqn Tryz.f321
theorem parse_parser_item.eq (G:bz):Eqn (Q [gM.spec,parse_parser_declares.spec G,cY.spec,bV.spec,aR.spec,parse_parser_statement.spec G,aM.spec]) (parse_parser_item.g.sp 161 fun x=>R.parse_parser_item G x) (.r (.l (.r (.l (.l (pc [(8,vb)] (rg 9 6))))))):=eqn Tryz.f161
theorem iL.eq:Eqn (Q []) iL.spec (.r (.l (.loop ⟨[(1,vi)],rg 4 31,[],[]⟩ [(.ret,⟨[(4,vb)],[1]++rg 5 30,[],[]⟩)] (.l (.r (.l (.piece [(.nrm,⟨[],rg 11 12,[],[]⟩),(.ret,⟨[(4,vb)],rg 11 12,[],[]⟩)] (.r (.l (.r (.r (.l (pc [(19,vb)] [20,21,22]))))))))))))):=eqn Tryz.f65
theorem aa.eq:Eqn (Q [fR.spec]) aa.spec (.r (.l (.r (.l (.loop ⟨[(8,vi)],[4,5]++rg 9 10,[],[]⟩ [(.ext 0,⟨[],[4,5]++rg 8 11,[],[]⟩),(.ret,⟨[(4,vi)],[5]++rg 8 11,[],[]⟩)] .none))))):=eqn Tryz.f189
theorem bC.eq:Eqn (Q [gv.spec]) bC.spec (.r (.l (.r (.l (.loop ⟨[(8,vi)],[4,5]++rg 9 10,[],[]⟩ [(.ext 0,⟨[],[4,5]++rg 8 11,[],[]⟩),(.ret,⟨[(4,vi)],[5]++rg 8 11,[],[]⟩)] .none))))):=eqn Tryz.f135
theorem ey.eq:Eqn (Q [iB.spec,gJ.spec,ay.spec]) ey.spec (.r (.l (.r (.l (.r (.r (.r (.r (.r (.r (.r (.r (.r (.r (.r (.l (.l (pc [(32,vb)] (rg 19 13))))))))))))))))))):=eqn Tryz.f292
theorem dE.eq:Eqn (Q [jw.spec,iD.spec,aK.spec,aE.spec,dF.spec]) dE.spec (.r (.r (.l (.l (.l (pc [(26,vb)] (rg 27 6))))))):=eqn Tryz.f271
theorem fN.eq:Eqn (Q []) fN.spec (.r (.r (.l (.r (.l (.loop ⟨[(5,vi)],[4]++rg 11 15,[],[]⟩ [(.ext 0,⟨[],[4,5]++rg 11 15,[],[]⟩),(.ret,⟨[(4,vb)],[5]++rg 11 15,[],[]⟩)] .none)))))):=eqn Tryz.f49
theorem gi.eq:Eqn (Q []) gi.spec (.r (.r (.l (.r (.l (.loop ⟨[(5,(false,(.own .i))),(8,vi)],rg 9 5,[],[]⟩ [(.ext 0,⟨[(5,(false,(.own .i)))],rg 8 6,[],[]⟩)] .none)))))):=eqn Tryz.f103
theorem bA.eq:Eqn (Q [av.spec,cb.spec,dm.spec]) bA.spec (.r (.l (.l (pc [(24,vb)] (rg 14 10))))):=eqn Tryz.f147
theorem dS.eq:Eqn (Q [cx.spec,jB.spec,aK.spec,dc.spec,aE.spec,ev.spec]) dS.spec .none:=eqn Tryz.f307
theorem aw.eq:Eqn (Q [bC.spec]) aw.spec .none:=eqn Tryz.f94
theorem mY.eq:Eqn (Q [eQ.spec,cO.spec]) mY.spec (.r (.l (.l (pc [(9,vb)] (rg 4 5))))):=eqn Tryz.f351
theorem ba.eq:Eqn (Q [fT.spec]) ba.spec .none:=eqn Tryz.f179
theorem mJ.eq:Eqn (Q [iG.spec,du.spec,cr.spec,gA.spec]) mJ.spec .none:=eqn Tryz.f398
theorem bW.eq:Eqn (Q [gM.spec,aR.spec]) bW.spec .none:=eqn Tryz.f218
theorem bl.eq:Eqn (Q [iP.spec]) bl.spec .none:=eqn Tryz.f179
theorem bV.eq:Eqn (Q [aR.spec]) bV.spec .none:=eqn Tryz.f185
theorem dI.eq:Eqn (Q [ay.spec]) dI.spec .none:=eqn Tryz.f379
theorem de.eq:Eqn (Q [dE.spec]) de.spec .none:=eqn Tryz.f256
theorem lE.eq:Eqn (Q [pj 119,eH.spec]) lE.spec .none:=eqn Tryz.f78
theorem bc.eq:Eqn (Q [cD.spec]) bc.spec .none:=eqn Tryz.f386
theorem du.eq:Eqn (Q [iE.spec]) du.spec .none:=eqn Tryz.f69
theorem gv.eq:Eqn (Q []) gv.spec .none:=eqn Tryz.f95
theorem jH.eq:Eqn (Q []) jH.spec .none:=eqn Tryz.f136
theorem lT.eq:Eqn (Q []) lT.spec .none:=eqn Tryz.f172
theorem dd.eq:Eqn (Q []) dd.spec .none:=eqn Tryz.f254
end Go.Mach

set_option linter.unusedVariables false
set_option maxRecDepth 100000
namespace Go.Mach
open Go.Proofs
theorem aX.eq:Eqn (Q [(aJ.spec fuel),aP.spec]) aX.spec (.r (.r (.two (.l (.loop ⟨[(7,vi),(8,vi)],rg 11 12,[(0,zs0)],[]⟩ [(.ext 0,⟨[(7,vi)],[8]++rg 11 12,[(0,zs0)],[]⟩)] .none)) (.r (.l (.loop ⟨[(6,vi)],[7,8,9]++rg 28 35,[(0,zs0)],[]⟩ [(.ext 2,⟨[],rg 6 4++rg 28 35,[(0,zs0)],[]⟩)] (.r (.l (.r (.l (.l (.loop ⟨[(7,vi),(8,vi)],rg 33 16,[(0,zs0)],[]⟩ [(.ext 4,⟨[(7,vi)],[8]++rg 33 16,[(0,zs0)],[]⟩)] .none)))))))))))):=eqn Tryz.f444
theorem eV.eq:Eqn (Q [fV.spec,gj.spec,eF.spec]) eV.spec (.r (.r (.r (.l (.l (.two (pc [(17,vb)] (rg 18 8)) (.two (.r (.l (.loop ⟨[(6,(false,(.own .s))),(29,vi)],[8,9]++rg 30 27,[],[]⟩ [(.ext 1,⟨[(6,(false,(.own .s)))],[8,9]++rg 29 28,[],[]⟩)] .none))) (.two (pc [(57,vb)] (rg 58 15)) (.r (.two (pc [(79,vb)] (rg 80 8)) (.r (.r (.l (.r (.l (.loop ⟨[(6,(false,(.own .s))),(98,vi)],[11]++rg 99 20,[],[]⟩ [(.ext 4,⟨[(6,(false,(.own .s)))],[11]++rg 98 21,[],[]⟩)] .none)))))))))))))))):=eqn Tryz.f91
theorem parse_parser_primary.eq (G:bz):Eqn (Q [bB.spec,bE.spec,parse_parser_assign.spec G,parse_parser_list.spec G,bV.spec,ah.spec,aR.spec,bW.spec]) (parse_parser_primary.g.sp 428 fun x=>R.parse_parser_primary G x) (.r (.r (.r (.r (.r (.two (.r (.l (.r (.r (.r (.r (.r (.r (.r (.r (.r (.r (.r (.r (.r (.l (.r (.l (.piece [(.nrm,⟨[(4,vs)],rg 71 6,[(0,aL)],[]⟩)] .none))))))))))))))))))) (.r (.l (.l (pc [(99,vb)] (rg 94 5))))))))))):=eqn Tryz.f428
theorem eval_run_object.eq (G:au):Eqn (Q [aT.spec,aK.spec,eval_run_expression.spec G,bU.spec,aj.spec,gn.spec]) (eval_run_object.g.sp 260 fun x=>R.eval_run_object G x.1 x.2.1 x.2.2) (.r (.r (.r (.l (.r (.l (.loop ⟨[(27,vi)],[7]++rg 11 4++rg 28 44,[(2,aG)],[5,6]⟩ [(.ext 0,⟨[],[7]++rg 11 4++rg 27 45,[(2,aG)],[5,6]⟩),(.ret,⟨[(7,vi)],rg 11 4++rg 27 45,[(2,aG),(4,zs1)],[5,6]⟩)] .none))))))):=eqn Tryz.f260
theorem fm.eq:Eqn (Q [lT.spec,lK.spec,di.spec]) fm.spec (.r (.l (.r (.r (.l (.l (.loop ⟨[(5,vb)],[2,3,4]++rg 6 67,[(0,cR)],[]⟩ [(.ext 0,⟨[(5,vb)],[2,3,4]++rg 6 67,[(0,cR)],[]⟩)] (.r (.l (.r (.l (.l (.two (pc [(30,vb)] (rg 31 6)) (.two (.l (pc [(5,vb)] (rg 37 5))) (.l (pc [(49,vb)] (rg 50 6))))))))))))))))):=eqn Tryz.f157
theorem eval_run_receives.eq (G:au):Eqn (Q [bN.spec,eval_run_call.spec G,aT.spec,aE.spec,ay.spec]) (eval_run_receives.g.sp 425 fun x=>R.eval_run_receives G x.1 x.2) (.r (.two (.l (pc [(24,vb)] (rg 12 12))) (.r (.r (.r (.l (.piece [(.nrm,⟨[(8,vi)],rg 41 6,[],[]⟩)] (.l (pc [(46,vb)] (rg 41 5)))))))))):=eqn Tryz.f425
theorem eA.eq:Eqn (Q [cW.spec,cd.spec,bc.spec,aK.spec,aQ.spec]) eA.spec (.r (.two (.piece [(.nrm,⟨[],[10,11,12,18,19,23,24]++rg 28 5,[],[]⟩),(.ret,⟨[(9,vi)],rg 10 26,[(4,zs1)],[]⟩)] .none) (.l (.l (pc [(44,vb)] (rg 36 8)))))):=eqn Tryz.f389
theorem jA.eq:Eqn (Q []) jA.spec (.r (.r (.l (.r (.l (.loop ⟨[(15,vi)],[4,5,7]++rg 16 29,[(2,(.own .i))],[]⟩ [(.ext 0,⟨[],[4,5,7]++rg 15 30,[(2,(.own .i))],[]⟩)] (.r (.r (.l (.l (.r (.r (.r (.l (.loop ⟨[(31,vi)],[7]++rg 32 12,[(2,(.own .i))],[]⟩ [(.ext 2,⟨[],[7]++rg 31 13,[(2,(.own .i))],[]⟩)] .none))))))))))))))):=eqn Tryz.f42
theorem bP.eq:Eqn (Q []) bP.spec (.r (.l (.r (.l (.two (pc [(4,vb)] [5,6]) (.r (.two (pc [(7,vb)] [8,9]) (.r (.two (pc [(10,vb)] [11,12]) (.r (.l (pc [(13,vb)] [14,15])))))))))))):=eqn Tryz.f11
theorem bL.eq:Eqn (Q [ba.spec]) bL.spec (.r (.r (.l (.l (.loop ⟨[(5,(false,(.own .y)))],rg 6 24,[(0,cR)],[]⟩ [(.ext 0,⟨[(5,(false,(.own .y)))],rg 6 24,[(0,cR)],[]⟩)] .none))))):=eqn Tryz.f207
theorem iE.eq:Eqn (Q []) iE.spec (.r (.l (.l (.loop ⟨[(0,(false,(.frz (.list (.int .u32)))))],rg 3 17,[],[]⟩ [(.ext 0,⟨[(0,(false,(.frz (.list (.int .u32)))))],rg 3 17,[],[]⟩)] (.l (.l (pc [(14,vb)] (rg 3 11)))))))):=eqn Tryz.f112
theorem fA.eq:Eqn (Q [cW.spec,bc.spec,aK.spec,bG.spec,cA.spec]) fA.spec (.r (.l (.l (.r (.r (.r (.r (.l (pc [(37,vb)] (rg 38 6)))))))))):=eqn Tryz.f387
theorem kZ.eq:Eqn (Q [jo.spec,cr.spec,gA.spec]) kZ.spec (.r (.r (.l (.l (.two (pc [(11,vb)] (rg 12 5)) (.r (.l (pc [(17,vb)] (rg 18 5))))))))):=eqn Tryz.f406
theorem gj.eq:Eqn (Q []) gj.spec (.r (.r (.l (.r (.l (.loop ⟨[(5,(false,(.own .s))),(15,vi)],[7]++rg 16 13,[],[]⟩ [(.ext 0,⟨[(5,(false,(.own .s)))],[7]++rg 15 14,[],[]⟩)] .none)))))):=eqn Tryz.f131
theorem kc.eq:Eqn (Q [eH.spec,iw.spec,fM.spec,cO.spec]) kc.spec (.r (.r (.l (.r (.l (.r (.r (.l (pc [(10,vb)] [11,12]))))))))):=eqn Tryz.f89
theorem parse_parser_arguments.eq (G:bz):Eqn (Q [parse_parser_list.spec G,ah.spec]) (parse_parser_arguments.g.sp 391 fun x=>R.parse_parser_arguments G x) .none:=eqn Tryz.f391
theorem eU.eq:Eqn (Q [gC.spec,ji.spec,gO.spec]) eU.spec (.r (.l (.r (.l (pc [(21,vb)] (rg 15 6)))))):=eqn Tryz.f13
theorem fb.eq:Eqn (Q [dU.spec,bP.spec,aE.spec,bo.spec,gy.spec]) fb.spec .none:=eqn Tryz.f352
theorem dH.eq:Eqn (Q [dd.spec,cD.spec,dU.spec,jE.spec,jQ.spec]) dH.spec .none:=eqn Tryz.f417
theorem cQ.eq:Eqn (Q [av.spec,cb.spec,dm.spec]) cQ.spec .none:=eqn Tryz.f168
theorem mO.eq:Eqn (Q [iG.spec,du.spec,cr.spec,gA.spec]) mO.spec .none:=eqn Tryz.f399
theorem dm.eq:Eqn (Q [jU 70 (.int .u32),jU 80 (.int .u16)]) dm.spec .none:=eqn Tryz.f166
theorem lq.eq:Eqn (Q [aQ.spec,gW.spec]) lq.spec .none:=eqn Tryz.f247
theorem aM.eq:Eqn (Q [bW.spec]) aM.spec .none:=eqn Tryz.f184
theorem ef.eq:Eqn (Q [gn.spec]) ef.spec .none:=eqn Tryz.f228
theorem cL.eq:Eqn (Q [ee.spec]) cL.spec .none:=eqn Tryz.f436
theorem gf.eq:Eqn (Q [gd.spec]) gf.spec .none:=eqn Tryz.f86
theorem fI.eq:Eqn (Q [dd.spec]) fI.spec .none:=eqn Tryz.f317
theorem fK.eq:Eqn (Q [bP.spec]) fK.spec .none:=eqn Tryz.f54
theorem fc.eq:Eqn (Q []) fc.spec .none:=eqn Tryz.f384
theorem ga.eq:Eqn (Q []) ga.spec .none:=eqn Tryz.f313
theorem iP.eq:Eqn (Q []) iP.spec .none:=eqn Tryz.f144
theorem iH.eq:Eqn (Q []) iH.spec .none:=eqn Tryz.f309
end Go.Mach

