/-
  Proved here: the law renlaw12.EvalMore returns true for every input of the stated bulk and leaves its arguments as they were; no further condition.
  By an AI agent; no person has read it.
-/
import Derived.Test.YtdmjcmcdgepoeaaGreatDoorParte
import Derived.KernelRfl
import Derived.Test.YtdmjcmcdgepoeaaGreatDoorProg
set_option linter.all false
set_option linter.deprecated false
set_option linter.unusedVariables false
set_option maxRecDepth 100000
namespace Go.Mach
open Go.Proofs
theorem dV.eq:Eqn (Q [fp.spec,cU.spec,bO.spec,bY.spec,ei.spec,cB.spec,aE.spec,bo.spec,dH.spec,gm.spec,gv.spec,aY.spec,cO.spec]) dV.spec (.r (.r (.two (.l (pc [(38,vb)] (rg 31 7))) (.r (.r (.r (.r (.r (.r (.two (.piece [(.nrm,⟨[(17,(false,zs4)),(18,vi)],[16]++rg 63 10,[],[]⟩),(.ret,⟨[(9,vi)],[16,17]++rg 63 15,[(2,aG),(7,zs1)],[0,1]⟩)] .none) (.r (.l (.piece [(.nrm,⟨[(17,(false,zs4))],rg 82 13++rg 99 9,[],[]⟩),(.ret,⟨[(9,vi)],rg 82 17,[(2,aG),(7,zs1)],[0,1]⟩)] (.l (.two (pc [(82,vb)] (rg 83 12)) (.r (.l (pc [(99,vb)] (rg 100 5))))))))))))))))))):=eqn Tryz.f373
theorem eval_run_assign.eq (G:au):Eqn (Q [eval_run_expression.spec G,eR.spec,eval_run_parts.spec G,aE.spec,dd.spec,gT.spec]) (eval_run_assign.g.sp 277 fun x=>R.eval_run_assign G x.1 x.2.1 x.2.2) (.r (.r (.r (.r (.r (.two (.piece [(.nrm,⟨[],[10]++rg 39 11,[(2,aG),(12,zs1)],[7,8]⟩),(.ret,⟨[(7,vi)],[10]++rg 39 13,[(2,aG),(5,zs1)],[7,8,12]⟩)] .none) (.r (.l (.piece [(.nrm,⟨[],[13,14]++rg 66 11++[82],[(11,zs1)],[]⟩),(.ret,⟨[(7,vi)],[13,14]++rg 66 16,[(2,aG),(5,zs1)],[18,19]⟩)] .none))))))))):=eqn Tryz.f277
theorem gz.eq:Eqn (Q [cC.spec,bF.spec,jN.spec,kq.spec]) gz.spec (.r (.two (.l (.two (pc [(15,vb)] (rg 16 8)) (.r (.two (pc [(25,vb)] (rg 26 8)) (.two (.l (.piece [(.nrm,⟨[],[34,35,36],[(0,zs1),(1,zs1)],[]⟩)] .none)) (.l (pc [(45,vb)] (rg 46 18)))))))) (.r (.r (.r (.r (.l (.piece [(.nrm,⟨[],[83,84,85],[(3,zs1),(4,zs1)],[]⟩)] .none)))))))):=eqn Tryz.f330
theorem parse_parser_list.eq (G:b8):Eqn (Q [parse_parser_assign.spec G,cF.spec,ah.spec,aM.spec]) (parse_parser_list.g.sp 429 fun x=>R.parse_parser_list G x.1 x.2) (.r (.r (.r (.l (.loop ⟨[(5,(false,(.own zs2)))],[4]++rg 10 16,[(0,aL)],[]⟩ [(.ret,⟨[(4,(false,(.own zs2)))],[5]++rg 10 16,[(0,aL)],[]⟩)] (.l (.r (.l (.l (.piece [(.nrm,⟨[(22,vb)],rg 15 7,[(0,aL)],[]⟩)] .none)))))))))):=eqn Tryz.f429
theorem iG.eq:Eqn (Q [jk.spec,jI.spec,iR.spec,gA.spec]) iG.spec (.r (.r (.r (.l (.r (.l (.loop ⟨[(7,(false,(.own .w))),(8,vi)],[9]++rg 16 33,[(2,(.own .w))],[]⟩ [(.ext 0,⟨[(7,(false,(.own .w)))],[8,9]++rg 16 33,[(2,(.own .w))],[]⟩)] (.r (.l (.l (.r (.l (.loop ⟨[(7,(false,(.own .w))),(9,vi)],rg 20 29,[(2,(.own .w))],[3]⟩ [(.ext 2,⟨[(7,(false,(.own .w)))],[9]++rg 20 29,[(2,(.own .w))],[3]⟩)] .none))))))))))))):=eqn Tryz.f433
theorem lV.eq:Eqn (Q [eG.spec,jC.spec,hJ.spec,jy.spec,jo.spec]) lV.spec (.r (.two (.l (pc [(26,vb)] (rg 4 22))) (.l (.r (.l (.loop ⟨[(30,vi)],[2,3]++rg 31 29,[],[]⟩ [(.ext 0,⟨[],[2,3]++rg 30 30,[],[]⟩),(.ret,⟨[(2,vb)],[3]++rg 30 30,[],[]⟩)] (.r (.r (.l (.l (.r (.l (pc [(58,vb)] (rg 33 25)))))))))))))):=eqn Tryz.f12
theorem iI.eq:Eqn (Q [iU.spec]) iI.spec (.r (.r (.l (.r (.l (.loop ⟨[(3,vb),(8,vi)],[2,5]++rg 9 44,[],[]⟩ [(.ext 0,⟨[(3,vb)],[2,5]++rg 8 45,[],[]⟩),(.ret,⟨[(2,vb)],[3,5]++rg 8 45,[],[]⟩)] (.r (.r (.l (.l (.r (.two (pc [(3,vb)] (rg 12 5)) (.l (pc [(51,vb)] (rg 17 34))))))))))))))):=eqn Tryz.f76
theorem dZ.eq:Eqn (Q [aT.spec,aK.spec,aE.spec,aw.spec]) dZ.spec (.r (.r (.l (.piece [(.nrm,⟨[(8,vi)],rg 9 14++rg 27 10,[],[]⟩),(.ret,⟨[(7,vi)],rg 9 22++rg 33 8,[(2,aG),(9,zs1)],[0,1]⟩)] (.l (.l (pc [(9,vb)] (rg 10 13)))))))):=eqn Tryz.f366
theorem kz.eq:Eqn (Q [iP.spec,gd.spec]) kz.spec (.r (.l (.r (.l (.loop ⟨[(7,vi)],[2,3,4]++rg 8 19,[],[]⟩ [(.ext 0,⟨[],[2,3,4]++rg 7 20,[],[]⟩),(.ret,⟨[(2,vb)],[3,4]++rg 7 20,[],[]⟩)] (.r (.r (.l (.l (.r (.r (.l (pc [(25,vb)] (rg 14 11)))))))))))))):=eqn Tryz.f100
theorem aZ.eq:Eqn (Q [ee.spec]) aZ.spec (.r (.l (.r (.l (.loop ⟨[(8,vi)],[4,5]++rg 9 10,[],[]⟩ [(.ext 0,⟨[],[4,5]++rg 8 11,[],[]⟩),(.ret,⟨[(4,vi)],[5]++rg 8 11,[],[]⟩)] .none))))):=eqn Tryz.f227
theorem eT.eq:Eqn (Q []) eT.spec (.r (.r (.l (.r (.l (.loop ⟨[(4,(false,(.own .y))),(9,vi)],[2,3,6]++rg 10 11,[],[]⟩ [(.ext 0,⟨[(4,(false,(.own .y)))],[2,3,6]++rg 9 12,[],[]⟩),(.ret,⟨[(2,vs),(3,vb)],[4,6]++rg 9 12,[],[]⟩)] .none)))))):=eqn Tryz.f73
theorem jQ.eq:Eqn (Q []) jQ.spec (.r (.r (.l (.r (.l (.loop ⟨[(4,vi),(9,vi)],[2,3,6]++rg 10 12,[],[]⟩ [(.ext 0,⟨[(4,vi)],[2,3,6]++rg 9 13,[],[]⟩),(.ret,⟨[(2,vi),(3,vb)],[4,6]++rg 9 13,[],[]⟩)] .none)))))):=eqn Tryz.f88
theorem gA.eq:Eqn (Q []) gA.spec (.r (.l (.l (.loop ⟨[(0,(false,(.own .w)))],rg 3 17,[],[0]⟩ [(.ext 0,⟨[(0,(false,(.own .w)))],rg 3 17,[],[0]⟩)] (.l (.l (pc [(14,vb)] (rg 3 11)))))))):=eqn Tryz.f112
theorem gq.eq:Eqn (Q [dt.spec]) gq.spec (.r (.two (pc [(5,vb)] (rg 6 6)) (.l (pc [(0,(false,zs4))] [12,13,14])))):=eqn Tryz.f51
theorem bn.eq:Eqn (Q []) bn.spec (.r (.l (.loop ⟨[(2,vi),(3,vi)],rg 7 21,[(0,(.own .y))],[]⟩ [(.ext 0,⟨[],[2,3]++rg 7 21,[(0,(.own .y))],[]⟩)] .none))):=eqn Tryz.f120
theorem eval_run_statement.eq (G:au):Eqn (Q [eval_run_act.spec G,bj.spec]) (eval_run_statement.g.sp 149 fun x=>R.eval_run_statement G x.1 x.2.1 x.2.2.1 x.2.2.2) .none:=eqn Tryz.f149
theorem jH.eq:Eqn (Q [fH.spec]) jH.spec (.r (.l (.r (.l (.r (.r (.r (.r (.r (.r (.l (pc [(24,vb)] [25,26,27])))))))))))):=eqn Tryz.f21
theorem jX.eq:Eqn (Q [kS.spec,kO.spec,dO.spec,eG.spec,jC.spec]) jX.spec .none:=eqn Tryz.f98
theorem fq.eq:Eqn (Q [kD.spec,dk.spec,bK.spec]) fq.spec .none:=eqn Tryz.f176
theorem kn.eq:Eqn (Q [dn.spec,eU.spec,lB.spec,gF.spec]) kn.spec .none:=eqn Tryz.f64
theorem ic.eq:Eqn (Q [gE.spec,jX.spec,kL.spec]) ic.spec .none:=eqn Tryz.f60
theorem cT.eq:Eqn (Q [cp.spec]) cT.spec .none:=eqn Tryz.f427
theorem eE.eq:Eqn (Q [bG.spec,di.spec]) eE.spec .none:=eqn Tryz.f368
theorem dK.eq:Eqn (Q [eO.spec]) dK.spec .none:=eqn Tryz.f434
theorem bX.eq:Eqn (Q [aE.spec]) bX.spec .none:=eqn Tryz.f290
theorem iq.eq:Eqn (Q [dt.spec,iF.spec]) iq.spec .none:=eqn Tryz.f347
theorem gn.eq:Eqn (Q [cj.spec]) gn.spec .none:=eqn Tryz.f84
theorem bD.eq:Eqn (Q []) bD.spec .none:=eqn Tryz.f221
theorem gX.eq:Eqn (Q [eH.spec]) gX.spec .none:=eqn Tryz.f346
theorem fy.eq:Eqn (Q [j6.spec]) fy.spec .none:=eqn Tryz.f117
theorem gd.eq:Eqn (Q []) gd.spec .none:=eqn Tryz.f143
theorem dQ.eq:Eqn (Q []) dQ.spec .none:=eqn Tryz.f14
theorem lJ.eq:Eqn (Q []) lJ.spec .none:=eqn Tryz.f173
theorem j6.eq:Eqn (Q []) j6.spec .none:=eqn Tryz.f37
end Go.Mach

set_option linter.unusedVariables false
set_option maxRecDepth 100000
namespace Go.Mach
open Go.Proofs
theorem ep.eq:Eqn (Q [b9.spec,fT.spec,jB.spec,aT.spec,aK.spec,aE.spec,bG.spec,eC.spec,aw.spec,bU.spec]) ep.spec (.r (.r (.r (.r (.two (pc [(7,vi)] (rg 19 10)) (.two (.piece [(.nrm,⟨[(6,(false,zs0))],[8,29]++rg 34 27,[],[]⟩),(.ret,⟨[(5,vi)],rg 29 7++[43,44],[(2,aG),(6,zs1)],[0,1]⟩)] (.r (.l (.r (.r (.r (.l (.r (.l (.loop ⟨[(6,(false,zs0)),(52,vi)],[8]++rg 53 8,[],[]⟩ [(.ext 1,⟨[(6,(false,zs0))],[8]++rg 52 9,[],[]⟩)] .none)))))))))) (.r (.r (.l (.r (.l (.loop ⟨[(73,vi)],[11,12]++rg 74 16,[(9,eW)],[8]⟩ [(.ext 3,⟨[],[11,12]++rg 73 17,[(9,eW)],[8]⟩)] .none)))))))))))):=eqn Tryz.f365
theorem eval_run_fresh.eq (G:au):Eqn (Q [gJ.spec,eval_run_apply.spec G,eval_run_builds.spec G,aT.spec,aK.spec,aE.spec,aw.spec,cA.spec,aY.spec,aj.spec]) (eval_run_fresh.g.sp 280 fun x=>R.eval_run_fresh G x.1 x.2.1 x.2.2) (.r (.r (.r (.r (.two (.l (pc [(50,vb)] (rg 43 7))) (.r (.two (.piece [(.nrm,⟨[(10,vi)],[11,12]++rg 55 22++[81,82],[],[]⟩),(.ret,⟨[(7,vi)],[11,12]++rg 55 26,[(2,aG),(4,zs1)],[0,1]⟩)] .none) (.r (.r (.r (.l (.l (pc [(109,vb)] (rg 103 6)))))))))))))):=eqn Tryz.f280
theorem fc.eq:Eqn (Q [cx.spec,jB.spec,aK.spec,fa.spec,aE.spec,bG.spec,cA.spec,aY.spec,bU.spec,aj.spec,eZ.spec,gn.spec]) fc.spec (.r (.r (.r (.r (.r (.r (.r (.l (.piece [(.nrm,⟨[],[15,16,64,65]++rg 70 5++rg 79 14++rg 97 14,[],[]⟩),(.ret,⟨[(7,vi)],[15,16]++rg 64 66,[(2,aG),(5,zs1)],[0,1]⟩)] (.r (.l (.r (.r (.r (.l (.l (pc [(92,vb)] (rg 81 11)))))))))))))))))):=eqn Tryz.f322
theorem parse_parser_assign.eq (G:b8):Eqn (Q [gM.spec,bE.spec,bD.spec,fC.spec,parse_parser_assign.spec G,parse_parser_body.spec G,parse_parser_cond.spec G,aR.spec,dm.spec,lp.spec,gF.spec]) (parse_parser_assign.g.sp 215 fun x=>R.parse_parser_assign G x) (.r (.two (.r (.l (pc [(21,vb)] (rg 8 13)))) (.r (.r (.r (.l (.l (pc [(53,vb)] (rg 45 8))))))))):=eqn Tryz.f215
theorem eval_run_first.eq (G:au):Eqn (Q [eval_run_expression.spec G,bS.spec,eval_run_statement.spec G,fF.spec,bA.spec]) (eval_run_first.g.sp 233 fun x=>R.eval_run_first G x.1 x.2.1 x.2.2) (.r (.r (.l (.r (.l (.r (.r (.two (pc [(29,vb)] [30,31]) (.l (.r (.r (.r (.l (.r (.l (.loop ⟨[(49,vi)],[12]++rg 50 23,[(9,eW)],[8]⟩ [(.ext 1,⟨[],[12]++rg 49 24,[(9,eW)],[8]⟩)] .none)))))))))))))))):=eqn Tryz.f233
theorem parse_parser_statement.eq (G:b8):Eqn (Q [gM.spec,bB.spec,bE.spec,bD.spec,aR.spec,bW.spec,parse_parser_simple.spec G,parse_parser_statement.spec G,aM.spec,parse_parser_word.spec G]) (parse_parser_statement.g.sp 187 fun x=>R.parse_parser_statement G x) (.r (.r (.l (.l (.l (pc [(6,vb)] (rg 7 8))))))):=eqn Tryz.f187
theorem c7.eq:Eqn (Q [cU.spec,bY.spec,dI.spec,aT.spec,aE.spec,cu.spec]) c7.spec (.r (.r (.r (.r (.r (.r (.r (.l (.piece [(.nrm,⟨[(10,vi)],[9,11]++rg 51 12++rg 68 5,[],[]⟩),(.ret,⟨[(5,vi)],[9,10,11]++rg 51 26,[(2,aG),(4,zs1)],[0,1]⟩)] .none))))))))):=eqn Tryz.f337
theorem gH.eq:Eqn (Q []) gH.spec (.r (.r (.r (.l (.r (.l (.loop ⟨[(17,vi)],[4,5,7]++rg 18 17,[(2,(.own .i))],[]⟩ [(.ext 0,⟨[],[4,5,7]++rg 17 18,[(2,(.own .i))],[]⟩)] (.r (.r (.l (.l (.r (.r (.l (.loop ⟨[(25,vi)],[7]++rg 26 8,[(2,(.own .i))],[]⟩ [(.ext 2,⟨[],[7]++rg 25 9,[(2,(.own .i))],[]⟩)] .none))))))))))))))):=eqn Tryz.f56
theorem ec.eq:Eqn (Q [jc.spec,fh.spec,ef.spec,iL.spec,fX.spec,eo.spec,eN.spec,eL.spec,eS.spec,iw.spec]) ec.spec (.r (.r (.l (.l (pc [(63,vb)] (rg 15 48)))))):=eqn Tryz.f6
theorem dk.eq:Eqn (Q []) dk.spec (.r (.l (.r (.l (.loop ⟨[(8,vi)],[4,5]++rg 9 34,[],[]⟩ [(.ext 0,⟨[],[4,5]++rg 8 35,[],[]⟩),(.ret,⟨[(4,vb)],[5]++rg 8 35,[],[]⟩)] (.r (.r (.l (.l (.r (.l (pc [(41,vb)] (rg 11 30))))))))))))):=eqn Tryz.f174
theorem ke.eq:Eqn (Q [mY.spec,eH.spec,eM.spec,eg.spec,eP.spec]) ke.spec (.r (.r (.l (.l (.two (pc [(10,vb)] (rg 11 21)) (.r (.r (.r (.r (.r (.l (pc [(41,vb)] (rg 42 8))))))))))))):=eqn Tryz.f320
theorem kI.eq:Eqn (Q [kU.spec,mI.spec,mH.spec,mG.spec,mN.spec,db.spec,fE.spec]) kI.spec (.r (.r (.r (.l (.piece [(.nrm,⟨[(9,vi)],rg 47 8,[(5,(.box (.frz az)))],[]⟩)] .none))))):=eqn Tryz.f354
theorem kR.eq:Eqn (Q [kU.spec,jt.spec,cC.spec,ke.spec,fE.spec,cg.spec]) kR.spec (.r (.r (.l (.l (.r (.r (.l (pc [(18,vb)] (rg 19 6))))))))):=eqn Tryz.f296
theorem eval_run_catch.eq (G:au):Eqn (Q [bS.spec,eval_run_statement.spec G,bA.spec]) (eval_run_catch.g.sp 235 fun x=>R.eval_run_catch G x.1 x.2.1 x.2.2.1 x.2.2.2.1 x.2.2.2.2) .none:=eqn Tryz.f235
theorem eval_run_callee.eq (G:au):Eqn (Q [eval_run_arguments.spec G,eval_run_call.spec G,eval_run_called.spec G]) (eval_run_callee.g.sp 278 fun x=>R.eval_run_callee G x.1 x.2.1 x.2.2) .none:=eqn Tryz.f278
theorem dY.eq:Eqn (Q [cx.spec,aY.spec,aj.spec]) dY.spec (.r (.r (.l (.r (.l (pc [(33,vb)] (rg 28 5))))))):=eqn Tryz.f68
theorem eval_run_property.eq (G:au):Eqn (Q [dP.spec,eval_run_parts.spec G]) (eval_run_property.g.sp 281 fun x=>R.eval_run_property G x.1 x.2.1 x.2.2) .none:=eqn Tryz.f281
theorem ff.eq:Eqn (Q [dQ.spec,fH.spec]) ff.spec (.r (.l (.l (pc [(21,vb)] (rg 5 16))))):=eqn Tryz.f22
theorem cC.eq:Eqn (Q [db.spec,bt.spec,cD.spec,bR.spec,j9.spec]) cC.spec .none:=eqn Tryz.f295
theorem jx.eq:Eqn (Q []) jx.spec (.r (.l (.r (.l (.l (pc [(4,vb)] (rg 5 33))))))):=eqn Tryz.f289
theorem cZ.eq:Eqn (Q [cd.spec,bT.spec]) cZ.spec .none:=eqn Tryz.f314
theorem ei.eq:Eqn (Q [fO.spec,bT.spec]) ei.spec .none:=eqn Tryz.f382
theorem bw.eq:Eqn (Q [cN.spec]) bw.spec .none:=eqn Tryz.f374
theorem ah.eq:Eqn (Q [aM.spec]) ah.spec .none:=eqn Tryz.f213
theorem fp.eq:Eqn (Q [bt.spec,iN.spec]) fp.spec .none:=eqn Tryz.f262
theorem jn.eq:Eqn (Q [jt.spec,lL.spec]) jn.spec .none:=eqn Tryz.f364
theorem kO.eq:Eqn (Q [(ig.spec fuel)]) kO.spec .none:=eqn Tryz.f141
theorem lB.eq:Eqn (Q [eU.spec]) lB.spec .none:=eqn Tryz.f105
theorem dn.eq:Eqn (Q []) dn.spec .none:=eqn Tryz.f106
theorem cf.eq:Eqn (Q []) cf.spec .none:=eqn Tryz.f432
theorem bB.eq:Eqn (Q []) bB.spec .none:=eqn Tryz.f159
theorem ji.eq:Eqn (Q []) ji.spec .none:=eqn Tryz.f58
theorem gM.eq:Eqn (Q []) gM.spec .none:=eqn Tryz.f181
end Go.Mach

set_option linter.unusedVariables false
set_option maxRecDepth 100000
namespace Go.Mach
open Go.Proofs
theorem eval_run_does.eq (G:au):Eqn (Q [fp.spec,b9.spec,cx.spec,bF.spec,bY.spec,dS.spec,dX.spec,dZ.spec,aK.spec,dB.spec,eval_run_host.spec G,ep.spec,cr.spec,ev.spec,bX.spec,aE.spec,dV.spec,eE.spec,aw.spec,cO.spec,bw.spec]) (eval_run_does.g.sp 333 fun x=>R.eval_run_does G x.1 x.2.1 x.2.2.1 x.2.2.2) (.r (.r (.l (.r (.l (.two (pc [(18,vb)] [19,20]) (.r (.r (.r (.r (.r (.r (.r (.r (.r (.r (.two (.l (.l (pc [(79,vb)] (rg 67 12)))) (.r (.r (.r (.r (.r (.r (.r (.r (.l (pc [(134,vb)] (rg 135 5)))))))))))))))))))))))))))):=eqn Tryz.f333
theorem ej.eq:Eqn (Q [lJ.spec]) ej.spec (.r (.r (.r (.r (.l (.l (.loop ⟨[],[3,6,7,8]++rg 27 63,[(0,cR),(2,zs5)],[]⟩ [(.ext 0,⟨[],[3,6,7,8]++rg 27 63,[(0,cR)],[2]⟩),(.ret,⟨[(3,vi)],[6,7,8]++rg 27 63,[(0,cR),(1,zs5)],[2]⟩)] (.two (.l (pc [(50,vb)] (rg 27 23))) (.l (.r (.r (.r (.l (pc [] [72,73])))))))))))))):=eqn Tryz.f178
theorem aP.eq:Eqn (Q [cM.spec]) aP.spec (.r (.l (.loop ⟨[(8,vi)],[9]++rg 12 41,[(0,zs0)],[]⟩ [(.ext 0,⟨[],[8,9]++rg 12 41,[(0,zs0)],[]⟩)] (.r (.l (.l (.r (.l (.loop ⟨[(9,vi)],rg 18 35,[(0,zs0)],[]⟩ [(.ext 2,⟨[],[9]++rg 18 35,[(0,zs0)],[]⟩)] (.l (.l (pc [(34,vb)] (rg 18 16))))))))))))):=eqn Tryz.f448
theorem jY.eq:Eqn (Q [gM.spec]) jY.spec (.r (.two (.l (pc [(10,vb)] (rg 3 7))) (.l (.r (.l (.r (.r (.r (.r (.r (.r (.two (pc [(19,vb)] (rg 20 4)) (.r (.two (pc [(24,vb)] (rg 25 5)) (.r (.two (pc [(30,vb)] [31,32,33]) (.r (.two (pc [(34,vb)] [35,36]) (.r (.l (pc [(37,vb)] [38,39,40]))))))))))))))))))))):=eqn Tryz.f311
theorem dm.eq:Eqn (Q [bE.spec,cF.spec,bV.spec,ah.spec,aM.spec]) dm.spec (.r (.r (.r (.r (.l (.loop ⟨[(3,(false,(.own zs2)))],[2]++rg 9 16,[(0,aL)],[]⟩ [(.ret,⟨[(2,(false,(.own zs2)))],[3]++rg 9 16,[(0,aL)],[]⟩)] (.l (.r (.l (.l (.piece [(.nrm,⟨[(21,vb)],rg 15 6,[(0,aL)],[]⟩)] .none))))))))))):=eqn Tryz.f219
theorem kL.eq:Eqn (Q [fm.spec]) kL.spec (.r (.r (.r (.l (.r (.l (.loop ⟨[(5,(false,(.own .h))),(6,vi)],[2,3,4,7,8]++rg 12 43,[],[]⟩ [(.ext 0,⟨[(5,(false,(.own .h)))],[2,3,4,6,7,8]++rg 12 43,[],[]⟩),(.ret,⟨[(2,(false,(.own .h))),(3,vi),(4,vi)],rg 5 4++rg 12 43,[],[]⟩)] (.r (.l (.r (.l (.l (.l (pc [(36,vb)] (rg 37 6))))))))))))))):=eqn Tryz.f97
theorem eA.eq:Eqn (Q [jx.spec,iD.spec,aK.spec,aE.spec,cQ.spec,dE.spec]) eA.spec (.r (.r (.two (.l (.two (pc [(27,vb)] (rg 28 6)) (.r (.l (pc [(38,vb)] (rg 39 5)))))) (.l (.r (.l (pc [(68,vb)] (rg 64 4)))))))):=eqn Tryz.f321
theorem parse_parser_item.eq (G:b8):Eqn (Q [gM.spec,parse_parser_declares.spec G,ca.spec,bV.spec,aR.spec,parse_parser_statement.spec G,aM.spec]) (parse_parser_item.g.sp 161 fun x=>R.parse_parser_item G x) (.r (.l (.r (.l (.l (pc [(8,vb)] (rg 9 6))))))):=eqn Tryz.f161
theorem iJ.eq:Eqn (Q []) iJ.spec (.r (.l (.loop ⟨[(1,vi)],rg 4 31,[],[]⟩ [(.ret,⟨[(4,vb)],[1]++rg 5 30,[],[]⟩)] (.l (.r (.l (.piece [(.nrm,⟨[],rg 11 12,[],[]⟩),(.ret,⟨[(4,vb)],rg 11 12,[],[]⟩)] (.r (.l (.r (.r (.l (pc [(19,vb)] [20,21,22]))))))))))))):=eqn Tryz.f65
theorem aa.eq:Eqn (Q [fR.spec]) aa.spec (.r (.l (.r (.l (.loop ⟨[(8,vi)],[4,5]++rg 9 10,[],[]⟩ [(.ext 0,⟨[],[4,5]++rg 8 11,[],[]⟩),(.ret,⟨[(4,vi)],[5]++rg 8 11,[],[]⟩)] .none))))):=eqn Tryz.f189
theorem bC.eq:Eqn (Q [gx.spec]) bC.spec (.r (.l (.r (.l (.loop ⟨[(8,vi)],[4,5]++rg 9 10,[],[]⟩ [(.ext 0,⟨[],[4,5]++rg 8 11,[],[]⟩),(.ret,⟨[(4,vi)],[5]++rg 8 11,[],[]⟩)] .none))))):=eqn Tryz.f135
theorem ey.eq:Eqn (Q [iA.spec,gJ.spec,aw.spec]) ey.spec (.r (.l (.r (.l (.r (.r (.r (.r (.r (.r (.r (.r (.r (.r (.r (.l (.l (pc [(32,vb)] (rg 19 13))))))))))))))))))):=eqn Tryz.f292
theorem dF.eq:Eqn (Q [jx.spec,iD.spec,aK.spec,aE.spec,dE.spec]) dF.spec (.r (.r (.l (.l (.l (pc [(26,vb)] (rg 27 6))))))):=eqn Tryz.f271
theorem fK.eq:Eqn (Q []) fK.spec (.r (.r (.l (.r (.l (.loop ⟨[(5,vi)],[4]++rg 11 15,[],[]⟩ [(.ext 0,⟨[],[4,5]++rg 11 15,[],[]⟩),(.ret,⟨[(4,vb)],[5]++rg 11 15,[],[]⟩)] .none)))))):=eqn Tryz.f49
theorem gj.eq:Eqn (Q []) gj.spec (.r (.r (.l (.r (.l (.loop ⟨[(5,(false,(.own .i))),(8,vi)],rg 9 5,[],[]⟩ [(.ext 0,⟨[(5,(false,(.own .i)))],rg 8 6,[],[]⟩)] .none)))))):=eqn Tryz.f103
theorem bA.eq:Eqn (Q [av.spec,cX.spec,di.spec]) bA.spec (.r (.l (.l (pc [(24,vb)] (rg 14 10))))):=eqn Tryz.f147
theorem dP.eq:Eqn (Q [cx.spec,jB.spec,aK.spec,dW.spec,aE.spec,fA.spec]) dP.spec .none:=eqn Tryz.f307
theorem ax.eq:Eqn (Q [bC.spec]) ax.spec .none:=eqn Tryz.f94
theorem mY.eq:Eqn (Q [eP.spec,cP.spec]) mY.spec (.r (.l (.l (pc [(9,vb)] (rg 4 5))))):=eqn Tryz.f351
theorem ba.eq:Eqn (Q [fS.spec]) ba.spec .none:=eqn Tryz.f179
theorem mI.eq:Eqn (Q [iG.spec,dt.spec,cn.spec,fy.spec]) mI.spec .none:=eqn Tryz.f398
theorem bW.eq:Eqn (Q [gM.spec,aR.spec]) bW.spec .none:=eqn Tryz.f218
theorem bm.eq:Eqn (Q [iP.spec]) bm.spec .none:=eqn Tryz.f179
theorem bV.eq:Eqn (Q [aR.spec]) bV.spec .none:=eqn Tryz.f185
theorem dI.eq:Eqn (Q [aw.spec]) dI.spec .none:=eqn Tryz.f379
theorem dc.eq:Eqn (Q [dF.spec]) dc.spec .none:=eqn Tryz.f256
theorem lM.eq:Eqn (Q [p7 119,eH.spec]) lM.spec .none:=eqn Tryz.f78
theorem bc.eq:Eqn (Q [cD.spec]) bc.spec .none:=eqn Tryz.f386
theorem dt.eq:Eqn (Q [iF.spec]) dt.spec .none:=eqn Tryz.f69
theorem gx.eq:Eqn (Q []) gx.spec .none:=eqn Tryz.f95
theorem jM.eq:Eqn (Q []) jM.spec .none:=eqn Tryz.f136
theorem lS.eq:Eqn (Q []) lS.spec .none:=eqn Tryz.f172
theorem db.eq:Eqn (Q []) db.spec .none:=eqn Tryz.f254
end Go.Mach

set_option linter.unusedVariables false
set_option maxRecDepth 100000
namespace Go.Mach
open Go.Proofs
theorem aX.eq:Eqn (Q [(aJ.spec fuel),aP.spec]) aX.spec (.r (.r (.two (.l (.loop ⟨[(7,vi),(8,vi)],rg 11 12,[(0,zs0)],[]⟩ [(.ext 0,⟨[(7,vi)],[8]++rg 11 12,[(0,zs0)],[]⟩)] .none)) (.r (.l (.loop ⟨[(6,vi)],[7,8,9]++rg 28 35,[(0,zs0)],[]⟩ [(.ext 2,⟨[],rg 6 4++rg 28 35,[(0,zs0)],[]⟩)] (.r (.l (.r (.l (.l (.loop ⟨[(7,vi),(8,vi)],rg 33 16,[(0,zs0)],[]⟩ [(.ext 4,⟨[(7,vi)],[8]++rg 33 16,[(0,zs0)],[]⟩)] .none)))))))))))):=eqn Tryz.f444
theorem eX.eq:Eqn (Q [fY.spec,gi.spec,eJ.spec]) eX.spec (.r (.r (.r (.l (.l (.two (pc [(17,vb)] (rg 18 8)) (.two (.r (.l (.loop ⟨[(6,(false,(.own .s))),(29,vi)],[8,9]++rg 30 27,[],[]⟩ [(.ext 1,⟨[(6,(false,(.own .s)))],[8,9]++rg 29 28,[],[]⟩)] .none))) (.two (pc [(57,vb)] (rg 58 15)) (.r (.two (pc [(79,vb)] (rg 80 8)) (.r (.r (.l (.r (.l (.loop ⟨[(6,(false,(.own .s))),(98,vi)],[11]++rg 99 20,[],[]⟩ [(.ext 4,⟨[(6,(false,(.own .s)))],[11]++rg 98 21,[],[]⟩)] .none)))))))))))))))):=eqn Tryz.f91
theorem parse_parser_primary.eq (G:b8):Eqn (Q [bB.spec,bE.spec,parse_parser_assign.spec G,parse_parser_list.spec G,bV.spec,ah.spec,aR.spec,bW.spec]) (parse_parser_primary.g.sp 428 fun x=>R.parse_parser_primary G x) (.r (.r (.r (.r (.r (.two (.r (.l (.r (.r (.r (.r (.r (.r (.r (.r (.r (.r (.r (.r (.r (.l (.r (.l (.piece [(.nrm,⟨[(4,vs)],rg 71 6,[(0,aL)],[]⟩)] .none))))))))))))))))))) (.r (.l (.l (pc [(99,vb)] (rg 94 5))))))))))):=eqn Tryz.f428
theorem eval_run_object.eq (G:au):Eqn (Q [aT.spec,aK.spec,eval_run_expression.spec G,bU.spec,aj.spec,gn.spec]) (eval_run_object.g.sp 260 fun x=>R.eval_run_object G x.1 x.2.1 x.2.2) (.r (.r (.r (.l (.r (.l (.loop ⟨[(27,vi)],[7]++rg 11 4++rg 28 44,[(2,aG)],[5,6]⟩ [(.ext 0,⟨[],[7]++rg 11 4++rg 27 45,[(2,aG)],[5,6]⟩),(.ret,⟨[(7,vi)],rg 11 4++rg 27 45,[(2,aG),(4,zs1)],[5,6]⟩)] .none))))))):=eqn Tryz.f260
theorem fl.eq:Eqn (Q [lS.spec,lJ.spec,dk.spec]) fl.spec (.r (.l (.r (.r (.l (.l (.loop ⟨[(5,vb)],[2,3,4]++rg 6 67,[(0,cR)],[]⟩ [(.ext 0,⟨[(5,vb)],[2,3,4]++rg 6 67,[(0,cR)],[]⟩)] (.r (.l (.r (.l (.l (.two (pc [(30,vb)] (rg 31 6)) (.two (.l (pc [(5,vb)] (rg 37 5))) (.l (pc [(49,vb)] (rg 50 6))))))))))))))))):=eqn Tryz.f157
theorem eval_run_receives.eq (G:au):Eqn (Q [bP.spec,eval_run_call.spec G,aT.spec,aE.spec,aw.spec]) (eval_run_receives.g.sp 425 fun x=>R.eval_run_receives G x.1 x.2) (.r (.two (.l (pc [(24,vb)] (rg 12 12))) (.r (.r (.r (.l (.piece [(.nrm,⟨[(8,vi)],rg 41 6,[],[]⟩)] (.l (pc [(46,vb)] (rg 41 5)))))))))):=eqn Tryz.f425
theorem dv.eq:Eqn (Q [cZ.spec,cd.spec,bc.spec,aK.spec,aQ.spec]) dv.spec (.r (.two (.piece [(.nrm,⟨[],[10,11,12,18,19,23,24]++rg 28 5,[],[]⟩),(.ret,⟨[(9,vi)],rg 10 26,[(4,zs1)],[]⟩)] .none) (.l (.l (pc [(44,vb)] (rg 36 8)))))):=eqn Tryz.f389
theorem jC.eq:Eqn (Q []) jC.spec (.r (.r (.l (.r (.l (.loop ⟨[(15,vi)],[4,5,7]++rg 16 29,[(2,(.own .i))],[]⟩ [(.ext 0,⟨[],[4,5,7]++rg 15 30,[(2,(.own .i))],[]⟩)] (.r (.r (.l (.l (.r (.r (.r (.l (.loop ⟨[(31,vi)],[7]++rg 32 12,[(2,(.own .i))],[]⟩ [(.ext 2,⟨[],[7]++rg 31 13,[(2,(.own .i))],[]⟩)] .none))))))))))))))):=eqn Tryz.f42
theorem bO.eq:Eqn (Q []) bO.spec (.r (.l (.r (.l (.two (pc [(4,vb)] [5,6]) (.r (.two (pc [(7,vb)] [8,9]) (.r (.two (pc [(10,vb)] [11,12]) (.r (.l (pc [(13,vb)] [14,15])))))))))))):=eqn Tryz.f11
theorem bK.eq:Eqn (Q [ba.spec]) bK.spec (.r (.r (.l (.l (.loop ⟨[(5,(false,(.own .y)))],rg 6 24,[(0,cR)],[]⟩ [(.ext 0,⟨[(5,(false,(.own .y)))],rg 6 24,[(0,cR)],[]⟩)] .none))))):=eqn Tryz.f207
theorem iF.eq:Eqn (Q []) iF.spec (.r (.l (.l (.loop ⟨[(0,(false,(.frz (.list (.int .u32)))))],rg 3 17,[],[]⟩ [(.ext 0,⟨[(0,(false,(.frz (.list (.int .u32)))))],rg 3 17,[],[]⟩)] (.l (.l (pc [(14,vb)] (rg 3 11)))))))):=eqn Tryz.f112
theorem eu.eq:Eqn (Q [cZ.spec,bc.spec,aK.spec,bG.spec,cA.spec]) eu.spec (.r (.l (.l (.r (.r (.r (.r (.l (pc [(37,vb)] (rg 38 6)))))))))):=eqn Tryz.f387
theorem kc.eq:Eqn (Q [jk.spec,cn.spec,fy.spec]) kc.spec (.r (.r (.l (.l (.two (pc [(11,vb)] (rg 12 5)) (.r (.l (pc [(17,vb)] (rg 18 5))))))))):=eqn Tryz.f406
theorem gi.eq:Eqn (Q []) gi.spec (.r (.r (.l (.r (.l (.loop ⟨[(5,(false,(.own .s))),(15,vi)],[7]++rg 16 13,[],[]⟩ [(.ext 0,⟨[(5,(false,(.own .s)))],[7]++rg 15 14,[],[]⟩)] .none)))))):=eqn Tryz.f131
theorem kX.eq:Eqn (Q [eH.spec,iu.spec,fL.spec,cP.spec]) kX.spec (.r (.r (.l (.r (.l (.r (.r (.l (pc [(10,vb)] [11,12]))))))))):=eqn Tryz.f89
theorem parse_parser_arguments.eq (G:b8):Eqn (Q [parse_parser_list.spec G,ah.spec]) (parse_parser_arguments.g.sp 391 fun x=>R.parse_parser_arguments G x) .none:=eqn Tryz.f391
theorem fh.eq:Eqn (Q [gE.spec,jc.spec,gQ.spec]) fh.spec (.r (.l (.r (.l (pc [(21,vb)] (rg 15 6)))))):=eqn Tryz.f13
theorem fa.eq:Eqn (Q [dQ.spec,bO.spec,aE.spec,bo.spec,gv.spec]) fa.spec .none:=eqn Tryz.f352
theorem dH.eq:Eqn (Q [db.spec,cD.spec,dQ.spec,jG.spec,jH.spec]) dH.spec .none:=eqn Tryz.f417
theorem cQ.eq:Eqn (Q [av.spec,cX.spec,di.spec]) cQ.spec .none:=eqn Tryz.f168
theorem mG.eq:Eqn (Q [iG.spec,dt.spec,cn.spec,fy.spec]) mG.spec .none:=eqn Tryz.f399
theorem di.eq:Eqn (Q [jb 70 (.int .u32),jb 80 (.int .u16)]) di.spec .none:=eqn Tryz.f166
theorem lp.eq:Eqn (Q [aQ.spec,ga.spec]) lp.spec .none:=eqn Tryz.f247
theorem aM.eq:Eqn (Q [bW.spec]) aM.spec .none:=eqn Tryz.f184
theorem ee.eq:Eqn (Q [gn.spec]) ee.spec .none:=eqn Tryz.f228
theorem cM.eq:Eqn (Q [eZ.spec]) cM.spec .none:=eqn Tryz.f436
theorem gh.eq:Eqn (Q [gZ.spec]) gh.spec .none:=eqn Tryz.f86
theorem fE.eq:Eqn (Q [db.spec]) fE.spec .none:=eqn Tryz.f317
theorem fH.eq:Eqn (Q [bO.spec]) fH.spec .none:=eqn Tryz.f54
theorem fe.eq:Eqn (Q []) fe.spec .none:=eqn Tryz.f384
theorem gW.eq:Eqn (Q []) gW.spec .none:=eqn Tryz.f313
theorem iP.eq:Eqn (Q []) iP.spec .none:=eqn Tryz.f144
theorem iH.eq:Eqn (Q []) iH.spec .none:=eqn Tryz.f309
end Go.Mach

