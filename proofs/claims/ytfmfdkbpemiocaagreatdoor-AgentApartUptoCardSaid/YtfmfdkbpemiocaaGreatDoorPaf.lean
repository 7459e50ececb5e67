/-
  Shared texts of the proofs of the laws renlaw13.AgentRefuses, renlaw13.AgentIs and renlaw13.AgentApart: each returns true for every input of the stated bulk and leaves its arguments as they were; no further condition.
  By an AI agent; no person has read it.
-/
import Derived.Test.YtfmfdkbpemiocaaGreatDoorPaa
import Derived.Test.YtfmfdkbpemiocaaGreatDoorPae
import Derived.KernelRfl
import Derived.Test.YtfmfdkbpemiocaaGreatDoorProg
set_option linter.all false
set_option linter.deprecated false
set_option linter.unusedVariables false
set_option maxRecDepth 100000
noncomputable section
namespace Go.Mach
open Go.Proofs
abbrev pc(a:List (Nat×VSh))(b:List Nat):Ann:=.piece [(.nrm,⟨a,b,[],[]⟩)] .none
def owned:List (TypeId×Sh):=[(131,kW)]
noncomputable abbrev Q(l:List Spec):Env:={ P:=Tryz.prog,specs:=l,ety:=mP Tryz.prog owned }
def gL.spec:Spec:=gL.g.sp 67 λx=>R.gL x
def lB.spec:Spec:=lB.g.sp 43 λx=>R.lB x
def mV.spec:Spec:=mV.g.sp 127 λx=>R.mV x
def mm.spec:Spec:=mm.g.sp 128 λx=>R.mm x
def eh.spec:Spec:=eh.g.sp 129 λx=>R.eh x.1 x.2
def gM.spec:Spec:=gM.g.sp 96 λx=>R.gM x
def iZ.spec:Spec:=iZ.g.sp 131 λx=>R.iZ x
def j5.spec:Spec:=j5.g.sp 133 λx=>R.j5 x
def fm.spec:Spec:=fm.g.sp 165 λx=>R.fm x
def bF.spec:Spec:=bF.g.sp 136 λx=>R.bF x.1 x.2.1 x.2.2
def ay.spec:Spec:=ay.g.sp 164 λx=>R.ay x.1 x.2
def lA.spec:Spec:=lA.g.sp 145 λx=>R.lA x
def gJ.spec:Spec:=gJ.g.sp 132 λx=>R.gJ x
def bN.spec:Spec:=bN.g.sp 136 λx=>R.bN x.1 x.2.1 x.2.2
def bY.spec:Spec:=bY.g.sp 164 λx=>R.bY x.1 x.2
def du.spec:Spec:=du.g.sp 198 λx=>R.du x.1 x.2
def az.spec:Spec:=az.g.sp 136 λx=>R.az x.1 x.2.1 x.2.2
def fG.spec:Spec:=fG.g.sp 167 λx=>R.fG x.1 x.2
def bh.spec:Spec:=bh.g.sp 136 λx=>R.bh x.1 x.2.1 x.2.2
def bE.spec:Spec:=bE.g.sp 66 λx=>R.bE x
def j6.spec:Spec:=j6.g.sp 199 λx=>R.j6 x
def iM.spec:Spec:=iM.g.sp 203 λx=>R.iM x
def dJ.spec:Spec:=dJ.g.sp 263 λx=>R.dJ x.1 x.2
def ch.spec:Spec:=ch.g.sp 236 λx=>R.ch x.1 x.2
def iT.spec:Spec:=iT.g.sp 200 λx=>R.iT x
def dI.spec:Spec:=dI.g.sp 218 λx=>R.dI x.1 x.2
def jR.spec:Spec:=jR.g.sp 188 λx=>R.jR x.1 x.2
def iB.spec:Spec:=iB.g.sp 202 λx=>R.iB x
def aw.spec:Spec:=aw.g.sp 237 λx=>R.aw x.1 x.2
def au.spec:Spec:=au.g.sp 201 λx=>R.au x.1 x.2
def jx.spec:Spec:=jx.g.sp 204 λx=>R.jx x
def lS.spec:Spec:=lS.g.sp 71 λx=>R.lS x
def fL.spec:Spec:=fL.g.sp 160 λ_=>R.fL
def eQ.spec:Spec:=eQ.g.sp 121 λx=>R.eQ x
def j7.spec:Spec:=j7.g.sp 238 λx=>R.j7 x
def cY.spec:Spec:=cY.g.sp 239 λx=>R.cY x
def fy.spec:Spec:=fy.g.sp 240 λx=>R.fy x
def lP.spec:Spec:=lP.g.sp 205 λx=>R.lP x
def gz.spec:Spec:=gz.g.sp 168 λx=>R.gz x
def eo.spec:Spec:=eo.g.sp 134 λx=>R.eo x
def fH.spec:Spec:=fH.g.sp 170 λx=>R.fH x
def lv.spec:Spec:=lv.g.sp 171 λx=>R.lv x
def gK.spec:Spec:=gK.g.sp 137 λx=>R.gK x
def fa.spec:Spec:=fa.g.sp 97 λx=>R.fa x
def lC.spec:Spec:=lC.g.sp 68 λx=>R.lC x
def cL.spec:Spec:=cL.g.sp 98 λx=>R.cL x.1 x.2
def al.spec:Spec:=al.g.sp 99 λx=>R.al x
def ic.spec:Spec:=ic.g.sp 138 λx=>R.ic x.1 x.2
def cS.spec:Spec:=cS.g.sp 177 λx=>R.cS x.1 x.2
def aj.spec:Spec:=aj.g.sp 141 λx=>R.aj x.1 x.2
def bO.spec:Spec:=bO.g.sp 180 λx=>R.bO x.1 x.2
def cB.spec:Spec:=cB.g.sp 173 λx=>R.cB x.1 x.2.1 x.2.2
def fD.spec:Spec:=fD.g.sp 209 λx=>R.fD x
def gl.spec:Spec:=gl.g.sp 104 λx=>R.gl x
def bn.spec:Spec:=bn.g.sp 110 λx=>R.bn x.1 x.2
def aP.spec:Spec:=aP.g.sp 78 λx=>R.aP x.1 x.2
def mo.spec:Spec:=mo.g.sp 211 λx=>R.mo x.1 x.2
def gn.spec:Spec:=gn.g.sp 109 λx=>R.gn x
def fB.spec:Spec:=fB.g.sp 140 λx=>R.fB x
def cF.spec:Spec:=cF.g.sp 172 λx=>R.cF x.1 x.2
def kH.spec:Spec:=kH.g.sp 294 λx=>R.kH x
def ev.spec:Spec:=ev.g.sp 175 λx=>R.ev x
def parse_parser_item.spec(G:cK):Spec:=parse_parser_item.g.sp 100 λx=>G.parse_parser_item x
def parse_parser_statement.spec(G:cK):Spec:=parse_parser_statement.g.sp 144 λx=>G.parse_parser_statement x
def parse_parser_assign.spec(G:cK):Spec:=parse_parser_assign.g.sp 174 λx=>G.parse_parser_assign x
def parse_parser_simple.spec(G:cK):Spec:=parse_parser_simple.g.sp 182 λx=>G.parse_parser_simple x
def parse_parser_cond.spec(G:cK):Spec:=parse_parser_cond.g.sp 210 λx=>G.parse_parser_cond x
def parse_parser_either.spec(G:cK):Spec:=parse_parser_either.g.sp 244 λx=>G.parse_parser_either x
def parse_parser_level.spec(G:cK):Spec:=parse_parser_level.g.sp 265 λx=>G.parse_parser_level x.1 x.2
def parse_parser_both.spec(G:cK):Spec:=parse_parser_both.g.sp 266 λx=>G.parse_parser_both x.1 x.2
def parse_parser_unary.spec(G:cK):Spec:=parse_parser_unary.g.sp 293 λx=>G.parse_parser_unary x
def parse_parser_calls.spec(G:cK):Spec:=parse_parser_calls.g.sp 331 λx=>G.parse_parser_calls x
def parse_parser_head.spec(G:cK):Spec:=parse_parser_head.g.sp 379 λx=>G.parse_parser_head x
def parse_parser_arguments.spec(G:cK):Spec:=parse_parser_arguments.g.sp 380 λx=>G.parse_parser_arguments x
def parse_parser_member.spec(G:cK):Spec:=parse_parser_member.g.sp 381 λx=>G.parse_parser_member x.1 x.2
def parse_parser_primary.spec(G:cK):Spec:=parse_parser_primary.g.sp 420 λx=>G.parse_parser_primary x
def parse_parser_list.spec(G:cK):Spec:=parse_parser_list.g.sp 421 λx=>G.parse_parser_list x.1 x.2
def dY.spec:Spec:=dY.g.sp 69 λx=>R.dY x
def iF.spec(fu:Nat):Spec:=iF.g.sp 101 λx=>R.iF fu x.1 x.2
def ku.spec:Spec:=ku.g.sp 70 λx=>R.ku x
def ig.spec:Spec:=ig.g.sp 53 λx=>R.ig x
def dX.spec:Spec:=dX.g.sp 52 λx=>R.dX x
def kG.spec:Spec:=kG.g.sp 44 λx=>R.kG x
def jm.spec:Spec:=jm.g.sp 49 λx=>R.jm x
def lM.spec:Spec:=lM.g.sp 72 λx=>R.lM x
def kL.spec:Spec:=kL.g.sp 103 λx=>R.kL x
def ib.spec:Spec:=ib.g.sp 102 λx=>R.ib x
def p8.env(P:Program):Env:={ P:=P,specs:=[],ety:=mP P owned }
def eE.spec:Spec:=eE.g.sp 73 λx=>R.eE x
def gY.spec:Spec:=gY.g.sp 50 λx=>R.gY x
def hJ.spec:Spec:=hJ.g.sp 105 λx=>R.hJ x.1 x.2
def jw.spec:Spec:=jw.g.sp 74 λx=>R.jw x.1 x.2
def kP.spec:Spec:=kP.g.sp 75 λx=>R.kP x
def fC.spec:Spec:=fC.g.sp 106 λx=>R.fC x
def lp.spec:Spec:=lp.g.sp 107 λx=>R.lp x
def dk.spec:Spec:=dk.g.sp 108 λx=>R.dk x
def lK.spec:Spec:=lK.g.sp 76 λx=>R.lK x.1 x.2
def iU.spec:Spec:=iU.g.sp 77 λx=>R.iU x.1 x.2
def jQ.spec:Spec:=jQ.g.sp 51 λx=>R.jQ x.1 x.2
def mF.spec:Spec:=mF.g.sp 37 λx=>R.mF x
def kS.spec:Spec:=kS.g.sp 37 λx=>R.kS x
def gR.spec:Spec:=gR.g.sp 38 λx=>R.gR x
def fe.spec:Spec:=fe.g.sp 79 λx=>R.fe x
def gf.spec:Spec:=gf.g.sp 80 λx=>R.gf x.1 x.2
def ed.spec:Spec:=ed.g.sp 81 λx=>R.ed x
def ep.spec:Spec:=ep.g.sp 55 λx=>R.ep x.1 x.2
def jW.spec:Spec:=jW.g.sp 54 λx=>R.jW x
def iA.spec:Spec:=iA.g.sp 83 λx=>R.iA x.1 x.2
def bC.spec:Spec:=bC.g.sp 111 λx=>R.bC x.1 x.2
def av.spec:Spec:=av.g.sp 82 λx=>R.av x.1 x.2
def jV.spec:Spec:=jV.g.sp 56 λx=>R.jV x.1 x.2.1 x.2.2
def ef.spec:Spec:=ef.g.sp 57 λx=>R.ef x.1 x.2.1 x.2.2
def iP.spec:Spec:=iP.g.sp 59 λx=>R.iP x.1 x.2.1 x.2.2
def bL.spec:Spec:=bL.g.sp 84 λx=>R.bL x.1 x.2
def bD.spec:Spec:=bD.g.sp 58 λx=>R.bD x.1 x.2
def jd.spec:Spec:=jd.g.sp 85 λx=>R.jd x
def fh.spec:Spec:=fh.g.sp 86 λx=>R.fh x.1 x.2
def jT.spec:Spec:=jT.g.sp 60 λx=>R.jT x.1 x.2.1 x.2.2
def jX.spec:Spec:=jX.g.sp 39 λx=>R.jX x.1 x.2.1 x.2.2
def bj.spec:Spec:=bj.g.sp 27 λx=>R.bj x
def gG.spec:Spec:=gG.g.sp 29 λx=>R.gG x
def ak.spec:Spec:=ak.g.sp 16 λx=>R.ak x
def fM.spec:Spec:=fM.g.sp 11 λx=>R.fM x
def cb.spec:Spec:=cb.g.sp 30 λx=>R.cb x
def mO.spec:Spec:=mO.g.sp 40 λx=>R.mO x
def eF.spec:Spec:=eF.g.sp 115 λx=>R.eF x
def gv.spec:Spec:=gv.g.sp 146 λx=>R.gv x
def fW.spec:Spec:=fW.g.sp 112 λx=>R.fW x.1 x.2
def ca.spec:Spec:=ca.g.sp 113 λx=>R.ca x.1 x.2
def ah.spec:Spec:=ah.g.sp 87 λx=>R.ah x.1 x.2
def cJ.spec:Spec:=cJ.g.sp 61 λx=>R.cJ x.1 x.2
def bX.spec:Spec:=bX.g.sp 94 λx=>R.bX x.1 x.2
def fX.spec:Spec:=fX.g.sp 148 λx=>R.fX x.1 x.2
def af.spec:Spec:=af.g.sp 147 λx=>R.af x.1 x.2
def dU.spec:Spec:=dU.g.sp 114 λx=>R.dU x.1 x.2.1 x.2.2
def bW.spec:Spec:=bW.g.sp 88 λx=>R.bW x.1 x.2.1 x.2.2.1 x.2.2.2.1 x.2.2.2.2.1 x.2.2.2.2.2
def er.spec:Spec:=er.g.sp 187 λx=>R.er x.1 x.2
def ae.spec:Spec:=ae.g.sp 186 λx=>R.ae x.1 x.2
def dm.spec:Spec:=dm.g.sp 149 λx=>R.dm x.1 x.2.1 x.2.2
def cH.spec:Spec:=cH.g.sp 116 λx=>R.cH x.1 x.2.1 x.2.2.1 x.2.2.2
def dM.spec:Spec:=dM.g.sp 117 λx=>R.dM x.1 x.2.1 x.2.2.1 x.2.2.2.1 x.2.2.2.2
def dC.spec:Spec:=dC.g.sp 89 λx=>R.dC x.1 x.2.1 x.2.2
def cr.spec:Spec:=cr.g.sp 62 λx=>R.cr x.1 x.2.1 x.2.2
def cT.spec:Spec:=cT.g.sp 118 λx=>R.cT x
def fQ.spec:Spec:=fQ.g.sp 156 λx=>R.fQ x.1 x.2.1 x.2.2
def ei.spec:Spec:=ei.g.sp 190 λx=>R.ei x.1 x.2
def jc.spec:Spec:=jc.g.sp 192 λx=>R.jc x.1 x.2
def fU.spec:Spec:=fU.g.sp 229 λx=>R.fU x.1 x.2
def dv.spec:Spec:=dv.g.sp 194 λx=>R.dv x.1 x.2
def cZ.spec:Spec:=cZ.g.sp 219 λx=>R.cZ x
def eI.spec:Spec:=eI.g.sp 220 λx=>R.eI x
def cd.spec:Spec:=cd.g.sp 221 λx=>R.cd x
def eD.spec:Spec:=eD.g.sp 267 λx=>R.eD x.1 x.2.1 x.2.2
def dE.spec:Spec:=dE.g.sp 295 λx=>R.dE x.1 x.2
def aF.spec:Spec:=aF.g.sp 268 λx=>R.aF x.1 x.2
def gj.spec:Spec:=gj.g.sp 296 λ_=>R.gj
def gC.spec:Spec:=gC.g.sp 373 λx=>R.gC x
def fo.spec:Spec:=fo.g.sp 374 λ_=>R.fo
def cu.spec:Spec:=cu.g.sp 327 λ_=>R.cu
def dD.spec:Spec:=dD.g.sp 297 λx=>R.dD x
def iY.spec:Spec:=iY.g.sp 269 λx=>R.iY x
def ko.spec:Spec:=ko.g.sp 270 λx=>R.ko x
def aL.spec:Spec:=aL.g.sp 224 λx=>R.aL x
def eJ.spec:Spec:=eJ.g.sp 246 λx=>R.eJ x.1 x.2.1 x.2.2.1 x.2.2.2
def fJ.spec:Spec:=fJ.g.sp 222 λx=>R.fJ x.1 x.2.1 x.2.2
def bQ.spec:Spec:=bQ.g.sp 223 λx=>R.bQ x
def iu.spec:Spec:=iu.g.sp 159 λx=>R.iu x
def mL.spec:Spec:=mL.g.sp 120 λx=>R.mL x
def cM.spec:Spec:=cM.g.sp 91 λx=>R.cM x
def fq.spec:Spec:=fq.g.sp 289 λx=>R.fq x
def iQ.spec:Spec:=iQ.g.sp 290 λx=>R.iQ x
def jg.spec:Spec:=jg.g.sp 257 λx=>R.jg x.1 x.2
def iO.spec:Spec:=iO.g.sp 228 λx=>R.iO x
def gE.spec:Spec:=gE.g.sp 247 λx=>R.gE x
def cC.spec:Spec:=cC.g.sp 298 λx=>R.cC x
def kv.spec:Spec:=kv.g.sp 302 λx=>R.kv x
def cQ.spec:Spec:=cQ.g.sp 276 λx=>R.cQ x
def dF.spec:Spec:=dF.g.sp 123 λx=>R.dF x
def iN.spec:Spec:=iN.g.sp 125 λx=>R.iN x
def ff.spec:Spec:=ff.g.sp 124 λx=>R.ff x
def eK.spec:Spec:=eK.g.sp 124 λx=>R.eK x
def ey.spec:Spec:=ey.g.sp 235 λx=>R.ey x.1 x.2
def lN.spec:Spec:=lN.g.sp 299 λx=>R.lN x
def gi.spec:Spec:=gi.g.sp 333 λx=>R.gi x
def jy.spec:Spec:=jy.g.sp 332 λx=>R.jy x
def mJ.spec:Spec:=mJ.g.sp 300 λx=>R.mJ x.1 x.2.1 x.2.2
def jj.spec:Spec:=jj.g.sp 272 λx=>R.jj x.1 x.2
def cN.spec:Spec:=cN.g.sp 271 λx=>R.cN x.1 x.2.1 x.2.2
def bU.spec:Spec:=bU.g.sp 286 λx=>R.bU x.1 x.2
def iG.spec:Spec:=iG.g.sp 284 λx=>R.iG x
def iw.spec:Spec:=iw.g.sp 301 λx=>R.iw x
def gS.spec:Spec:=gS.g.sp 273 λx=>R.gS x.1 x.2
def kJ.spec:Spec:=kJ.g.sp 328 λx=>R.kJ x
def ly.spec:Spec:=ly.g.sp 92 λx=>R.ly x
def bx.spec:Spec:=bx.g.sp 126 λx=>R.bx x
def kz.spec:Spec:=kz.g.sp 93 λx=>R.kz x
def de.spec:Spec:=de.g.sp 64 λx=>R.de x
def cD.spec:Spec:=cD.g.sp 375 λx=>R.cD x
def fZ.spec:Spec:=fZ.g.sp 310 λx=>R.fZ x
def gW.spec:Spec:=gW.g.sp 329 λx=>R.gW x.1 x.2.1 x.2.2
def bI.spec:Spec:=bI.g.sp 65 λx=>R.bI x.1 x.2
def c7.spec:Spec:=c7.g.sp 285 λx=>R.c7 x.1 x.2.1 x.2.2
def eG.spec:Spec:=eG.g.sp 311 λx=>R.eG x.1 x.2.1 x.2.2
def iK.spec:Spec:=iK.g.sp 312 λx=>R.iK x
def bo.spec:Spec:=bo.g.sp 313 λx=>R.bo x.1 x.2
def gU.spec:Spec:=gU.g.sp 376 λx=>R.gU x.1 x.2.1 x.2.2.1 x.2.2.2.1 x.2.2.2.2
def qI.env(P:Program):Env:={ P:=P,specs:=[bX.spec],ety:=mP P owned }
def dS.spec:Spec:=dS.g.sp 368 λx=>R.dS x.1 x.2
def b9.spec:Spec:=b9.g.sp 371 λx=>R.b9 x
def fK.spec:Spec:=fK.g.sp 386 λx=>R.fK x
def cG.spec:Spec:=cG.g.sp 426 λx=>R.cG x
def fV.spec:Spec:=fV.g.sp 433 λx=>R.fV x.1 x.2
def bm.spec:Spec:=bm.g.sp 366 λx=>R.bm x.1 x.2
def qE.env(P:Program):Env:={ P:=P,specs:=[bX.spec],ety:=mP P owned }
def dA.spec:Spec:=dA.g.sp 408 λx=>R.dA x.1 x.2.1 x.2.2.1 x.2.2.2.1 x.2.2.2.2.1 x.2.2.2.2.2
def iD.spec:Spec:=iD.g.sp 449 λx=>R.iD x.1 x.2
def jt.spec:Spec:=jt.g.sp 434 λx=>R.jt x.1 x.2
def ej.spec:Spec:=ej.g.sp 440 λx=>R.ej x.1 x.2
def jq.spec:Spec:=jq.g.sp 435 λx=>R.jq x.1 x.2
def dV.spec:Spec:=dV.g.sp 409 λx=>R.dV x.1 x.2
def dy.spec:Spec:=dy.g.sp 377 λx=>R.dy x.1 x.2.1 x.2.2
def fF.spec:Spec:=fF.g.sp 378 λx=>R.fF x.1 x.2.1 x.2.2.1 x.2.2.2
def eS.spec:Spec:=eS.g.sp 330 λx=>R.eS x.1 x.2.1 x.2.2
def ea.spec:Spec:=ea.g.sp 288 λx=>R.ea x.1 x.2
def fI.spec:Spec:=fI.g.sp 275 λx=>R.fI x.1 x.2.1 x.2.2
def ky.spec:Spec:=ky.g.sp 305 λx=>R.ky x
def lg.spec:Spec:=lg.g.sp 335 λx=>R.lg x.1 x.2
def jN.spec:Spec:=jN.g.sp 334 λx=>R.jN x.1 x.2
def kp.spec:Spec:=kp.g.sp 382 λx=>R.kp x
def kX.spec:Spec:=kX.g.sp 336 λx=>R.kX x.1 x.2
def jh.spec:Spec:=jh.g.sp 383 λx=>R.jh x.1 x.2.1 x.2.2
def jO.spec:Spec:=jO.g.sp 337 λx=>R.jO x.1 x.2
def lO.spec:Spec:=lO.g.sp 304 λx=>R.lO x.1 x.2
def eg.spec:Spec:=eg.g.sp 303 λx=>R.eg x.1 x.2
def eM.spec:Spec:=eM.g.sp 338 λx=>R.eM x
def nV.spec:Spec:=nV.g.sp 339 λx=>R.nV x
def lU.spec:Spec:=lU.g.sp 307 λx=>R.lU x.1 x.2
def cc.spec:Spec:=cc.g.sp 306 λx=>R.cc x.1 x.2
def kf.spec:Spec:=kf.g.sp 277 λx=>R.kf x.1 x.2
def fg.spec:Spec:=fg.g.sp 308 λx=>R.fg x.1 x.2.1 x.2.2.1 x.2.2.2
def ji.spec:Spec:=ji.g.sp 459 λx=>R.ji x
def kh.spec:Spec:=kh.g.sp 446 λx=>R.kh x
def jI.spec:Spec:=jI.g.sp 460 λx=>R.jI x
def jU.spec:Spec:=jU.g.sp 447 λx=>R.jU x
def kQ.spec:Spec:=kQ.g.sp 234 λx=>R.kQ x
def kj.spec:Spec:=kj.g.sp 197 λx=>R.kj x
def iV.spec:Spec:=iV.g.sp 448 λx=>R.iV x
def ij.spec:Spec:=ij.g.sp 432 λx=>R.ij x
def fp.spec:Spec:=fp.g.sp 405 λx=>R.fp x
def my.spec:Spec:=my.g.sp 461 λx=>R.my x.1 x.2
def ke.spec:Spec:=ke.g.sp 462 λx=>R.ke x
def jF.spec:Spec:=jF.g.sp 451 λx=>R.jF x.1 x.2
def lj.spec:Spec:=lj.g.sp 439 λx=>R.lj x
def gD.spec:Spec:=gD.g.sp 422 λx=>R.gD x.1 x.2
def fx.spec:Spec:=fx.g.sp 423 λx=>R.fx x.1 x.2
def iq.spec:Spec:=iq.g.sp 384 λx=>R.iq x.1 x.2
def ia.spec:Spec:=ia.g.sp 425 λx=>R.ia x.1 x.2
def eX.spec:Spec:=eX.g.sp 424 λx=>R.eX x.1 x.2.1 x.2.2.1 x.2.2.2
def dG.spec:Spec:=dG.g.sp 385 λx=>R.dG x.1 x.2.1 x.2.2.1 x.2.2.2.1 x.2.2.2.2.1 x.2.2.2.2.2.1 x.2.2.2.2.2.2
def iE.spec:Spec:=iE.g.sp 340 λx=>R.iE x.1 x.2.1 x.2.2.1 x.2.2.2
def iH.spec:Spec:=iH.g.sp 309 λx=>R.iH x.1 x.2.1 x.2.2
def gF.spec:Spec:=gF.g.sp 278 λx=>R.gF x.1 x.2.1 x.2.2.1 x.2.2.2
def ik.spec:Spec:=ik.g.sp 279 λx=>R.ik x.1 x.2.1 x.2.2
def ki.spec:Spec:=ki.g.sp 314 λx=>R.ki x.1 x.2
def fE.spec:Spec:=fE.g.sp 341 λx=>R.fE x.1 x.2
def mv.spec:Spec:=mv.g.sp 387 λx=>R.mv x.1 x.2
def mw.spec:Spec:=mw.g.sp 388 λx=>R.mw x.1 x.2
def ju.spec:Spec:=ju.g.sp 441 λx=>R.ju x.1 x.2
def iW.spec:Spec:=iW.g.sp 427 λx=>R.iW x.1 x.2
def nD.spec:Spec:=nD.g.sp 389 λx=>R.nD x.1 x.2
def nE.spec:Spec:=nE.g.sp 390 λx=>R.nE x.1 x.2
def kg.spec:Spec:=kg.g.sp 342 λx=>R.kg x.1 x.2.1 x.2.2
def nB.spec:Spec:=nB.g.sp 343 λx=>R.nB x.1 x.2
def jl.spec:Spec:=jl.g.sp 391 λx=>R.jl x
def ct.spec:Spec:=ct.g.sp 392 λx=>R.ct x
def fi.spec:Spec:=fi.g.sp 394 λx=>R.fi x
def jo.spec:Spec:=jo.g.sp 393 λx=>R.jo x.1 x.2
def gu.spec:Spec:=gu.g.sp 395 λx=>R.gu x.1 x.2
def mr.spec:Spec:=mr.g.sp 344 λx=>R.mr x.1 x.2
def mu.spec:Spec:=mu.g.sp 345 λx=>R.mu x.1 x.2
def nA.spec:Spec:=nA.g.sp 346 λx=>R.nA x.1 x.2
def jz.spec:Spec:=jz.g.sp 315 λx=>R.jz x.1 x.2.1 x.2.2
def kZ.spec:Spec:=kZ.g.sp 316 λx=>R.kZ x.1 x.2.1 x.2.2
def dw.spec:Spec:=dw.g.sp 442 λx=>R.dw x
def dP.spec:Spec:=dP.g.sp 428 λx=>R.dP x.1 x.2
def cW.spec:Spec:=cW.g.sp 396 λx=>R.cW x.1 x.2
def lL.spec:Spec:=lL.g.sp 347 λx=>R.lL x.1 x.2
def lV.spec:Spec:=lV.g.sp 397 λx=>R.lV x.1 x.2
def gp.spec:Spec:=gp.g.sp 398 λx=>R.gp x.1 x.2
def kR.spec:Spec:=kR.g.sp 399 λx=>R.kR x.1 x.2
def js.spec:Spec:=js.g.sp 348 λx=>R.js x.1 x.2
def iJ.spec:Spec:=iJ.g.sp 317 λx=>R.iJ x.1 x.2.1 x.2.2.1 x.2.2.2
def dQ.spec:Spec:=dQ.g.sp 400 λx=>R.dQ x.1 x.2
def lJ.spec:Spec:=lJ.g.sp 349 λx=>R.lJ x.1 x.2
def gh.spec:Spec:=gh.g.sp 318 λx=>R.gh x.1 x.2
def jf.spec:Spec:=jf.g.sp 350 λx=>R.jf x
def gB.spec:Spec:=gB.g.sp 351 λx=>R.gB x
def lx.spec:Spec:=lx.g.sp 401 λx=>R.lx x.1 x.2
def kO.spec:Spec:=kO.g.sp 352 λx=>R.kO x.1 x.2
def jr.spec:Spec:=jr.g.sp 319 λx=>R.jr x.1 x.2
def gr.spec:Spec:=gr.g.sp 280 λx=>R.gr x.1 x.2.1 x.2.2
def bc.spec:Spec:=bc.g.sp 322 λx=>R.bc x.1 x.2
def fj.spec:Spec:=fj.g.sp 404 λx=>R.fj x
def kc.spec:Spec:=kc.g.sp 365 λx=>R.kc x
def dB.spec:Spec:=dB.g.sp 321 λx=>R.dB x
def eA.spec:Spec:=eA.g.sp 323 λx=>R.eA x.1 x.2
def eU.spec:Spec:=eU.g.sp 367 λx=>R.eU x.1 x.2
def eC.spec:Spec:=eC.g.sp 324 λx=>R.eC x.1 x.2
def cw.spec:Spec:=cw.g.sp 437 λx=>R.cw x.1 x.2
def cV.spec:Spec:=cV.g.sp 419 λx=>R.cV x.1 x.2
def db.spec:Spec:=db.g.sp 369 λx=>R.db x.1 x.2
def eu.spec:Spec:=eu.g.sp 370 λx=>R.eu x
def jk.spec:Spec:=jk.g.sp 325 λx=>R.jk x
def gO.spec:Spec:=gO.g.sp 372 λx=>R.gO x.1 x.2.1 x.2.2.1 x.2.2.2.1 x.2.2.2.2
def eV.spec:Spec:=eV.g.sp 326 λx=>R.eV x.1 x.2.1 x.2.2
def cR.spec:Spec:=cR.g.sp 430 λx=>R.cR x.1 x.2
def aN.spec:Spec:=aN.g.sp 452 λx=>R.aN x.1 x.2.1 x.2.2.1 x.2.2.2
def aM.spec:Spec:=aM.g.sp 467 λx=>R.aM x.1 x.2.1 x.2.2.1 x.2.2.2.1 x.2.2.2.2
def aX.spec:Spec:=aX.g.sp 463 λx=>R.aX x.1 x.2.1 x.2.2.1 x.2.2.2.1 x.2.2.2.2
def aH.spec(fu:Nat):Spec:=aH.g.sp 453 λx=>R.aH fu x.1 x.2.1 x.2.2.1 x.2.2.2.1 x.2.2.2.2
def aY.spec:Spec:=aY.g.sp 443 λx=>R.aY x.1 x.2.1 x.2.2
def aU.spec:Spec:=aU.g.sp 429 λx=>R.aU x.1 x.2
def fT.spec:Spec:=fT.g.sp 402 λx=>R.fT x.1 x.2
def gP.spec:Spec:=gP.g.sp 353 λx=>R.gP x.1 x.2
def eW.spec:Spec:=eW.g.sp 354 λx=>R.eW x.1 x.2.1 x.2.2
def gT.spec:Spec:=gT.g.sp 355 λx=>R.gT x.1 x.2.1 x.2.2
def fk.spec:Spec:=fk.g.sp 356 λx=>R.fk x.1 x.2
def kn.spec:Spec:=kn.g.sp 403 λx=>R.kn x
def dh.spec:Spec:=dh.g.sp 357 λx=>R.dh x.1 x.2.1 x.2.2
def eT.spec:Spec:=eT.g.sp 358 λx=>R.eT x.1 x.2
def dz.spec:Spec:=dz.g.sp 359 λx=>R.dz x.1 x.2.1 x.2.2
def cX.spec:Spec:=cX.g.sp 406 λx=>R.cX x.1 x.2
def cU.spec:Spec:=cU.g.sp 360 λx=>R.cU x.1 x.2
def cP.spec:Spec:=cP.g.sp 410 λx=>R.cP x.1 x.2
def b8.spec:Spec:=b8.g.sp 362 λx=>R.b8 x.1 x.2
def gy.spec:Spec:=gy.g.sp 407 λx=>R.gy x.1 x.2
def eR.spec:Spec:=eR.g.sp 361 λx=>R.eR x.1 x.2.1 x.2.2.1 x.2.2.2
def fY.spec:Spec:=fY.g.sp 411 λx=>R.fY x.1 x.2.1 x.2.2
def ec.spec:Spec:=ec.g.sp 418 λx=>R.ec x
def fc.spec:Spec:=fc.g.sp 412 λx=>R.fc x.1 x.2.1 x.2.2.1 x.2.2.2.1 x.2.2.2.2.1 x.2.2.2.2.2
def di.spec:Spec:=di.g.sp 413 λx=>R.di x.1 x.2.1 x.2.2.1 x.2.2.2.1 x.2.2.2.2
def gA.spec:Spec:=gA.g.sp 414 λx=>R.gA x.1 x.2
def iy.spec:Spec:=iy.g.sp 436 λx=>R.iy x.1 x.2.1 x.2.2.1 x.2.2.2
def dn.spec:Spec:=dn.g.sp 415 λx=>R.dn x.1 x.2.1 x.2.2.1 x.2.2.2
def iI.spec:Spec:=iI.g.sp 416 λx=>R.iI x
def eZ.spec:Spec:=eZ.g.sp 363 λx=>R.eZ x.1 x.2.1 x.2.2
def eval_run_list.spec(G:ai):Spec:=eval_run_list.g.sp 63 λx=>G.eval_run_list x.1 x.2.1 x.2.2
def eval_run_statement.spec(G:ai):Spec:=eval_run_statement.g.sp 90 λx=>G.eval_run_statement x.1 x.2.1 x.2.2.1 x.2.2.2
def eval_run_act.spec(G:ai):Spec:=eval_run_act.g.sp 119 λx=>G.eval_run_act x.1 x.2.1 x.2.2.1 x.2.2.2
def eval_run_expression.spec(G:ai):Spec:=eval_run_expression.g.sp 150 λx=>G.eval_run_expression x.1 x.2.1 x.2.2
def eval_run_block.spec(G:ai):Spec:=eval_run_block.g.sp 151 λx=>G.eval_run_block x.1 x.2.1 x.2.2
def eval_run_decls.spec(G:ai):Spec:=eval_run_decls.g.sp 152 λx=>G.eval_run_decls x.1 x.2.1 x.2.2
def eval_run_choice.spec(G:ai):Spec:=eval_run_choice.g.sp 153 λx=>G.eval_run_choice x.1 x.2.1 x.2.2
def eval_run_while.spec(G:ai):Spec:=eval_run_while.g.sp 154 λx=>G.eval_run_while x.1 x.2.1 x.2.2.1 x.2.2.2
def eval_run_loop.spec(G:ai):Spec:=eval_run_loop.g.sp 155 λx=>G.eval_run_loop x.1 x.2.1 x.2.2.1 x.2.2.2
def eval_run_try.spec(G:ai):Spec:=eval_run_try.g.sp 157 λx=>G.eval_run_try x.1 x.2.1 x.2.2
def eval_run_value.spec(G:ai):Spec:=eval_run_value.g.sp 189 λx=>G.eval_run_value x.1 x.2.1 x.2.2
def eval_run_asked.spec(G:ai):Spec:=eval_run_asked.g.sp 191 λx=>G.eval_run_asked x.1 x.2.1 x.2.2
def eval_run_first.spec(G:ai):Spec:=eval_run_first.g.sp 193 λx=>G.eval_run_first x.1 x.2.1 x.2.2
def eval_run_catch.spec(G:ai):Spec:=eval_run_catch.g.sp 195 λx=>G.eval_run_catch x.1 x.2.1 x.2.2.1 x.2.2.2.1 x.2.2.2.2
def eval_run_array.spec(G:ai):Spec:=eval_run_array.g.sp 225 λx=>G.eval_run_array x.1 x.2.1 x.2.2
def eval_run_object.spec(G:ai):Spec:=eval_run_object.g.sp 226 λx=>G.eval_run_object x.1 x.2.1 x.2.2
def eval_run_operation.spec(G:ai):Spec:=eval_run_operation.g.sp 227 λx=>G.eval_run_operation x.1 x.2.1 x.2.2.1 x.2.2.2
def eval_run_unary.spec(G:ai):Spec:=eval_run_unary.g.sp 248 λx=>G.eval_run_unary x.1 x.2.1 x.2.2.1 x.2.2.2
def eval_run_step.spec(G:ai):Spec:=eval_run_step.g.sp 249 λx=>G.eval_run_step x.1 x.2.1 x.2.2
def eval_run_binary.spec(G:ai):Spec:=eval_run_binary.g.sp 250 λx=>G.eval_run_binary x.1 x.2.1 x.2.2
def eval_run_logic.spec(G:ai):Spec:=eval_run_logic.g.sp 251 λx=>G.eval_run_logic x.1 x.2.1 x.2.2
def eval_run_assign.spec(G:ai):Spec:=eval_run_assign.g.sp 252 λx=>G.eval_run_assign x.1 x.2.1 x.2.2
def eval_run_callee.spec(G:ai):Spec:=eval_run_callee.g.sp 253 λx=>G.eval_run_callee x.1 x.2.1 x.2.2
def eval_run_arguments.spec(G:ai):Spec:=eval_run_arguments.g.sp 254 λx=>G.eval_run_arguments x.1 x.2.1 x.2.2
def eval_run_fresh.spec(G:ai):Spec:=eval_run_fresh.g.sp 255 λx=>G.eval_run_fresh x.1 x.2.1 x.2.2
def eval_run_property.spec(G:ai):Spec:=eval_run_property.g.sp 256 λx=>G.eval_run_property x.1 x.2.1 x.2.2
def eval_run_parts.spec(G:ai):Spec:=eval_run_parts.g.sp 274 λx=>G.eval_run_parts x.1 x.2.1 x.2.2
def eval_run_called.spec(G:ai):Spec:=eval_run_called.g.sp 281 λx=>G.eval_run_called x.1 x.2.1 x.2.2
def eval_run_call.spec(G:ai):Spec:=eval_run_call.g.sp 282 λx=>G.eval_run_call x.1 x.2.1 x.2.2.1 x.2.2.2
def eval_run_builds.spec(G:ai):Spec:=eval_run_builds.g.sp 283 λx=>G.eval_run_builds x.1 x.2.1 x.2.2
def eval_run_apply.spec(G:ai):Spec:=eval_run_apply.g.sp 287 λx=>G.eval_run_apply x.1 x.2.1 x.2.2.1 x.2.2.2
def eval_run_does.spec(G:ai):Spec:=eval_run_does.g.sp 320 λx=>G.eval_run_does x.1 x.2.1 x.2.2.1 x.2.2.2
def eval_run_host.spec(G:ai):Spec:=eval_run_host.g.sp 364 λx=>G.eval_run_host x.1 x.2.1 x.2.2
def eval_run_receives.spec(G:ai):Spec:=eval_run_receives.g.sp 417 λx=>G.eval_run_receives x.1 x.2
def eB.spec:Spec:=eB.g.sp 41 λx=>R.eB x
def eY.spec:Spec:=eY.g.sp 42 λx=>R.eY x.1 x.2
def dN.spec:Spec:=dN.g.sp 28 λx=>R.dN x.1 x.2.1 x.2.2
def bA.spec:Spec:=bA.g.sp 31 λx=>R.bA x
def aZ.spec:Spec:=aZ.g.sp 18 λx=>R.aZ x.1 x.2
def aT.spec:Spec:=aT.g.sp 17 λx=>R.aT x
def pk.env(P:Program):Env:={ P:=P,specs:=[bA.spec,cb.spec,bj.spec,fM.spec],ety:=mP P owned }
def bB.spec:Spec:=bB.g.sp 13 λ_=>R.bB
def gV.spec:Spec:=gV.g.sp 26 λx=>R.gV x.1 x.2
def jS.spec:Spec:=jS.g.sp 8 λx=>R.jS x
def iS.spec:Spec:=iS.g.sp 9 λx=>R.iS x
def gH.spec:Spec:=gH.g.sp 10 λx=>R.gH x
def dd.spec:Spec:=dd.g.sp 14 λx=>R.dd x.1 x.2.1 x.2.2
def bJ.spec:Spec:=bJ.g.sp 20 λx=>R.bJ x
def gZ.spec:Spec:=gZ.g.sp 33 λx=>R.gZ x.1 x.2
def bt.spec:Spec:=bt.g.sp 19 λx=>R.bt x.1 x.2
def nN.env(P:Program):Env:={ P:=P,specs:=[bA.spec,cb.spec,bj.spec,fM.spec],ety:=mP P owned }
def cO.spec:Spec:=cO.g.sp 4 λx=>R.cO x.1 x.2.1 x.2.2
def iz.spec:Spec:=iz.g.sp 12 λx=>R.iz x.1 x.2.1 x.2.2
def bl.spec:Spec:=bl.g.sp 22 λx=>R.bl x
def kN.spec:Spec:=kN.g.sp 34 λx=>R.kN x.1 x.2
def cI.spec:Spec:=cI.g.sp 21 λx=>R.cI x.1 x.2
def oz.env(P:Program):Env:={ P:=P,specs:=[bA.spec,cb.spec,bj.spec,fM.spec],ety:=mP P owned }
def dc.spec:Spec:=dc.g.sp 5 λx=>R.dc x.1 x.2.1 x.2.2
def dH.spec:Spec:=dH.g.sp 35 λx=>R.dH x
def cq.spec:Spec:=cq.g.sp 23 λx=>R.cq x
def nh.env(P:Program):Env:={ P:=P,specs:=[bA.spec,cb.spec,bj.spec,fM.spec],ety:=mP P owned }
def cn.spec:Spec:=cn.g.sp 6 λx=>R.cn x.1 x.2.1 x.2.2.1 x.2.2.2
abbrev zs0:Sh:=(.box (.seq (.frz (.list aE)) (.seq .i (.seq .i (.seq .i (.seq (.own (.frz aS)) (.seq .i (.seq .i (.seq .i (.seq .i (.seq .i (.seq .b (.seq .b (.seq (.frz (.int .u64)) (.seq (.frz (.int .u64)) (.seq .i (.seq .i (.seq (.frz (.list (.int .u16))) (.seq .i (.seq .i (.frz (.list (.int .u16)))))))))))))))))))))))
abbrev zs1:Sh:=(.own (.frz (.list (.int .u16))))
abbrev zs2:Sh:=(.box (.frz aC))
abbrev zs3:Sh:=(.box (.frz (.rose aE)))
abbrev zs4:Sh:=(.seq .i (.seq (.frz aJ) (.seq (.seq .b (.own .w)) (.seq (.own .h) .i))))
abbrev zs5:Sh:=(.frz (.int .u64))
abbrev zs6:Sh:=(.box (.frz aQ))
abbrev zs7:Sh:=(.frz (.list (.int .u16)))
noncomputable def zT:List Sh:=[.b,.i,zs0,.s,.own .w,.box (.seq .b (.own .w)),zs5,aR,zs3,fA,.box wy,zs1,.own .i,aI,zs2,.own (.frz bR),.own (.frz bK),.box (.frz aK),zs6,.box (.frz aJ),.own (.frz aS),.own .s,.own .y,.box (.seq .i (.seq .s zs4)),dW,.box (.seq .i (.seq .s (.seq (.own .h) (.seq (.frz aJ) (.seq (.seq .b (.own .w)) (.seq .i .b)))))),.box zs4,.own (.frz (.rose aE)),.own .h,.box (.frz aq),.bor (.own .h),.box (.seq .i (.seq .i (.seq (.own (.frz bR)) (.seq (.own (.frz bK)) (.seq .s (.seq .i (.seq .i (.seq zs4 (.seq .i (.seq .i (.seq .i (.seq .i (.own .y))))))))))))),.box kW,qb,.frz (.list (.int .u32)),.own (.frz aC),.w,.own (.frz cg),.box (.frz kC),zs7,.frz (.int .i32),.box (.frz cm),.box (.frz bK),jK]
abbrev zA(n:Nat):Ann:=annOf zT n
noncomputable def L0:List Spec:=[iC 32 (.int .u16),iC 46 (.int .u32),iC 47 (.int .i64),mI 120 45 aE,iC 185 (.int .u8),mI 112 183 bR,mI 112 184 bK,sK 122,sG 431,iC 158 .str,iC 48 aS]
noncomputable def kF(G:cK):List Spec:=[parse_parser_item.spec G,parse_parser_statement.spec G,parse_parser_assign.spec G,parse_parser_simple.spec G,parse_parser_cond.spec G,parse_parser_either.spec G,parse_parser_level.spec G,parse_parser_both.spec G,parse_parser_unary.spec G,parse_parser_calls.spec G,parse_parser_head.spec G,parse_parser_arguments.spec G,parse_parser_member.spec G,parse_parser_primary.spec G,parse_parser_list.spec G]
noncomputable def eO(G:ai):List Spec:=[eval_run_list.spec G,eval_run_statement.spec G,eval_run_act.spec G,eval_run_expression.spec G,eval_run_block.spec G,eval_run_decls.spec G,eval_run_choice.spec G,eval_run_while.spec G,eval_run_loop.spec G,eval_run_try.spec G,eval_run_value.spec G,eval_run_asked.spec G,eval_run_first.spec G,eval_run_catch.spec G,eval_run_array.spec G,eval_run_object.spec G,eval_run_operation.spec G,eval_run_unary.spec G,eval_run_step.spec G,eval_run_binary.spec G,eval_run_logic.spec G,eval_run_assign.spec G,eval_run_callee.spec G,eval_run_arguments.spec G,eval_run_fresh.spec G,eval_run_property.spec G,eval_run_parts.spec G,eval_run_called.spec G,eval_run_call.spec G,eval_run_builds.spec G,eval_run_apply.spec G,eval_run_does.spec G,eval_run_host.spec G,eval_run_receives.spec G]
noncomputable def L1:List Spec:=gL.spec::mV.spec::mm.spec::eh.spec::iZ.spec::j5.spec::lA.spec::du.spec::bE.spec::j6.spec::iM.spec::dJ.spec::dI.spec::jx.spec::lS.spec::fL.spec::j7.spec::cY.spec::fH.spec::lv.spec::cL.spec::al.spec::ic.spec::bO.spec::cB.spec::gl.spec::bn.spec::gn.spec::ev.spec::iF.spec fuel::ig.spec::dX.spec::jm.spec::lM.spec::hJ.spec::kP.spec::fC.spec::dk.spec::iU.spec::gR.spec::fe.spec::gf.spec::ed.spec::iP.spec::jd.spec::fh.spec::ak.spec::fM.spec::cb.spec::mO.spec::eF.spec::ca.spec::bX.spec::fX.spec::fQ.spec::cZ.spec::eI.spec::cd.spec::gj.spec::gC.spec::fo.spec::ko.spec::bQ.spec::iu.spec::fq.spec::iQ.spec::kv.spec::ff.spec::eK.spec::iw.spec::kJ.spec::bx.spec::iK.spec::b9.spec::fK.spec::cG.spec::lg.spec::kp.spec::jh.spec::eM.spec::ji.spec::jI.spec::kQ.spec::my.spec::ke.spec::jl.spec::ct.spec::fi.spec::jo.spec::dw.spec::dQ.spec::jf.spec::bc.spec::cw.spec::aM.spec::cX.spec::iI.spec::aT.spec::gV.spec::iS.spec::gH.spec::bJ.spec::gZ.spec::bl.spec::kN.spec::dH.spec::L0
noncomputable def L2:List Spec:=lB.spec::gM.spec::fm.spec::bN.spec::az.spec::bh.spec::ch.spec::jR.spec::iB.spec::eQ.spec::fy.spec::cS.spec::aP.spec::kH.spec::ku.spec::kL.spec::jw.spec::lp.spec::ep.spec::ef.spec::bL.spec::jT.spec::gv.spec::af.spec::cT.spec::cu.spec::aL.spec::mL.spec::gE.spec::dF.spec::iN.spec::ey.spec::bU.spec::cD.spec::fZ.spec::bI.spec::bo.spec::dS.spec::fV.spec::bm.spec::ej.spec::kX.spec::jO.spec::eg.spec::nV.spec::cc.spec::kh.spec::jU.spec::iV.spec::ia.spec::eX.spec::ju.spec::gu.spec::dP.spec::lJ.spec::gB.spec::cV.spec::eu.spec::aX.spec::cU.spec::cP.spec::jS.spec::bt.spec::cI.spec::cq.spec::L1
noncomputable def L3:List Spec:=bF.spec::bY.spec::fG.spec::iT.spec::aw.spec::lP.spec::gK.spec::aj.spec::fD.spec::mo.spec::ib.spec::lK.spec::jW.spec::iA.spec::bD.spec::fW.spec::dU.spec::er.spec::ei.spec::jc.spec::fU.spec::dD.spec::cM.spec::jg.spec::lN.spec::gi.spec::iG.spec::ly.spec::kz.spec::gW.spec::dA.spec::iD.spec::jq.spec::ky.spec::jN.spec::lU.spec::kj.spec::jF.spec::fx.spec::dG.spec::iW.spec::mr.spec::mu.spec::nA.spec::cW.spec::lV.spec::kR.spec::fj.spec::eU.spec::db.spec::cR.spec::fk.spec::kn.spec::b8.spec::gy.spec::iy.spec::dd.spec::L2
noncomputable def L4:List Spec:=ay.spec::au.spec::fB.spec::cF.spec::eE.spec::jQ.spec::bC.spec::ah.spec::bW.spec::ae.spec::dM.spec::eD.spec::iY.spec::iO.spec::jy.spec::gS.spec::de.spec::jt.spec::fF.spec::lO.spec::ij.spec::lj.spec::mw.spec::nD.spec::nE.spec::nB.spec::lL.spec::gp.spec::gh.spec::lx.spec::kc.spec::jk.spec::aN.spec::aH.spec fuel::ec.spec::L3
noncomputable def L5:List Spec:=gJ.spec::gz.spec::gY.spec::av.spec::cJ.spec::dm.spec::dv.spec::dE.spec::mJ.spec::dV.spec::fp.spec::gD.spec::ki.spec::mv.spec::js.spec::kO.spec::aY.spec::eY.spec::(kF (dx fuel)++L4)
noncomputable def L6:List Spec:=eo.spec::dY.spec::mF.spec::kS.spec::jV.spec::cH.spec::aF.spec::cC.spec::c7.spec::dy.spec::kg.spec::aU.spec::dn.spec::L5
noncomputable def L7:List Spec:=fa.spec::jX.spec::dC.spec::eJ.spec::cQ.spec::cN.spec::eG.spec::gU.spec::fg.spec::iq.spec::jr.spec::dB.spec::fT.spec::eW.spec::gT.spec::dz.spec::di.spec::gA.spec::L6
noncomputable def L8:List Spec:=lC.spec::bj.spec::cr.spec::fJ.spec::jj.spec::eS.spec::kf.spec::iE.spec::ik.spec::fE.spec::iJ.spec::eA.spec::eC.spec::gO.spec::gP.spec::dh.spec::eT.spec::eR.spec::fY.spec::fc.spec::L7
noncomputable def L9:List Spec:=kG.spec::ea.spec::iH.spec::jz.spec::kZ.spec::eV.spec::eZ.spec::L8
noncomputable def L10:List Spec:=gG.spec::fI.spec::gF.spec::gr.spec::L9
noncomputable def L11:List Spec:=(eO (bz fuel)++L10)
noncomputable def L12:List Spec:=eB.spec::L11
noncomputable def L13:List Spec:=dN.spec::L12
noncomputable def L14:List Spec:=bA.spec::iz.spec::L13
noncomputable def L15:List Spec:=aZ.spec::L14
noncomputable def L16:List Spec:=bB.spec::L15
noncomputable def L17:List Spec:=cO.spec::dc.spec::cn.spec::L16
end Go.Mach
end

