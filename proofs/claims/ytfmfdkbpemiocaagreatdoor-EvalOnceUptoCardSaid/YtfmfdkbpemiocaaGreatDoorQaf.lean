/-
  Proved here: the law renlaw12.EvalOnce returns true for every input of the stated bulk and leaves its arguments as they were; no further condition.
  By an AI agent; no person has read it.
-/
import Derived.Test.YtfmfdkbpemiocaaGreatDoorQaa
import Derived.Test.YtfmfdkbpemiocaaGreatDoorQae
import Derived.KernelRfl
import Derived.Test.YtfmfdkbpemiocaaGreatDoorProg
set_option linter.all false
set_option linter.deprecated false
set_option linter.unusedVariables false
set_option maxRecDepth 100000
noncomputable section
namespace Go.Mach
open Go.Proofs
abbrev pc(a:List (Nat×VSh))(b:List Nat):Ann:=.piece [(.nrm,⟨a,b,[],[]⟩)] .none
def owned:List (TypeId×Sh):=[(131,kD)]
noncomputable abbrev Q(l:List Spec):Env:={ P:=Tryz.prog,specs:=l,ety:=pj Tryz.prog owned }
def gS.spec:Spec:=gS.g.sp 67 λx=>R.gS x
def ko.spec:Spec:=ko.g.sp 43 λx=>R.ko x
def mU.spec:Spec:=mU.g.sp 127 λx=>R.mU x
def mO.spec:Spec:=mO.g.sp 128 λx=>R.mO x
def fQ.spec:Spec:=fQ.g.sp 129 λx=>R.fQ x.1 x.2
def gN.spec:Spec:=gN.g.sp 96 λx=>R.gN x
def gr.spec:Spec:=gr.g.sp 131 λx=>R.gr x
def jt.spec:Spec:=jt.g.sp 133 λx=>R.jt x
def fy.spec:Spec:=fy.g.sp 165 λx=>R.fy x
def bF.spec:Spec:=bF.g.sp 136 λx=>R.bF x.1 x.2.1 x.2.2
def ax.spec:Spec:=ax.g.sp 164 λx=>R.ax x.1 x.2
def kp.spec:Spec:=kp.g.sp 145 λx=>R.kp x
def gP.spec:Spec:=gP.g.sp 132 λx=>R.gP x
def bL.spec:Spec:=bL.g.sp 136 λx=>R.bL x.1 x.2.1 x.2.2
def bY.spec:Spec:=bY.g.sp 164 λx=>R.bY x.1 x.2
def eW.spec:Spec:=eW.g.sp 198 λx=>R.eW x.1 x.2
def ay.spec:Spec:=ay.g.sp 136 λx=>R.ay x.1 x.2.1 x.2.2
def fX.spec:Spec:=fX.g.sp 167 λx=>R.fX x.1 x.2
def bo.spec:Spec:=bo.g.sp 136 λx=>R.bo x.1 x.2.1 x.2.2
def av.spec:Spec:=av.g.sp 66 λx=>R.av x
def jo.spec:Spec:=jo.g.sp 199 λx=>R.jo x
def gJ.spec:Spec:=gJ.g.sp 203 λx=>R.gJ x
def dY.spec:Spec:=dY.g.sp 263 λx=>R.dY x.1 x.2
def cr.spec:Spec:=cr.g.sp 236 λx=>R.cr x.1 x.2
def iR.spec:Spec:=iR.g.sp 200 λx=>R.iR x
def dX.spec:Spec:=dX.g.sp 218 λx=>R.dX x.1 x.2
def jL.spec:Spec:=jL.g.sp 188 λx=>R.jL x.1 x.2
def iA.spec:Spec:=iA.g.sp 202 λx=>R.iA x
def aw.spec:Spec:=aw.g.sp 237 λx=>R.aw x.1 x.2
def aq.spec:Spec:=aq.g.sp 201 λx=>R.aq x.1 x.2
def jd.spec:Spec:=jd.g.sp 204 λx=>R.jd x
def lT.spec:Spec:=lT.g.sp 71 λx=>R.lT x
def fY.spec:Spec:=fY.g.sp 160 λ_=>R.fY
def ev.spec:Spec:=ev.g.sp 121 λx=>R.ev x
def jy.spec:Spec:=jy.g.sp 238 λx=>R.jy x
def cj.spec:Spec:=cj.g.sp 239 λx=>R.cj x
def gL.spec:Spec:=gL.g.sp 240 λx=>R.gL x
def lU.spec:Spec:=lU.g.sp 205 λx=>R.lU x
def gd.spec:Spec:=gd.g.sp 168 λx=>R.gd x
def fC.spec:Spec:=fC.g.sp 134 λx=>R.fC x
def fO.spec:Spec:=fO.g.sp 135 λx=>R.fO x
def fW.spec:Spec:=fW.g.sp 170 λx=>R.fW x
def mA.spec:Spec:=mA.g.sp 171 λx=>R.mA x
def gR.spec:Spec:=gR.g.sp 137 λx=>R.gR x
def fq.spec:Spec:=fq.g.sp 97 λx=>R.fq x
def kv.spec:Spec:=kv.g.sp 68 λx=>R.kv x
def bI.spec:Spec:=bI.g.sp 98 λx=>R.bI x.1 x.2
def aW.spec:Spec:=aW.g.sp 99 λx=>R.aW x
def iu.spec:Spec:=iu.g.sp 138 λx=>R.iu x.1 x.2
def cQ.spec:Spec:=cQ.g.sp 177 λx=>R.cQ x.1 x.2
def aO.spec:Spec:=aO.g.sp 141 λx=>R.aO x.1 x.2
def dU.spec:Spec:=dU.g.sp 140 λx=>R.dU x
def bU.spec:Spec:=bU.g.sp 142 λx=>R.bU x
def ai.spec:Spec:=ai.g.sp 172 λx=>R.ai x.1 x.2
def bN.spec:Spec:=bN.g.sp 173 λx=>R.bN x.1 x.2.1 x.2.2
def cE.spec:Spec:=cE.g.sp 175 λx=>R.cE x
def bM.spec:Spec:=bM.g.sp 180 λx=>R.bM x.1 x.2
def fV.spec:Spec:=fV.g.sp 209 λx=>R.fV x
def eS.spec:Spec:=eS.g.sp 178 λx=>R.eS x
def gl.spec:Spec:=gl.g.sp 104 λx=>R.gl x
def bt.spec:Spec:=bt.g.sp 110 λx=>R.bt x.1 x.2
def aS.spec:Spec:=aS.g.sp 78 λx=>R.aS x.1 x.2
def mr.spec:Spec:=mr.g.sp 211 λx=>R.mr x.1 x.2
def gx.spec:Spec:=gx.g.sp 109 λx=>R.gx x
def kC.spec:Spec:=kC.g.sp 294 λx=>R.kC x
def parse_parser_item.spec(G:bl):Spec:=parse_parser_item.g.sp 100 λx=>G.parse_parser_item x
def parse_parser_declares.spec(G:bl):Spec:=parse_parser_declares.g.sp 139 λx=>G.parse_parser_declares x
def parse_parser_statement.spec(G:bl):Spec:=parse_parser_statement.g.sp 144 λx=>G.parse_parser_statement x
def parse_parser_assign.spec(G:bl):Spec:=parse_parser_assign.g.sp 174 λx=>G.parse_parser_assign x
def parse_parser_word.spec(G:bl):Spec:=parse_parser_word.g.sp 181 λx=>G.parse_parser_word x.1 x.2
def parse_parser_simple.spec(G:bl):Spec:=parse_parser_simple.g.sp 182 λx=>G.parse_parser_simple x
def parse_parser_body.spec(G:bl):Spec:=parse_parser_body.g.sp 208 λx=>G.parse_parser_body x.1 x.2
def parse_parser_cond.spec(G:bl):Spec:=parse_parser_cond.g.sp 210 λx=>G.parse_parser_cond x
def parse_parser_either.spec(G:bl):Spec:=parse_parser_either.g.sp 244 λx=>G.parse_parser_either x
def parse_parser_level.spec(G:bl):Spec:=parse_parser_level.g.sp 265 λx=>G.parse_parser_level x.1 x.2
def parse_parser_both.spec(G:bl):Spec:=parse_parser_both.g.sp 266 λx=>G.parse_parser_both x.1 x.2
def parse_parser_unary.spec(G:bl):Spec:=parse_parser_unary.g.sp 293 λx=>G.parse_parser_unary x
def parse_parser_calls.spec(G:bl):Spec:=parse_parser_calls.g.sp 331 λx=>G.parse_parser_calls x
def parse_parser_head.spec(G:bl):Spec:=parse_parser_head.g.sp 379 λx=>G.parse_parser_head x
def parse_parser_arguments.spec(G:bl):Spec:=parse_parser_arguments.g.sp 380 λx=>G.parse_parser_arguments x
def parse_parser_member.spec(G:bl):Spec:=parse_parser_member.g.sp 381 λx=>G.parse_parser_member x.1 x.2
def parse_parser_primary.spec(G:bl):Spec:=parse_parser_primary.g.sp 420 λx=>G.parse_parser_primary x
def parse_parser_list.spec(G:bl):Spec:=parse_parser_list.g.sp 421 λx=>G.parse_parser_list x.1 x.2
def dz.spec:Spec:=dz.g.sp 69 λx=>R.dz x
def iE.spec(fu:Nat):Spec:=iE.g.sp 101 λx=>R.iE fu x.1 x.2
def lE.spec:Spec:=lE.g.sp 70 λx=>R.lE x
def ik.spec:Spec:=ik.g.sp 53 λx=>R.ik x
def eB.spec:Spec:=eB.g.sp 52 λx=>R.eB x
def j8.spec:Spec:=j8.g.sp 44 λx=>R.j8 x
def jq.spec:Spec:=jq.g.sp 49 λx=>R.jq x
def lQ.spec:Spec:=lQ.g.sp 72 λx=>R.lQ x
def jH.spec:Spec:=jH.g.sp 103 λx=>R.jH x
def iZ.spec:Spec:=iZ.g.sp 102 λx=>R.iZ x
def qA.env(P:Program):Env:={ P:=P,specs:=[],ety:=pj P owned }
def eC.spec:Spec:=eC.g.sp 73 λx=>R.eC x
def eo.spec:Spec:=eo.g.sp 50 λx=>R.eo x
def gh.spec:Spec:=gh.g.sp 105 λx=>R.gh x.1 x.2
def ja.spec:Spec:=ja.g.sp 74 λx=>R.ja x.1 x.2
def kK.spec:Spec:=kK.g.sp 75 λx=>R.kK x
def ez.spec:Spec:=ez.g.sp 106 λx=>R.ez x
def ll.spec:Spec:=ll.g.sp 107 λx=>R.ll x
def eO.spec:Spec:=eO.g.sp 108 λx=>R.eO x
def lN.spec:Spec:=lN.g.sp 76 λx=>R.lN x.1 x.2
def iS.spec:Spec:=iS.g.sp 77 λx=>R.iS x.1 x.2
def ia.spec:Spec:=ia.g.sp 51 λx=>R.ia x.1 x.2
def mJ.spec:Spec:=mJ.g.sp 37 λx=>R.mJ x
def jF.spec:Spec:=jF.g.sp 37 λx=>R.jF x
def gU.spec:Spec:=gU.g.sp 38 λx=>R.gU x
def fk.spec:Spec:=fk.g.sp 79 λx=>R.fk x
def gz.spec:Spec:=gz.g.sp 80 λx=>R.gz x.1 x.2
def fL.spec:Spec:=fL.g.sp 81 λx=>R.fL x
def fF.spec:Spec:=fF.g.sp 55 λx=>R.fF x.1 x.2
def jR.spec:Spec:=jR.g.sp 54 λx=>R.jR x
def iB.spec:Spec:=iB.g.sp 83 λx=>R.iB x.1 x.2
def az.spec:Spec:=az.g.sp 111 λx=>R.az x.1 x.2
def au.spec:Spec:=au.g.sp 82 λx=>R.au x.1 x.2
def jO.spec:Spec:=jO.g.sp 56 λx=>R.jO x.1 x.2.1 x.2.2
def fP.spec:Spec:=fP.g.sp 57 λx=>R.fP x.1 x.2.1 x.2.2
def iO.spec:Spec:=iO.g.sp 59 λx=>R.iO x.1 x.2.1 x.2.2
def bJ.spec:Spec:=bJ.g.sp 84 λx=>R.bJ x.1 x.2
def bA.spec:Spec:=bA.g.sp 58 λx=>R.bA x.1 x.2
def jc.spec:Spec:=jc.g.sp 85 λx=>R.jc x
def fi.spec:Spec:=fi.g.sp 86 λx=>R.fi x.1 x.2
def jS.spec:Spec:=jS.g.sp 60 λx=>R.jS x.1 x.2.1 x.2.2
def jQ.spec:Spec:=jQ.g.sp 39 λx=>R.jQ x.1 x.2.1 x.2.2
def fH.spec:Spec:=fH.g.sp 27 λx=>R.fH x
def jG.spec:Spec:=jG.g.sp 29 λx=>R.jG x
def kT.spec:Spec:=kT.g.sp 11 λx=>R.kT x
def lV.spec:Spec:=lV.g.sp 40 λx=>R.lV x
def ea.spec:Spec:=ea.g.sp 115 λx=>R.ea x
def gv.spec:Spec:=gv.g.sp 146 λx=>R.gv x
def dn.spec:Spec:=dn.g.sp 112 λx=>R.dn x.1 x.2
def cF.spec:Spec:=cF.g.sp 113 λx=>R.cF x.1 x.2
def aX.spec:Spec:=aX.g.sp 87 λx=>R.aX x.1 x.2
def bm.spec:Spec:=bm.g.sp 61 λx=>R.bm x.1 x.2
def bB.spec:Spec:=bB.g.sp 94 λx=>R.bB x.1 x.2
def fj.spec:Spec:=fj.g.sp 148 λx=>R.fj x.1 x.2
def ah.spec:Spec:=ah.g.sp 147 λx=>R.ah x.1 x.2
def c7.spec:Spec:=c7.g.sp 114 λx=>R.c7 x.1 x.2.1 x.2.2
def bE.spec:Spec:=bE.g.sp 88 λx=>R.bE x.1 x.2.1 x.2.2.1 x.2.2.2.1 x.2.2.2.2.1 x.2.2.2.2.2
def fG.spec:Spec:=fG.g.sp 187 λx=>R.fG x.1 x.2
def ae.spec:Spec:=ae.g.sp 186 λx=>R.ae x.1 x.2
def dI.spec:Spec:=dI.g.sp 149 λx=>R.dI x.1 x.2.1 x.2.2
def bc.spec:Spec:=bc.g.sp 116 λx=>R.bc x.1 x.2.1 x.2.2.1 x.2.2.2
def cN.spec:Spec:=cN.g.sp 117 λx=>R.cN x.1 x.2.1 x.2.2.1 x.2.2.2.1 x.2.2.2.2
def cC.spec:Spec:=cC.g.sp 89 λx=>R.cC x.1 x.2.1 x.2.2
def cA.spec:Spec:=cA.g.sp 62 λx=>R.cA x.1 x.2.1 x.2.2
def bu.spec:Spec:=bu.g.sp 118 λx=>R.bu x
def eV.spec:Spec:=eV.g.sp 156 λx=>R.eV x.1 x.2.1 x.2.2
def fJ.spec:Spec:=fJ.g.sp 190 λx=>R.fJ x.1 x.2
def iL.spec:Spec:=iL.g.sp 192 λx=>R.iL x.1 x.2
def eR.spec:Spec:=eR.g.sp 229 λx=>R.eR x.1 x.2
def cw.spec:Spec:=cw.g.sp 194 λx=>R.cw x.1 x.2
def cn.spec:Spec:=cn.g.sp 219 λx=>R.cn x
def ed.spec:Spec:=ed.g.sp 220 λx=>R.ed x
def cP.spec:Spec:=cP.g.sp 221 λx=>R.cP x
def dh.spec:Spec:=dh.g.sp 267 λx=>R.dh x.1 x.2.1 x.2.2
def cI.spec:Spec:=cI.g.sp 295 λx=>R.cI x.1 x.2
def aF.spec:Spec:=aF.g.sp 268 λx=>R.aF x.1 x.2
def gp.spec:Spec:=gp.g.sp 296 λ_=>R.gp
def gE.spec:Spec:=gE.g.sp 373 λx=>R.gE x
def fx.spec:Spec:=fx.g.sp 374 λ_=>R.fx
def dD.spec:Spec:=dD.g.sp 327 λ_=>R.dD
def dP.spec:Spec:=dP.g.sp 297 λx=>R.dP x
def iX.spec:Spec:=iX.g.sp 269 λx=>R.iX x
def kh.spec:Spec:=kh.g.sp 270 λx=>R.kh x
def aL.spec:Spec:=aL.g.sp 224 λx=>R.aL x
def dB.spec:Spec:=dB.g.sp 246 λx=>R.dB x.1 x.2.1 x.2.2.1 x.2.2.2
def da.spec:Spec:=da.g.sp 222 λx=>R.da x.1 x.2.1 x.2.2
def bP.spec:Spec:=bP.g.sp 223 λx=>R.bP x
def ij.spec:Spec:=ij.g.sp 159 λx=>R.ij x
def mR.spec:Spec:=mR.g.sp 120 λx=>R.mR x
def cM.spec:Spec:=cM.g.sp 91 λx=>R.cM x
def gD.spec:Spec:=gD.g.sp 289 λx=>R.gD x
def iP.spec:Spec:=iP.g.sp 290 λx=>R.iP x
def jn.spec:Spec:=jn.g.sp 257 λx=>R.jn x.1 x.2
def iM.spec:Spec:=iM.g.sp 228 λx=>R.iM x
def gM.spec:Spec:=gM.g.sp 247 λx=>R.gM x
def cH.spec:Spec:=cH.g.sp 298 λx=>R.cH x
def lC.spec:Spec:=lC.g.sp 302 λx=>R.lC x
def cV.spec:Spec:=cV.g.sp 276 λx=>R.cV x
def dV.spec:Spec:=dV.g.sp 123 λx=>R.dV x
def iK.spec:Spec:=iK.g.sp 125 λx=>R.iK x
def fg.spec:Spec:=fg.g.sp 124 λx=>R.fg x
def ec.spec:Spec:=ec.g.sp 124 λx=>R.ec x
def fI.spec:Spec:=fI.g.sp 235 λx=>R.fI x.1 x.2
def lW.spec:Spec:=lW.g.sp 299 λx=>R.lW x
def gm.spec:Spec:=gm.g.sp 333 λx=>R.gm x
def js.spec:Spec:=js.g.sp 332 λx=>R.js x
def mN.spec:Spec:=mN.g.sp 300 λx=>R.mN x.1 x.2.1 x.2.2
def ji.spec:Spec:=ji.g.sp 272 λx=>R.ji x.1 x.2
def bj.spec:Spec:=bj.g.sp 271 λx=>R.bj x.1 x.2.1 x.2.2
def bC.spec:Spec:=bC.g.sp 286 λx=>R.bC x.1 x.2
def fl.spec:Spec:=fl.g.sp 284 λx=>R.fl x
def gB.spec:Spec:=gB.g.sp 301 λx=>R.gB x
def er.spec:Spec:=er.g.sp 273 λx=>R.er x.1 x.2
def kH.spec:Spec:=kH.g.sp 328 λx=>R.kH x
def ly.spec:Spec:=ly.g.sp 92 λx=>R.ly x
def b9.spec:Spec:=b9.g.sp 126 λx=>R.b9 x
def kz.spec:Spec:=kz.g.sp 93 λx=>R.kz x
def cz.spec:Spec:=cz.g.sp 64 λx=>R.cz x
def cG.spec:Spec:=cG.g.sp 375 λx=>R.cG x
def eH.spec:Spec:=eH.g.sp 310 λx=>R.eH x
def eN.spec:Spec:=eN.g.sp 329 λx=>R.eN x.1 x.2.1 x.2.2
def al.spec:Spec:=al.g.sp 65 λx=>R.al x.1 x.2
def cW.spec:Spec:=cW.g.sp 285 λx=>R.cW x.1 x.2.1 x.2.2
def dm.spec:Spec:=dm.g.sp 311 λx=>R.dm x.1 x.2.1 x.2.2
def iG.spec:Spec:=iG.g.sp 312 λx=>R.iG x
def bW.spec:Spec:=bW.g.sp 313 λx=>R.bW x.1 x.2
def eL.spec:Spec:=eL.g.sp 376 λx=>R.eL x.1 x.2.1 x.2.2.1 x.2.2.2.1 x.2.2.2.2
def qG.env(P:Program):Env:={ P:=P,specs:=[bB.spec],ety:=pj P owned }
def cx.spec:Spec:=cx.g.sp 368 λx=>R.cx x.1 x.2
def cD.spec:Spec:=cD.g.sp 371 λx=>R.cD x
def fU.spec:Spec:=fU.g.sp 386 λx=>R.fU x
def cL.spec:Spec:=cL.g.sp 426 λx=>R.cL x
def ff.spec:Spec:=ff.g.sp 433 λx=>R.ff x.1 x.2
def bT.spec:Spec:=bT.g.sp 366 λx=>R.bT x.1 x.2
def qQ.env(P:Program):Env:={ P:=P,specs:=[bB.spec],ety:=pj P owned }
def bh.spec:Spec:=bh.g.sp 408 λx=>R.bh x.1 x.2.1 x.2.2.1 x.2.2.2.1 x.2.2.2.2.1 x.2.2.2.2.2
def iH.spec:Spec:=iH.g.sp 449 λx=>R.iH x.1 x.2
def jZ.spec:Spec:=jZ.g.sp 434 λx=>R.jZ x.1 x.2
def fD.spec:Spec:=fD.g.sp 440 λx=>R.fD x.1 x.2
def jh.spec:Spec:=jh.g.sp 435 λx=>R.jh x.1 x.2
def eA.spec:Spec:=eA.g.sp 409 λx=>R.eA x.1 x.2
def cc.spec:Spec:=cc.g.sp 377 λx=>R.cc x.1 x.2.1 x.2.2
def dd.spec:Spec:=dd.g.sp 378 λx=>R.dd x.1 x.2.1 x.2.2.1 x.2.2.2
def dJ.spec:Spec:=dJ.g.sp 330 λx=>R.dJ x.1 x.2.1 x.2.2
def de.spec:Spec:=de.g.sp 288 λx=>R.de x.1 x.2
def db.spec:Spec:=db.g.sp 275 λx=>R.db x.1 x.2.1 x.2.2
def lB.spec:Spec:=lB.g.sp 305 λx=>R.lB x
def mC.spec:Spec:=mC.g.sp 335 λx=>R.mC x.1 x.2
def jJ.spec:Spec:=jJ.g.sp 334 λx=>R.jJ x.1 x.2
def lD.spec:Spec:=lD.g.sp 382 λx=>R.lD x
def kV.spec:Spec:=kV.g.sp 336 λx=>R.kV x.1 x.2
def jb.spec:Spec:=jb.g.sp 383 λx=>R.jb x.1 x.2.1 x.2.2
def jD.spec:Spec:=jD.g.sp 337 λx=>R.jD x.1 x.2
def lX.spec:Spec:=lX.g.sp 304 λx=>R.lX x.1 x.2
def fE.spec:Spec:=fE.g.sp 303 λx=>R.fE x.1 x.2
def ei.spec:Spec:=ei.g.sp 338 λx=>R.ei x
def nS.spec:Spec:=nS.g.sp 339 λx=>R.nS x
def lR.spec:Spec:=lR.g.sp 307 λx=>R.lR x.1 x.2
def cp.spec:Spec:=cp.g.sp 306 λx=>R.cp x.1 x.2
def kZ.spec:Spec:=kZ.g.sp 277 λx=>R.kZ x.1 x.2
def dk.spec:Spec:=dk.g.sp 308 λx=>R.dk x.1 x.2.1 x.2.2.1 x.2.2.2
def jm.spec:Spec:=jm.g.sp 459 λx=>R.jm x
def kY.spec:Spec:=kY.g.sp 446 λx=>R.kY x
def jC.spec:Spec:=jC.g.sp 460 λx=>R.jC x
def jP.spec:Spec:=jP.g.sp 447 λx=>R.jP x
def kL.spec:Spec:=kL.g.sp 234 λx=>R.kL x
def kn.spec:Spec:=kn.g.sp 197 λx=>R.kn x
def iQ.spec:Spec:=iQ.g.sp 448 λx=>R.iQ x
def ic.spec:Spec:=ic.g.sp 432 λx=>R.ic x
def gC.spec:Spec:=gC.g.sp 405 λx=>R.gC x
def nD.spec:Spec:=nD.g.sp 461 λx=>R.nD x.1 x.2
def kX.spec:Spec:=kX.g.sp 462 λx=>R.kX x
def i6.spec:Spec:=i6.g.sp 451 λx=>R.i6 x.1 x.2
def lv.spec:Spec:=lv.g.sp 439 λx=>R.lv x
def gF.spec:Spec:=gF.g.sp 422 λx=>R.gF x.1 x.2
def gI.spec:Spec:=gI.g.sp 423 λx=>R.gI x.1 x.2
def iq.spec:Spec:=iq.g.sp 384 λx=>R.iq x.1 x.2
def iV.spec:Spec:=iV.g.sp 425 λx=>R.iV x.1 x.2
def dK.spec:Spec:=dK.g.sp 424 λx=>R.dK x.1 x.2.1 x.2.2.1 x.2.2.2
def bZ.spec:Spec:=bZ.g.sp 385 λx=>R.bZ x.1 x.2.1 x.2.2.1 x.2.2.2.1 x.2.2.2.2.1 x.2.2.2.2.2.1 x.2.2.2.2.2.2
def eg.spec:Spec:=eg.g.sp 340 λx=>R.eg x.1 x.2.1 x.2.2.1 x.2.2.2
def ee.spec:Spec:=ee.g.sp 309 λx=>R.ee x.1 x.2.1 x.2.2
def eG.spec:Spec:=eG.g.sp 278 λx=>R.eG x.1 x.2.1 x.2.2.1 x.2.2.2
def fc.spec:Spec:=fc.g.sp 279 λx=>R.fc x.1 x.2.1 x.2.2
def kj.spec:Spec:=kj.g.sp 314 λx=>R.kj x.1 x.2
def fR.spec:Spec:=fR.g.sp 341 λx=>R.fR x.1 x.2
def mq.spec:Spec:=mq.g.sp 387 λx=>R.mq x.1 x.2
def mw.spec:Spec:=mw.g.sp 388 λx=>R.mw x.1 x.2
def jx.spec:Spec:=jx.g.sp 441 λx=>R.jx x.1 x.2
def iU.spec:Spec:=iU.g.sp 427 λx=>R.iU x.1 x.2
def nB.spec:Spec:=nB.g.sp 389 λx=>R.nB x.1 x.2
def mm.spec:Spec:=mm.g.sp 390 λx=>R.mm x.1 x.2
def ke.spec:Spec:=ke.g.sp 342 λx=>R.ke x.1 x.2.1 x.2.2
def nC.spec:Spec:=nC.g.sp 343 λx=>R.nC x.1 x.2
def jl.spec:Spec:=jl.g.sp 391 λx=>R.jl x
def dC.spec:Spec:=dC.g.sp 392 λx=>R.dC x
def fo.spec:Spec:=fo.g.sp 394 λx=>R.fo x
def jg.spec:Spec:=jg.g.sp 393 λx=>R.jg x.1 x.2
def gf.spec:Spec:=gf.g.sp 395 λx=>R.gf x.1 x.2
def nE.spec:Spec:=nE.g.sp 344 λx=>R.nE x.1 x.2
def mu.spec:Spec:=mu.g.sp 345 λx=>R.mu x.1 x.2
def nA.spec:Spec:=nA.g.sp 346 λx=>R.nA x.1 x.2
def ju.spec:Spec:=ju.g.sp 315 λx=>R.ju x.1 x.2.1 x.2.2
def kg.spec:Spec:=kg.g.sp 316 λx=>R.kg x.1 x.2.1 x.2.2
def eY.spec:Spec:=eY.g.sp 442 λx=>R.eY x
def dv.spec:Spec:=dv.g.sp 428 λx=>R.dv x.1 x.2
def ca.spec:Spec:=ca.g.sp 396 λx=>R.ca x.1 x.2
def lL.spec:Spec:=lL.g.sp 347 λx=>R.lL x.1 x.2
def lO.spec:Spec:=lO.g.sp 397 λx=>R.lO x.1 x.2
def gg.spec:Spec:=gg.g.sp 398 λx=>R.gg x.1 x.2
def kS.spec:Spec:=kS.g.sp 399 λx=>R.kS x.1 x.2
def jf.spec:Spec:=jf.g.sp 348 λx=>R.jf x.1 x.2
def iF.spec:Spec:=iF.g.sp 317 λx=>R.iF x.1 x.2.1 x.2.2.1 x.2.2.2
def dy.spec:Spec:=dy.g.sp 400 λx=>R.dy x.1 x.2
def lM.spec:Spec:=lM.g.sp 349 λx=>R.lM x.1 x.2
def gi.spec:Spec:=gi.g.sp 318 λx=>R.gi x.1 x.2
def je.spec:Spec:=je.g.sp 350 λx=>R.je x
def gK.spec:Spec:=gK.g.sp 351 λx=>R.gK x
def lx.spec:Spec:=lx.g.sp 401 λx=>R.lx x.1 x.2
def kM.spec:Spec:=kM.g.sp 352 λx=>R.kM x.1 x.2
def jk.spec:Spec:=jk.g.sp 319 λx=>R.jk x.1 x.2
def ga.spec:Spec:=ga.g.sp 280 λx=>R.ga x.1 x.2.1 x.2.2
def bk.spec:Spec:=bk.g.sp 322 λx=>R.bk x.1 x.2
def fp.spec:Spec:=fp.g.sp 404 λx=>R.fp x
def kf.spec:Spec:=kf.g.sp 365 λx=>R.kf x
def dO.spec:Spec:=dO.g.sp 321 λx=>R.dO x
def cb.spec:Spec:=cb.g.sp 323 λx=>R.cb x.1 x.2
def dx.spec:Spec:=dx.g.sp 367 λx=>R.dx x.1 x.2
def ch.spec:Spec:=ch.g.sp 324 λx=>R.ch x.1 x.2
def dM.spec:Spec:=dM.g.sp 437 λx=>R.dM x.1 x.2
def cg.spec:Spec:=cg.g.sp 419 λx=>R.cg x.1 x.2
def eE.spec:Spec:=eE.g.sp 369 λx=>R.eE x.1 x.2
def fN.spec:Spec:=fN.g.sp 370 λx=>R.fN x
def jj.spec:Spec:=jj.g.sp 325 λx=>R.jj x
def eM.spec:Spec:=eM.g.sp 372 λx=>R.eM x.1 x.2.1 x.2.2.1 x.2.2.2.1 x.2.2.2.2
def dG.spec:Spec:=dG.g.sp 326 λx=>R.dG x.1 x.2.1 x.2.2
def cU.spec:Spec:=cU.g.sp 430 λx=>R.cU x.1 x.2
def aP.spec:Spec:=aP.g.sp 452 λx=>R.aP x.1 x.2.1 x.2.2.1 x.2.2.2
def aN.spec:Spec:=aN.g.sp 467 λx=>R.aN x.1 x.2.1 x.2.2.1 x.2.2.2.1 x.2.2.2.2
def aY.spec:Spec:=aY.g.sp 463 λx=>R.aY x.1 x.2.1 x.2.2.1 x.2.2.2.1 x.2.2.2.2
def aH.spec(fu:Nat):Spec:=aH.g.sp 453 λx=>R.aH fu x.1 x.2.1 x.2.2.1 x.2.2.2.1 x.2.2.2.2
def aV.spec:Spec:=aV.g.sp 443 λx=>R.aV x.1 x.2.1 x.2.2
def aT.spec:Spec:=aT.g.sp 429 λx=>R.aT x.1 x.2
def eQ.spec:Spec:=eQ.g.sp 402 λx=>R.eQ x.1 x.2
def eI.spec:Spec:=eI.g.sp 353 λx=>R.eI x.1 x.2
def dL.spec:Spec:=dL.g.sp 354 λx=>R.dL x.1 x.2.1 x.2.2
def eK.spec:Spec:=eK.g.sp 355 λx=>R.eK x.1 x.2.1 x.2.2
def di.spec:Spec:=di.g.sp 356 λx=>R.di x.1 x.2
def kc.spec:Spec:=kc.g.sp 403 λx=>R.kc x
def cR.spec:Spec:=cR.g.sp 357 λx=>R.cR x.1 x.2.1 x.2.2
def dE.spec:Spec:=dE.g.sp 358 λx=>R.dE x.1 x.2
def cf.spec:Spec:=cf.g.sp 359 λx=>R.cf x.1 x.2.1 x.2.2
def cm.spec:Spec:=cm.g.sp 406 λx=>R.cm x.1 x.2
def cY.spec:Spec:=cY.g.sp 360 λx=>R.cY x.1 x.2
def cT.spec:Spec:=cT.g.sp 410 λx=>R.cT x.1 x.2
def cB.spec:Spec:=cB.g.sp 362 λx=>R.cB x.1 x.2
def hJ.spec:Spec:=hJ.g.sp 407 λx=>R.hJ x.1 x.2
def dF.spec:Spec:=dF.g.sp 361 λx=>R.dF x.1 x.2.1 x.2.2.1 x.2.2.2
def dq.spec:Spec:=dq.g.sp 411 λx=>R.dq x.1 x.2.1 x.2.2
def fA.spec:Spec:=fA.g.sp 418 λx=>R.fA x
def dt.spec:Spec:=dt.g.sp 412 λx=>R.dt x.1 x.2.1 x.2.2.1 x.2.2.2.1 x.2.2.2.2.1 x.2.2.2.2.2
def cS.spec:Spec:=cS.g.sp 413 λx=>R.cS x.1 x.2.1 x.2.2.1 x.2.2.2.1 x.2.2.2.2
def gH.spec:Spec:=gH.g.sp 414 λx=>R.gH x.1 x.2
def ig.spec:Spec:=ig.g.sp 436 λx=>R.ig x.1 x.2.1 x.2.2.1 x.2.2.2
def cX.spec:Spec:=cX.g.sp 415 λx=>R.cX x.1 x.2.1 x.2.2.1 x.2.2.2
def iD.spec:Spec:=iD.g.sp 416 λx=>R.iD x
def dH.spec:Spec:=dH.g.sp 363 λx=>R.dH x.1 x.2.1 x.2.2
def eval_run_list.spec(G:af):Spec:=eval_run_list.g.sp 63 λx=>G.eval_run_list x.1 x.2.1 x.2.2
def eval_run_statement.spec(G:af):Spec:=eval_run_statement.g.sp 90 λx=>G.eval_run_statement x.1 x.2.1 x.2.2.1 x.2.2.2
def eval_run_act.spec(G:af):Spec:=eval_run_act.g.sp 119 λx=>G.eval_run_act x.1 x.2.1 x.2.2.1 x.2.2.2
def eval_run_expression.spec(G:af):Spec:=eval_run_expression.g.sp 150 λx=>G.eval_run_expression x.1 x.2.1 x.2.2
def eval_run_block.spec(G:af):Spec:=eval_run_block.g.sp 151 λx=>G.eval_run_block x.1 x.2.1 x.2.2
def eval_run_decls.spec(G:af):Spec:=eval_run_decls.g.sp 152 λx=>G.eval_run_decls x.1 x.2.1 x.2.2
def eval_run_choice.spec(G:af):Spec:=eval_run_choice.g.sp 153 λx=>G.eval_run_choice x.1 x.2.1 x.2.2
def eval_run_while.spec(G:af):Spec:=eval_run_while.g.sp 154 λx=>G.eval_run_while x.1 x.2.1 x.2.2.1 x.2.2.2
def eval_run_loop.spec(G:af):Spec:=eval_run_loop.g.sp 155 λx=>G.eval_run_loop x.1 x.2.1 x.2.2.1 x.2.2.2
def eval_run_try.spec(G:af):Spec:=eval_run_try.g.sp 157 λx=>G.eval_run_try x.1 x.2.1 x.2.2
def eval_run_value.spec(G:af):Spec:=eval_run_value.g.sp 189 λx=>G.eval_run_value x.1 x.2.1 x.2.2
def eval_run_asked.spec(G:af):Spec:=eval_run_asked.g.sp 191 λx=>G.eval_run_asked x.1 x.2.1 x.2.2
def eval_run_first.spec(G:af):Spec:=eval_run_first.g.sp 193 λx=>G.eval_run_first x.1 x.2.1 x.2.2
def eval_run_catch.spec(G:af):Spec:=eval_run_catch.g.sp 195 λx=>G.eval_run_catch x.1 x.2.1 x.2.2.1 x.2.2.2.1 x.2.2.2.2
def eval_run_array.spec(G:af):Spec:=eval_run_array.g.sp 225 λx=>G.eval_run_array x.1 x.2.1 x.2.2
def eval_run_object.spec(G:af):Spec:=eval_run_object.g.sp 226 λx=>G.eval_run_object x.1 x.2.1 x.2.2
def eval_run_operation.spec(G:af):Spec:=eval_run_operation.g.sp 227 λx=>G.eval_run_operation x.1 x.2.1 x.2.2.1 x.2.2.2
def eval_run_unary.spec(G:af):Spec:=eval_run_unary.g.sp 248 λx=>G.eval_run_unary x.1 x.2.1 x.2.2.1 x.2.2.2
def eval_run_step.spec(G:af):Spec:=eval_run_step.g.sp 249 λx=>G.eval_run_step x.1 x.2.1 x.2.2
def eval_run_binary.spec(G:af):Spec:=eval_run_binary.g.sp 250 λx=>G.eval_run_binary x.1 x.2.1 x.2.2
def eval_run_logic.spec(G:af):Spec:=eval_run_logic.g.sp 251 λx=>G.eval_run_logic x.1 x.2.1 x.2.2
def eval_run_assign.spec(G:af):Spec:=eval_run_assign.g.sp 252 λx=>G.eval_run_assign x.1 x.2.1 x.2.2
def eval_run_callee.spec(G:af):Spec:=eval_run_callee.g.sp 253 λx=>G.eval_run_callee x.1 x.2.1 x.2.2
def eval_run_arguments.spec(G:af):Spec:=eval_run_arguments.g.sp 254 λx=>G.eval_run_arguments x.1 x.2.1 x.2.2
def eval_run_fresh.spec(G:af):Spec:=eval_run_fresh.g.sp 255 λx=>G.eval_run_fresh x.1 x.2.1 x.2.2
def eval_run_property.spec(G:af):Spec:=eval_run_property.g.sp 256 λx=>G.eval_run_property x.1 x.2.1 x.2.2
def eval_run_parts.spec(G:af):Spec:=eval_run_parts.g.sp 274 λx=>G.eval_run_parts x.1 x.2.1 x.2.2
def eval_run_called.spec(G:af):Spec:=eval_run_called.g.sp 281 λx=>G.eval_run_called x.1 x.2.1 x.2.2
def eval_run_call.spec(G:af):Spec:=eval_run_call.g.sp 282 λx=>G.eval_run_call x.1 x.2.1 x.2.2.1 x.2.2.2
def eval_run_builds.spec(G:af):Spec:=eval_run_builds.g.sp 283 λx=>G.eval_run_builds x.1 x.2.1 x.2.2
def eval_run_apply.spec(G:af):Spec:=eval_run_apply.g.sp 287 λx=>G.eval_run_apply x.1 x.2.1 x.2.2.1 x.2.2.2
def eval_run_does.spec(G:af):Spec:=eval_run_does.g.sp 320 λx=>G.eval_run_does x.1 x.2.1 x.2.2.1 x.2.2.2
def eval_run_host.spec(G:af):Spec:=eval_run_host.g.sp 364 λx=>G.eval_run_host x.1 x.2.1 x.2.2
def eval_run_receives.spec(G:af):Spec:=eval_run_receives.g.sp 417 λx=>G.eval_run_receives x.1 x.2
def cZ.spec:Spec:=cZ.g.sp 41 λx=>R.cZ x
def dw.spec:Spec:=dw.g.sp 42 λx=>R.dw x.1 x.2
def fb.spec:Spec:=fb.g.sp 28 λx=>R.fb x.1 x.2.1 x.2.2
def ey.spec:Spec:=ey.g.sp 12 λx=>R.ey x.1 x.2.1 x.2.2
def eX.spec:Spec:=eX.g.sp 24 λx=>R.eX x.1 x.2
def jA.spec:Spec:=jA.g.sp 36 λx=>R.jA x
def j6.spec:Spec:=j6.g.sp 33 λx=>R.j6 x.1 x.2
def gA.spec:Spec:=gA.g.sp 25 λx=>R.gA x.1 x.2.1 x.2.2
def eZ.spec:Spec:=eZ.g.sp 7 λ_=>R.eZ
def gV.spec:Spec:=gV.g.sp 26 λx=>R.gV x.1 x.2
def jT.spec:Spec:=jT.g.sp 8 λx=>R.jT x
def iT.spec:Spec:=iT.g.sp 9 λx=>R.iT x
def gO.spec:Spec:=gO.g.sp 10 λx=>R.gO x
def dS.spec:Spec:=dS.g.sp 3 λx=>R.dS x.1 x.2.1 x.2.2
abbrev zs0:Sh:=(.own (.frz (.list (.int .u16))))
abbrev zs1:Sh:=(.box (.frz aC))
abbrev zs2:Sh:=(.frz (.rose aE))
abbrev zs3:Sh:=(.seq .i (.seq (.frz aI) (.seq (.seq .b (.own .w)) (.seq (.own .h) .i))))
abbrev zs4:Sh:=(.frz (.int .u64))
abbrev zs5:Sh:=(.box (.seq .i (.seq .s (.seq (.own .h) (.seq (.frz aI) (.seq (.seq .b (.own .w)) (.seq .i .b)))))))
abbrev zs6:Sh:=(.box (.frz aR))
abbrev zs7:Sh:=(.frz (.list (.int .u16)))
noncomputable def zT:List Sh:=[.i,zs0,.b,aJ,zs1,zs4,aK,.box (.frz aM),.box (.seq .i (.seq .s zs3)),zs6,fK,.box zs2,.box (.frz bH),.box rG,.bor (.own .h),.box (.frz aI),.own .s,.own (.frz bO),.own (.frz bH),.own .h,.box (.seq .i (.seq .i (.seq (.own (.frz bO)) (.seq (.own (.frz bH)) (.seq .s (.seq .i (.seq .i (.seq zs3 (.seq .i (.seq .i (.seq .i (.seq .i (.own .y))))))))))))),.box zs3,.box kD,.s,dA,zs5,.own .y,.own .w,.box (.frz aj),.own zs2,.own .i,.frz (.list (.int .u32)),.box (.frz fT),rF,.w,.box (.seq .b (.own .w)),.own (.frz aC),.frz (.int .i32),zs7,.own (.frz cK),.box (.frz j5)]
abbrev zA(n:Nat):Ann:=annOf zT n
noncomputable def L0:List Spec:=[kW 32 (.int .u16),kW 46 (.int .u32),kW 185 (.int .u8),oI 112 183 bO,oI 112 184 bH,sy 122,s7 431,kW 158 .str]
noncomputable def ib(G:bl):List Spec:=[parse_parser_item.spec G,parse_parser_declares.spec G,parse_parser_statement.spec G,parse_parser_assign.spec G,parse_parser_word.spec G,parse_parser_simple.spec G,parse_parser_body.spec G,parse_parser_cond.spec G,parse_parser_either.spec G,parse_parser_level.spec G,parse_parser_both.spec G,parse_parser_unary.spec G,parse_parser_calls.spec G,parse_parser_head.spec G,parse_parser_arguments.spec G,parse_parser_member.spec G,parse_parser_primary.spec G,parse_parser_list.spec G]
noncomputable def eu(G:af):List Spec:=[eval_run_list.spec G,eval_run_statement.spec G,eval_run_act.spec G,eval_run_expression.spec G,eval_run_block.spec G,eval_run_decls.spec G,eval_run_choice.spec G,eval_run_while.spec G,eval_run_loop.spec G,eval_run_try.spec G,eval_run_value.spec G,eval_run_asked.spec G,eval_run_first.spec G,eval_run_catch.spec G,eval_run_array.spec G,eval_run_object.spec G,eval_run_operation.spec G,eval_run_unary.spec G,eval_run_step.spec G,eval_run_binary.spec G,eval_run_logic.spec G,eval_run_assign.spec G,eval_run_callee.spec G,eval_run_arguments.spec G,eval_run_fresh.spec G,eval_run_property.spec G,eval_run_parts.spec G,eval_run_called.spec G,eval_run_call.spec G,eval_run_builds.spec G,eval_run_apply.spec G,eval_run_does.spec G,eval_run_host.spec G,eval_run_receives.spec G]
noncomputable def L1:List Spec:=gS.spec::mU.spec::mO.spec::fQ.spec::gr.spec::jt.spec::kp.spec::eW.spec::av.spec::jo.spec::gJ.spec::dY.spec::dX.spec::jd.spec::lT.spec::fY.spec::jy.spec::cj.spec::fW.spec::mA.spec::bI.spec::aW.spec::iu.spec::bN.spec::cE.spec::bM.spec::gl.spec::bt.spec::gx.spec::iE.spec fuel::ik.spec::eB.spec::jq.spec::lQ.spec::gh.spec::kK.spec::ez.spec::eO.spec::iS.spec::gU.spec::fk.spec::gz.spec::fL.spec::iO.spec::jc.spec::fi.spec::kT.spec::lV.spec::ea.spec::cF.spec::bB.spec::fj.spec::eV.spec::cn.spec::ed.spec::cP.spec::gp.spec::gE.spec::fx.spec::kh.spec::bP.spec::ij.spec::gD.spec::iP.spec::lC.spec::fg.spec::ec.spec::gB.spec::kH.spec::b9.spec::iG.spec::cD.spec::fU.spec::cL.spec::mC.spec::lD.spec::jb.spec::ei.spec::jm.spec::jC.spec::kL.spec::nD.spec::kX.spec::jl.spec::dC.spec::fo.spec::jg.spec::eY.spec::dy.spec::je.spec::bk.spec::dM.spec::aN.spec::cm.spec::iD.spec::jA.spec::j6.spec::gV.spec::iT.spec::gO.spec::L0
noncomputable def L2:List Spec:=ko.spec::gN.spec::fy.spec::bL.spec::ay.spec::bo.spec::cr.spec::jL.spec::iA.spec::ev.spec::gL.spec::fO.spec::cQ.spec::bU.spec::aS.spec::kC.spec::lE.spec::jH.spec::ja.spec::ll.spec::fF.spec::fP.spec::bJ.spec::jS.spec::gv.spec::ah.spec::bu.spec::dD.spec::aL.spec::mR.spec::gM.spec::dV.spec::iK.spec::fI.spec::bC.spec::cG.spec::eH.spec::al.spec::bW.spec::cx.spec::ff.spec::bT.spec::fD.spec::kV.spec::jD.spec::fE.spec::nS.spec::cp.spec::kY.spec::jP.spec::iQ.spec::iV.spec::dK.spec::jx.spec::gf.spec::dv.spec::lM.spec::gK.spec::cg.spec::fN.spec::aY.spec::cY.spec::cT.spec::jT.spec::L1
noncomputable def L3:List Spec:=bF.spec::bY.spec::fX.spec::iR.spec::aw.spec::lU.spec::gR.spec::aO.spec::fV.spec::mr.spec::iZ.spec::lN.spec::jR.spec::iB.spec::bA.spec::dn.spec::c7.spec::fG.spec::fJ.spec::iL.spec::eR.spec::dP.spec::cM.spec::jn.spec::lW.spec::gm.spec::fl.spec::ly.spec::kz.spec::eN.spec::bh.spec::iH.spec::jh.spec::lB.spec::jJ.spec::lR.spec::kn.spec::i6.spec::gI.spec::bZ.spec::iU.spec::nE.spec::mu.spec::nA.spec::ca.spec::lO.spec::kS.spec::fp.spec::dx.spec::eE.spec::cU.spec::di.spec::kc.spec::cB.spec::hJ.spec::ig.spec::L2
noncomputable def L4:List Spec:=ax.spec::aq.spec::dU.spec::ai.spec::eC.spec::ia.spec::az.spec::aX.spec::bE.spec::ae.spec::cN.spec::dh.spec::iX.spec::iM.spec::js.spec::er.spec::cz.spec::jZ.spec::dd.spec::lX.spec::ic.spec::lv.spec::mw.spec::nB.spec::mm.spec::nC.spec::lL.spec::gg.spec::gi.spec::lx.spec::kf.spec::jj.spec::aP.spec::aH.spec fuel::fA.spec::L3
noncomputable def L5:List Spec:=gP.spec::gd.spec::eS.spec::eo.spec::au.spec::bm.spec::dI.spec::cw.spec::cI.spec::mN.spec::eA.spec::gC.spec::gF.spec::kj.spec::mq.spec::jf.spec::kM.spec::aV.spec::dw.spec::L4
noncomputable def L6:List Spec:=fC.spec::mJ.spec::jF.spec::jO.spec::bc.spec::aF.spec::cH.spec::cW.spec::cc.spec::ke.spec::aT.spec::cX.spec::(ib (dQ fuel)++L5)
noncomputable def L7:List Spec:=fq.spec::dz.spec::jQ.spec::cC.spec::dB.spec::cV.spec::bj.spec::dm.spec::eL.spec::dk.spec::iq.spec::jk.spec::dO.spec::eQ.spec::dL.spec::eK.spec::cf.spec::cS.spec::gH.spec::L6
noncomputable def L8:List Spec:=kv.spec::fH.spec::cA.spec::da.spec::ji.spec::dJ.spec::kZ.spec::eg.spec::fc.spec::fR.spec::iF.spec::cb.spec::ch.spec::eM.spec::eI.spec::cR.spec::dE.spec::dF.spec::dq.spec::dt.spec::L7
noncomputable def L9:List Spec:=j8.spec::de.spec::ee.spec::ju.spec::kg.spec::dG.spec::dH.spec::L8
noncomputable def L10:List Spec:=jG.spec::db.spec::eG.spec::ga.spec::L9
noncomputable def L11:List Spec:=(eu (bw fuel)++L10)
noncomputable def L12:List Spec:=cZ.spec::L11
noncomputable def L13:List Spec:=fb.spec::L12
noncomputable def L14:List Spec:=ey.spec::L13
noncomputable def L15:List Spec:=eX.spec::L14
noncomputable def L16:List Spec:=gA.spec::L15
noncomputable def L17:List Spec:=eZ.spec::L16
noncomputable def L18:List Spec:=dS.spec::L17
end Go.Mach
end

