/-
  Proved here: the law renlaw12.EvalOpers returns true for every input of the stated bulk and leaves its arguments as they were; no further condition.
  By an AI agent; no person has read it.
-/
import Derived.Test.YtimhplnifencnaaGreatDoorPartd
import Derived.KernelRfl
import Derived.Test.YtimhplnifencnaaGreatDoorProg
set_option linter.all false
set_option linter.deprecated false
set_option linter.unusedVariables false
set_option maxRecDepth 100000
noncomputable section
namespace Go.Mach
open Go.Proofs
def owned : List (TypeId × Sh) := [(190, kL)]
abbrev Q (l : List Spec) : Env := { P := Tryz.prog, specs := l, ety := nX Tryz.prog owned }
def dt.spec : Spec := dt.g.sp 177 fun x => R.dt x
def iD.spec : Spec := iD.g.sp 126 fun x => R.iD x
def jN.spec : Spec := jN.g.sp 229 fun x => R.jN x
def jC.spec : Spec := jC.g.sp 230 fun x => R.jC x
def cY.spec : Spec := cY.g.sp 231 fun x => R.cY x.1 x.2
def dx.spec : Spec := dx.g.sp 207 fun x => R.dx x
def fF.spec : Spec := fF.g.sp 182 fun x => R.fF x
def gF.spec : Spec := gF.g.sp 183 fun x => R.gF x
def dV.spec : Spec := dV.g.sp 266 fun x => R.dV x
def bB.spec : Spec := bB.g.sp 236 fun x => R.bB x.1 x.2.1 x.2.2
def av.spec : Spec := av.g.sp 265 fun x => R.av x.1 x.2
def ij.spec : Spec := ij.g.sp 181 fun x => R.ij x
def dv.spec : Spec := dv.g.sp 233 fun x => R.dv x
def bE.spec : Spec := bE.g.sp 236 fun x => R.bE x.1 x.2.1 x.2.2
def bQ.spec : Spec := bQ.g.sp 265 fun x => R.bQ x.1 x.2
def cg.spec : Spec := cg.g.sp 296 fun x => R.cg x.1 x.2
def aw.spec : Spec := aw.g.sp 236 fun x => R.aw x.1 x.2.1 x.2.2
def dH.spec : Spec := dH.g.sp 268 fun x => R.dH x.1 x.2
def bn.spec : Spec := bn.g.sp 236 fun x => R.bn x.1 x.2.1 x.2.2
def aq.spec : Spec := aq.g.sp 67 fun x => R.aq x
def gO.spec : Spec := gO.g.sp 116 fun x => R.gO x
def eo.spec : Spec := eo.g.sp 121 fun x => R.eo x
def cC.spec : Spec := cC.g.sp 204 fun x => R.cC x.1 x.2
def bh.spec : Spec := bh.g.sp 174 fun x => R.bh x.1 x.2
def fI.spec : Spec := fI.g.sp 117 fun x => R.fI x
def bw.spec : Spec := bw.g.sp 166 fun x => R.bw x.1 x.2
def gp.spec : Spec := gp.g.sp 118 fun x => R.gp x.1 x.2
def ec.spec : Spec := ec.g.sp 120 fun x => R.ec x
def aW.spec : Spec := aW.g.sp 175 fun x => R.aW x.1 x.2
def aU.spec : Spec := aU.g.sp 119 fun x => R.aU x.1 x.2
def gN.spec : Spec := gN.g.sp 122 fun x => R.gN x
def gd.spec : Spec := gd.g.sp 36 fun x => R.gd x
def dU.spec : Spec := dU.g.sp 106 fun _ => R.dU
def cz.spec : Spec := cz.g.sp 100 fun x => R.cz x
def iP.spec : Spec := iP.g.sp 101 fun x => R.iP x
def bS.spec : Spec := bS.g.sp 102 fun x => R.bS x
def dN.spec : Spec := dN.g.sp 103 fun x => R.dN x
def iO.spec : Spec := iO.g.sp 57 fun x => R.iO x
def eK.spec : Spec := eK.g.sp 65 fun x => R.eK x
def dF.spec : Spec := dF.g.sp 234 fun x => R.dF x
def dC.spec : Spec := dC.g.sp 235 fun x => R.dC x
def fy.spec : Spec := fy.g.sp 112 fun x => R.fy x
def jE.spec : Spec := jE.g.sp 270 fun x => R.jE x
def dy.spec : Spec := dy.g.sp 237 fun x => R.dy x
def dP.spec : Spec := dP.g.sp 208 fun x => R.dP x
def iA.spec : Spec := iA.g.sp 178 fun x => R.iA x
def ae.spec : Spec := ae.g.sp 209 fun x => R.ae x.1 x.2
def aK.spec : Spec := aK.g.sp 210 fun x => R.aK x
def eJ.spec : Spec := eJ.g.sp 238 fun x => R.eJ x.1 x.2
def bA.spec : Spec := bA.g.sp 276 fun x => R.bA x.1 x.2
def aI.spec : Spec := aI.g.sp 241 fun x => R.aI x.1 x.2
def bj.spec : Spec := bj.g.sp 240 fun x => R.bj x
def a8.spec : Spec := a8.g.sp 242 fun x => R.a8 x
def aS.spec : Spec := aS.g.sp 271 fun x => R.aS x.1 x.2
def ak.spec : Spec := ak.g.sp 272 fun x => R.ak x.1 x.2.1 x.2.2
def bM.spec : Spec := bM.g.sp 274 fun x => R.bM x
def aj.spec : Spec := aj.g.sp 279 fun x => R.aj x.1 x.2
def dJ.spec : Spec := dJ.g.sp 300 fun x => R.dJ x
def cc.spec : Spec := cc.g.sp 277 fun x => R.cc x
def eU.spec : Spec := eU.g.sp 130 fun x => R.eU x
def bI.spec : Spec := bI.g.sp 184 fun x => R.bI x.1 x.2
def aN.spec : Spec := aN.g.sp 131 fun x => R.aN x.1 x.2
def jX.spec : Spec := jX.g.sp 302 fun x => R.jX x.1 x.2
def ee.spec : Spec := ee.g.sp 136 fun x => R.ee x
def gU.spec : Spec := gU.g.sp 354 fun x => R.gU x
def parse_parser_item.spec (G : bK) : Spec := parse_parser_item.g.sp 211 fun x => G.parse_parser_item x
def parse_parser_declares.spec (G : bK) : Spec := parse_parser_declares.g.sp 239 fun x => G.parse_parser_declares x
def parse_parser_statement.spec (G : bK) : Spec := parse_parser_statement.g.sp 244 fun x => G.parse_parser_statement x
def parse_parser_assign.spec (G : bK) : Spec := parse_parser_assign.g.sp 273 fun x => G.parse_parser_assign x
def parse_parser_word.spec (G : bK) : Spec := parse_parser_word.g.sp 280 fun x => G.parse_parser_word x.1 x.2
def parse_parser_simple.spec (G : bK) : Spec := parse_parser_simple.g.sp 281 fun x => G.parse_parser_simple x
def parse_parser_body.spec (G : bK) : Spec := parse_parser_body.g.sp 299 fun x => G.parse_parser_body x.1 x.2
def parse_parser_cond.spec (G : bK) : Spec := parse_parser_cond.g.sp 301 fun x => G.parse_parser_cond x
def parse_parser_either.spec (G : bK) : Spec := parse_parser_either.g.sp 318 fun x => G.parse_parser_either x
def parse_parser_level.spec (G : bK) : Spec := parse_parser_level.g.sp 332 fun x => G.parse_parser_level x.1 x.2
def parse_parser_both.spec (G : bK) : Spec := parse_parser_both.g.sp 333 fun x => G.parse_parser_both x.1 x.2
def parse_parser_unary.spec (G : bK) : Spec := parse_parser_unary.g.sp 353 fun x => G.parse_parser_unary x
def parse_parser_calls.spec (G : bK) : Spec := parse_parser_calls.g.sp 376 fun x => G.parse_parser_calls x
def parse_parser_head.spec (G : bK) : Spec := parse_parser_head.g.sp 403 fun x => G.parse_parser_head x
def parse_parser_arguments.spec (G : bK) : Spec := parse_parser_arguments.g.sp 404 fun x => G.parse_parser_arguments x
def parse_parser_member.spec (G : bK) : Spec := parse_parser_member.g.sp 405 fun x => G.parse_parser_member x.1 x.2
def parse_parser_primary.spec (G : bK) : Spec := parse_parser_primary.g.sp 425 fun x => G.parse_parser_primary x
def parse_parser_list.spec (G : bK) : Spec := parse_parser_list.g.sp 426 fun x => G.parse_parser_list x.1 x.2
def cO.spec : Spec := cO.g.sp 179 fun x => R.cO x
def fl.spec (fu : Nat) : Spec := fl.g.sp 212 fun x => R.fl fu x.1 x.2
def iE.spec : Spec := iE.g.sp 180 fun x => R.iE x
def gG.spec : Spec := gG.g.sp 42 fun x => R.gG x
def cn.spec : Spec := cn.g.sp 41 fun x => R.cn x
def gT.spec : Spec := gT.g.sp 127 fun x => R.gT x
def gl.spec : Spec := gl.g.sp 38 fun x => R.gl x
def gZ.spec : Spec := gZ.g.sp 37 fun x => R.gZ x
def jS.spec : Spec := jS.g.sp 129 fun x => R.jS x
def il.spec : Spec := il.g.sp 128 fun x => R.il x
def mb.env (P : Program) : Env := { P := P, specs := [], ety := nX P owned }
def eX.spec : Spec := eX.g.sp 72 fun x => R.eX x
def cf.spec : Spec := cf.g.sp 39 fun x => R.cf x
def fU.spec : Spec := fU.g.sp 132 fun x => R.fU x.1 x.2
def iC.spec : Spec := iC.g.sp 73 fun x => R.iC x.1 x.2
def ia.spec : Spec := ia.g.sp 74 fun x => R.ia x
def er.spec : Spec := er.g.sp 133 fun x => R.er x
def dI.spec : Spec := dI.g.sp 135 fun x => R.dI x
def jO.spec : Spec := jO.g.sp 75 fun x => R.jO x.1 x.2
def gu.spec : Spec := gu.g.sp 40 fun x => R.gu x.1 x.2
def fa.spec : Spec := fa.g.sp 14 fun x => R.fa x
def eH.spec : Spec := eH.g.sp 77 fun x => R.eH x
def eV.spec : Spec := eV.g.sp 185 fun x => R.eV x
def fX.spec : Spec := fX.g.sp 186 fun x => R.fX x.1 x.2
def eA.spec : Spec := eA.g.sp 187 fun x => R.eA x
def eM.spec : Spec := eM.g.sp 138 fun x => R.eM x.1 x.2
def gv.spec : Spec := gv.g.sp 137 fun x => R.gv x
def fb.spec : Spec := fb.g.sp 189 fun x => R.fb x.1 x.2
def af.spec : Spec := af.g.sp 213 fun x => R.af x.1 x.2
def aa.spec : Spec := aa.g.sp 188 fun x => R.aa x.1 x.2
def gz.spec : Spec := gz.g.sp 139 fun x => R.gz x.1 x.2.1 x.2.2
def gC.spec : Spec := gC.g.sp 78 fun x => R.gC x.1 x.2.1 x.2.2
def dd.spec : Spec := dd.g.sp 43 fun x => R.dd x
def fg.spec : Spec := fg.g.sp 71 fun x => R.fg x
def jx.spec : Spec := jx.g.sp 44 fun x => R.jx x
def jY.spec : Spec := jY.g.sp 79 fun x => R.jY x
def dE.spec : Spec := dE.g.sp 217 fun x => R.dE x
def gS.spec : Spec := gS.g.sp 245 fun x => R.gS x
def eW.spec : Spec := eW.g.sp 214 fun x => R.eW x.1 x.2
def bU.spec : Spec := bU.g.sp 215 fun x => R.bU x.1 x.2
def ah.spec : Spec := ah.g.sp 193 fun x => R.ah x.1 x.2
def cW.spec : Spec := cW.g.sp 144 fun x => R.cW x.1 x.2
def bN.spec : Spec := bN.g.sp 197 fun x => R.bN x.1 x.2
def dw.spec : Spec := dw.g.sp 247 fun x => R.dw x.1 x.2
def aX.spec : Spec := aX.g.sp 246 fun x => R.aX x.1 x.2
def cX.spec : Spec := cX.g.sp 216 fun x => R.cX x.1 x.2.1 x.2.2
def bL.spec : Spec := bL.g.sp 194 fun x => R.bL x.1 x.2.1 x.2.2.1 x.2.2.2.1 x.2.2.2.2.1 x.2.2.2.2.2
def dW.spec : Spec := dW.g.sp 286 fun x => R.dW x.1 x.2
def aT.spec : Spec := aT.g.sp 285 fun x => R.aT x.1 x.2
def cx.spec : Spec := cx.g.sp 248 fun x => R.cx x.1 x.2.1 x.2.2
def di.spec : Spec := di.g.sp 218 fun x => R.di x.1 x.2.1 x.2.2.1 x.2.2.2
def cU.spec : Spec := cU.g.sp 219 fun x => R.cU x.1 x.2.1 x.2.2.1 x.2.2.2.1 x.2.2.2.2
def cL.spec : Spec := cL.g.sp 195 fun x => R.cL x.1 x.2.1 x.2.2
def ca.spec : Spec := ca.g.sp 145 fun x => R.ca x.1 x.2.1 x.2.2
def bo.spec : Spec := bo.g.sp 220 fun x => R.bo x
def fW.spec : Spec := fW.g.sp 255 fun x => R.fW x.1 x.2.1 x.2.2
def cE.spec : Spec := cE.g.sp 27 fun x => R.cE x
def eT.spec : Spec := eT.g.sp 55 fun x => R.eT x
def cJ.spec : Spec := cJ.g.sp 82 fun x => R.cJ x
def dL.spec : Spec := dL.g.sp 334 fun x => R.dL x.1 x.2.1 x.2.2
def cZ.spec : Spec := cZ.g.sp 355 fun x => R.cZ x.1 x.2
def aE.spec : Spec := aE.g.sp 335 fun x => R.aE x.1 x.2
def fD.spec : Spec := fD.g.sp 356 fun _ => R.fD
def eO.spec : Spec := eO.g.sp 397 fun x => R.eO x
def dh.spec : Spec := dh.g.sp 398 fun _ => R.dh
def cw.spec : Spec := cw.g.sp 372 fun _ => R.cw
def cV.spec : Spec := cV.g.sp 357 fun x => R.cV x
def fx.spec : Spec := fx.g.sp 336 fun x => R.fx x
def iV.spec : Spec := iV.g.sp 337 fun x => R.iV x
def aO.spec : Spec := aO.g.sp 310 fun x => R.aO x
def dK.spec : Spec := dK.g.sp 320 fun x => R.dK x.1 x.2.1 x.2.2.1 x.2.2.2
def ey.spec : Spec := ey.g.sp 309 fun x => R.ey x.1 x.2.1 x.2.2
def az.spec : Spec := az.g.sp 51 fun x => R.az x
def iF.spec : Spec := iF.g.sp 321 fun x => R.iF x
def eu.spec : Spec := eu.g.sp 35 fun x => R.eu x
def fL.spec : Spec := fL.g.sp 12 fun x => R.fL x
def bH.spec : Spec := bH.g.sp 46 fun x => R.bH x
def dD.spec : Spec := dD.g.sp 107 fun x => R.dD x
def fm.spec : Spec := fm.g.sp 108 fun x => R.fm x
def fO.spec : Spec := fO.g.sp 59 fun x => R.fO x.1 x.2
def gq.spec : Spec := gq.g.sp 20 fun x => R.gq x
def cA.spec : Spec := cA.g.sp 26 fun x => R.cA x
def jD.spec : Spec := jD.g.sp 61 fun x => R.jD x
def cH.spec : Spec := cH.g.sp 54 fun x => R.cH x
def cD.spec : Spec := cD.g.sp 98 fun x => R.cD x
def eP.spec : Spec := eP.g.sp 99 fun x => R.eP x
def fG.spec : Spec := fG.g.sp 124 fun x => R.fG x
def fY.spec : Spec := fY.g.sp 124 fun x => R.fY x
def eY.spec : Spec := eY.g.sp 97 fun x => R.eY x.1 x.2
def jI.spec : Spec := jI.g.sp 56 fun x => R.jI x
def ea.spec : Spec := ea.g.sp 105 fun x => R.ea x
def gR.spec : Spec := gR.g.sp 104 fun x => R.gR x
def jG.spec : Spec := jG.g.sp 58 fun x => R.jG x.1 x.2.1 x.2.2
def gQ.spec : Spec := gQ.g.sp 19 fun x => R.gQ x.1 x.2
def cI.spec : Spec := cI.g.sp 338 fun x => R.cI x.1 x.2.1 x.2.2
def i6.spec : Spec := i6.g.sp 68 fun x => R.i6 x
def bc.spec : Spec := bc.g.sp 125 fun x => R.bc x
def iy.spec : Spec := iy.g.sp 69 fun x => R.iy x
def bg.spec : Spec := bg.g.sp 32 fun x => R.bg x
def iH.spec : Spec := iH.g.sp 47 fun x => R.iH x.1 x.2
def dG.spec : Spec := dG.g.sp 83 fun x => R.dG x.1 x.2
def iz.spec : Spec := iz.g.sp 199 fun x => R.iz x.1 x.2
def fw.spec : Spec := fw.g.sp 198 fun x => R.fw x.1 x.2
def iR.spec : Spec := iR.g.sp 222 fun x => R.iR x
def gj.spec : Spec := gj.g.sp 200 fun x => R.gj x.1 x.2
def gJ.spec : Spec := gJ.g.sp 203 fun x => R.gJ x.1 x.2.1 x.2.2
def gV.spec : Spec := gV.g.sp 172 fun x => R.gV x.1 x.2
def jF.spec : Spec := jF.g.sp 149 fun x => R.jF x.1 x.2
def eD.spec : Spec := eD.g.sp 148 fun x => R.eD x.1 x.2
def jv.spec : Spec := jv.g.sp 150 fun x => R.jv x.1 x.2
def jm.spec : Spec := jm.g.sp 151 fun x => R.jm x.1 x.2
def gL.spec : Spec := gL.g.sp 223 fun x => R.gL x.1 x.2
def fE.spec : Spec := fE.g.sp 201 fun x => R.fE x.1 x.2
def jr.spec : Spec := jr.g.sp 152 fun x => R.jr x.1 x.2
def jo.spec : Spec := jo.g.sp 153 fun x => R.jo x.1 x.2
def iG.spec : Spec := iG.g.sp 84 fun x => R.iG x.1 x.2.1 x.2.2
def cu.spec : Spec := cu.g.sp 154 fun x => R.cu x
def kn.spec : Spec := kn.g.sp 155 fun x => R.kn x
def jH.spec : Spec := jH.g.sp 86 fun x => R.jH x.1 x.2
def cG.spec : Spec := cG.g.sp 85 fun x => R.cG x.1 x.2
def jt.spec : Spec := jt.g.sp 87 fun x => R.jt x.1 x.2
def gE.spec : Spec := gE.g.sp 156 fun x => R.gE x
def bu.spec : Spec := bu.g.sp 157 fun x => R.bu x
def dZ.spec : Spec := dZ.g.sp 159 fun x => R.dZ x
def gM.spec : Spec := gM.g.sp 158 fun x => R.gM x.1 x.2
def eI.spec : Spec := eI.g.sp 160 fun x => R.eI x.1 x.2
def jn.spec : Spec := jn.g.sp 88 fun x => R.jn x.1 x.2
def ju.spec : Spec := ju.g.sp 89 fun x => R.ju x.1 x.2
def jl.spec : Spec := jl.g.sp 90 fun x => R.jl x.1 x.2
def gX.spec : Spec := gX.g.sp 48 fun x => R.gX x.1 x.2.1 x.2.2
def iK.spec : Spec := iK.g.sp 49 fun x => R.iK x.1 x.2.1 x.2.2
def cr.spec : Spec := cr.g.sp 224 fun x => R.cr x
def cK.spec : Spec := cK.g.sp 202 fun x => R.cK x.1 x.2
def bd.spec : Spec := bd.g.sp 161 fun x => R.bd x.1 x.2
def iY.spec : Spec := iY.g.sp 91 fun x => R.iY x.1 x.2
def iM.spec : Spec := iM.g.sp 162 fun x => R.iM x.1 x.2
def ja.spec : Spec := ja.g.sp 60 fun x => R.ja x
def eh.spec : Spec := eh.g.sp 163 fun x => R.eh x.1 x.2
def jB.spec : Spec := jB.g.sp 164 fun x => R.jB x.1 x.2
def gI.spec : Spec := gI.g.sp 92 fun x => R.gI x.1 x.2
def fA.spec : Spec := fA.g.sp 50 fun x => R.fA x.1 x.2.1 x.2.2.1 x.2.2.2
def cM.spec : Spec := cM.g.sp 165 fun x => R.cM x.1 x.2
def iW.spec : Spec := iW.g.sp 93 fun x => R.iW x.1 x.2
def eL.spec : Spec := eL.g.sp 52 fun x => R.eL x.1 x.2
def gW.spec : Spec := gW.g.sp 94 fun x => R.gW x
def eF.spec : Spec := eF.g.sp 95 fun x => R.eF x
def jA.spec : Spec := jA.g.sp 167 fun x => R.jA x.1 x.2
def gf.spec : Spec := gf.g.sp 96 fun x => R.gf x.1 x.2
def gP.spec : Spec := gP.g.sp 53 fun x => R.gP x.1 x.2
def bF.spec : Spec := bF.g.sp 17 fun x => R.bF x.1 x.2.1 x.2.2
def eS.spec : Spec := eS.g.sp 359 fun x => R.eS x.1 x.2.1 x.2.2.1 x.2.2.2
def fk.spec : Spec := fk.g.sp 343 fun x => R.fk x.1 x.2.1 x.2.2.1 x.2.2.2
def ay.spec : Spec := ay.g.sp 147 fun x => R.ay x.1 x.2
def fi.spec : Spec := fi.g.sp 348 fun x => R.fi x
def cy.spec : Spec := cy.g.sp 349 fun x => R.cy x.1 x.2.1 x.2.2
def bl.spec : Spec := bl.g.sp 350 fun x => R.bl x.1 x.2
def jM.spec : Spec := jM.g.sp 373 fun x => R.jM x
def jd.spec : Spec := jd.g.sp 361 fun x => R.jd x
def dp.spec : Spec := dp.g.sp 364 fun x => R.dp x.1 x.2
def eE.spec : Spec := eE.g.sp 399 fun x => R.eE x
def fB.spec : Spec := fB.g.sp 400 fun x => R.fB x.1 x.2.1 x.2.2.1 x.2.2.2.1 x.2.2.2.2
def me.env (P : Program) : Env := { P := P, specs := [bN.spec], ety := nX P owned }
def de.spec : Spec := de.g.sp 393 fun x => R.de x.1 x.2
def ej.spec : Spec := ej.g.sp 21 fun x => R.ej x
def du.spec : Spec := du.g.sp 375 fun x => R.du x.1 x.2.1 x.2.2
def eN.spec : Spec := eN.g.sp 352 fun x => R.eN x.1 x.2
def gx.spec : Spec := gx.g.sp 358 fun x => R.gx x
def bt.spec : Spec := bt.g.sp 367 fun x => R.bt x.1 x.2
def gm.spec : Spec := gm.g.sp 410 fun x => R.gm x
def iu.spec : Spec := iu.g.sp 390 fun x => R.iu x
def ct.spec : Spec := ct.g.sp 366 fun x => R.ct x
def dM.spec : Spec := dM.g.sp 391 fun x => R.dM x.1 x.2
def dQ.spec : Spec := dQ.g.sp 368 fun x => R.dQ x.1 x.2
def cQ.spec : Spec := cQ.g.sp 435 fun x => R.cQ x.1 x.2
def cF.spec : Spec := cF.g.sp 424 fun x => R.cF x.1 x.2
def dB.spec : Spec := dB.g.sp 394 fun x => R.dB x.1 x.2
def fj.spec : Spec := fj.g.sp 395 fun x => R.fj x
def iI.spec : Spec := iI.g.sp 370 fun x => R.iI x
def eR.spec : Spec := eR.g.sp 392 fun x => R.eR x.1 x.2
def ev.spec : Spec := ev.g.sp 396 fun x => R.ev x.1 x.2.1 x.2.2.1 x.2.2.2.1 x.2.2.2.2
def dm.spec : Spec := dm.g.sp 371 fun x => R.dm x.1 x.2.1 x.2.2
def dS.spec : Spec := dS.g.sp 384 fun x => R.dS x.1 x.2.1 x.2.2
def b8.spec : Spec := b8.g.sp 411 fun x => R.b8 x.1 x.2
def cp.spec : Spec := cp.g.sp 385 fun x => R.cp x.1 x.2
def b9.spec : Spec := b9.g.sp 415 fun x => R.b9 x.1 x.2
def bx.spec : Spec := bx.g.sp 387 fun x => R.bx x.1 x.2
def eZ.spec : Spec := eZ.g.sp 416 fun x => R.eZ x.1 x.2.1 x.2.2
def ew.spec : Spec := ew.g.sp 413 fun x => R.ew x.1 x.2.1 x.2.2.1 x.2.2.2.1 x.2.2.2.2.1 x.2.2.2.2.2
def dn.spec : Spec := dn.g.sp 388 fun x => R.dn x.1 x.2.1 x.2.2
def eval_run_list.spec (G : bJ) : Spec := eval_run_list.g.sp 146 fun x => G.eval_run_list x.1 x.2.1 x.2.2
def eval_run_statement.spec (G : bJ) : Spec := eval_run_statement.g.sp 196 fun x => G.eval_run_statement x.1 x.2.1 x.2.2.1 x.2.2.2
def eval_run_act.spec (G : bJ) : Spec := eval_run_act.g.sp 221 fun x => G.eval_run_act x.1 x.2.1 x.2.2.1 x.2.2.2
def eval_run_expression.spec (G : bJ) : Spec := eval_run_expression.g.sp 249 fun x => G.eval_run_expression x.1 x.2.1 x.2.2
def eval_run_decls.spec (G : bJ) : Spec := eval_run_decls.g.sp 251 fun x => G.eval_run_decls x.1 x.2.1 x.2.2
def eval_run_value.spec (G : bJ) : Spec := eval_run_value.g.sp 287 fun x => G.eval_run_value x.1 x.2.1 x.2.2
def eval_run_array.spec (G : bJ) : Spec := eval_run_array.g.sp 311 fun x => G.eval_run_array x.1 x.2.1 x.2.2
def eval_run_operation.spec (G : bJ) : Spec := eval_run_operation.g.sp 313 fun x => G.eval_run_operation x.1 x.2.1 x.2.2.1 x.2.2.2
def eval_run_unary.spec (G : bJ) : Spec := eval_run_unary.g.sp 322 fun x => G.eval_run_unary x.1 x.2.1 x.2.2.1 x.2.2.2
def eval_run_binary.spec (G : bJ) : Spec := eval_run_binary.g.sp 324 fun x => G.eval_run_binary x.1 x.2.1 x.2.2
def eval_run_assign.spec (G : bJ) : Spec := eval_run_assign.g.sp 326 fun x => G.eval_run_assign x.1 x.2.1 x.2.2
def eval_run_callee.spec (G : bJ) : Spec := eval_run_callee.g.sp 327 fun x => G.eval_run_callee x.1 x.2.1 x.2.2
def eval_run_arguments.spec (G : bJ) : Spec := eval_run_arguments.g.sp 328 fun x => G.eval_run_arguments x.1 x.2.1 x.2.2
def eval_run_fresh.spec (G : bJ) : Spec := eval_run_fresh.g.sp 329 fun x => G.eval_run_fresh x.1 x.2.1 x.2.2
def eval_run_property.spec (G : bJ) : Spec := eval_run_property.g.sp 330 fun x => G.eval_run_property x.1 x.2.1 x.2.2
def eval_run_parts.spec (G : bJ) : Spec := eval_run_parts.g.sp 340 fun x => G.eval_run_parts x.1 x.2.1 x.2.2
def eval_run_called.spec (G : bJ) : Spec := eval_run_called.g.sp 345 fun x => G.eval_run_called x.1 x.2.1 x.2.2
def eval_run_call.spec (G : bJ) : Spec := eval_run_call.g.sp 346 fun x => G.eval_run_call x.1 x.2.1 x.2.2.1 x.2.2.2
def eval_run_builds.spec (G : bJ) : Spec := eval_run_builds.g.sp 347 fun x => G.eval_run_builds x.1 x.2.1 x.2.2
def eval_run_apply.spec (G : bJ) : Spec := eval_run_apply.g.sp 351 fun x => G.eval_run_apply x.1 x.2.1 x.2.2.1 x.2.2.2
def eval_run_does.spec (G : bJ) : Spec := eval_run_does.g.sp 365 fun x => G.eval_run_does x.1 x.2.1 x.2.2.1 x.2.2.2
def eval_run_host.spec (G : bJ) : Spec := eval_run_host.g.sp 389 fun x => G.eval_run_host x.1 x.2.1 x.2.2
def bV.spec : Spec := bV.g.sp 80 fun x => R.bV x
def dz.spec : Spec := dz.g.sp 81 fun x => R.dz x.1 x.2
def ba.spec : Spec := ba.g.sp 45 fun x => R.ba x.1 x.2.1 x.2.2
def fe.spec : Spec := fe.g.sp 15 fun x => R.fe x.1 x.2.1 x.2.2
def cj.spec : Spec := cj.g.sp 33 fun x => R.cj x.1 x.2
def eQ.spec : Spec := eQ.g.sp 31 fun x => R.eQ x
def eC.spec : Spec := eC.g.sp 30 fun x => R.eC x.1 x.2
def dk.spec : Spec := dk.g.sp 34 fun x => R.dk x.1 x.2.1 x.2.2
def cN.spec : Spec := cN.g.sp 10 fun _ => R.cN
def bW.spec : Spec := bW.g.sp 11 fun x => R.bW x
def dO.spec : Spec := dO.g.sp 13 fun x => R.dO x
def ff.spec : Spec := ff.g.sp 16 fun _ => R.ff
def eB.spec : Spec := eB.g.sp 18 fun x => R.eB x.1 x.2.1 x.2.2.1 x.2.2.2
def cq.spec : Spec := cq.g.sp 3 fun x => R.cq x.1 x.2.1 x.2.2
end Go.Mach
end
