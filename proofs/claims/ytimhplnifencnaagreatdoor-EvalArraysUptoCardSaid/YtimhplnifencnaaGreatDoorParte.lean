/-
  Proved here: the law renlaw12.EvalArrays returns true for every input of the stated bulk and leaves its arguments as they were; no further condition.
  By an AI agent; no person has read it.
-/
import Derived.Test.YtimhplnifencnaaGreatDoorPartd
import Derived.KernelRfl
import Derived.Test.YtimhplnifencnaaGreatDoorProg
set_option linter.all false
set_option linter.deprecated false
set_option linter.unusedVariables false
set_option maxRecDepth 100000
noncomputable section
namespace Go.Mach
open Go.Proofs
def owned : List (TypeId × Sh) := [(190, ju)]
abbrev Q (l : List Spec) : Env := { P := Tryz.prog, specs := l, ety := nF Tryz.prog owned }
def di.spec : Spec := di.g.sp 177 fun x => R.di x
def gS.spec : Spec := gS.g.sp 126 fun x => R.gS x
def ij.spec : Spec := ij.g.sp 229 fun x => R.ij x
def iX.spec : Spec := iX.g.sp 230 fun x => R.iX x
def cM.spec : Spec := cM.g.sp 231 fun x => R.cM x.1 x.2
def dp.spec : Spec := dp.g.sp 207 fun x => R.dp x
def er.spec : Spec := er.g.sp 182 fun x => R.er x
def fg.spec : Spec := fg.g.sp 183 fun x => R.fg x
def dM.spec : Spec := dM.g.sp 266 fun x => R.dM x
def ay.spec : Spec := ay.g.sp 236 fun x => R.ay x.1 x.2.1 x.2.2
def aj.spec : Spec := aj.g.sp 265 fun x => R.aj x.1 x.2
def iG.spec : Spec := iG.g.sp 181 fun x => R.iG x
def dn.spec : Spec := dn.g.sp 233 fun x => R.dn x
def bA.spec : Spec := bA.g.sp 236 fun x => R.bA x.1 x.2.1 x.2.2
def bO.spec : Spec := bO.g.sp 265 fun x => R.bO x.1 x.2
def cW.spec : Spec := cW.g.sp 296 fun x => R.cW x.1 x.2
def al.spec : Spec := al.g.sp 236 fun x => R.al x.1 x.2.1 x.2.2
def dA.spec : Spec := dA.g.sp 268 fun x => R.dA x.1 x.2
def bc.spec : Spec := bc.g.sp 236 fun x => R.bc x.1 x.2.1 x.2.2
def ah.spec : Spec := ah.g.sp 67 fun x => R.ah x
def gQ.spec : Spec := gQ.g.sp 116 fun x => R.gQ x
def fF.spec : Spec := fF.g.sp 121 fun x => R.fF x
def cT.spec : Spec := cT.g.sp 204 fun x => R.cT x.1 x.2
def b9.spec : Spec := b9.g.sp 174 fun x => R.b9 x.1 x.2
def fj.spec : Spec := fj.g.sp 117 fun x => R.fj x
def cB.spec : Spec := cB.g.sp 166 fun x => R.cB x.1 x.2
def gu.spec : Spec := gu.g.sp 118 fun x => R.gu x.1 x.2
def fH.spec : Spec := fH.g.sp 120 fun x => R.fH x
def aW.spec : Spec := aW.g.sp 175 fun x => R.aW x.1 x.2
def aT.spec : Spec := aT.g.sp 119 fun x => R.aT x.1 x.2
def gh.spec : Spec := gh.g.sp 122 fun x => R.gh x
def gp.spec : Spec := gp.g.sp 36 fun x => R.gp x
def dY.spec : Spec := dY.g.sp 106 fun _ => R.dY
def cn.spec : Spec := cn.g.sp 100 fun x => R.cn x
def iH.spec : Spec := iH.g.sp 101 fun x => R.iH x
def bX.spec : Spec := bX.g.sp 102 fun x => R.bX x
def da.spec : Spec := da.g.sp 103 fun x => R.da x
def iI.spec : Spec := iI.g.sp 57 fun x => R.iI x
def eh.spec : Spec := eh.g.sp 65 fun x => R.eh x
def cw.spec : Spec := cw.g.sp 234 fun x => R.cw x
def cy.spec : Spec := cy.g.sp 235 fun x => R.cy x
def fW.spec : Spec := fW.g.sp 112 fun x => R.fW x
def iT.spec : Spec := iT.g.sp 270 fun x => R.iT x
def db.spec : Spec := db.g.sp 237 fun x => R.db x
def dJ.spec : Spec := dJ.g.sp 208 fun x => R.dJ x
def gf.spec : Spec := gf.g.sp 178 fun x => R.gf x
def aX.spec : Spec := aX.g.sp 209 fun x => R.aX x.1 x.2
def aH.spec : Spec := aH.g.sp 210 fun x => R.aH x
def dy.spec : Spec := dy.g.sp 238 fun x => R.dy x.1 x.2
def aw.spec : Spec := aw.g.sp 276 fun x => R.aw x.1 x.2
def aG.spec : Spec := aG.g.sp 241 fun x => R.aG x.1 x.2
def bZ.spec : Spec := bZ.g.sp 240 fun x => R.bZ x
def av.spec : Spec := av.g.sp 242 fun x => R.av x
def aQ.spec : Spec := aQ.g.sp 271 fun x => R.aQ x.1 x.2
def ae.spec : Spec := ae.g.sp 272 fun x => R.ae x.1 x.2.1 x.2.2
def bI.spec : Spec := bI.g.sp 274 fun x => R.bI x
def aa.spec : Spec := aa.g.sp 279 fun x => R.aa x.1 x.2
def dB.spec : Spec := dB.g.sp 300 fun x => R.dB x
def cV.spec : Spec := cV.g.sp 277 fun x => R.cV x
def eF.spec : Spec := eF.g.sp 130 fun x => R.eF x
def bG.spec : Spec := bG.g.sp 184 fun x => R.bG x.1 x.2
def aL.spec : Spec := aL.g.sp 131 fun x => R.aL x.1 x.2
def i7.spec : Spec := i7.g.sp 302 fun x => R.i7 x.1 x.2
def eM.spec : Spec := eM.g.sp 136 fun x => R.eM x
def fo.spec : Spec := fo.g.sp 354 fun x => R.fo x
def parse_parser_item.spec (G : bE) : Spec := parse_parser_item.g.sp 211 fun x => G.parse_parser_item x
def parse_parser_declares.spec (G : bE) : Spec := parse_parser_declares.g.sp 239 fun x => G.parse_parser_declares x
def parse_parser_statement.spec (G : bE) : Spec := parse_parser_statement.g.sp 244 fun x => G.parse_parser_statement x
def parse_parser_assign.spec (G : bE) : Spec := parse_parser_assign.g.sp 273 fun x => G.parse_parser_assign x
def parse_parser_word.spec (G : bE) : Spec := parse_parser_word.g.sp 280 fun x => G.parse_parser_word x.1 x.2
def parse_parser_simple.spec (G : bE) : Spec := parse_parser_simple.g.sp 281 fun x => G.parse_parser_simple x
def parse_parser_body.spec (G : bE) : Spec := parse_parser_body.g.sp 299 fun x => G.parse_parser_body x.1 x.2
def parse_parser_cond.spec (G : bE) : Spec := parse_parser_cond.g.sp 301 fun x => G.parse_parser_cond x
def parse_parser_either.spec (G : bE) : Spec := parse_parser_either.g.sp 318 fun x => G.parse_parser_either x
def parse_parser_level.spec (G : bE) : Spec := parse_parser_level.g.sp 332 fun x => G.parse_parser_level x.1 x.2
def parse_parser_both.spec (G : bE) : Spec := parse_parser_both.g.sp 333 fun x => G.parse_parser_both x.1 x.2
def parse_parser_unary.spec (G : bE) : Spec := parse_parser_unary.g.sp 353 fun x => G.parse_parser_unary x
def parse_parser_calls.spec (G : bE) : Spec := parse_parser_calls.g.sp 376 fun x => G.parse_parser_calls x
def parse_parser_head.spec (G : bE) : Spec := parse_parser_head.g.sp 403 fun x => G.parse_parser_head x
def parse_parser_arguments.spec (G : bE) : Spec := parse_parser_arguments.g.sp 404 fun x => G.parse_parser_arguments x
def parse_parser_member.spec (G : bE) : Spec := parse_parser_member.g.sp 405 fun x => G.parse_parser_member x.1 x.2
def parse_parser_primary.spec (G : bE) : Spec := parse_parser_primary.g.sp 425 fun x => G.parse_parser_primary x
def parse_parser_list.spec (G : bE) : Spec := parse_parser_list.g.sp 426 fun x => G.parse_parser_list x.1 x.2
def cE.spec : Spec := cE.g.sp 179 fun x => R.cE x
def fP.spec (fu : Nat) : Spec := fP.g.sp 212 fun x => R.fP fu x.1 x.2
def gj.spec : Spec := gj.g.sp 180 fun x => R.gj x
def fc.spec : Spec := fc.g.sp 42 fun x => R.fc x
def ca.spec : Spec := ca.g.sp 41 fun x => R.ca x
def fp.spec : Spec := fp.g.sp 127 fun x => R.fp x
def gD.spec : Spec := gD.g.sp 38 fun x => R.gD x
def gA.spec : Spec := gA.g.sp 37 fun x => R.gA x
def ir.spec : Spec := ir.g.sp 129 fun x => R.ir x
def iF.spec : Spec := iF.g.sp 128 fun x => R.iF x
def mH.env (P : Program) : Env := { P := P, specs := [], ety := nF P owned }
def eV.spec : Spec := eV.g.sp 72 fun x => R.eV x
def du.spec : Spec := du.g.sp 39 fun x => R.du x
def fC.spec : Spec := fC.g.sp 132 fun x => R.fC x.1 x.2
def gd.spec : Spec := gd.g.sp 73 fun x => R.gd x.1 x.2
def gz.spec : Spec := gz.g.sp 74 fun x => R.gz x
def eW.spec : Spec := eW.g.sp 133 fun x => R.eW x
def dC.spec : Spec := dC.g.sp 135 fun x => R.dC x
def ik.spec : Spec := ik.g.sp 75 fun x => R.ik x.1 x.2
def gY.spec : Spec := gY.g.sp 40 fun x => R.gY x.1 x.2
def fU.spec : Spec := fU.g.sp 14 fun x => R.fU x
def dx.spec : Spec := dx.g.sp 77 fun x => R.dx x
def eG.spec : Spec := eG.g.sp 185 fun x => R.eG x
def ey.spec : Spec := ey.g.sp 186 fun x => R.ey x.1 x.2
def dw.spec : Spec := dw.g.sp 187 fun x => R.dw x
def eA.spec : Spec := eA.g.sp 138 fun x => R.eA x.1 x.2
def gL.spec : Spec := gL.g.sp 137 fun x => R.gL x
def fI.spec : Spec := fI.g.sp 189 fun x => R.fI x.1 x.2
def aV.spec : Spec := aV.g.sp 213 fun x => R.aV x.1 x.2
def aU.spec : Spec := aU.g.sp 188 fun x => R.aU x.1 x.2
def gM.spec : Spec := gM.g.sp 139 fun x => R.gM x.1 x.2.1 x.2.2
def fb.spec : Spec := fb.g.sp 78 fun x => R.fb x.1 x.2.1 x.2.2
def dQ.spec : Spec := dQ.g.sp 43 fun x => R.dQ x
def fQ.spec : Spec := fQ.g.sp 71 fun x => R.fQ x
def ja.spec : Spec := ja.g.sp 44 fun x => R.ja x
def jF.spec : Spec := jF.g.sp 79 fun x => R.jF x
def cr.spec : Spec := cr.g.sp 217 fun x => R.cr x
def fx.spec : Spec := fx.g.sp 245 fun x => R.fx x
def eJ.spec : Spec := eJ.g.sp 214 fun x => R.eJ x.1 x.2
def bS.spec : Spec := bS.g.sp 215 fun x => R.bS x.1 x.2
def aY.spec : Spec := aY.g.sp 193 fun x => R.aY x.1 x.2
def cN.spec : Spec := cN.g.sp 144 fun x => R.cN x.1 x.2
def bK.spec : Spec := bK.g.sp 197 fun x => R.bK x.1 x.2
def dh.spec : Spec := dh.g.sp 247 fun x => R.dh x.1 x.2
def aS.spec : Spec := aS.g.sp 246 fun x => R.aS x.1 x.2
def cL.spec : Spec := cL.g.sp 216 fun x => R.cL x.1 x.2.1 x.2.2
def bJ.spec : Spec := bJ.g.sp 194 fun x => R.bJ x.1 x.2.1 x.2.2.1 x.2.2.2.1 x.2.2.2.2.1 x.2.2.2.2.2
def dN.spec : Spec := dN.g.sp 286 fun x => R.dN x.1 x.2
def aR.spec : Spec := aR.g.sp 285 fun x => R.aR x.1 x.2
def cg.spec : Spec := cg.g.sp 248 fun x => R.cg x.1 x.2.1 x.2.2
def cz.spec : Spec := cz.g.sp 218 fun x => R.cz x.1 x.2.1 x.2.2.1 x.2.2.2
def cK.spec : Spec := cK.g.sp 219 fun x => R.cK x.1 x.2.1 x.2.2.1 x.2.2.2.1 x.2.2.2.2
def cC.spec : Spec := cC.g.sp 195 fun x => R.cC x.1 x.2.1 x.2.2
def cU.spec : Spec := cU.g.sp 145 fun x => R.cU x.1 x.2.1 x.2.2
def bH.spec : Spec := bH.g.sp 220 fun x => R.bH x
def ez.spec : Spec := ez.g.sp 255 fun x => R.ez x.1 x.2.1 x.2.2
def bx.spec : Spec := bx.g.sp 27 fun x => R.bx x
def eZ.spec : Spec := eZ.g.sp 55 fun x => R.eZ x
def cH.spec : Spec := cH.g.sp 82 fun x => R.cH x
def dD.spec : Spec := dD.g.sp 334 fun x => R.dD x.1 x.2.1 x.2.2
def cP.spec : Spec := cP.g.sp 355 fun x => R.cP x.1 x.2
def aC.spec : Spec := aC.g.sp 335 fun x => R.aC x.1 x.2
def eo.spec : Spec := eo.g.sp 356 fun _ => R.eo
def eB.spec : Spec := eB.g.sp 397 fun x => R.eB x
def dW.spec : Spec := dW.g.sp 398 fun _ => R.dW
def ch.spec : Spec := ch.g.sp 372 fun _ => R.ch
def cR.spec : Spec := cR.g.sp 357 fun x => R.cR x
def fX.spec : Spec := fX.g.sp 336 fun x => R.fX x
def gx.spec : Spec := gx.g.sp 337 fun x => R.gx x
def aO.spec : Spec := aO.g.sp 310 fun x => R.aO x
def dE.spec : Spec := dE.g.sp 320 fun x => R.dE x.1 x.2.1 x.2.2.1 x.2.2.2
def ea.spec : Spec := ea.g.sp 309 fun x => R.ea x.1 x.2.1 x.2.2
def ax.spec : Spec := ax.g.sp 51 fun x => R.ax x
def fk.spec : Spec := fk.g.sp 321 fun x => R.fk x
def fS.spec : Spec := fS.g.sp 35 fun x => R.fS x
def fi.spec : Spec := fi.g.sp 12 fun x => R.fi x
def bF.spec : Spec := bF.g.sp 46 fun x => R.bF x
def dF.spec : Spec := dF.g.sp 107 fun x => R.dF x
def fq.spec : Spec := fq.g.sp 108 fun x => R.fq x
def ff.spec : Spec := ff.g.sp 59 fun x => R.ff x.1 x.2
def gI.spec : Spec := gI.g.sp 20 fun x => R.gI x
def bz.spec : Spec := bz.g.sp 26 fun x => R.bz x
def jH.spec : Spec := jH.g.sp 61 fun x => R.jH x
def cQ.spec : Spec := cQ.g.sp 54 fun x => R.cQ x
def cA.spec : Spec := cA.g.sp 98 fun x => R.cA x
def eD.spec : Spec := eD.g.sp 99 fun x => R.eD x
def fY.spec : Spec := fY.g.sp 124 fun x => R.fY x
def fD.spec : Spec := fD.g.sp 124 fun x => R.fD x
def eY.spec : Spec := eY.g.sp 97 fun x => R.eY x.1 x.2
def jA.spec : Spec := jA.g.sp 56 fun x => R.jA x
def et.spec : Spec := et.g.sp 105 fun x => R.et x
def gW.spec : Spec := gW.g.sp 104 fun x => R.gW x
def jB.spec : Spec := jB.g.sp 58 fun x => R.jB x.1 x.2.1 x.2.2
def gg.spec : Spec := gg.g.sp 19 fun x => R.gg x.1 x.2
def b8.spec : Spec := b8.g.sp 338 fun x => R.b8 x.1 x.2.1 x.2.2
def iS.spec : Spec := iS.g.sp 68 fun x => R.iS x
def bT.spec : Spec := bT.g.sp 125 fun x => R.bT x
def iW.spec : Spec := iW.g.sp 69 fun x => R.iW x
def bP.spec : Spec := bP.g.sp 32 fun x => R.bP x
def iP.spec : Spec := iP.g.sp 47 fun x => R.iP x.1 x.2
def dV.spec : Spec := dV.g.sp 83 fun x => R.dV x.1 x.2
def jL.spec : Spec := jL.g.sp 199 fun x => R.jL x.1 x.2
def fy.spec : Spec := fy.g.sp 198 fun x => R.fy x.1 x.2
def iV.spec : Spec := iV.g.sp 222 fun x => R.iV x
def gm.spec : Spec := gm.g.sp 200 fun x => R.gm x.1 x.2
def gU.spec : Spec := gU.g.sp 203 fun x => R.gU x.1 x.2.1 x.2.2
def gO.spec : Spec := gO.g.sp 172 fun x => R.gO x.1 x.2
def i6.spec : Spec := i6.g.sp 149 fun x => R.i6 x.1 x.2
def eP.spec : Spec := eP.g.sp 148 fun x => R.eP x.1 x.2
def kD.spec : Spec := kD.g.sp 150 fun x => R.kD x.1 x.2
def j9.spec : Spec := j9.g.sp 151 fun x => R.j9 x.1 x.2
def gX.spec : Spec := gX.g.sp 223 fun x => R.gX x.1 x.2
def fa.spec : Spec := fa.g.sp 201 fun x => R.fa x.1 x.2
def jx.spec : Spec := jx.g.sp 152 fun x => R.jx x.1 x.2
def jw.spec : Spec := jw.g.sp 153 fun x => R.jw x.1 x.2
def iN.spec : Spec := iN.g.sp 84 fun x => R.iN x.1 x.2.1 x.2.2
def cu.spec : Spec := cu.g.sp 154 fun x => R.cu x
def kt.spec : Spec := kt.g.sp 155 fun x => R.kt x
def iz.spec : Spec := iz.g.sp 86 fun x => R.iz x.1 x.2
def cJ.spec : Spec := cJ.g.sp 85 fun x => R.cJ x.1 x.2
def j5.spec : Spec := j5.g.sp 87 fun x => R.j5 x.1 x.2
def gH.spec : Spec := gH.g.sp 156 fun x => R.gH x
def bt.spec : Spec := bt.g.sp 157 fun x => R.bt x
def dv.spec : Spec := dv.g.sp 159 fun x => R.dv x
def gR.spec : Spec := gR.g.sp 158 fun x => R.gR x.1 x.2
def eS.spec : Spec := eS.g.sp 160 fun x => R.eS x.1 x.2
def j7.spec : Spec := j7.g.sp 88 fun x => R.j7 x.1 x.2
def jv.spec : Spec := jv.g.sp 89 fun x => R.jv x.1 x.2
def kE.spec : Spec := kE.g.sp 90 fun x => R.kE x.1 x.2
def gV.spec : Spec := gV.g.sp 48 fun x => R.gV x.1 x.2.1 x.2.2
def iL.spec : Spec := iL.g.sp 49 fun x => R.iL x.1 x.2.1 x.2.2
def dK.spec : Spec := dK.g.sp 224 fun x => R.dK x
def cf.spec : Spec := cf.g.sp 202 fun x => R.cf x.1 x.2
def bu.spec : Spec := bu.g.sp 161 fun x => R.bu x.1 x.2
def ic.spec : Spec := ic.g.sp 91 fun x => R.ic x.1 x.2
def iJ.spec : Spec := iJ.g.sp 162 fun x => R.iJ x.1 x.2
def jh.spec : Spec := jh.g.sp 60 fun x => R.jh x
def fA.spec : Spec := fA.g.sp 163 fun x => R.fA x.1 x.2
def jM.spec : Spec := jM.g.sp 164 fun x => R.jM x.1 x.2
def gT.spec : Spec := gT.g.sp 92 fun x => R.gT x.1 x.2
def fK.spec : Spec := fK.g.sp 50 fun x => R.fK x.1 x.2.1 x.2.2.1 x.2.2.2
def cj.spec : Spec := cj.g.sp 165 fun x => R.cj x.1 x.2
def ig.spec : Spec := ig.g.sp 93 fun x => R.ig x.1 x.2
def ei.spec : Spec := ei.g.sp 52 fun x => R.ei x.1 x.2
def gl.spec : Spec := gl.g.sp 94 fun x => R.gl x
def eU.spec : Spec := eU.g.sp 95 fun x => R.eU x
def jE.spec : Spec := jE.g.sp 167 fun x => R.jE x.1 x.2
def iB.spec : Spec := iB.g.sp 96 fun x => R.iB x.1 x.2
def gP.spec : Spec := gP.g.sp 53 fun x => R.gP x.1 x.2
def eg.spec : Spec := eg.g.sp 17 fun x => R.eg x.1 x.2.1 x.2.2
def eH.spec : Spec := eH.g.sp 359 fun x => R.eH x.1 x.2.1 x.2.2.1 x.2.2.2
def fR.spec : Spec := fR.g.sp 343 fun x => R.fR x.1 x.2.1 x.2.2.1 x.2.2.2
def au.spec : Spec := au.g.sp 147 fun x => R.au x.1 x.2
def fO.spec : Spec := fO.g.sp 348 fun x => R.fO x
def cm.spec : Spec := cm.g.sp 349 fun x => R.cm x.1 x.2.1 x.2.2
def bY.spec : Spec := bY.g.sp 350 fun x => R.bY x.1 x.2
def ib.spec : Spec := ib.g.sp 373 fun x => R.ib x
def jI.spec : Spec := jI.g.sp 361 fun x => R.jI x
def de.spec : Spec := de.g.sp 364 fun x => R.de x.1 x.2
def dt.spec : Spec := dt.g.sp 399 fun x => R.dt x
def ed.spec : Spec := ed.g.sp 400 fun x => R.ed x.1 x.2.1 x.2.2.1 x.2.2.2.1 x.2.2.2.2
def mU.env (P : Program) : Env := { P := P, specs := [bK.spec], ety := nF P owned }
def dX.spec : Spec := dX.g.sp 393 fun x => R.dX x.1 x.2
def eR.spec : Spec := eR.g.sp 21 fun x => R.eR x
def dc.spec : Spec := dc.g.sp 375 fun x => R.dc x.1 x.2.1 x.2.2
def cp.spec : Spec := cp.g.sp 352 fun x => R.cp x.1 x.2
def gK.spec : Spec := gK.g.sp 358 fun x => R.gK x
def bf.spec : Spec := bf.g.sp 367 fun x => R.bf x.1 x.2
def gF.spec : Spec := gF.g.sp 410 fun x => R.gF x
def iQ.spec : Spec := iQ.g.sp 390 fun x => R.iQ x
def cd.spec : Spec := cd.g.sp 366 fun x => R.cd x
def dG.spec : Spec := dG.g.sp 391 fun x => R.dG x.1 x.2
def dH.spec : Spec := dH.g.sp 368 fun x => R.dH x.1 x.2
def cG.spec : Spec := cG.g.sp 435 fun x => R.cG x.1 x.2
def bw.spec : Spec := bw.g.sp 424 fun x => R.bw x.1 x.2
def cq.spec : Spec := cq.g.sp 394 fun x => R.cq x.1 x.2
def fL.spec : Spec := fL.g.sp 395 fun x => R.fL x
def gZ.spec : Spec := gZ.g.sp 370 fun x => R.gZ x
def eE.spec : Spec := eE.g.sp 392 fun x => R.eE x.1 x.2
def ee.spec : Spec := ee.g.sp 396 fun x => R.ee x.1 x.2.1 x.2.2.1 x.2.2.2.1 x.2.2.2.2
def dd.spec : Spec := dd.g.sp 371 fun x => R.dd x.1 x.2.1 x.2.2
def dI.spec : Spec := dI.g.sp 384 fun x => R.dI x.1 x.2.1 x.2.2
def bh.spec : Spec := bh.g.sp 411 fun x => R.bh x.1 x.2
def cc.spec : Spec := cc.g.sp 385 fun x => R.cc x.1 x.2
def bn.spec : Spec := bn.g.sp 415 fun x => R.bn x.1 x.2
def bg.spec : Spec := bg.g.sp 387 fun x => R.bg x.1 x.2
def eI.spec : Spec := eI.g.sp 416 fun x => R.eI x.1 x.2.1 x.2.2
def ef.spec : Spec := ef.g.sp 413 fun x => R.ef x.1 x.2.1 x.2.2.1 x.2.2.2.1 x.2.2.2.2.1 x.2.2.2.2.2
def dm.spec : Spec := dm.g.sp 388 fun x => R.dm x.1 x.2.1 x.2.2
def eval_run_list.spec (G : bD) : Spec := eval_run_list.g.sp 146 fun x => G.eval_run_list x.1 x.2.1 x.2.2
def eval_run_statement.spec (G : bD) : Spec := eval_run_statement.g.sp 196 fun x => G.eval_run_statement x.1 x.2.1 x.2.2.1 x.2.2.2
def eval_run_act.spec (G : bD) : Spec := eval_run_act.g.sp 221 fun x => G.eval_run_act x.1 x.2.1 x.2.2.1 x.2.2.2
def eval_run_expression.spec (G : bD) : Spec := eval_run_expression.g.sp 249 fun x => G.eval_run_expression x.1 x.2.1 x.2.2
def eval_run_decls.spec (G : bD) : Spec := eval_run_decls.g.sp 251 fun x => G.eval_run_decls x.1 x.2.1 x.2.2
def eval_run_value.spec (G : bD) : Spec := eval_run_value.g.sp 287 fun x => G.eval_run_value x.1 x.2.1 x.2.2
def eval_run_array.spec (G : bD) : Spec := eval_run_array.g.sp 311 fun x => G.eval_run_array x.1 x.2.1 x.2.2
def eval_run_operation.spec (G : bD) : Spec := eval_run_operation.g.sp 313 fun x => G.eval_run_operation x.1 x.2.1 x.2.2.1 x.2.2.2
def eval_run_unary.spec (G : bD) : Spec := eval_run_unary.g.sp 322 fun x => G.eval_run_unary x.1 x.2.1 x.2.2.1 x.2.2.2
def eval_run_binary.spec (G : bD) : Spec := eval_run_binary.g.sp 324 fun x => G.eval_run_binary x.1 x.2.1 x.2.2
def eval_run_assign.spec (G : bD) : Spec := eval_run_assign.g.sp 326 fun x => G.eval_run_assign x.1 x.2.1 x.2.2
def eval_run_callee.spec (G : bD) : Spec := eval_run_callee.g.sp 327 fun x => G.eval_run_callee x.1 x.2.1 x.2.2
def eval_run_arguments.spec (G : bD) : Spec := eval_run_arguments.g.sp 328 fun x => G.eval_run_arguments x.1 x.2.1 x.2.2
def eval_run_fresh.spec (G : bD) : Spec := eval_run_fresh.g.sp 329 fun x => G.eval_run_fresh x.1 x.2.1 x.2.2
def eval_run_property.spec (G : bD) : Spec := eval_run_property.g.sp 330 fun x => G.eval_run_property x.1 x.2.1 x.2.2
def eval_run_parts.spec (G : bD) : Spec := eval_run_parts.g.sp 340 fun x => G.eval_run_parts x.1 x.2.1 x.2.2
def eval_run_called.spec (G : bD) : Spec := eval_run_called.g.sp 345 fun x => G.eval_run_called x.1 x.2.1 x.2.2
def eval_run_call.spec (G : bD) : Spec := eval_run_call.g.sp 346 fun x => G.eval_run_call x.1 x.2.1 x.2.2.1 x.2.2.2
def eval_run_builds.spec (G : bD) : Spec := eval_run_builds.g.sp 347 fun x => G.eval_run_builds x.1 x.2.1 x.2.2
def eval_run_apply.spec (G : bD) : Spec := eval_run_apply.g.sp 351 fun x => G.eval_run_apply x.1 x.2.1 x.2.2.1 x.2.2.2
def eval_run_does.spec (G : bD) : Spec := eval_run_does.g.sp 365 fun x => G.eval_run_does x.1 x.2.1 x.2.2.1 x.2.2.2
def eval_run_host.spec (G : bD) : Spec := eval_run_host.g.sp 389 fun x => G.eval_run_host x.1 x.2.1 x.2.2
def cD.spec : Spec := cD.g.sp 80 fun x => R.cD x
def dk.spec : Spec := dk.g.sp 81 fun x => R.dk x.1 x.2
def cb.spec : Spec := cb.g.sp 45 fun x => R.cb x.1 x.2.1 x.2.2
def ew.spec : Spec := ew.g.sp 15 fun x => R.ew x.1 x.2.1 x.2.2
def cY.spec : Spec := cY.g.sp 33 fun x => R.cY x.1 x.2
def eC.spec : Spec := eC.g.sp 31 fun x => R.eC x
def dq.spec : Spec := dq.g.sp 30 fun x => R.dq x.1 x.2
def dU.spec : Spec := dU.g.sp 34 fun x => R.dU x.1 x.2.1 x.2.2
def cO.spec : Spec := cO.g.sp 10 fun _ => R.cO
def bl.spec : Spec := bl.g.sp 11 fun x => R.bl x
def bR.spec : Spec := bR.g.sp 13 fun x => R.bR x
def eT.spec : Spec := eT.g.sp 16 fun _ => R.eT
def dO.spec : Spec := dO.g.sp 18 fun x => R.dO x.1 x.2.1 x.2.2.1 x.2.2.2
def cS.spec : Spec := cS.g.sp 9 fun x => R.cS x.1 x.2.1 x.2.2
end Go.Mach
end
