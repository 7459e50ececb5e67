/-
  Proved here: the law renlaw12.EvalUnaries returns true for every input of the stated bulk and leaves its arguments as they were; no further condition.
  By an AI agent; no person has read it.
-/
import Derived.Test.YtimhplnifencnaaGreatDoorPartd
import Derived.KernelRfl
import Derived.Test.YtimhplnifencnaaGreatDoorProg
set_option linter.all false
set_option linter.deprecated false
set_option linter.unusedVariables false
set_option maxRecDepth 100000
noncomputable section
namespace Go.Mach
open Go.Proofs
def owned : List (TypeId × Sh) := [(190, j7)]
abbrev Q (l : List Spec) : Env := { P := Tryz.prog, specs := l, ety := nV Tryz.prog owned }
def dz.spec : Spec := dz.g.sp 177 fun x => R.dz x
def gq.spec : Spec := gq.g.sp 126 fun x => R.gq x
def jA.spec : Spec := jA.g.sp 229 fun x => R.jA x
def ir.spec : Spec := ir.g.sp 230 fun x => R.ir x
def ca.spec : Spec := ca.g.sp 231 fun x => R.ca x.1 x.2
def du.spec : Spec := du.g.sp 207 fun x => R.du x
def fJ.spec : Spec := fJ.g.sp 182 fun x => R.fJ x
def gF.spec : Spec := gF.g.sp 183 fun x => R.gF x
def da.spec : Spec := da.g.sp 266 fun x => R.da x
def bB.spec : Spec := bB.g.sp 236 fun x => R.bB x.1 x.2.1 x.2.2
def av.spec : Spec := av.g.sp 265 fun x => R.av x.1 x.2
def iU.spec : Spec := iU.g.sp 181 fun x => R.iU x
def dv.spec : Spec := dv.g.sp 233 fun x => R.dv x
def bE.spec : Spec := bE.g.sp 236 fun x => R.bE x.1 x.2.1 x.2.2
def bP.spec : Spec := bP.g.sp 265 fun x => R.bP x.1 x.2
def cg.spec : Spec := cg.g.sp 296 fun x => R.cg x.1 x.2
def aw.spec : Spec := aw.g.sp 236 fun x => R.aw x.1 x.2.1 x.2.2
def dK.spec : Spec := dK.g.sp 268 fun x => R.dK x.1 x.2
def bj.spec : Spec := bj.g.sp 236 fun x => R.bj x.1 x.2.1 x.2.2
def aq.spec : Spec := aq.g.sp 67 fun x => R.aq x
def gH.spec : Spec := gH.g.sp 116 fun x => R.gH x
def eu.spec : Spec := eu.g.sp 121 fun x => R.eu x
def cA.spec : Spec := cA.g.sp 204 fun x => R.cA x.1 x.2
def bg.spec : Spec := bg.g.sp 174 fun x => R.bg x.1 x.2
def fL.spec : Spec := fL.g.sp 117 fun x => R.fL x
def bl.spec : Spec := bl.g.sp 166 fun x => R.bl x.1 x.2
def ga.spec : Spec := ga.g.sp 118 fun x => R.ga x.1 x.2
def ef.spec : Spec := ef.g.sp 120 fun x => R.ef x
def aS.spec : Spec := aS.g.sp 175 fun x => R.aS x.1 x.2
def aR.spec : Spec := aR.g.sp 119 fun x => R.aR x.1 x.2
def gJ.spec : Spec := gJ.g.sp 122 fun x => R.gJ x
def gV.spec : Spec := gV.g.sp 36 fun x => R.gV x
def dc.spec : Spec := dc.g.sp 106 fun _ => R.dc
def dA.spec : Spec := dA.g.sp 100 fun x => R.dA x
def iE.spec : Spec := iE.g.sp 101 fun x => R.iE x
def bQ.spec : Spec := bQ.g.sp 102 fun x => R.bQ x
def dP.spec : Spec := dP.g.sp 103 fun x => R.dP x
def iG.spec : Spec := iG.g.sp 57 fun x => R.iG x
def eN.spec : Spec := eN.g.sp 65 fun x => R.eN x
def dG.spec : Spec := dG.g.sp 234 fun x => R.dG x
def dF.spec : Spec := dF.g.sp 235 fun x => R.dF x
def fx.spec : Spec := fx.g.sp 112 fun x => R.fx x
def iw.spec : Spec := iw.g.sp 270 fun x => R.iw x
def eD.spec : Spec := eD.g.sp 237 fun x => R.eD x
def dW.spec : Spec := dW.g.sp 208 fun x => R.dW x
def iD.spec : Spec := iD.g.sp 178 fun x => R.iD x
def aY.spec : Spec := aY.g.sp 209 fun x => R.aY x.1 x.2
def aI.spec : Spec := aI.g.sp 210 fun x => R.aI x
def eK.spec : Spec := eK.g.sp 238 fun x => R.eK x.1 x.2
def bA.spec : Spec := bA.g.sp 276 fun x => R.bA x.1 x.2
def aH.spec : Spec := aH.g.sp 241 fun x => R.aH x.1 x.2
def bc.spec : Spec := bc.g.sp 240 fun x => R.bc x
def a8.spec : Spec := a8.g.sp 242 fun x => R.a8 x
def aP.spec : Spec := aP.g.sp 271 fun x => R.aP x.1 x.2
def ai.spec : Spec := ai.g.sp 272 fun x => R.ai x.1 x.2.1 x.2.2
def bK.spec : Spec := bK.g.sp 274 fun x => R.bK x
def ah.spec : Spec := ah.g.sp 279 fun x => R.ah x.1 x.2
def dJ.spec : Spec := dJ.g.sp 300 fun x => R.dJ x
def cc.spec : Spec := cc.g.sp 277 fun x => R.cc x
def eV.spec : Spec := eV.g.sp 130 fun x => R.eV x
def bH.spec : Spec := bH.g.sp 184 fun x => R.bH x.1 x.2
def aN.spec : Spec := aN.g.sp 131 fun x => R.aN x.1 x.2
def jO.spec : Spec := jO.g.sp 302 fun x => R.jO x.1 x.2
def eo.spec : Spec := eo.g.sp 136 fun x => R.eo x
def gL.spec : Spec := gL.g.sp 354 fun x => R.gL x
def parse_parser_item.spec (G : bJ) : Spec := parse_parser_item.g.sp 211 fun x => G.parse_parser_item x
def parse_parser_declares.spec (G : bJ) : Spec := parse_parser_declares.g.sp 239 fun x => G.parse_parser_declares x
def parse_parser_statement.spec (G : bJ) : Spec := parse_parser_statement.g.sp 244 fun x => G.parse_parser_statement x
def parse_parser_assign.spec (G : bJ) : Spec := parse_parser_assign.g.sp 273 fun x => G.parse_parser_assign x
def parse_parser_word.spec (G : bJ) : Spec := parse_parser_word.g.sp 280 fun x => G.parse_parser_word x.1 x.2
def parse_parser_simple.spec (G : bJ) : Spec := parse_parser_simple.g.sp 281 fun x => G.parse_parser_simple x
def parse_parser_body.spec (G : bJ) : Spec := parse_parser_body.g.sp 299 fun x => G.parse_parser_body x.1 x.2
def parse_parser_cond.spec (G : bJ) : Spec := parse_parser_cond.g.sp 301 fun x => G.parse_parser_cond x
def parse_parser_either.spec (G : bJ) : Spec := parse_parser_either.g.sp 318 fun x => G.parse_parser_either x
def parse_parser_level.spec (G : bJ) : Spec := parse_parser_level.g.sp 332 fun x => G.parse_parser_level x.1 x.2
def parse_parser_both.spec (G : bJ) : Spec := parse_parser_both.g.sp 333 fun x => G.parse_parser_both x.1 x.2
def parse_parser_unary.spec (G : bJ) : Spec := parse_parser_unary.g.sp 353 fun x => G.parse_parser_unary x
def parse_parser_calls.spec (G : bJ) : Spec := parse_parser_calls.g.sp 376 fun x => G.parse_parser_calls x
def parse_parser_head.spec (G : bJ) : Spec := parse_parser_head.g.sp 403 fun x => G.parse_parser_head x
def parse_parser_arguments.spec (G : bJ) : Spec := parse_parser_arguments.g.sp 404 fun x => G.parse_parser_arguments x
def parse_parser_member.spec (G : bJ) : Spec := parse_parser_member.g.sp 405 fun x => G.parse_parser_member x.1 x.2
def parse_parser_primary.spec (G : bJ) : Spec := parse_parser_primary.g.sp 425 fun x => G.parse_parser_primary x
def parse_parser_list.spec (G : bJ) : Spec := parse_parser_list.g.sp 426 fun x => G.parse_parser_list x.1 x.2
def cO.spec : Spec := cO.g.sp 179 fun x => R.cO x
def fh.spec (fu : Nat) : Spec := fh.g.sp 212 fun x => R.fh fu x.1 x.2
def gy.spec : Spec := gy.g.sp 180 fun x => R.gy x
def gD.spec : Spec := gD.g.sp 42 fun x => R.gD x
def cp.spec : Spec := cp.g.sp 41 fun x => R.cp x
def gQ.spec : Spec := gQ.g.sp 127 fun x => R.gQ x
def gT.spec : Spec := gT.g.sp 38 fun x => R.gT x
def gR.spec : Spec := gR.g.sp 37 fun x => R.gR x
def jF.spec : Spec := jF.g.sp 129 fun x => R.jF x
def iT.spec : Spec := iT.g.sp 128 fun x => R.iT x
def mW.env (P : Program) : Env := { P := P, specs := [], ety := nV P owned }
def eU.spec : Spec := eU.g.sp 72 fun x => R.eU x
def cf.spec : Spec := cf.g.sp 39 fun x => R.cf x
def fT.spec : Spec := fT.g.sp 132 fun x => R.fT x.1 x.2
def hJ.spec : Spec := hJ.g.sp 73 fun x => R.hJ x.1 x.2
def iQ.spec : Spec := iQ.g.sp 74 fun x => R.iQ x
def ew.spec : Spec := ew.g.sp 133 fun x => R.ew x
def dL.spec : Spec := dL.g.sp 135 fun x => R.dL x
def jB.spec : Spec := jB.g.sp 75 fun x => R.jB x.1 x.2
def gf.spec : Spec := gf.g.sp 40 fun x => R.gf x.1 x.2
def fQ.spec : Spec := fQ.g.sp 14 fun x => R.fQ x
def eJ.spec : Spec := eJ.g.sp 77 fun x => R.eJ x
def eb.spec : Spec := eb.g.sp 185 fun x => R.eb x
def fV.spec : Spec := fV.g.sp 186 fun x => R.fV x.1 x.2
def eH.spec : Spec := eH.g.sp 187 fun x => R.eH x
def eO.spec : Spec := eO.g.sp 138 fun x => R.eO x.1 x.2
def gg.spec : Spec := gg.g.sp 137 fun x => R.gg x
def fc.spec : Spec := fc.g.sp 189 fun x => R.fc x.1 x.2
def aZ.spec : Spec := aZ.g.sp 213 fun x => R.aZ x.1 x.2
def aX.spec : Spec := aX.g.sp 188 fun x => R.aX x.1 x.2
def gi.spec : Spec := gi.g.sp 139 fun x => R.gi x.1 x.2.1 x.2.2
def gB.spec : Spec := gB.g.sp 78 fun x => R.gB x.1 x.2.1 x.2.2
def di.spec : Spec := di.g.sp 43 fun x => R.di x
def ff.spec : Spec := ff.g.sp 71 fun x => R.ff x
def jk.spec : Spec := jk.g.sp 44 fun x => R.jk x
def jP.spec : Spec := jP.g.sp 79 fun x => R.jP x
def dH.spec : Spec := dH.g.sp 217 fun x => R.dH x
def gP.spec : Spec := gP.g.sp 245 fun x => R.gP x
def eX.spec : Spec := eX.g.sp 214 fun x => R.eX x.1 x.2
def bT.spec : Spec := bT.g.sp 215 fun x => R.bT x.1 x.2
def ae.spec : Spec := ae.g.sp 193 fun x => R.ae x.1 x.2
def cU.spec : Spec := cU.g.sp 144 fun x => R.cU x.1 x.2
def bL.spec : Spec := bL.g.sp 197 fun x => R.bL x.1 x.2
def eA.spec : Spec := eA.g.sp 247 fun x => R.eA x.1 x.2
def aU.spec : Spec := aU.g.sp 246 fun x => R.aU x.1 x.2
def cX.spec : Spec := cX.g.sp 216 fun x => R.cX x.1 x.2.1 x.2.2
def bM.spec : Spec := bM.g.sp 194 fun x => R.bM x.1 x.2.1 x.2.2.1 x.2.2.2.1 x.2.2.2.2.1 x.2.2.2.2.2
def db.spec : Spec := db.g.sp 286 fun x => R.db x.1 x.2
def aQ.spec : Spec := aQ.g.sp 285 fun x => R.aQ x.1 x.2
def cx.spec : Spec := cx.g.sp 248 fun x => R.cx x.1 x.2.1 x.2.2
def dt.spec : Spec := dt.g.sp 218 fun x => R.dt x.1 x.2.1 x.2.2.1 x.2.2.2
def cW.spec : Spec := cW.g.sp 219 fun x => R.cW x.1 x.2.1 x.2.2.1 x.2.2.2.1 x.2.2.2.2
def cL.spec : Spec := cL.g.sp 195 fun x => R.cL x.1 x.2.1 x.2.2
def cd.spec : Spec := cd.g.sp 145 fun x => R.cd x.1 x.2.1 x.2.2
def bh.spec : Spec := bh.g.sp 220 fun x => R.bh x
def fY.spec : Spec := fY.g.sp 255 fun x => R.fY x.1 x.2.1 x.2.2
def cK.spec : Spec := cK.g.sp 27 fun x => R.cK x
def eY.spec : Spec := eY.g.sp 55 fun x => R.eY x
def cR.spec : Spec := cR.g.sp 82 fun x => R.cR x
def dM.spec : Spec := dM.g.sp 334 fun x => R.dM x.1 x.2.1 x.2.2
def cV.spec : Spec := cV.g.sp 355 fun x => R.cV x.1 x.2
def aD.spec : Spec := aD.g.sp 335 fun x => R.aD x.1 x.2
def fH.spec : Spec := fH.g.sp 356 fun _ => R.fH
def eS.spec : Spec := eS.g.sp 397 fun x => R.eS x
def dp.spec : Spec := dp.g.sp 398 fun _ => R.dp
def cy.spec : Spec := cy.g.sp 372 fun _ => R.cy
def cY.spec : Spec := cY.g.sp 357 fun x => R.cY x
def fy.spec : Spec := fy.g.sp 336 fun x => R.fy x
def iM.spec : Spec := iM.g.sp 337 fun x => R.iM x
def aO.spec : Spec := aO.g.sp 310 fun x => R.aO x
def dN.spec : Spec := dN.g.sp 320 fun x => R.dN x.1 x.2.1 x.2.2.1 x.2.2.2
def fA.spec : Spec := fA.g.sp 309 fun x => R.fA x.1 x.2.1 x.2.2
def ay.spec : Spec := ay.g.sp 51 fun x => R.ay x
def gn.spec : Spec := gn.g.sp 321 fun x => R.gn x
def fB.spec : Spec := fB.g.sp 35 fun x => R.fB x
def fa.spec : Spec := fa.g.sp 12 fun x => R.fa x
def bF.spec : Spec := bF.g.sp 46 fun x => R.bF x
def dC.spec : Spec := dC.g.sp 107 fun x => R.dC x
def fw.spec : Spec := fw.g.sp 108 fun x => R.fw x
def fO.spec : Spec := fO.g.sp 59 fun x => R.fO x.1 x.2
def gG.spec : Spec := gG.g.sp 20 fun x => R.gG x
def b8.spec : Spec := b8.g.sp 26 fun x => R.b8 x
def iv.spec : Spec := iv.g.sp 61 fun x => R.iv x
def cJ.spec : Spec := cJ.g.sp 54 fun x => R.cJ x
def cC.spec : Spec := cC.g.sp 98 fun x => R.cC x
def eP.spec : Spec := eP.g.sp 99 fun x => R.eP x
def fK.spec : Spec := fK.g.sp 124 fun x => R.fK x
def fR.spec : Spec := fR.g.sp 124 fun x => R.fR x
def eZ.spec : Spec := eZ.g.sp 97 fun x => R.eZ x.1 x.2
def iz.spec : Spec := iz.g.sp 56 fun x => R.iz x
def ea.spec : Spec := ea.g.sp 105 fun x => R.ea x
def gK.spec : Spec := gK.g.sp 104 fun x => R.gK x
def i6.spec : Spec := i6.g.sp 58 fun x => R.i6 x.1 x.2.1 x.2.2
def ba.spec : Spec := ba.g.sp 19 fun x => R.ba x.1 x.2
def cI.spec : Spec := cI.g.sp 338 fun x => R.cI x.1 x.2.1 x.2.2
def iu.spec : Spec := iu.g.sp 68 fun x => R.iu x
def bX.spec : Spec := bX.g.sp 125 fun x => R.bX x
def iy.spec : Spec := iy.g.sp 69 fun x => R.iy x
def bt.spec : Spec := bt.g.sp 32 fun x => R.bt x
def il.spec : Spec := il.g.sp 47 fun x => R.il x.1 x.2
def dq.spec : Spec := dq.g.sp 83 fun x => R.dq x.1 x.2
def jR.spec : Spec := jR.g.sp 199 fun x => R.jR x.1 x.2
def gN.spec : Spec := gN.g.sp 198 fun x => R.gN x.1 x.2
def iq.spec : Spec := iq.g.sp 222 fun x => R.iq x
def iH.spec : Spec := iH.g.sp 200 fun x => R.iH x.1 x.2
def gz.spec : Spec := gz.g.sp 203 fun x => R.gz x.1 x.2.1 x.2.2
def gm.spec : Spec := gm.g.sp 172 fun x => R.gm x.1 x.2
def jM.spec : Spec := jM.g.sp 149 fun x => R.jM x.1 x.2
def ei.spec : Spec := ei.g.sp 148 fun x => R.ei x.1 x.2
def kH.spec : Spec := kH.g.sp 150 fun x => R.kH x.1 x.2
def kJ.spec : Spec := kJ.g.sp 151 fun x => R.kJ x.1 x.2
def gx.spec : Spec := gx.g.sp 223 fun x => R.gx x.1 x.2
def gA.spec : Spec := gA.g.sp 201 fun x => R.gA x.1 x.2
def kK.spec : Spec := kK.g.sp 152 fun x => R.kK x.1 x.2
def kL.spec : Spec := kL.g.sp 153 fun x => R.kL x.1 x.2
def ig.spec : Spec := ig.g.sp 84 fun x => R.ig x.1 x.2.1 x.2.2
def dE.spec : Spec := dE.g.sp 154 fun x => R.dE x
def lG.spec : Spec := lG.g.sp 155 fun x => R.lG x
def jN.spec : Spec := jN.g.sp 86 fun x => R.jN x.1 x.2
def cF.spec : Spec := cF.g.sp 85 fun x => R.cF x.1 x.2
def kQ.spec : Spec := kQ.g.sp 87 fun x => R.kQ x.1 x.2
def gX.spec : Spec := gX.g.sp 156 fun x => R.gX x
def cB.spec : Spec := cB.g.sp 157 fun x => R.cB x
def eF.spec : Spec := eF.g.sp 159 fun x => R.eF x
def gr.spec : Spec := gr.g.sp 158 fun x => R.gr x.1 x.2
def et.spec : Spec := et.g.sp 160 fun x => R.et x.1 x.2
def kM.spec : Spec := kM.g.sp 88 fun x => R.kM x.1 x.2
def kO.spec : Spec := kO.g.sp 89 fun x => R.kO x.1 x.2
def kG.spec : Spec := kG.g.sp 90 fun x => R.kG x.1 x.2
def iC.spec : Spec := iC.g.sp 48 fun x => R.iC x.1 x.2.1 x.2.2
def ij.spec : Spec := ij.g.sp 49 fun x => R.ij x.1 x.2.1 x.2.2
def dS.spec : Spec := dS.g.sp 224 fun x => R.dS x
def ct.spec : Spec := ct.g.sp 202 fun x => R.ct x.1 x.2
def cD.spec : Spec := cD.g.sp 161 fun x => R.cD x.1 x.2
def jC.spec : Spec := jC.g.sp 91 fun x => R.jC x.1 x.2
def iY.spec : Spec := iY.g.sp 162 fun x => R.iY x.1 x.2
def jq.spec : Spec := jq.g.sp 60 fun x => R.jq x
def fS.spec : Spec := fS.g.sp 163 fun x => R.fS x.1 x.2
def jV.spec : Spec := jV.g.sp 164 fun x => R.jV x.1 x.2
def iB.spec : Spec := iB.g.sp 92 fun x => R.iB x.1 x.2
def fj.spec : Spec := fj.g.sp 50 fun x => R.fj x.1 x.2.1 x.2.2.1 x.2.2.2
def cw.spec : Spec := cw.g.sp 165 fun x => R.cw x.1 x.2
def jE.spec : Spec := jE.g.sp 93 fun x => R.jE x.1 x.2
def fG.spec : Spec := fG.g.sp 52 fun x => R.fG x.1 x.2
def iA.spec : Spec := iA.g.sp 94 fun x => R.iA x
def er.spec : Spec := er.g.sp 95 fun x => R.er x
def jW.spec : Spec := jW.g.sp 167 fun x => R.jW x.1 x.2
def iR.spec : Spec := iR.g.sp 96 fun x => R.iR x.1 x.2
def gu.spec : Spec := gu.g.sp 53 fun x => R.gu x.1 x.2
def fF.spec : Spec := fF.g.sp 17 fun x => R.fF x.1 x.2.1 x.2.2
def eW.spec : Spec := eW.g.sp 359 fun x => R.eW x.1 x.2.1 x.2.2.1 x.2.2.2
def fi.spec : Spec := fi.g.sp 343 fun x => R.fi x.1 x.2.1 x.2.2.1 x.2.2.2
def az.spec : Spec := az.g.sp 147 fun x => R.az x.1 x.2
def fe.spec : Spec := fe.g.sp 348 fun x => R.fe x
def cz.spec : Spec := cz.g.sp 349 fun x => R.cz x.1 x.2.1 x.2.2
def bf.spec : Spec := bf.g.sp 350 fun x => R.bf x.1 x.2
def jD.spec : Spec := jD.g.sp 373 fun x => R.jD x
def jT.spec : Spec := jT.g.sp 361 fun x => R.jT x
def eC.spec : Spec := eC.g.sp 364 fun x => R.eC x.1 x.2
def eE.spec : Spec := eE.g.sp 399 fun x => R.eE x
def ez.spec : Spec := ez.g.sp 400 fun x => R.ez x.1 x.2.1 x.2.2.1 x.2.2.2.1 x.2.2.2.2
def me.env (P : Program) : Env := { P := P, specs := [bL.spec], ety := nV P owned }
def dm.spec : Spec := dm.g.sp 393 fun x => R.dm x.1 x.2
def ep.spec : Spec := ep.g.sp 21 fun x => R.ep x
def dy.spec : Spec := dy.g.sp 375 fun x => R.dy x.1 x.2.1 x.2.2
def eQ.spec : Spec := eQ.g.sp 352 fun x => R.eQ x.1 x.2
def gh.spec : Spec := gh.g.sp 358 fun x => R.gh x
def bk.spec : Spec := bk.g.sp 367 fun x => R.bk x.1 x.2
def gZ.spec : Spec := gZ.g.sp 410 fun x => R.gZ x
def ib.spec : Spec := ib.g.sp 390 fun x => R.ib x
def cu.spec : Spec := cu.g.sp 366 fun x => R.cu x
def dO.spec : Spec := dO.g.sp 391 fun x => R.dO x.1 x.2
def dV.spec : Spec := dV.g.sp 368 fun x => R.dV x.1 x.2
def cQ.spec : Spec := cQ.g.sp 435 fun x => R.cQ x.1 x.2
def cE.spec : Spec := cE.g.sp 424 fun x => R.cE x.1 x.2
def dD.spec : Spec := dD.g.sp 394 fun x => R.dD x.1 x.2
def fm.spec : Spec := fm.g.sp 395 fun x => R.fm x
def gp.spec : Spec := gp.g.sp 370 fun x => R.gp x
def eT.spec : Spec := eT.g.sp 392 fun x => R.eT x.1 x.2
def fD.spec : Spec := fD.g.sp 396 fun x => R.fD x.1 x.2.1 x.2.2.1 x.2.2.2.1 x.2.2.2.2
def dw.spec : Spec := dw.g.sp 371 fun x => R.dw x.1 x.2.1 x.2.2
def dU.spec : Spec := dU.g.sp 384 fun x => R.dU x.1 x.2.1 x.2.2
def bw.spec : Spec := bw.g.sp 411 fun x => R.bw x.1 x.2
def cq.spec : Spec := cq.g.sp 385 fun x => R.cq x.1 x.2
def bx.spec : Spec := bx.g.sp 415 fun x => R.bx x.1 x.2
def bn.spec : Spec := bn.g.sp 387 fun x => R.bn x.1 x.2
def ec.spec : Spec := ec.g.sp 416 fun x => R.ec x.1 x.2.1 x.2.2
def fE.spec : Spec := fE.g.sp 413 fun x => R.fE x.1 x.2.1 x.2.2.1 x.2.2.2.1 x.2.2.2.2.1 x.2.2.2.2.2
def dx.spec : Spec := dx.g.sp 388 fun x => R.dx x.1 x.2.1 x.2.2
def eval_run_list.spec (G : bI) : Spec := eval_run_list.g.sp 146 fun x => G.eval_run_list x.1 x.2.1 x.2.2
def eval_run_statement.spec (G : bI) : Spec := eval_run_statement.g.sp 196 fun x => G.eval_run_statement x.1 x.2.1 x.2.2.1 x.2.2.2
def eval_run_act.spec (G : bI) : Spec := eval_run_act.g.sp 221 fun x => G.eval_run_act x.1 x.2.1 x.2.2.1 x.2.2.2
def eval_run_expression.spec (G : bI) : Spec := eval_run_expression.g.sp 249 fun x => G.eval_run_expression x.1 x.2.1 x.2.2
def eval_run_decls.spec (G : bI) : Spec := eval_run_decls.g.sp 251 fun x => G.eval_run_decls x.1 x.2.1 x.2.2
def eval_run_value.spec (G : bI) : Spec := eval_run_value.g.sp 287 fun x => G.eval_run_value x.1 x.2.1 x.2.2
def eval_run_array.spec (G : bI) : Spec := eval_run_array.g.sp 311 fun x => G.eval_run_array x.1 x.2.1 x.2.2
def eval_run_operation.spec (G : bI) : Spec := eval_run_operation.g.sp 313 fun x => G.eval_run_operation x.1 x.2.1 x.2.2.1 x.2.2.2
def eval_run_unary.spec (G : bI) : Spec := eval_run_unary.g.sp 322 fun x => G.eval_run_unary x.1 x.2.1 x.2.2.1 x.2.2.2
def eval_run_binary.spec (G : bI) : Spec := eval_run_binary.g.sp 324 fun x => G.eval_run_binary x.1 x.2.1 x.2.2
def eval_run_assign.spec (G : bI) : Spec := eval_run_assign.g.sp 326 fun x => G.eval_run_assign x.1 x.2.1 x.2.2
def eval_run_callee.spec (G : bI) : Spec := eval_run_callee.g.sp 327 fun x => G.eval_run_callee x.1 x.2.1 x.2.2
def eval_run_arguments.spec (G : bI) : Spec := eval_run_arguments.g.sp 328 fun x => G.eval_run_arguments x.1 x.2.1 x.2.2
def eval_run_fresh.spec (G : bI) : Spec := eval_run_fresh.g.sp 329 fun x => G.eval_run_fresh x.1 x.2.1 x.2.2
def eval_run_property.spec (G : bI) : Spec := eval_run_property.g.sp 330 fun x => G.eval_run_property x.1 x.2.1 x.2.2
def eval_run_parts.spec (G : bI) : Spec := eval_run_parts.g.sp 340 fun x => G.eval_run_parts x.1 x.2.1 x.2.2
def eval_run_called.spec (G : bI) : Spec := eval_run_called.g.sp 345 fun x => G.eval_run_called x.1 x.2.1 x.2.2
def eval_run_call.spec (G : bI) : Spec := eval_run_call.g.sp 346 fun x => G.eval_run_call x.1 x.2.1 x.2.2.1 x.2.2.2
def eval_run_builds.spec (G : bI) : Spec := eval_run_builds.g.sp 347 fun x => G.eval_run_builds x.1 x.2.1 x.2.2
def eval_run_apply.spec (G : bI) : Spec := eval_run_apply.g.sp 351 fun x => G.eval_run_apply x.1 x.2.1 x.2.2.1 x.2.2.2
def eval_run_does.spec (G : bI) : Spec := eval_run_does.g.sp 365 fun x => G.eval_run_does x.1 x.2.1 x.2.2.1 x.2.2.2
def eval_run_host.spec (G : bI) : Spec := eval_run_host.g.sp 389 fun x => G.eval_run_host x.1 x.2.1 x.2.2
def bU.spec : Spec := bU.g.sp 80 fun x => R.bU x
def eB.spec : Spec := eB.g.sp 81 fun x => R.eB x.1 x.2
def bZ.spec : Spec := bZ.g.sp 45 fun x => R.bZ x.1 x.2.1 x.2.2
def fl.spec : Spec := fl.g.sp 15 fun x => R.fl x.1 x.2.1 x.2.2
def cm.spec : Spec := cm.g.sp 33 fun x => R.cm x.1 x.2
def eR.spec : Spec := eR.g.sp 31 fun x => R.eR x
def eI.spec : Spec := eI.g.sp 30 fun x => R.eI x.1 x.2
def dn.spec : Spec := dn.g.sp 34 fun x => R.dn x.1 x.2.1 x.2.2
def cN.spec : Spec := cN.g.sp 10 fun _ => R.cN
def bz.spec : Spec := bz.g.sp 11 fun x => R.bz x
def dY.spec : Spec := dY.g.sp 13 fun x => R.dY x
def fo.spec : Spec := fo.g.sp 16 fun _ => R.fo
def eG.spec : Spec := eG.g.sp 18 fun x => R.eG x.1 x.2.1 x.2.2.1 x.2.2.2
def cM.spec : Spec := cM.g.sp 4 fun x => R.cM x.1 x.2
end Go.Mach
end
