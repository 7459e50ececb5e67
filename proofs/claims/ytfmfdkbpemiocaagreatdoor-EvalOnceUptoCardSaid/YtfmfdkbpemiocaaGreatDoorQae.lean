/-
  Proved here: the law renlaw12.EvalOnce returns true for every input of the stated bulk and leaves its arguments as they were; no further condition.
  By an AI agent; no person has read it.
-/
import Derived.Test.YtfmfdkbpemiocaaGreatDoorQad
set_option linter.all false
set_option linter.deprecated false
set_option linter.unusedVariables false
set_option maxRecDepth 20000
noncomputable section
namespace Go.Mach
open Res
abbrev aI:Ty:=(.pair (.int .i64) (.int .i64))
abbrev aj:Ty:=(.pair .bool (.list (.int .u32)))
abbrev iY:Ty:=(.pair (.int .i64) (.list (.int .u16)))
abbrev j5:Ty:=(.pair (.list (.int .u16)) (.int .i64))
abbrev eJ:Ty:=(.pair (.int .i64) aI)
abbrev eU:Ty:=(.pair (.int .u64) (.pair (.int .i64) (.pair (.int .i64) iY)))
abbrev aC:Ty:=(.pair (.int .i64) (.pair aI (.pair aj j5)))
abbrev aE:Ty:=(.pair (.int .i64) (.pair .str (.pair (.list (.int .u16)) (.pair aI (.pair aj (.list (.int .i64)))))))
abbrev bO:Ty:=(.pair (.list (.int .u16)) aC)
abbrev cK:Ty:=(.pair (.int .i64) (.pair .str (.pair (.list (.int .u16)) (.pair aI (.pair aj (.pair (.int .i64) .bool))))))
abbrev aR:Ty:=(.pair (.int .i64) (.pair .str aC))
abbrev aM:Ty:=(.pair (.int .i64) (.pair aC .bool))
abbrev bH:Ty:=(.pair .str (.pair aC (.pair .bool .bool)))
abbrev mh:Ty:=(.pair (.list cK) eJ)
abbrev fT:Ty:=(.pair (.int .i64) (.pair (.int .i64) (.pair (.int .i64) (.pair (.int .i64) (.pair (.int .i64) (.pair .bool (.pair .bool (.pair (.int .u64) (.pair (.int .u64) (.pair aI j5))))))))))
abbrev dN:Ty:=(.pair .str (.pair aC aC))
abbrev gu:Ty:=(.pair (.int .i64) (.pair (.int .i64) (.pair (.list bO) (.pair (.list bH) (.pair .str (.pair (.int .i64) (.pair (.int .i64) (.pair aC (.pair (.int .i64) (.pair (.int .i64) (.pair (.int .i64) (.pair (.int .i64) (.list (.int .u8))))))))))))))
abbrev gW:Ty:=(.pair (.int .i64) (.list gu))
abbrev bd{α β:Type}(m:Res α)(k:α->Res β):Res β:=Res.bind m k
abbrev cl{α β:Type}(m:Res α)(b:α->Bool)(k:α->Res β):Res β:=Res.bind m λr=>Res.given (b r) (k r)
abbrev zV:aC.den:=(0,((0,0),((false,([]:List Int)),(([]:List Int),0))))
abbrev kD:Sh:=(.seq .i (.seq .i (.seq (.own (.frz bO)) (.seq (.own (.frz bH)) (.seq .s (.seq .i (.seq .i (.seq (.frz aC) (.seq .i (.seq .i (.seq .i (.seq .i (.own .y)))))))))))))
abbrev iJ:Sh:=(.seq .i (.seq .i (.seq .opq (.seq .opq (.seq .s (.seq .i (.seq .i (.seq (.frz aC) (.seq .i (.seq .i (.seq .i (.seq .i .opq))))))))))))
abbrev KB:Sh:=(.seq .i (.own kD))
abbrev fK:Sh:=(.box KB)
abbrev S_run0:Sh:=(.seq (.frz (.list aE)) (.seq (.frz eJ) (.seq (.frz (.list eU)) (.seq .i (.seq fK (.seq .i (.seq .i (.seq (.frz fT) (.frz iY)))))))))
abbrev aJ:Sh:=(.box S_run0)
abbrev FV:Sh:=(.seq (.frz (.list (.int .u16))) .i)
abbrev dA:Sh:=(.box FV)
abbrev Eu:Sh:=(.seq (.frz (.list cK)) (.seq .i (.seq .i .i)))
abbrev aK:Sh:=(.box Eu)
abbrev lG:Sh:=(.own (.frz aE))
abbrev rF:Sh:=(.box lG)
abbrev rG:Sh:=(.seq (.frz aE) (.own (.frz (.rose aE))))
@[reducible] def vz(e:Ty):List Par:=[.val false (.bor (.own (.frz e)))]
@[reducible] def vt(e:Ty):List VSh:=[(false,.own (.frz e))]
def ma(e:Ty):outs (kO (vt e)) (boxes (vz e))->Bool:=re (oks (vt e)) (boxes (vz e))
def kW(f:FuncId)(e:Ty):Spec:=⟨f,vz e,vt e,λx=>ok x⟩
def oI(k:Nat)(f:FuncId)(e:Ty):Spec:=⟨f,vz e,vt e,λx=>aZ (decide ((0+x.length)*k<=2^47)) (ok x)⟩
abbrev gS.g:Sg:=⟨[.val false (.bor (.own .y))],[(false,(.frz (.int .i32))),vi]⟩
def R.gS(x:(List Int)):Res ((Int×Int)) :=
 given (gS.g.i x) (bd (loop (α:=Int) (β:=(Unit ⊕ (Int×Int))) (λz=>br (ilt z (x.length:Int)) (cO .y x z λu=>br (ilt u 128) (ok (.done (.inr (IntKind.wrap .i32 u,1)))) (ok (.done (.inl ())))) (ok (.done (.inl ())))) fuel 0) λv=>sum v (λa=>Res.stuck) (λw=>ok w))
abbrev ko.g:Sg:=⟨[.val false (.bor (.own .y))],[(false,(.own .h)),vi,vi]⟩
def R.ko(z:(List Int)):Res (((List Int)×(Int×Int))) :=
 given (ko.g.i z) (br (ilt 4096 (z.length:Int)) (ok ((([]:List Int),(0,3)))) (bd (loop (α:=((List Int)×Int)) (β:=((List Int) ⊕ ((List Int)×(Int×Int)))) (λx=>br (ilt x.2 (z.length:Int)) (aZ (ile 0 x.2 && ile x.2 z.length) (cl (R.gS (List.take (z.length-(Int.toNat x.2)) (List.drop (0+(Int.toNat x.2)) z))) gS.g.o λy=>bd (α:=Bool) (br (y.1 == 65533) (ok ((ile y.2 1))) (ok false)) λu=>br u (ok (.done (.inr (([]:List Int),(x.2,2))))) (br (ilt y.1 65536) (aZ (decide ((x.1.length+[IntKind.wrap .u16 y.1].length)*2<=2^47)) (ok (.next (((x.1++[IntKind.wrap .u16 y.1]),w6 (x.2+y.2)))))) (aZ (ile 0 10) (aZ (decide ((x.1.length+[IntKind.wrap .u16 (IntKind.wrap .i32 (55296+(iI .i32 (IntKind.wrap .i32 (y.1-65536)) 10))),IntKind.wrap .u16 (IntKind.wrap .i32 (56320+(fM .and .i32 (IntKind.wrap .i32 (y.1-65536)) 1023)))].length)*2<=2^47)) (ok (.next (((x.1++[IntKind.wrap .u16 (IntKind.wrap .i32 (55296+(iI .i32 (IntKind.wrap .i32 (y.1-65536)) 10))),IntKind.wrap .u16 (IntKind.wrap .i32 (56320+(fM .and .i32 (IntKind.wrap .i32 (y.1-65536)) 1023)))]),w6 (x.2+y.2)))))))))) (ok (.done (.inl x.1)))) fuel (([]:List Int),0)) λv=>sum v (λw=>ok ((w,(0,0)))) (λa=>ok a)))
abbrev mU.g:Sg:=⟨[.val false .h],[vb]⟩
def R.mU(x:Int):Res (Bool) :=
 given (mU.g.i x) (br (x == 9) (ok true) (br (x == 11) (ok true) (br (x == 12) (ok true) (ok ((x == 32))))))
abbrev mO.g:Sg:=⟨[.val false .h],[vb]⟩
def R.mO(x:Int):Res (Bool) :=
 given (mO.g.i x) (br (x == 10) (ok true) (ok ((x == 13))))
abbrev fQ.g:Sg:=⟨[.val false (.bor dA),.s],[vb]⟩
def R.fQ(x:j5.den)(z:(List UInt8)):Res (Bool) :=
 given (fQ.g.i (x,z)) (bd (loop (α:=Int) (β:=(Unit ⊕ Bool)) (λy=>br (ilt y (z.length:Int)) (bd (α:=Bool) (br (ile (x.1.length:Int) (w6 (x.2+y))) (ok true) (idx (.int .u16) x.1 (w6 (x.2+y)) λu=>idx (.int .u8) (lH z) y λv=>ok ((!(u == (IntKind.wrap .u16 v)))))) λw=>br w (ok (.done (.inr false))) (ok (.next (w6 (y+1))))) (ok (.done (.inl ())))) fuel 0) λa=>sum a (λc=>ok true) (λb=>ok b))
abbrev gN.g:Sg:=⟨[.obj dA],[vb,vi,vi]⟩
def R.gN(z:dA.den):Res ((Bool×(Int×Int))×dA.den) :=
 given (gN.g.i z) (bd (loop (α:=(Bool×dA.den)) (β:=(Bool×dA.den)) (λx=>br (ilt x.2.2 (x.2.1.length:Int)) (idx (.int .u16) x.2.1 x.2.2 λy=>bd (α:=Bool) (bd (R.mU y) λv=>br v (ok true) (bd (R.mO y) λw=>ok w)) λa=>br a (bd (α:=Bool) (br x.1 (ok true) (bd (R.mO y) λb=>ok b)) λc=>ok (.next ((c,(x.2.1,w6 (x.2.2+1)))))) (bd (α:=Bool) (bd (R.fQ x.2 [47,47]) λd=>br d (ok true) (bd (R.fQ x.2 [47,42]) λe=>ok e)) λf=>br f (Res.stuck) (ok (.done (x))))) (ok (.done (x)))) fuel (false,z)) λu=>ok (((u.1,(0,0)),u.2)))
abbrev gr.g:Sg:=⟨[.val false .h],[vb]⟩
def R.gr(x:Int):Res (Bool) :=
 given (gr.g.i x) (br (ile 97 x) (br (ile x 122) (ok true) (br (ile 65 x) (br (ile x 90) (ok true) (br (x == 95) (ok true) (ok ((x == 36))))) (br (x == 95) (ok true) (ok ((x == 36)))))) (br (ile 65 x) (br (ile x 90) (ok true) (br (x == 95) (ok true) (ok ((x == 36))))) (br (x == 95) (ok true) (ok ((x == 36))))))
abbrev jt.g:Sg:=⟨[.val false .h],[vb]⟩
def R.jt(x:Int):Res (Bool) :=
 given (jt.g.i x) (br (ile 48 x) (ok ((ile x 57))) (ok false))
abbrev fy.g:Sg:=⟨[.val false .h],[vb]⟩
def R.fy(x:Int):Res (Bool) :=
 given (fy.g.i x) (bd (R.gr x) λy=>br y (ok true) (bd (R.jt x) λz=>ok z))
abbrev bF.g:Sg:=⟨[.val false (.bor dA),.i,.val false (.bor (.clo 165 .nil))],[vb]⟩
def R.bF(x:j5.den)(y:Int)(z:Unit):Res (Bool) :=
 given (bF.g.i (x,(y,z))) (br (ilt (w6 (x.2+y)) (x.1.length:Int)) (idx (.int .u16) x.1 (w6 (x.2+y)) λu=>bd (R.fy u) λv=>ok v) (ok false))
abbrev ax.g:Sg:=⟨[.obj dA,.val false (.bor (.clo 165 .nil))],[vs]⟩
def R.ax(y:dA.den)(v:Unit):Res ((List UInt8)×dA.den) :=
 given (ax.g.i (y,v)) (bd (loop (α:=((List Int)×dA.den)) (β:=((List Int)×dA.den)) (λx=>bd (R.bF x.2 0 ()) λw=>br w (idx (.int .u16) x.2.1 x.2.2 λz=>aZ (decide ((x.1.length+[IntKind.wrap .u8 z].length)*1<=2^47)) (ok (.next (((x.1++[IntKind.wrap .u8 z]),(x.2.1,w6 (x.2.2+1))))))) (ok (.done (x)))) fuel (([]:List Int),y)) λu=>ok ((sL u.1,u.2)))
abbrev kp.g:Sg:=⟨[.s],[vi]⟩
def R.kp(x:(List UInt8)):Res (Int) :=
 given (kp.g.i x) (bd (α:=Bool) (br (x == [98,114,101,97,107]) (ok ((x == [98,114,101,97,107]))) (br (x == [99,97,116,99,104]) (ok ((x == [99,97,116,99,104]))) (br (x == [99,111,110,115,116]) (ok ((x == [99,111,110,115,116]))) (br (x == [99,111,110,116,105,110,117,101]) (ok ((x == [99,111,110,116,105,110,117,101]))) (br (x == [101,108,115,101]) (ok ((x == [101,108,115,101]))) (br (x == [102,97,108,115,101]) (ok ((x == [102,97,108,115,101]))) (br (x == [102,105,110,97,108,108,121]) (ok ((x == [102,105,110,97,108,108,121]))) (br (x == [102,111,114]) (ok ((x == [102,111,114]))) (br (x == [102,117,110,99,116,105,111,110]) (ok ((x == [102,117,110,99,116,105,111,110]))) (br (x == [105,102]) (ok ((x == [105,102]))) (br (x == [105,110]) (ok ((x == [105,110]))) (br (x == [108,101,116]) (ok ((x == [108,101,116]))) (br (x == [110,101,119]) (ok ((x == [110,101,119]))) (br (x == [110,117,108,108]) (ok ((x == [110,117,108,108]))) (br (x == [114,101,116,117,114,110]) (ok ((x == [114,101,116,117,114,110]))) (br (x == [116,104,105,115]) (ok ((x == [116,104,105,115]))) (br (x == [116,104,114,111,119]) (ok ((x == [116,104,114,111,119]))) (br (x == [116,114,117,101]) (ok ((x == [116,114,117,101]))) (br (x == [116,114,121]) (ok ((x == [116,114,121]))) (br (x == [116,121,112,101,111,102]) (ok ((x == [116,121,112,101,111,102]))) (br (x == [118,111,105,100]) (ok ((x == [118,111,105,100]))) (ok ((x == [119,104,105,108,101])))))))))))))))))))))))) λy=>br y (ok 1) (bd (α:=Bool) (br (x == [97,114,103,117,109,101,110,116,115]) (ok ((x == [97,114,103,117,109,101,110,116,115]))) (br (x == [97,115,121,110,99]) (ok ((x == [97,115,121,110,99]))) (br (x == [97,119,97,105,116]) (ok ((x == [97,119,97,105,116]))) (br (x == [99,97,115,101]) (ok ((x == [99,97,115,101]))) (br (x == [99,108,97,115,115]) (ok ((x == [99,108,97,115,115]))) (br (x == [100,101,98,117,103,103,101,114]) (ok ((x == [100,101,98,117,103,103,101,114]))) (br (x == [100,101,102,97,117,108,116]) (ok ((x == [100,101,102,97,117,108,116]))) (br (x == [100,101,108,101,116,101]) (ok ((x == [100,101,108,101,116,101]))) (br (x == [100,111]) (ok ((x == [100,111]))) (br (x == [101,110,117,109]) (ok ((x == [101,110,117,109]))) (br (x == [101,118,97,108]) (ok ((x == [101,118,97,108]))) (br (x == [101,120,112,111,114,116]) (ok ((x == [101,120,112,111,114,116]))) (br (x == [101,120,116,101,110,100,115]) (ok ((x == [101,120,116,101,110,100,115]))) (br (x == [105,109,112,108,101,109,101,110,116,115]) (ok ((x == [105,109,112,108,101,109,101,110,116,115]))) (br (x == [105,109,112,111,114,116]) (ok ((x == [105,109,112,111,114,116]))) (br (x == [105,110,115,116,97,110,99,101,111,102]) (ok ((x == [105,110,115,116,97,110,99,101,111,102]))) (br (x == [105,110,116,101,114,102,97,99,101]) (ok ((x == [105,110,116,101,114,102,97,99,101]))) (br (x == [112,97,99,107,97,103,101]) (ok ((x == [112,97,99,107,97,103,101]))) (br (x == [112,114,105,118,97,116,101]) (ok ((x == [112,114,105,118,97,116,101]))) (br (x == [112,114,111,116,101,99,116,101,100]) (ok ((x == [112,114,111,116,101,99,116,101,100]))) (br (x == [112,117,98,108,105,99]) (ok ((x == [112,117,98,108,105,99]))) (br (x == [115,116,97,116,105,99]) (ok ((x == [115,116,97,116,105,99]))) (br (x == [115,117,112,101,114]) (ok ((x == [115,117,112,101,114]))) (br (x == [115,119,105,116,99,104]) (ok ((x == [115,119,105,116,99,104]))) (br (x == [118,97,114]) (ok ((x == [118,97,114]))) (br (x == [119,105,116,104]) (ok ((x == [119,105,116,104]))) (ok ((x == [121,105,101,108,100]))))))))))))))))))))))))))))) λz=>br z (ok 2) (ok 0)))
abbrev gP.g:Sg:=⟨[.obj dA],[(true,(.frz cK)),vi]⟩
def R.gP(y:dA.den):Res ((cK.den×Int)×dA.den) :=
 given (gP.g.i y) (cl (R.ax y ()) ax.g.o λx=>bd (R.fQ x.2 [92]) λz=>br z (ok ((((0,(([]:List UInt8),(([]:List Int),((0,0),((false,([]:List Int)),(0,false)))))),6),x.2))) (cl (R.kp x.1) kp.g.o λu=>br (ilt 0 u) (ok ((((6,(x.1,(([]:List Int),((0,0),((false,([]:List Int)),(0,false)))))),0),x.2))) (ok ((((1,(x.1,(([]:List Int),((0,0),((false,([]:List Int)),(0,false)))))),0),x.2)))))
abbrev bL.g:Sg:=⟨[.val false (.bor dA),.i,.val false (.bor (.clo 133 .nil))],[vb]⟩
def R.bL(x:j5.den)(y:Int)(z:Unit):Res (Bool) :=
 given (bL.g.i (x,(y,z))) (br (ilt (w6 (x.2+y)) (x.1.length:Int)) (idx (.int .u16) x.1 (w6 (x.2+y)) λu=>bd (R.jt u) λv=>ok v) (ok false))
abbrev bY.g:Sg:=⟨[.obj dA,.val false (.bor (.clo 133 .nil))],[vs]⟩
def R.bY(y:dA.den)(v:Unit):Res ((List UInt8)×dA.den) :=
 given (bY.g.i (y,v)) (bd (loop (α:=((List Int)×dA.den)) (β:=((List Int)×dA.den)) (λx=>bd (R.bL x.2 0 ()) λw=>br w (idx (.int .u16) x.2.1 x.2.2 λz=>aZ (decide ((x.1.length+[IntKind.wrap .u8 z].length)*1<=2^47)) (ok (.next (((x.1++[IntKind.wrap .u8 z]),(x.2.1,w6 (x.2.2+1))))))) (ok (.done (x)))) fuel (([]:List Int),y)) λu=>ok ((sL u.1,u.2)))
abbrev eW.g:Sg:=⟨[.val false .h,.val false (.bor (.box .b))],[vb]⟩
def R.eW(x:Int)(y:Bool):Res (Bool) :=
 given (eW.g.i (x,y)) (bd (α:=Bool) (br (x == 46) (ok ((x == 46))) (br (x == 101) (ok ((x == 101))) (br (x == 69) (ok ((x == 69))) (ok ((x == 95)))))) λz=>br z (ok true) (bd (α:=Bool) (br (x == 120) (ok ((x == 120))) (br (x == 88) (ok ((x == 88))) (br (x == 111) (ok ((x == 111))) (br (x == 79) (ok ((x == 79))) (br (x == 98) (ok ((x == 98))) (ok ((x == 66)))))))) λu=>br u (ok y) (ok false)))
abbrev ay.g:Sg:=⟨[.val false (.bor dA),.i,.val false (.bor (.clo 198 (.box .b)))],[vb]⟩
def R.ay(x:j5.den)(y:Int)(z:Bool):Res (Bool) :=
 given (ay.g.i (x,(y,z))) (br (ilt (w6 (x.2+y)) (x.1.length:Int)) (idx (.int .u16) x.1 (w6 (x.2+y)) λu=>bd (R.eW u z) λv=>ok v) (ok false))
abbrev fX.g:Sg:=⟨[.val false (.bor dA),.b],[vb]⟩
def R.fX(x:j5.den)(y:Bool):Res (Bool) :=
 given (fX.g.i (x,y)) (bd (R.ay x 0 y) λz=>ok z)
abbrev bo.g:Sg:=⟨[.val false (.bor dA),.i,.val false (.bor (.clo 131 .nil))],[vb]⟩
def R.bo(x:j5.den)(y:Int)(z:Unit):Res (Bool) :=
 given (bo.g.i (x,(y,z))) (br (ilt (w6 (x.2+y)) (x.1.length:Int)) (idx (.int .u16) x.1 (w6 (x.2+y)) λu=>bd (R.gr u) λv=>ok v) (ok false))
abbrev av.g:Sg:=⟨[.s],[(false,(.own .h))]⟩
def R.av(y:(List UInt8)):Res ((List Int)) :=
 given (av.g.i y) (bd (loop (α:=((List Int)×Int)) (β:=(List Int)) (λx=>br (ilt x.2 (y.length:Int)) (idx (.int .u8) (lH y) x.2 λz=>aZ (decide ((x.1.length+[IntKind.wrap .u16 z].length)*2<=2^47)) (ok (.next (((x.1++[IntKind.wrap .u16 z]),w6 (x.2+1)))))) (ok (.done (x.1)))) fuel (([]:List Int),0)) λu=>ok u)
abbrev jo.g:Sg:=⟨[.val false .h],[vb]⟩
def R.jo(x:Int):Res (Bool) :=
 given (jo.g.i x) (br (x == 32) (ok true) (br (x == 9) (ok true) (br (x == 10) (ok true) (ok ((x == 13))))))
abbrev gJ.g:Sg:=⟨[.val false .h],[vb]⟩
def R.gJ(x:Int):Res (Bool) :=
 given (gJ.g.i x) (br (ile 48 x) (ok ((ile x 57))) (ok false))
abbrev dY.g:Sg:=⟨[.val false (.bor (.own .h)),.val false .h],[vi]⟩
def R.dY(y:(List Int))(z:Int):Res (Int) :=
 given (dY.g.i (y,z)) (bd (loop (α:=Int) (β:=(Unit ⊕ Int)) (λx=>br (ilt x (y.length:Int)) (cO .h y x λu=>br (z == u) (ok (.done (.inr x))) (ok (.next (w6 (x+1))))) (ok (.done (.inl ())))) fuel 0) λv=>sum v (λa=>ok ((-1))) (λw=>ok w))
abbrev cr.g:Sg:=⟨[.val false (.bor (.own .h)),.val false .h],[vb]⟩
def R.cr(x:(List Int))(y:Int):Res (Bool) :=
 given (cr.g.i (x,y)) (cl (R.dY x y) dY.g.o λz=>ok ((ile 0 z)))
abbrev iR.g:Sg:=⟨[.val false (.bor (.own .h))],[vb]⟩
def R.iR(z:(List Int)):Res (Bool) :=
 given (iR.g.i z) (bd (loop (α:=(Bool×Int)) (β:=(Bool ⊕ Bool)) (λy=>br (ilt y.2 (z.length:Int)) (cO .h z y.2 λx=>bd (α:=Bool) (br y.1 (ok true) (bd (R.gJ x) λa=>ok a)) λu=>bd (α:=Bool) (bd (R.gJ x) λv=>br v (ok v) (bd (α:=Bool) (br (ile 97 x) (ok ((ile x 102))) (ok false)) λw=>br w (ok w) (br (ile 65 x) (ok ((ile x 70))) (ok false)))) λb=>br b (ok (.next ((u,w6 (y.2+1))))) (cl (R.av [120,88,111,79,46,43,45,95]) av.g.o λc=>bd (R.cr c x) λd=>br d (ok (.next ((u,w6 (y.2+1))))) (ok (.done (.inr false))))) (ok (.done (.inl y.1)))) fuel (false,0)) λe=>sum e (λf=>ok f) (λj=>ok j))
abbrev dX.g:Sg:=⟨[.val false (.bor (.own .h)),.val false (.bor (.own .h))],[vb]⟩
def R.dX(s1_0:(List Int))(s2_1:(List Int)):Res (Bool) :=
 given (dX.g.i (s1_0,s2_1)) (br (!((s1_0.length:Int) == (s2_1.length:Int))) (ok false) (bd (loop (α:=Int) (β:=(Unit ⊕ Bool)) (λx=>br (ilt x (s1_0.length:Int)) (cO .h s1_0 x λy=>cO .h s2_1 x λz=>br (!(y == z)) (ok (.done (.inr false))) (ok (.next (w6 (x+1))))) (ok (.done (.inl ())))) fuel 0) λu=>sum u (λw=>ok true) (λv=>ok v)))
abbrev jL.g:Sg:=⟨[.val false (.bor (.own .h)),.val false (.bor (.own .h))],[vb]⟩
def R.jL(x:(List Int))(y:(List Int)):Res (Bool) :=
 given (jL.g.i (x,y)) (bd (R.dX x y) λz=>ok z)
abbrev iA.g:Sg:=⟨[.val false .h],[vb]⟩
def R.iA(x:Int):Res (Bool) :=
 given (iA.g.i x) (bd (R.gJ x) λy=>ok ((!y)))
abbrev aw.g:Sg:=⟨[.val false (.bor (.own .h)),.val false (.bor (.clo 202 .nil))],[vi]⟩
def R.aw(y:(List Int))(z:Unit):Res (Int) :=
 given (aw.g.i (y,z)) (bd (loop (α:=Int) (β:=(Unit ⊕ Int)) (λx=>br (ilt x (y.length:Int)) (cO .h y x λu=>bd (R.iA u) λv=>br v (ok (.done (.inr x))) (ok (.next (w6 (x+1))))) (ok (.done (.inl ())))) fuel 0) λw=>sum w (λb=>ok ((-1))) (λa=>ok a))
abbrev aq.g:Sg:=⟨[.val false (.bor (.own .h)),.val false (.bor (.clo 202 .nil))],[vb]⟩
def R.aq(x:(List Int))(y:Unit):Res (Bool) :=
 given (aq.g.i (x,y)) (cl (R.aw x ()) aw.g.o λz=>ok ((ile 0 z)))
abbrev jd.g:Sg:=⟨[.val false (.bor (.own .h))],[vi,vb]⟩
def R.jd(y:(List Int)):Res ((Int×Bool)) :=
 given (jd.g.i y) (bd (loop (α:=(Int×Int)) (β:=(Int ⊕ (Int×Bool))) (λx=>br (ilt x.2 (y.length:Int)) (cO .h y x.2 λu=>br (ilt 900719925474099 x.1) (ok (.done (.inr (0,false)))) (ok (.next ((w6 ((w6 (10*x.1))+(w6 (IntKind.wrap .u16 (u-48)))),w6 (x.2+1)))))) (ok (.done (.inl x.1)))) fuel (0,0)) λv=>sum v (λz=>ok ((z,(ile z 9007199254740991)))) (λw=>ok w))
abbrev lT.g:Sg:=⟨[.val true (.frz aI)],[vb]⟩
def R.lT(x:aI.den):Res (Bool) :=
 given (lT.g.i x) (br (x.1 == 0) (br (ile (-9007199254740991) x.2) (ok ((ile x.2 9007199254740991))) (ok false)) (bd (α:=Bool) (br (x.1 == 1) (ok ((x.1 == 1))) (br (x.1 == 2) (ok ((x.1 == 2))) (br (x.1 == 3) (ok ((x.1 == 3))) (ok ((x.1 == 4)))))) λy=>br y (ok ((x.2 == 0))) (ok false)))
abbrev fY.g:Sg:=⟨[],[(true,(.frz aI))]⟩
def R.fY :Res (aI.den) :=
 given (fY.g.i ()) (ok ((2,0)))
abbrev ev.g:Sg:=⟨[.val true (.frz aI)],[(true,(.frz aI))]⟩
def R.ev(x:aI.den):Res (aI.den) :=
 given (ev.g.i x) (bd (R.lT x) λy=>br (!y) (cl (R.fY) fY.g.o λz=>ok z) (ok x))
abbrev jy.g:Sg:=⟨[.b],[(true,(.frz aI))]⟩
def R.jy(x:Bool):Res (aI.den) :=
 given (jy.g.i x) (br x (ok ((4,0))) (ok ((3,0))))
abbrev cj.g:Sg:=⟨[.i],[(true,(.frz aI))]⟩
def R.cj(x:Int):Res (aI.den) :=
 given (cj.g.i x) (ok ((0,x)))
abbrev gL.g:Sg:=⟨[.b],[(true,(.frz aI))]⟩
def R.gL(x:Bool):Res (aI.den) :=
 given (gL.g.i x) (br x (ok ((1,0))) (cl (R.cj 0) cj.g.o λy=>ok y))
abbrev lU.g:Sg:=⟨[.val true (.frz aI)],[(true,(.frz aI))]⟩
def R.lU(y:aI.den):Res (aI.den) :=
 given (lU.g.i y) (cl (R.ev y) ev.g.o λx=>br (x.1 == 2) (ok x) (bd (α:=Bool) (br (x.1 == 3) (ok ((x.1 == 3))) (ok ((x.1 == 4)))) λz=>br z (cl (R.jy (x.1 == 3)) jy.g.o λu=>ok u) (br (x.1 == 1) (cl (R.cj 0) cj.g.o λv=>ok v) (br (x.2 == 0) (cl (R.gL true) gL.g.o λw=>ok w) (cl (R.cj (w6 (0-x.2))) cj.g.o λa=>ok a)))))
abbrev gd.g:Sg:=⟨[.val false (.bor (.own .h))],[(true,(.frz aI)),vb]⟩
def R.gd(w:(List Int)):Res ((aI.den×Bool)) :=
 given (gd.g.i w) (bd (loop (α:=(List Int)) (β:=(List Int)) (λz=>bd (α:=Bool) (br (ilt 0 (z.length:Int)) (cO .h z 0 λe=>bd (R.jo e) λf=>ok f) (ok false)) λj=>br j (aZ (ile 0 1 && ile 1 z.length) (ok (.next ((List.take (z.length-(Int.toNat 1)) (List.drop (0+(Int.toNat 1)) z)))))) (ok (.done (z)))) fuel w) λk=>bd (loop (α:=(List Int)) (β:=(List Int)) (λx=>bd (α:=Bool) (br (ilt 0 (x.length:Int)) (cO .h x (w6 ((x.length:Int)-1)) λl=>bd (R.jo l) λm=>ok m) (ok false)) λn=>br n (aZ (ile 0 (w6 ((x.length:Int)-1)) && ile (w6 ((x.length:Int)-1)) x.length) (ok (.next ((List.take (Int.toNat (w6 ((x.length:Int)-1))) (List.drop 0 x)))))) (ok (.done (x)))) fuel k) λy=>br ((y.length:Int) == 0) (ok (((0,0),true))) (cO .h y 0 λa=>bd (α:=(List Int)) (bd (α:=Bool) (br (a == 45) (ok true) (cO .h y 0 λp=>ok ((p == 43)))) λq=>br q (aZ (ile 0 1 && ile 1 y.length) (ok ((List.take (y.length-(Int.toNat 1)) (List.drop (0+(Int.toNat 1)) y))))) (ok y)) λu=>bd (R.iR y) λb=>bd (α:=((Bool×aI.den) ⊕ (Bool×aI.den))) (cl (R.av [73,110,102,105,110,105,116,121]) av.g.o λr=>bd (R.jL u r) λs=>br s (ok (.inl ((!b),(3,0)))) (bd (α:=Bool) (br (ilt 0 (u.length:Int)) (bd (R.aq u ()) λt=>ok ((!t))) (ok false)) λA=>br A (cl (R.jd u) jd.g.o λc=>br (!c.2) (ok (.inr (false,(2,0)))) (ok (.inl (true,(0,c.1))))) (ok (.inl ((!b),(2,0)))))) λB=>sum B (λv=>br (a == 45) (cl (R.lU v.2) lU.g.o λC=>ok ((C,v.1))) (ok ((v.2,v.1)))) (λd=>ok ((d.2,d.1)))))
abbrev fC.g:Sg:=⟨[.obj dA],[(true,(.frz cK)),vi]⟩
def R.fC(y:dA.den):Res ((cK.den×Int)×dA.den) :=
 given (fC.g.i y) (cl (R.bY y ()) bY.g.o λx=>bd (α:=Bool) (idx (.int .u8) (lH x.1) 0 λu=>br (u == 48) (ok ((!(x.1 == [48])))) (ok false)) λv=>br v (ok ((((0,(([]:List UInt8),(([]:List Int),((0,0),((false,([]:List Int)),(0,false)))))),5),x.2))) (bd (R.fQ x.2 [110]) λw=>br w (Res.stuck) (bd (R.fX x.2 (x.1 == [48])) λa=>br a (ok ((((0,(([]:List UInt8),(([]:List Int),((0,0),((false,([]:List Int)),(0,false)))))),6),x.2))) (bd (R.bo x.2 0 ()) λb=>br b (ok ((((0,(([]:List UInt8),(([]:List Int),((0,0),((false,([]:List Int)),(0,false)))))),5),x.2))) (cl (R.av x.1) av.g.o λc=>cl (R.gd c) gd.g.o λz=>br (!z.2) (ok ((((0,(([]:List UInt8),(([]:List Int),((0,0),((false,([]:List Int)),(0,false)))))),6),x.2))) (ok ((((2,(([]:List UInt8),(([]:List Int),(z.1,((false,([]:List Int)),(0,false)))))),0),x.2))))))))
abbrev fO.g:Sg:=⟨[.obj dA],[(true,(.frz cK)),vi]⟩
def R.fO(y:dA.den):Res ((cK.den×Int)×dA.den) :=
 given (fO.g.i y) (idx (.int .u16) y.1 y.2 λv=>bd (loop (α:=(dA.den×cK.den)) (β:=(dA.den ⊕ (Int×(dA.den×cK.den)))) (λx=>bd (α:=Bool) (br (ilt x.1.2 (x.1.1.length:Int)) (idx (.int .u16) x.1.1 x.1.2 λw=>bd (R.mO w) λa=>ok ((!a))) (ok false)) λb=>br b (idx (.int .u16) x.1.1 x.1.2 λz=>br (z == v) (ok (.done (.inr (0,((x.1.1,w6 (x.1.2+1)),x.2))))) (bd (α:=Unit) (br (z == 92) (Res.stuck) (ok (()))) λe=>aZ (decide ((x.2.2.2.1.length+[z].length)*2<=2^47)) (ok (.next (((x.1.1,w6 (x.1.2+1)),(x.2.1,(x.2.2.1,((x.2.2.2.1++[z]),x.2.2.2.2))))))))) (ok (.done (.inl x.1)))) fuel ((y.1,w6 (y.2+1)),(4,(([]:List UInt8),(([]:List Int),((0,0),((false,([]:List Int)),(0,false)))))))) λc=>sum c (λd=>ok ((((0,(([]:List UInt8),(([]:List Int),((0,0),((false,([]:List Int)),(0,false)))))),5),d))) (λu=>ok (((u.2.2,u.1),u.2.1))))
abbrev fW.g:Sg:=⟨[.val false (.bor (.own .h))],[vs,vb]⟩
def R.fW(y:(List Int)):Res (((List UInt8)×Bool)) :=
 given (fW.g.i y) (bd (loop (α:=((List Int)×Int)) (β:=((List Int) ⊕ ((List UInt8)×Bool))) (λx=>br (ilt x.2 (y.length:Int)) (cO .h y x.2 λz=>br (ilt 127 z) (ok (.done (.inr (([]:List UInt8),false)))) (aZ (decide ((x.1.length+[IntKind.wrap .u8 z].length)*1<=2^47)) (ok (.next (((x.1++[IntKind.wrap .u8 z]),w6 (x.2+1))))))) (ok (.done (.inl x.1)))) fuel (([]:List Int),0)) λu=>sum u (λv=>ok ((sL v,true))) (λw=>ok w))
abbrev mA.g:Sg:=⟨[.s],[vi]⟩
def R.mA(x:(List UInt8)):Res (Int) :=
 given (mA.g.i x) (bd (α:=Bool) (br (x == [123]) (ok ((x == [123]))) (br (x == [125]) (ok ((x == [125]))) (br (x == [40]) (ok ((x == [40]))) (br (x == [41]) (ok ((x == [41]))) (br (x == [91]) (ok ((x == [91]))) (br (x == [93]) (ok ((x == [93]))) (br (x == [59]) (ok ((x == [59]))) (br (x == [44]) (ok ((x == [44]))) (br (x == [46]) (ok ((x == [46]))) (br (x == [63]) (ok ((x == [63]))) (br (x == [58]) (ok ((x == [58]))) (br (x == [126]) (ok ((x == [126]))) (br (x == [60]) (ok ((x == [60]))) (br (x == [62]) (ok ((x == [62]))) (br (x == [60,61]) (ok ((x == [60,61]))) (br (x == [62,61]) (ok ((x == [62,61]))) (br (x == [61,61]) (ok ((x == [61,61]))) (br (x == [33,61]) (ok ((x == [33,61]))) (br (x == [61,61,61]) (ok ((x == [61,61,61]))) (br (x == [33,61,61]) (ok ((x == [33,61,61]))) (br (x == [43]) (ok ((x == [43]))) (br (x == [45]) (ok ((x == [45]))) (br (x == [42]) (ok ((x == [42]))) (br (x == [47]) (ok ((x == [47]))) (br (x == [37]) (ok ((x == [37]))) (br (x == [38]) (ok ((x == [38]))) (br (x == [124]) (ok ((x == [124]))) (br (x == [94]) (ok ((x == [94]))) (br (x == [33]) (ok ((x == [33]))) (br (x == [38,38]) (ok ((x == [38,38]))) (br (x == [124,124]) (ok ((x == [124,124]))) (br (x == [63,63]) (ok ((x == [63,63]))) (br (x == [61]) (ok ((x == [61]))) (br (x == [43,61]) (ok ((x == [43,61]))) (br (x == [45,61]) (ok ((x == [45,61]))) (br (x == [42,61]) (ok ((x == [42,61]))) (br (x == [47,61]) (ok ((x == [47,61]))) (br (x == [37,61]) (ok ((x == [37,61]))) (br (x == [38,61]) (ok ((x == [38,61]))) (br (x == [124,61]) (ok ((x == [124,61]))) (br (x == [94,61]) (ok ((x == [94,61]))) (br (x == [60,60,61]) (ok ((x == [60,60,61]))) (br (x == [62,62,61]) (ok ((x == [62,62,61]))) (br (x == [62,62,62,61]) (ok ((x == [62,62,62,61]))) (br (x == [43,43]) (ok ((x == [43,43]))) (br (x == [45,45]) (ok ((x == [45,45]))) (br (x == [60,60]) (ok ((x == [60,60]))) (br (x == [62,62]) (ok ((x == [62,62]))) (br (x == [62,62,62]) (ok ((x == [62,62,62]))) (ok ((x == [61,62])))))))))))))))))))))))))))))))))))))))))))))))))))) λy=>br y (ok 1) (bd (α:=Bool) (br (x == [46,46,46]) (ok ((x == [46,46,46]))) (br (x == [63,46]) (ok ((x == [63,46]))) (br (x == [42,42]) (ok ((x == [42,42]))) (br (x == [42,42,61]) (ok ((x == [42,42,61]))) (br (x == [38,38,61]) (ok ((x == [38,38,61]))) (br (x == [124,124,61]) (ok ((x == [124,124,61]))) (ok ((x == [63,63,61]))))))))) λz=>br z (ok 2) (ok 0)))
abbrev gR.g:Sg:=⟨[.obj dA],[(true,(.frz cK)),vi]⟩
def R.gR(x:dA.den):Res ((cK.den×Int)×dA.den) :=
 given (gR.g.i x) (bd (loop (α:=Int) (β:=(Unit ⊕ (Int×(dA.den×cK.den)))) (λy=>br (ilt 0 y) (aZ (ile 0 x.2 && (ile x.2 (w6 (x.2+y)) && ile (w6 (x.2+y)) x.1.length)) (cl (R.fW (List.drop (Int.toNat x.2) (List.take (Int.toNat (w6 (x.2+y))) x.1))) fW.g.o λz=>bd (α:=Bool) (br (!z.2) (ok true) (cl (R.mA z.1) mA.g.o λw=>br (w == 0) (ok true) (br (z.1 == [63,46]) (bd (R.bL x 2 ()) λa=>ok a) (ok false)))) λb=>br b (ok (.next (w6 (y-1)))) (cl (R.mA z.1) mA.g.o λc=>br (c == 2) (ok (.done (.inr (6,(x,(0,(([]:List UInt8),(([]:List Int),((0,0),((false,([]:List Int)),(0,false))))))))))) (ok (.done (.inr (0,((x.1,w6 (x.2+y)),(5,(z.1,(([]:List Int),((0,0),((false,([]:List Int)),(0,false)))))))))))))) (ok (.done (.inl ())))) fuel (kF 4 (w6 ((x.1.length:Int)-x.2)))) λd=>sum d (λh=>idx (.int .u16) x.1 x.2 λu=>bd (α:=Bool) (br (ile 128 u) (ok true) (br (u == 96) (ok true) (br (u == 92) (ok true) (br (x.2 == 0) (bd (R.fQ x [35,33]) λe=>ok e) (ok false))))) λf=>br f (ok ((((0,(([]:List UInt8),(([]:List Int),((0,0),((false,([]:List Int)),(0,false)))))),6),x))) (ok ((((0,(([]:List UInt8),(([]:List Int),((0,0),((false,([]:List Int)),(0,false)))))),5),x)))) (λv=>ok (((v.2.2,v.1),v.2.1))))
abbrev fq.g:Sg:=⟨[.obj dA],[(true,(.frz cK)),vi]⟩
def R.fq(x:dA.den):Res ((cK.den×Int)×dA.den) :=
 given (fq.g.i x) (idx (.int .u16) x.1 x.2 λy=>bd (R.gr y) λz=>br z (cl (R.gP x) gP.g.o λu=>ok u) (bd (R.jt y) λv=>br v (cl (R.fC x) fC.g.o λw=>ok w) (bd (α:=Bool) (br (y == 39) (ok true) (ok ((y == 34)))) λa=>br a (cl (R.fO x) fO.g.o λb=>ok b) (bd (α:=Bool) (br (y == 46) (bd (R.bL x 1 ()) λc=>ok c) (ok false)) λd=>br d (ok ((((0,(([]:List UInt8),(([]:List Int),((0,0),((false,([]:List Int)),(0,false)))))),6),x))) (cl (R.gR x) gR.g.o λe=>ok e)))))
abbrev kv.g:Sg:=⟨[.val false (.frz (.list (.int .u16)))],[(false,(.own (.frz cK))),vi,vi]⟩
def R.kv(u:(List Int)):Res (((List cK.den)×(Int×Int))) :=
 given (kv.g.i u) (br (ilt 4096 (u.length:Int)) (ok ((([]:List cK.den),(0,3)))) (bd (loop (α:=((List cK.den)×j5.den)) (β:=((List cK.den)×(Int×Int))) (λz=>cl (R.gN z.2) gN.g.o λx=>br (!(x.1.2.2 == 0)) (ok (.done ((([]:List cK.den),x.1.2)))) (br (x.2.2 == (u.length:Int)) (aZ (decide ((z.1.length+[(0,(([]:List UInt8),(([]:List Int),((0,0),((false,([]:List Int)),(x.2.2,x.1.1))))))].length)*112<=2^47)) (ok (.done (((z.1++[(0,(([]:List UInt8),(([]:List Int),((0,0),((false,([]:List Int)),(x.2.2,x.1.1))))))]),(0,0)))))) (cl (R.fq x.2) fq.g.o λy=>br (!(y.1.2 == 0)) (ok (.done ((([]:List cK.den),(x.2.2,y.1.2))))) (aZ (decide ((z.1.length+[(y.1.1.1,(y.1.1.2.1,(y.1.1.2.2.1,(y.1.1.2.2.2.1,(y.1.1.2.2.2.2.1,(x.2.2,x.1.1))))))].length)*112<=2^47)) (ok (.next (((z.1++[(y.1.1.1,(y.1.1.2.1,(y.1.1.2.2.1,(y.1.1.2.2.2.1,(y.1.1.2.2.2.2.1,(x.2.2,x.1.1))))))]),y.2)))))))) fuel (([]:List cK.den),(u,0))) λv=>ok v))
abbrev bI.g:Sg:=⟨[.i,.val false (.own (.frz (.rose aE)))],[(true,rG)]⟩
def R.bI(x:Int)(y:(List (aQ aE.den))):Res (rG.den) :=
 given (bI.g.i (x,y)) (ok (((x,(([]:List UInt8),(([]:List Int),((0,0),((false,([]:List Int)),([]:List Int)))))),y)))
abbrev aW.g:Sg:=⟨[.val false (.bor aK)],[(true,(.frz cK))]⟩
def R.aW(x:mh.den):Res (cK.den) :=
 given (aW.g.i x) (idx cK x.1 x.2.1 λy=>ok y)
abbrev iu.g:Sg:=⟨[.val true (.bor (.seq .i (.seq .s (.seq (.own .h) (.seq (.frz aI) (.seq (.seq .b (.own .w)) (.seq .i .b))))))),.s],[vb]⟩
def R.iu(x:cK.den)(y:(List UInt8)):Res (Bool) :=
 given (iu.g.i (x,y)) (br (x.2.1 == y) (br (x.1 == 5) (ok true) (ok ((x.1 == 6)))) (ok false))
abbrev cQ.g:Sg:=⟨[.val false (.bor aK),.s],[vb]⟩
def R.cQ(x:mh.den)(y:(List UInt8)):Res (Bool) :=
 given (cQ.g.i (x,y)) (cl (R.aW x) aW.g.o λz=>bd (R.iu z y) λu=>ok u)
abbrev aO.g:Sg:=⟨[.obj aK,.s],[vb]⟩
def R.aO(x:aK.den)(y:(List UInt8)):Res (Bool×aK.den) :=
 given (aO.g.i (x,y)) (bd (R.cQ x y) λz=>br (!z) (ok ((false,x))) (ok ((true,(x.1,(w6 (x.2.1+1),x.2.2))))))
abbrev dU.g:Sg:=⟨[.obj aK],[]⟩
def R.dU(y:aK.den):Res (Unit×aK.den) :=
 given (dU.g.i y) (cl (R.aW y) aW.g.o λz=>bd (α:=(Bool×aK.den)) (cl (R.aO y [59]) aO.g.o λx=>br x.1 (ok ((true,x.2))) (bd (R.iu z [125]) λv=>br v (ok ((true,x.2))) (br (z.1 == 0) (ok ((true,x.2))) (ok ((z.2.2.2.2.2.2,x.2)))))) λu=>br u.1 (ok (((),u.2))) (Res.stuck))
abbrev bU.g:Sg:=⟨[.obj aK],[vs]⟩
def R.bU(x:aK.den):Res ((List UInt8)×aK.den) :=
 given (bU.g.i x) (cl (R.aW x) aW.g.o λy=>br (!(y.1 == 1)) (Res.stuck) (ok ((y.2.1,(x.1,(w6 (x.2.1+1),x.2.2))))))
abbrev ai.g:Sg:=⟨[.obj aK,.s],[]⟩
def R.ai(x:aK.den)(y:(List UInt8)):Res (Unit×aK.den) :=
 given (ai.g.i (x,y)) (cl (R.aO x y) aO.g.o λz=>br (!z.1) (Res.stuck) (ok (((),z.2))))
abbrev bN.g:Sg:=⟨[.i,.s,.val false (.own (.frz (.rose aE)))],[(true,rG)]⟩
def R.bN(x:Int)(y:(List UInt8))(z:(List (aQ aE.den))):Res (rG.den) :=
 given (bN.g.i (x,(y,z))) (ok (((x,(y,(([]:List Int),((0,0),((false,([]:List Int)),([]:List Int)))))),z)))
abbrev cE.g:Sg:=⟨[.val false (.bor aK)],[vb]⟩
def R.cE(x:mh.den):Res (Bool) :=
 given (cE.g.i x) (ok ((x.2.2.1 == 0)))
abbrev bM.g:Sg:=⟨[.val false (.bor aK),.i],[(true,(.frz cK))]⟩
def R.bM(x:mh.den)(y:Int):Res (cK.den) :=
 given (bM.g.i (x,y)) (idx cK x.1 (kF (w6 (x.2.1+y)) (w6 ((x.1.length:Int)-1))) λz=>ok z)
abbrev fV.g:Sg:=⟨[.val false (.bor aK)],[vb]⟩
def R.fV(x:mh.den):Res (Bool) :=
 given (fV.g.i x) (bd (R.cQ x [40]) λu=>br (!u) (ok false) (bd (α:=(Int ⊕ Bool)) (cl (R.bM x 1) bM.g.o λv=>bd (R.iu v [41]) λw=>br (!w) (bd (loop (α:=Int) (β:=(Int ⊕ Bool)) (λy=>cl (R.bM x y) bM.g.o λa=>br (!(a.1 == 1)) (ok (.done (.inr false))) (cl (R.bM x (w6 (y+1))) bM.g.o λb=>bd (R.iu b [44]) λc=>br (!c) (ok (.done (.inl (w6 (y+1))))) (ok (.next (w6 ((w6 (y+1))+1)))))) fuel 1) λd=>sum d (λe=>ok (.inl e)) (λf=>ok (.inr f))) (ok (.inl 1))) λh=>sum h (λz=>cl (R.bM x z) bM.g.o λj=>bd (R.iu j [41]) λk=>br k (cl (R.bM x (w6 (z+1))) bM.g.o λl=>bd (R.iu l [61,62]) λm=>ok m) (ok false)) (λn=>ok n)))
abbrev eS.g:Sg:=⟨[.obj aK],[(false,(.own (.frz (.rose aE))))]⟩
def R.eS(w:aK.den):Res ((List (aQ aE.den))×aK.den) :=
 given (eS.g.i w) (cl (R.ai w [40]) ai.g.o λa=>cl (R.aO a.2 [41]) aO.g.o λu=>br u.1 (ok ((([]:List (aQ aE.den)),u.2))) (bd (loop (α:=((List (aQ aE.den))×aK.den)) (β:=((List (aQ aE.den))×aK.den)) (λy=>cl (R.bU y.2) bU.g.o λz=>cl (R.bN 20 z.1 ([]:List (aQ aE.den))) bN.g.o λx=>aZ (decide ((y.1.length+[(aQ.mk x.1 x.2)].length)*144<=2^47)) (bd (α:=(Bool×aK.den)) (bd (R.cE z.2) λb=>br (!b) (ok ((true,z.2))) (cl (R.aO z.2 [41]) aO.g.o λc=>ok c)) λv=>br v.1 (ok (.done (((y.1++[(aQ.mk x.1 x.2)]),v.2)))) (cl (R.ai v.2 [44]) ai.g.o λd=>ok (.next (((y.1++[(aQ.mk x.1 x.2)]),d.2)))))) fuel (([]:List (aQ aE.den)),u.2)) λe=>ok e))
abbrev gl.g:Sg:=⟨[.i],[(false,(.own .s))]⟩
def R.gl(x:Int):Res ((List (List UInt8))) :=
 given (gl.g.i x) (br (x == 43) (ok ([[45],[43],[33],[126],[116,121,112,101,111,102],[118,111,105,100]])) (bd (α:=Bool) (br (x == 44) (ok ((x == 44))) (ok ((x == 45)))) λy=>br y (ok ([[43,43],[45,45]])) (br (x == 46) (ok ([[43],[45],[42],[47],[37],[38],[124],[94],[60,60],[62,62],[62,62,62],[60],[62],[60,61],[62,61],[61,61],[33,61],[61,61,61],[33,61,61],[105,110]])) (br (x == 47) (ok ([[38,38],[124,124],[63,63]])) (br (x == 49) (ok ([[61],[43,61],[45,61],[42,61],[47,61],[37,61],[38,61],[124,61],[94,61],[60,60,61],[62,62,61],[62,62,62,61]])) (ok (([]:List (List UInt8)))))))))
abbrev bt.g:Sg:=⟨[.val false (.bor (.own .s)),.s],[vi]⟩
def R.bt(y:(List (List UInt8)))(z:(List UInt8)):Res (Int) :=
 given (bt.g.i (y,z)) (bd (loop (α:=Int) (β:=(Unit ⊕ Int)) (λx=>br (ilt x (y.length:Int)) (cO .s y x λu=>br (z == u) (ok (.done (.inr x))) (ok (.next (w6 (x+1))))) (ok (.done (.inl ())))) fuel 0) λv=>sum v (λa=>ok ((-1))) (λw=>ok w))
abbrev aS.g:Sg:=⟨[.val false (.bor (.own .s)),.s],[vb]⟩
def R.aS(x:(List (List UInt8)))(y:(List UInt8)):Res (Bool) :=
 given (aS.g.i (x,y)) (cl (R.bt x y) bt.g.o λz=>ok ((ile 0 z)))
abbrev mr.g:Sg:=⟨[.i,.s],[vb]⟩
def R.mr(x:Int)(y:(List UInt8)):Res (Bool) :=
 given (mr.g.i (x,y)) (cl (R.gl x) gl.g.o λz=>bd (R.aS z y) λu=>ok u)
abbrev gx.g:Sg:=⟨[.i],[vb]⟩
def R.gx(x:Int):Res (Bool) :=
 given (gx.g.i x) (br (x == 33) (ok true) (br (x == 52) (ok true) (ok ((x == 53)))))
abbrev kC.g:Sg:=⟨[.val true (.bor (.seq .i (.seq .s (.seq (.own .h) (.seq (.frz aI) (.seq (.seq .b (.own .w)) (.seq .i .b)))))))],[vi]⟩
def R.kC(x:cK.den):Res (Int) :=
 given (kC.g.i x) (bd (α:=Bool) (br (!(x.1 == 5)) (bd (R.iu x [105,110]) λy=>ok ((!y))) (ok false)) λz=>br z (ok ((-1))) (br (x.2.1 == [124]) (ok 0) (br (x.2.1 == [94]) (ok 1) (br (x.2.1 == [38]) (ok 2) (bd (α:=Bool) (br (x.2.1 == [61,61]) (ok ((x.2.1 == [61,61]))) (br (x.2.1 == [33,61]) (ok ((x.2.1 == [33,61]))) (br (x.2.1 == [61,61,61]) (ok ((x.2.1 == [61,61,61]))) (ok ((x.2.1 == [33,61,61])))))) λu=>br u (ok 3) (bd (α:=Bool) (br (x.2.1 == [60]) (ok ((x.2.1 == [60]))) (br (x.2.1 == [62]) (ok ((x.2.1 == [62]))) (br (x.2.1 == [60,61]) (ok ((x.2.1 == [60,61]))) (br (x.2.1 == [62,61]) (ok ((x.2.1 == [62,61]))) (ok ((x.2.1 == [105,110]))))))) λv=>br v (ok 4) (bd (α:=Bool) (br (x.2.1 == [60,60]) (ok ((x.2.1 == [60,60]))) (br (x.2.1 == [62,62]) (ok ((x.2.1 == [62,62]))) (ok ((x.2.1 == [62,62,62]))))) λw=>br w (ok 5) (bd (α:=Bool) (br (x.2.1 == [43]) (ok ((x.2.1 == [43]))) (ok ((x.2.1 == [45])))) λa=>br a (ok 6) (bd (α:=Bool) (br (x.2.1 == [42]) (ok ((x.2.1 == [42]))) (br (x.2.1 == [47]) (ok ((x.2.1 == [47]))) (ok ((x.2.1 == [37]))))) λb=>br b (ok 7) (ok ((-1))))))))))))
end Go.Mach
end

set_option linter.unusedVariables false
set_option maxRecDepth 20000
noncomputable section
namespace Go.Mach
open Res
abbrev parse_parser_item.g:Sg:=⟨[.obj aK],[(true,(.frz (.rose aE)))]⟩
abbrev parse_parser_declares.g:Sg:=⟨[.obj aK],[(true,(.frz (.rose aE)))]⟩
abbrev parse_parser_statement.g:Sg:=⟨[.obj aK],[(true,(.frz (.rose aE)))]⟩
abbrev parse_parser_assign.g:Sg:=⟨[.obj aK],[(true,(.frz (.rose aE)))]⟩
abbrev parse_parser_word.g:Sg:=⟨[.obj aK,.s],[(true,(.frz (.rose aE)))]⟩
abbrev parse_parser_simple.g:Sg:=⟨[.obj aK],[(true,(.frz (.rose aE)))]⟩
abbrev parse_parser_body.g:Sg:=⟨[.obj aK,.val false (.own (.frz (.rose aE)))],[(true,(.frz (.rose aE)))]⟩
abbrev parse_parser_cond.g:Sg:=⟨[.obj aK],[(true,(.frz (.rose aE)))]⟩
abbrev parse_parser_either.g:Sg:=⟨[.obj aK],[(true,(.frz (.rose aE)))]⟩
abbrev parse_parser_level.g:Sg:=⟨[.obj aK,.i],[(true,(.frz (.rose aE)))]⟩
abbrev parse_parser_both.g:Sg:=⟨[.obj aK,.val true (.frz (.rose aE))],[(true,(.frz (.rose aE)))]⟩
abbrev parse_parser_unary.g:Sg:=⟨[.obj aK],[(true,(.frz (.rose aE)))]⟩
abbrev parse_parser_calls.g:Sg:=⟨[.obj aK],[(true,(.frz (.rose aE)))]⟩
abbrev parse_parser_head.g:Sg:=⟨[.obj aK],[(true,(.frz (.rose aE)))]⟩
abbrev parse_parser_arguments.g:Sg:=⟨[.obj aK],[(false,(.own (.frz (.rose aE))))]⟩
abbrev parse_parser_member.g:Sg:=⟨[.obj aK,.val true (.frz (.rose aE))],[(true,(.frz (.rose aE))),vb]⟩
abbrev parse_parser_primary.g:Sg:=⟨[.obj aK],[(true,(.frz (.rose aE)))]⟩
abbrev parse_parser_list.g:Sg:=⟨[.obj aK,.s],[(false,(.own (.frz (.rose aE))))]⟩
structure bl where
 parse_parser_item:aK.den->Res ((aQ aE.den)×aK.den)
 parse_parser_declares:aK.den->Res ((aQ aE.den)×aK.den)
 parse_parser_statement:aK.den->Res ((aQ aE.den)×aK.den)
 parse_parser_assign:aK.den->Res ((aQ aE.den)×aK.den)
 parse_parser_word:aK.den->(List UInt8)->Res ((aQ aE.den)×aK.den)
 parse_parser_simple:aK.den->Res ((aQ aE.den)×aK.den)
 parse_parser_body:aK.den->(List (aQ aE.den))->Res ((aQ aE.den)×aK.den)
 parse_parser_cond:aK.den->Res ((aQ aE.den)×aK.den)
 parse_parser_either:aK.den->Res ((aQ aE.den)×aK.den)
 parse_parser_level:aK.den->Int->Res ((aQ aE.den)×aK.den)
 parse_parser_both:aK.den->(aQ aE.den)->Res ((aQ aE.den)×aK.den)
 parse_parser_unary:aK.den->Res ((aQ aE.den)×aK.den)
 parse_parser_calls:aK.den->Res ((aQ aE.den)×aK.den)
 parse_parser_head:aK.den->Res ((aQ aE.den)×aK.den)
 parse_parser_arguments:aK.den->Res ((List (aQ aE.den))×aK.den)
 parse_parser_member:aK.den->(aQ aE.den)->Res (((aQ aE.den)×Bool)×aK.den)
 parse_parser_primary:aK.den->Res ((aQ aE.den)×aK.den)
 parse_parser_list:aK.den->(List UInt8)->Res ((List (aQ aE.den))×aK.den)
def R.parse_parser_item(G:bl)(x:aK.den):Res ((aQ aE.den)×aK.den) :=
 given (parse_parser_item.g.i x) (cl (R.aW x) aW.g.o λv=>bd (α:=Bool) (bd (R.iu v [108,101,116]) λw=>br w (ok true) (bd (R.iu v [99,111,110,115,116]) λa=>ok a)) λb=>br b (cl (G.parse_parser_declares x) parse_parser_declares.g.o λy=>cl (R.dU y.2) dU.g.o λc=>ok (((aQ.mk (aQ.lab y.1) (aQ.kids y.1)),c.2))) (cl (R.aO x [102,117,110,99,116,105,111,110]) aO.g.o λz=>br z.1 (cl (R.bU z.2) bU.g.o λd=>Res.stuck) (cl (G.parse_parser_statement z.2) parse_parser_statement.g.o λu=>ok (((aQ.mk (aQ.lab u.1) (aQ.kids u.1)),u.2)))))
def R.parse_parser_declares(G:bl)(c:aK.den):Res ((aQ aE.den)×aK.den) :=
 given (parse_parser_declares.g.i c) (cl (R.bI 5 ([]:List (aQ aE.den))) bI.g.o λf=>bd (α:=(aK.den×(aE.den×(List (aQ aE.den))))) (cl (R.aO c [99,111,110,115,116]) aO.g.o λv=>br v.1 (cl (R.bI 6 ([]:List (aQ aE.den))) bI.g.o λh=>ok ((v.2,h))) (cl (R.ai v.2 [108,101,116]) ai.g.o λj=>ok ((j.2,f)))) λk=>bd (loop (α:=(aK.den×(aE.den×(List (aQ aE.den))))) (β:=(aK.den×(aE.den×(List (aQ aE.den))))) (λy=>cl (R.bU y.1) bU.g.o λd=>cl (R.bN 7 d.1 ([]:List (aQ aE.den))) bN.g.o λu=>bd (α:=(aK.den×(aE.den×(List (aQ aE.den))))) (cl (R.aO d.2 [61]) aO.g.o λw=>br w.1 (cl (G.parse_parser_assign w.2) parse_parser_assign.g.o λz=>aZ (decide ((u.2.length+[(aQ.mk (aQ.lab z.1) (aQ.kids z.1))].length)*144<=2^47)) (ok ((z.2,(u.1,(u.2++[(aQ.mk (aQ.lab z.1) (aQ.kids z.1))])))))) (ok ((w.2,u)))) λx=>aZ (decide ((y.2.2.length+[(aQ.mk x.2.1 x.2.2)].length)*144<=2^47)) (bd (α:=(Bool×aK.den)) (bd (R.cE x.1) λl=>br (!l) (ok ((true,x.1))) (cl (R.aO x.1 [44]) aO.g.o λe=>ok (((!e.1),e.2)))) λa=>br a.1 (ok (.done ((a.2,(y.2.1,(y.2.2++[(aQ.mk x.2.1 x.2.2)])))))) (ok (.next ((a.2,(y.2.1,(y.2.2++[(aQ.mk x.2.1 x.2.2)])))))))) fuel k) λb=>ok (((aQ.mk b.2.1 b.2.2),b.1)))
def R.parse_parser_statement(G:bl)(x:aK.den):Res ((aQ aE.den)×aK.den) :=
 given (parse_parser_statement.g.i x) (cl (R.aW x) aW.g.o λy=>bd (α:=Bool) (br (y.1 == 1) (cl (R.bM x 1) bM.g.o λc=>bd (R.iu c [58]) λd=>ok d) (ok false)) λe=>br e (cl (G.parse_parser_statement (x.1,(w6 (x.2.1+2),x.2.2))) parse_parser_statement.g.o λu=>cl (R.bN 18 y.2.1 [(aQ.mk (aQ.lab u.1) (aQ.kids u.1))]) bN.g.o λa=>ok (((aQ.mk a.1 a.2),u.2))) (br (y.1 == 6) (cl (G.parse_parser_word x y.2.1) parse_parser_word.g.o λv=>ok (((aQ.mk (aQ.lab v.1) (aQ.kids v.1)),v.2))) (cl (R.aO x [59]) aO.g.o λz=>br z.1 (cl (R.bI 2 ([]:List (aQ aE.den))) bI.g.o λb=>ok (((aQ.mk b.1 b.2),z.2))) (bd (R.cQ z.2 [123]) λf=>br f (Res.stuck) (cl (G.parse_parser_simple z.2) parse_parser_simple.g.o λw=>ok (((aQ.mk (aQ.lab w.1) (aQ.kids w.1)),w.2)))))))
def R.parse_parser_assign(G:bl)(x:aK.den):Res ((aQ aE.den)×aK.den) :=
 given (parse_parser_assign.g.i x) (cl (R.aW x) aW.g.o λa=>bd (α:=Bool) (br (a.1 == 1) (cl (R.bM x 1) bM.g.o λe=>bd (R.iu e [61,62]) λf=>br f (cl (R.bM x 1) bM.g.o λh=>ok ((!h.2.2.2.2.2.2))) (ok false)) (ok false)) λj=>br j (cl (R.bN 20 a.2.1 ([]:List (aQ aE.den))) bN.g.o λb=>cl (G.parse_parser_body (x.1,(w6 (x.2.1+1),x.2.2)) [(aQ.mk b.1 b.2)]) parse_parser_body.g.o λz=>ok (((aQ.mk (aQ.lab z.1) (aQ.kids z.1)),z.2))) (bd (R.fV x) λk=>br k (cl (R.eS x) eS.g.o λc=>cl (G.parse_parser_body c.2 c.1) parse_parser_body.g.o λu=>ok (((aQ.mk (aQ.lab u.1) (aQ.kids u.1)),u.2))) (cl (G.parse_parser_cond x) parse_parser_cond.g.o λy=>cl (R.aW y.2) aW.g.o λv=>bd (α:=Bool) (br (!(v.1 == 5)) (ok true) (bd (R.mr 49 v.2.1) λl=>ok ((!l)))) λm=>br m (ok (((aQ.mk (aQ.lab y.1) (aQ.kids y.1)),y.2))) (bd (R.gx (aQ.lab y.1).1) λn=>br (!n) (Res.stuck) (cl (G.parse_parser_assign (y.2.1,(w6 (y.2.2.1+1),y.2.2.2))) parse_parser_assign.g.o λw=>cl (R.bN 49 v.2.1 [(aQ.mk (aQ.lab y.1) (aQ.kids y.1)),(aQ.mk (aQ.lab w.1) (aQ.kids w.1))]) bN.g.o λd=>ok (((aQ.mk d.1 d.2),w.2)))))))
def R.parse_parser_word(G:bl)(y:aK.den)(x:(List UInt8)):Res ((aQ aE.den)×aK.den) :=
 given (parse_parser_word.g.i (y,x)) (br (x == [105,102]) (Res.stuck) (br (x == [119,104,105,108,101]) (Res.stuck) (br (x == [102,111,114]) (Res.stuck) (br (x == [98,114,101,97,107]) (Res.stuck) (br (x == [99,111,110,116,105,110,117,101]) (Res.stuck) (br (x == [114,101,116,117,114,110]) (cl (R.bI 14 ([]:List (aQ aE.den))) bI.g.o λc=>Res.stuck) (br (x == [116,104,114,111,119]) (bd (α:=Unit) (cl (R.aW (y.1,(w6 (y.2.1+1),y.2.2))) aW.g.o λw=>br w.2.2.2.2.2.2 (Res.stuck) (ok (()))) λd=>cl (G.parse_parser_assign (y.1,(w6 (y.2.1+1),y.2.2))) parse_parser_assign.g.o λz=>cl (R.bI 15 [(aQ.mk (aQ.lab z.1) (aQ.kids z.1))]) bI.g.o λv=>cl (R.dU z.2) dU.g.o λa=>ok (((aQ.mk v.1 v.2),a.2))) (br (x == [116,114,121]) (Res.stuck) (bd (α:=Bool) (br (x == [102,117,110,99,116,105,111,110]) (ok ((x == [102,117,110,99,116,105,111,110]))) (br (x == [108,101,116]) (ok ((x == [108,101,116]))) (ok ((x == [99,111,110,115,116]))))) λb=>br b (Res.stuck) (cl (G.parse_parser_simple y) parse_parser_simple.g.o λu=>ok (((aQ.mk (aQ.lab u.1) (aQ.kids u.1)),u.2))))))))))))
def R.parse_parser_simple(G:bl)(y:aK.den):Res ((aQ aE.den)×aK.den) :=
 given (parse_parser_simple.g.i y) (cl (G.parse_parser_assign y) parse_parser_assign.g.o λx=>cl (R.bI 3 [(aQ.mk (aQ.lab x.1) (aQ.kids x.1))]) bI.g.o λz=>cl (R.dU x.2) dU.g.o λu=>ok (((aQ.mk z.1 z.2),u.2)))
def R.parse_parser_body(G:bl)(y:aK.den)(u:(List (aQ aE.den))):Res ((aQ aE.den)×aK.den) :=
 given (parse_parser_body.g.i (y,u)) (bd (α:=Unit) (cl (R.aW y) aW.g.o λw=>br w.2.2.2.2.2.2 (Res.stuck) (ok (()))) λb=>cl (R.ai y [61,62]) ai.g.o λv=>cl (R.bI 42 u) bI.g.o λz=>bd (R.cQ v.2 [123]) λa=>br a (Res.stuck) (cl (G.parse_parser_assign v.2) parse_parser_assign.g.o λx=>aZ (decide ((z.2.length+[(aQ.mk (aQ.lab x.1) (aQ.kids x.1))].length)*144<=2^47)) (ok (((aQ.mk z.1 (z.2++[(aQ.mk (aQ.lab x.1) (aQ.kids x.1))])),x.2)))))
def R.parse_parser_cond(G:bl)(v:aK.den):Res ((aQ aE.den)×aK.den) :=
 given (parse_parser_cond.g.i v) (cl (G.parse_parser_either v) parse_parser_either.g.o λx=>cl (R.aO x.2 [63]) aO.g.o λy=>br (!y.1) (ok (((aQ.mk (aQ.lab x.1) (aQ.kids x.1)),y.2))) (cl (G.parse_parser_assign y.2) parse_parser_assign.g.o λz=>cl (R.ai z.2 [58]) ai.g.o λa=>cl (G.parse_parser_assign a.2) parse_parser_assign.g.o λu=>cl (R.bI 48 [(aQ.mk (aQ.lab x.1) (aQ.kids x.1)),(aQ.mk (aQ.lab z.1) (aQ.kids z.1)),(aQ.mk (aQ.lab u.1) (aQ.kids u.1))]) bI.g.o λw=>ok (((aQ.mk w.1 w.2),u.2))))
def R.parse_parser_either(G:bl)(f:aK.den):Res ((aQ aE.den)×aK.den) :=
 given (parse_parser_either.g.i f) (cl (G.parse_parser_level f 0) parse_parser_level.g.o λx=>bd (R.cQ x.2 [63,63]) λk=>br k (bd (loop (α:=(aK.den×(aQ aE.den))) (β:=(aK.den×(aQ aE.den))) (λy=>cl (R.aO y.1 [63,63]) aO.g.o λw=>br w.1 (cl (G.parse_parser_level w.2 0) parse_parser_level.g.o λa=>cl (R.bN 47 [63,63] [(aQ.mk (aQ.lab y.2) (aQ.kids y.2)),(aQ.mk (aQ.lab a.1) (aQ.kids a.1))]) bN.g.o λh=>ok (.next ((a.2,(aQ.mk h.1 h.2))))) (ok (.done ((w.2,(aQ.mk (aQ.lab y.2) (aQ.kids y.2))))))) fuel (x.2,(aQ.mk (aQ.lab x.1) (aQ.kids x.1)))) λz=>bd (α:=Unit) (bd (α:=Bool) (bd (R.cQ z.1 [124,124]) λl=>br l (ok true) (bd (R.cQ z.1 [38,38]) λm=>ok m)) λn=>br n (Res.stuck) (ok (()))) λq=>ok (((aQ.mk (aQ.lab z.2) (aQ.kids z.2)),z.1))) (cl (G.parse_parser_both x.2 (aQ.mk (aQ.lab x.1) (aQ.kids x.1))) parse_parser_both.g.o λb=>bd (loop (α:=(aK.den×(aQ aE.den))) (β:=(aK.den×(aQ aE.den))) (λu=>cl (R.aO u.1 [124,124]) aO.g.o λc=>br c.1 (cl (G.parse_parser_level c.2 0) parse_parser_level.g.o λd=>cl (G.parse_parser_both d.2 (aQ.mk (aQ.lab d.1) (aQ.kids d.1))) parse_parser_both.g.o λe=>cl (R.bN 47 [124,124] [(aQ.mk (aQ.lab u.2) (aQ.kids u.2)),(aQ.mk (aQ.lab e.1) (aQ.kids e.1))]) bN.g.o λj=>ok (.next ((e.2,(aQ.mk j.1 j.2))))) (ok (.done ((c.2,(aQ.mk (aQ.lab u.2) (aQ.kids u.2))))))) fuel (b.2,(aQ.mk (aQ.lab b.1) (aQ.kids b.1)))) λv=>bd (R.cQ v.1 [63,63]) λp=>br p (Res.stuck) (ok (((aQ.mk (aQ.lab v.2) (aQ.kids v.2)),v.1)))))
def R.parse_parser_level(G:bl)(z:aK.den)(y:Int):Res ((aQ aE.den)×aK.den) :=
 given (parse_parser_level.g.i (z,y)) (br (y == 8) (cl (G.parse_parser_unary z) parse_parser_unary.g.o λu=>ok (((aQ.mk (aQ.lab u.1) (aQ.kids u.1)),u.2))) (cl (G.parse_parser_level z (w6 (y+1))) parse_parser_level.g.o λv=>bd (loop (α:=(aK.den×(aQ aE.den))) (β:=(aK.den×(aQ aE.den))) (λx=>cl (R.aW x.1) aW.g.o λc=>cl (R.kC c) kC.g.o λd=>br (d == y) (cl (R.aW x.1) aW.g.o λe=>cl (G.parse_parser_level (x.1.1,(w6 (x.1.2.1+1),x.1.2.2)) (w6 (y+1))) parse_parser_level.g.o λw=>cl (R.bN 46 e.2.1 [(aQ.mk (aQ.lab x.2) (aQ.kids x.2)),(aQ.mk (aQ.lab w.1) (aQ.kids w.1))]) bN.g.o λb=>ok (.next ((w.2,(aQ.mk b.1 b.2))))) (ok (.done ((x.1,(aQ.mk (aQ.lab x.2) (aQ.kids x.2))))))) fuel (v.2,(aQ.mk (aQ.lab v.1) (aQ.kids v.1)))) λa=>ok (((aQ.mk (aQ.lab a.2) (aQ.kids a.2)),a.1))))
def R.parse_parser_both(G:bl)(w:aK.den)(y:(aQ aE.den)):Res ((aQ aE.den)×aK.den) :=
 given (parse_parser_both.g.i (w,y)) (bd (loop (α:=(aK.den×(aQ aE.den))) (β:=(aK.den×(aQ aE.den))) (λx=>cl (R.aO x.1 [38,38]) aO.g.o λz=>br z.1 (cl (G.parse_parser_level z.2 0) parse_parser_level.g.o λu=>cl (R.bN 47 [38,38] [(aQ.mk (aQ.lab x.2) (aQ.kids x.2)),(aQ.mk (aQ.lab u.1) (aQ.kids u.1))]) bN.g.o λa=>ok (.next ((u.2,(aQ.mk a.1 a.2))))) (ok (.done ((z.2,(aQ.mk (aQ.lab x.2) (aQ.kids x.2))))))) fuel (w,(aQ.mk (aQ.lab y) (aQ.kids y)))) λv=>ok (((aQ.mk (aQ.lab v.2) (aQ.kids v.2)),v.1)))
def R.parse_parser_unary(G:bl)(y:aK.den):Res ((aQ aE.den)×aK.den) :=
 given (parse_parser_unary.g.i y) (cl (R.aW y) aW.g.o λz=>bd (α:=(Unit ⊕ (aK.den×(aE.den×(List (aQ aE.den)))))) (bd (α:=Bool) (br (z.1 == 5) (ok true) (ok ((z.1 == 6)))) λc=>br c (bd (R.mr 43 z.2.1) λd=>br d (cl (G.parse_parser_unary (y.1,(w6 (y.2.1+1),y.2.2))) parse_parser_unary.g.o λw=>cl (R.bN 43 z.2.1 [(aQ.mk (aQ.lab w.1) (aQ.kids w.1))]) bN.g.o λe=>ok (.inr (w.2,e))) (bd (R.mr 44 z.2.1) λf=>br f (cl (G.parse_parser_unary (y.1,(w6 (y.2.1+1),y.2.2))) parse_parser_unary.g.o λu=>bd (α:=Unit) (bd (α:=Bool) (bd (R.cE u.2) λh=>br h (bd (R.gx (aQ.lab u.1).1) λj=>ok ((!j))) (ok false)) λk=>br k (Res.stuck) (ok (()))) λr=>cl (R.bN 44 z.2.1 [(aQ.mk (aQ.lab u.1) (aQ.kids u.1))]) bN.g.o λl=>ok (.inr (u.2,l))) (ok (.inl ())))) (ok (.inl ()))) λm=>sum m (λs=>cl (G.parse_parser_calls y) parse_parser_calls.g.o λx=>cl (R.aW x.2) aW.g.o λv=>bd (α:=Bool) (br (v.1 == 5) (bd (R.mr 45 v.2.1) λn=>br n (ok ((!v.2.2.2.2.2.2))) (ok false)) (ok false)) λp=>br p (bd (R.gx (aQ.lab x.1).1) λq=>br (!q) (Res.stuck) (cl (R.bN 45 v.2.1 [(aQ.mk (aQ.lab x.1) (aQ.kids x.1))]) bN.g.o λb=>ok (((aQ.mk b.1 b.2),(x.2.1,(w6 (x.2.2.1+1),x.2.2.2)))))) (ok (((aQ.mk (aQ.lab x.1) (aQ.kids x.1)),x.2)))) (λa=>ok (((aQ.mk a.2.1 a.2.2),a.1))))
def R.parse_parser_calls(G:bl)(w:aK.den):Res ((aQ aE.den)×aK.den) :=
 given (parse_parser_calls.g.i w) (cl (G.parse_parser_head w) parse_parser_head.g.o λz=>bd (loop (α:=(aK.den×(aQ aE.den))) (β:=(aK.den×(aQ aE.den))) (λx=>bd (R.cQ x.1 [40]) λb=>br b (cl (G.parse_parser_arguments x.1) parse_parser_arguments.g.o λu=>aZ (decide (([(aQ.mk (aQ.lab x.2) (aQ.kids x.2))].length+u.1.length)*144<=2^47)) (cl (R.bI 50 ([(aQ.mk (aQ.lab x.2) (aQ.kids x.2))]++u.1)) bI.g.o λa=>ok (.next ((u.2,(aQ.mk a.1 a.2)))))) (cl (G.parse_parser_member x.1 (aQ.mk (aQ.lab x.2) (aQ.kids x.2))) parse_parser_member.g.o λy=>br (!y.1.2) (ok (.done ((y.2,(aQ.mk (aQ.lab x.2) (aQ.kids x.2)))))) (ok (.next ((y.2,(aQ.mk (aQ.lab y.1.1) (aQ.kids y.1.1)))))))) fuel (z.2,(aQ.mk (aQ.lab z.1) (aQ.kids z.1)))) λv=>ok (((aQ.mk (aQ.lab v.2) (aQ.kids v.2)),v.1)))
def R.parse_parser_head(G:bl)(b:aK.den):Res ((aQ aE.den)×aK.den) :=
 given (parse_parser_head.g.i b) (cl (R.aO b [110,101,119]) aO.g.o λu=>br (!u.1) (cl (G.parse_parser_primary u.2) parse_parser_primary.g.o λv=>ok (((aQ.mk (aQ.lab v.1) (aQ.kids v.1)),v.2))) (cl (G.parse_parser_head u.2) parse_parser_head.g.o λw=>bd (loop (α:=(Bool×(aK.den×(aQ aE.den)))) (β:=(aK.den×(aQ aE.den))) (λy=>br y.1 (cl (G.parse_parser_member y.2.1 (aQ.mk (aQ.lab y.2.2) (aQ.kids y.2.2))) parse_parser_member.g.o λz=>ok (.next ((z.1.2,(z.2,(aQ.mk (aQ.lab z.1.1) (aQ.kids z.1.1))))))) (ok (.done ((y.2.1,(aQ.mk (aQ.lab y.2.2) (aQ.kids y.2.2))))))) fuel (true,(w.2,(aQ.mk (aQ.lab w.1) (aQ.kids w.1))))) λx=>bd (R.cQ x.1 [40]) λe=>br e (cl (G.parse_parser_arguments x.1) parse_parser_arguments.g.o λa=>aZ (decide (([(aQ.mk (aQ.lab x.2) (aQ.kids x.2))].length+a.1.length)*144<=2^47)) (cl (R.bI 51 ([(aQ.mk (aQ.lab x.2) (aQ.kids x.2))]++a.1)) bI.g.o λc=>ok (((aQ.mk c.1 c.2),a.2)))) (cl (R.bI 51 [(aQ.mk (aQ.lab x.2) (aQ.kids x.2))]) bI.g.o λd=>ok (((aQ.mk d.1 d.2),x.1)))))
def R.parse_parser_arguments(G:bl)(x:aK.den):Res ((List (aQ aE.den))×aK.den) :=
 given (parse_parser_arguments.g.i x) (cl (R.ai x [40]) ai.g.o λy=>cl (G.parse_parser_list y.2 [41]) parse_parser_list.g.o λz=>ok z)
def R.parse_parser_member(G:bl)(w:aK.den)(x:(aQ aE.den)):Res (((aQ aE.den)×Bool)×aK.den) :=
 given (parse_parser_member.g.i (w,x)) (cl (R.aO w [46]) aO.g.o λy=>br y.1 (cl (R.aW y.2) aW.g.o λz=>bd (α:=Bool) (br (!(z.1 == 1)) (ok ((!(z.1 == 6)))) (ok false)) λc=>br c (Res.stuck) (cl (R.bN 52 z.2.1 [(aQ.mk (aQ.lab x) (aQ.kids x))]) bN.g.o λa=>ok ((((aQ.mk a.1 a.2),true),(y.2.1,(w6 (y.2.2.1+1),y.2.2.2)))))) (cl (R.aO y.2 [91]) aO.g.o λu=>br u.1 (cl (G.parse_parser_assign u.2) parse_parser_assign.g.o λv=>cl (R.bI 53 [(aQ.mk (aQ.lab x) (aQ.kids x)),(aQ.mk (aQ.lab v.1) (aQ.kids v.1))]) bI.g.o λb=>cl (R.ai v.2 [93]) ai.g.o λd=>ok ((((aQ.mk b.1 b.2),true),d.2))) (ok ((((aQ.mk (aQ.lab x) (aQ.kids x)),false),u.2)))))
def R.parse_parser_primary(G:bl)(x:aK.den):Res ((aQ aE.den)×aK.den) :=
 given (parse_parser_primary.g.i x) (cl (R.aW x) aW.g.o λy=>br (y.1 == 0) (Res.stuck) (br (y.1 == 2) (ok (((aQ.mk (30,(([]:List UInt8),(([]:List Int),(y.2.2.2.1,((false,([]:List Int)),([]:List Int)))))) ([]:List (aQ aE.den))),(x.1,(w6 (x.2.1+1),x.2.2))))) (br (y.1 == 3) (ok (((aQ.mk (31,(([]:List UInt8),(([]:List Int),((0,0),(y.2.2.2.2.1,([]:List Int)))))) ([]:List (aQ aE.den))),(x.1,(w6 (x.2.1+1),x.2.2))))) (br (y.1 == 4) (ok (((aQ.mk (32,(([]:List UInt8),(y.2.2.1,((0,0),((false,([]:List Int)),([]:List Int)))))) ([]:List (aQ aE.den))),(x.1,(w6 (x.2.1+1),x.2.2))))) (br (y.1 == 1) (cl (R.bN 33 y.2.1 ([]:List (aQ aE.den))) bN.g.o λu=>ok (((aQ.mk u.1 u.2),(x.1,(w6 (x.2.1+1),x.2.2))))) (br (y.2.1 == [116,114,117,101]) (cl (R.bI 34 ([]:List (aQ aE.den))) bI.g.o λv=>ok (((aQ.mk v.1 v.2),(x.1,(w6 (x.2.1+1),x.2.2))))) (br (y.2.1 == [102,97,108,115,101]) (cl (R.bI 35 ([]:List (aQ aE.den))) bI.g.o λw=>ok (((aQ.mk w.1 w.2),(x.1,(w6 (x.2.1+1),x.2.2))))) (br (y.2.1 == [110,117,108,108]) (cl (R.bI 36 ([]:List (aQ aE.den))) bI.g.o λa=>ok (((aQ.mk a.1 a.2),(x.1,(w6 (x.2.1+1),x.2.2))))) (br (y.2.1 == [116,104,105,115]) (cl (R.bI 37 ([]:List (aQ aE.den))) bI.g.o λb=>ok (((aQ.mk b.1 b.2),(x.1,(w6 (x.2.1+1),x.2.2))))) (br (y.2.1 == [91]) (cl (G.parse_parser_list (x.1,(w6 (x.2.1+1),x.2.2)) [93]) parse_parser_list.g.o λc=>cl (R.bI 38 c.1) bI.g.o λd=>ok (((aQ.mk d.1 d.2),c.2))) (br (y.2.1 == [123]) (Res.stuck) (br (y.2.1 == [102,117,110,99,116,105,111,110]) (bd (α:=((List UInt8)×aK.den)) (cl (R.aW (x.1,(w6 (x.2.1+1),x.2.2))) aW.g.o λe=>br (e.1 == 1) (cl (R.bU (x.1,(w6 (x.2.1+1),x.2.2))) bU.g.o λf=>ok f) (ok ((([]:List UInt8),(x.1,(w6 (x.2.1+1),x.2.2)))))) λm=>Res.stuck) (br (y.2.1 == [40]) (cl (G.parse_parser_assign (x.1,(w6 (x.2.1+1),x.2.2))) parse_parser_assign.g.o λz=>cl (R.ai z.2 [41]) ai.g.o λh=>ok (((aQ.mk (aQ.lab z.1) (aQ.kids z.1)),h.2))) (bd (α:=Bool) (bd (R.cQ (x.1,(w6 ((w6 (x.2.1+1))-1),x.2.2)) [47]) λj=>br j (ok true) (bd (R.cQ (x.1,(w6 ((w6 (x.2.1+1))-1),x.2.2)) [47,61]) λk=>ok k)) λl=>br l (Res.stuck) (Res.stuck)))))))))))))))
def R.parse_parser_list(G:bl)(w:aK.den)(z:(List UInt8)):Res ((List (aQ aE.den))×aK.den) :=
 given (parse_parser_list.g.i (w,z)) (cl (R.aO w z) aO.g.o λu=>br u.1 (ok ((([]:List (aQ aE.den)),u.2))) (bd (loop (α:=((List (aQ aE.den))×aK.den)) (β:=((List (aQ aE.den))×aK.den)) (λy=>cl (G.parse_parser_assign y.2) parse_parser_assign.g.o λx=>aZ (decide ((y.1.length+[(aQ.mk (aQ.lab x.1) (aQ.kids x.1))].length)*144<=2^47)) (bd (α:=(Bool×aK.den)) (bd (R.cE x.2) λa=>br (!a) (ok ((true,x.2))) (cl (R.aO x.2 z) aO.g.o λb=>ok b)) λv=>br v.1 (ok (.done (((y.1++[(aQ.mk (aQ.lab x.1) (aQ.kids x.1))]),v.2)))) (cl (R.ai v.2 [44]) ai.g.o λc=>ok (.next (((y.1++[(aQ.mk (aQ.lab x.1) (aQ.kids x.1))]),c.2)))))) fuel (([]:List (aQ aE.den)),u.2)) λd=>ok d))
def dQ:Nat->bl
 |0=>{ parse_parser_item:=λ_=>.stuck,parse_parser_declares:=λ_=>.stuck,parse_parser_statement:=λ_=>.stuck,parse_parser_assign:=λ_=>.stuck,parse_parser_word:=λ_ _=>.stuck,parse_parser_simple:=λ_=>.stuck,parse_parser_body:=λ_ _=>.stuck,parse_parser_cond:=λ_=>.stuck,parse_parser_either:=λ_=>.stuck,parse_parser_level:=λ_ _=>.stuck,parse_parser_both:=λ_ _=>.stuck,parse_parser_unary:=λ_=>.stuck,parse_parser_calls:=λ_=>.stuck,parse_parser_head:=λ_=>.stuck,parse_parser_arguments:=λ_=>.stuck,parse_parser_member:=λ_ _=>.stuck,parse_parser_primary:=λ_=>.stuck,parse_parser_list:=λ_ _=>.stuck }
 |n+1=>{ parse_parser_item:=R.parse_parser_item (dQ n),parse_parser_declares:=R.parse_parser_declares (dQ n),parse_parser_statement:=R.parse_parser_statement (dQ n),parse_parser_assign:=R.parse_parser_assign (dQ n),parse_parser_word:=R.parse_parser_word (dQ n),parse_parser_simple:=R.parse_parser_simple (dQ n),parse_parser_body:=R.parse_parser_body (dQ n),parse_parser_cond:=R.parse_parser_cond (dQ n),parse_parser_either:=R.parse_parser_either (dQ n),parse_parser_level:=R.parse_parser_level (dQ n),parse_parser_both:=R.parse_parser_both (dQ n),parse_parser_unary:=R.parse_parser_unary (dQ n),parse_parser_calls:=R.parse_parser_calls (dQ n),parse_parser_head:=R.parse_parser_head (dQ n),parse_parser_arguments:=R.parse_parser_arguments (dQ n),parse_parser_member:=R.parse_parser_member (dQ n),parse_parser_primary:=R.parse_parser_primary (dQ n),parse_parser_list:=R.parse_parser_list (dQ n) }
abbrev dz.g:Sg:=⟨[.obj aK],[(true,(.frz (.rose aE)))]⟩
def R.dz(u:aK.den):Res ((aQ aE.den)×aK.den) :=
 given (dz.g.i u) (cl (R.bI 1 ([]:List (aQ aE.den))) bI.g.o λv=>bd (loop (α:=(aK.den×(aE.den×(List (aQ aE.den))))) (β:=(aK.den×(aE.den×(List (aQ aE.den))))) (λx=>cl (R.aW x.1) aW.g.o λw=>br (!(w.1 == 0)) (cl ((dQ fuel).parse_parser_item x.1) parse_parser_item.g.o λy=>aZ (decide ((x.2.2.length+[(aQ.mk (aQ.lab y.1) (aQ.kids y.1))].length)*144<=2^47)) (ok (.next ((y.2,(x.2.1,(x.2.2++[(aQ.mk (aQ.lab y.1) (aQ.kids y.1))]))))))) (ok (.done (x)))) fuel (u,v)) λz=>ok (((aQ.mk z.2.1 z.2.2),z.1)))
abbrev iE.g:Sg:=⟨[.obj rF,.val true (.bor (.frz (.rose aE)))],[vi]⟩
def R.iE:Nat->rF.den->(aQ aE.den)->Res (Int×rF.den)
 |0,_,_=>.stuck
 |fu+1,t_0,x_1=>given (iE.g.i (t_0,x_1)) (aZ (decide ((t_0.length+[(aQ.lab x_1)].length)*120<=2^47)) (bd (loop (α:=((List Int)×(Int×rF.den))) (β:=((List Int)×rF.den)) (λl1=>br (ilt l1.2.1 ((aQ.kids x_1).length:Int)) (idx (.rose aE) (aQ.kids x_1) l1.2.1 λe2=>cl (R.iE fu l1.2.2 (aQ.mk (aQ.lab e2) (aQ.kids e2))) iE.g.o λr3=>aZ (decide ((l1.1.length+[r3.1].length)*8<=2^47)) (ok (.next (((l1.1++[r3.1]),(w6 (l1.2.1+1),r3.2)))))) (ok (.done ((l1.1,l1.2.2))))) fuel (([]:List Int),(0,(t_0++[(aQ.lab x_1)])))) λl4=>aZ (ile 0 (t_0.length:Int) && ilt (t_0.length:Int) l4.2.length) (idx aE l4.2 (0+Int.toNat (t_0.length:Int)) λe5=>ok (((t_0.length:Int),(List.set l4.2 (0+Int.toNat (t_0.length:Int)) (e5.1,(e5.2.1,(e5.2.2.1,(e5.2.2.2.1,(e5.2.2.2.2.1,l4.1)))))))))))
abbrev lE.g:Sg:=⟨[.val true (.bor (.frz (.rose aE)))],[(true,(.frz (.list aE)))]⟩
def R.lE(x:(aQ aE.den)):Res ((List aE.den)) :=
 given (lE.g.i x) (cl (R.iE fuel ([]:List aE.den) (aQ.mk (aQ.lab x) (aQ.kids x))) iE.g.o λy=>ok (y.2))
abbrev ik.g:Sg:=⟨[.val true (.bor lG)],[(false,(.own .i))]⟩
def R.ik(z:(List aE.den)):Res ((List Int)) :=
 given (ik.g.i z) (aZ (ile 0 (z.length:Int) && (ile (z.length:Int) (z.length:Int) && decide ((Int.toNat (z.length:Int))*8<=2^47))) (bd (loop (α:=(Int×(List Int))) (β:=(List Int)) (λx=>br (ilt x.1 (z.length:Int)) (cO (.frz aE) z x.1 λv=>aZ (ile 0 x.1 && ilt x.1 x.2.length) (idx (.int .i64) x.2 (0+Int.toNat x.1) λw=>aZ (ile 0 x.1 && ilt x.1 x.2.length) (idx (.int .i64) x.2 (0+Int.toNat x.1) λd=>bd (loop (α:=(Int×(List Int))) (β:=(List Int)) (λy=>br (ilt y.1 (v.2.2.2.2.2.length:Int)) (idx (.int .i64) v.2.2.2.2.2 y.1 λu=>aZ (ile 0 x.1 && ilt x.1 y.2.length) (idx (.int .i64) y.2 (0+Int.toNat x.1) λa=>aZ (ile 0 u && ilt u y.2.length) (idx (.int .i64) y.2 (0+Int.toNat u) λe=>ok (.next ((w6 (y.1+1),(List.set y.2 (0+Int.toNat u) (w6 (a+1))))))))) (ok (.done (y.2)))) fuel (0,(List.set x.2 (0+Int.toNat x.1) (o6 w 1)))) λb=>ok (.next ((w6 (x.1+1),b)))))) (ok (.done (x.2)))) fuel (0,(List.replicate (Int.toNat (z.length:Int)) (0:Int)))) λc=>ok c))
abbrev eB.g:Sg:=⟨[.val false (.bor (.own .i))],[vi]⟩
def R.eB(x:(List Int)):Res (Int) :=
 given (eB.g.i x) (bd (α:=Unit) (br (ilt (x.length:Int) 1) (Res.stuck) (ok (()))) λw=>cO .i x 0 λz=>bd (loop (α:=(Int×Int)) (β:=Int) (λy=>br (ilt y.2 (x.length:Int)) (cO .i x y.2 λu=>ok (.next (((o6 y.1 u),w6 (y.2+1))))) (ok (.done (y.1)))) fuel (z,1)) λv=>ok v)
abbrev j8.g:Sg:=⟨[.val false (.frz (.list (.int .u16)))],[(true,(.frz (.list aE))),vi,vi]⟩
def R.j8(u:(List Int)):Res (((List aE.den)×(Int×Int))) :=
 given (j8.g.i u) (cl (R.kv u) kv.g.o λy=>br (!(y.2.2 == 0)) (ok ((([]:List aE.den),y.2))) (cl (R.dz (y.1,(0,(0,0)))) dz.g.o λx=>br (!(x.2.2.2.1 == 0)) (ok ((([]:List aE.den),(x.2.2.2.2,x.2.2.2.1)))) (cl (R.lE (aQ.mk (aQ.lab x.1) (aQ.kids x.1))) lE.g.o λz=>br (ilt 4096 (z.length:Int)) (ok ((([]:List aE.den),(0,3)))) (cl (R.ik z) ik.g.o λv=>cl (R.eB v) eB.g.o λw=>br (ilt 48 w) (ok ((([]:List aE.den),(0,7)))) (ok ((z,(0,0))))))))
abbrev jq.g:Sg:=⟨[.val true (.bor lG)],[vb]⟩
def R.jq(z:(List aE.den)):Res (Bool) :=
 given (jq.g.i z) (bd (loop (α:=((List Int)×Int)) (β:=((List Int) ⊕ Bool)) (λx=>br (ilt x.2 (z.length:Int)) (cO (.frz aE) z x.2 λu=>bd (α:=((List Int) ⊕ Bool)) (br (ilt 0 x.2) (bd (α:=Bool) (br ((x.1.length:Int) == 0) (ok true) (aZ (ile 0 (w6 ((x.1.length:Int)-1)) && ilt (w6 ((x.1.length:Int)-1)) x.1.length) (idx (.int .i64) x.1 (0+Int.toNat (w6 ((x.1.length:Int)-1))) λw=>ok ((!(w == x.2)))))) λa=>br a (ok (.inr false)) (aZ (ile 0 (w6 ((x.1.length:Int)-1)) && ile (w6 ((x.1.length:Int)-1)) x.1.length) (ok (.inl (List.take (Int.toNat (w6 ((x.1.length:Int)-1))) (List.drop 0 x.1)))))) (ok (.inl x.1))) λb=>sum b (λc=>bd (loop (α:=((List Int)×Int)) (β:=((List Int) ⊕ Bool)) (λy=>br (ile 0 y.2) (bd (α:=Bool) (idx (.int .i64) u.2.2.2.2.2 y.2 λd=>br (ile d x.2) (ok true) (idx (.int .i64) u.2.2.2.2.2 y.2 λe=>ok ((ile (z.length:Int) e)))) λf=>br f (ok (.done (.inr false))) (idx (.int .i64) u.2.2.2.2.2 y.2 λv=>aZ (decide ((y.1.length+[v].length)*8<=2^47)) (ok (.next (((y.1++[v]),w6 (y.2-1))))))) (ok (.done (.inl y.1)))) fuel (c,w6 ((u.2.2.2.2.2.length:Int)-1))) λh=>sum h (λj=>ok (.next ((j,w6 (x.2+1))))) (λk=>ok (.done (.inr k)))) (λl=>ok (.done (.inr l)))) (ok (.done (.inl x.1)))) fuel (([]:List Int),0)) λm=>sum m (λn=>ok (((n.length:Int) == 0))) (λo=>ok o))
abbrev lQ.g:Sg:=⟨[.val true (.bor (.seq .b (.own .w)))],[vb]⟩
def R.lQ(x:aj.den):Res (Bool) :=
 given (lQ.g.i x) (br (ile (x.2.length:Int) 8) (br ((x.2.length:Int) == 0) (br (!x.1) (ok true) (br (ilt 0 (x.2.length:Int)) (cO .w x.2 (w6 ((x.2.length:Int)-1)) λy=>ok ((!(y == 0)))) (ok false))) (br (ilt 0 (x.2.length:Int)) (cO .w x.2 (w6 ((x.2.length:Int)-1)) λz=>ok ((!(z == 0)))) (ok false))) (ok false))
abbrev jH.g:Sg:=⟨[.s],[vb]⟩
def R.jH(x:(List UInt8)):Res (Bool) :=
 given (jH.g.i x) (bd (loop (α:=Int) (β:=(Unit ⊕ Bool)) (λy=>br (ilt y (x.length:Int)) (idx (.int .u8) (lH x) y λz=>bd (α:=Bool) (bd (R.gr (IntKind.wrap .u16 z)) λu=>br (!u) (br (y == 0) (ok true) (bd (R.jt (IntKind.wrap .u16 z)) λv=>ok ((!v)))) (ok false)) λw=>br w (ok (.done (.inr false))) (ok (.next (w6 (y+1))))) (ok (.done (.inl ())))) fuel 0) λa=>sum a (λc=>ok ((!(x == ([]:List UInt8))))) (λb=>ok b))
abbrev iZ.g:Sg:=⟨[.s],[vb]⟩
def R.iZ(x:(List UInt8)):Res (Bool) :=
 given (iZ.g.i x) (bd (R.jH x) λy=>br y (cl (R.kp x) kp.g.o λz=>ok ((z == 0))) (ok false))
abbrev eC.g:Sg:=⟨[.val true (.bor (.seq .i (.seq .s (.seq (.own .h) (.seq (.frz aI) (.seq (.seq .b (.own .w)) (.own .i)))))))],[vb]⟩
def R.eC(x:aE.den):Res (Bool) :=
 given (eC.g.i x) (bd (α:=Bool) (br (x.1 == 7) (ok ((x.1 == 7))) (br (x.1 == 18) (ok ((x.1 == 18))) (br (x.1 == 19) (ok ((x.1 == 19))) (br (x.1 == 20) (ok ((x.1 == 20))) (ok ((x.1 == 33))))))) λy=>br y (bd (R.iZ x.2.1) λz=>ok z) (bd (α:=Bool) (br (x.1 == 12) (ok ((x.1 == 12))) (br (x.1 == 13) (ok ((x.1 == 13))) (br (x.1 == 17) (ok ((x.1 == 17))) (ok ((x.1 == 41)))))) λu=>br u (br (x.2.1 == ([]:List UInt8)) (ok true) (bd (R.iZ x.2.1) λv=>ok v)) (br (x.1 == 52) (bd (R.jH x.2.1) λw=>ok w) (br (x.1 == 43) (bd (R.aS [[45],[43],[33],[126],[116,121,112,101,111,102],[118,111,105,100]] x.2.1) λa=>ok a) (br (x.1 == 44) (br (x.1 == 44) (bd (R.aS [[43,43],[45,45]] x.2.1) λb=>ok b) (br (x.1 == 46) (bd (R.aS [[43],[45],[42],[47],[37],[38],[124],[94],[60,60],[62,62],[62,62,62],[60],[62],[60,61],[62,61],[61,61],[33,61],[61,61,61],[33,61,61],[105,110]] x.2.1) λc=>ok c) (br (x.1 == 47) (bd (R.aS [[38,38],[124,124],[63,63]] x.2.1) λd=>ok d) (br (x.1 == 49) (bd (R.aS [[61],[43,61],[45,61],[42,61],[47,61],[37,61],[38,61],[124,61],[94,61],[60,60,61],[62,62,61],[62,62,62,61]] x.2.1) λe=>ok e) (ok ((x.2.1 == ([]:List UInt8)))))))) (br (x.1 == 45) (bd (R.aS [[43,43],[45,45]] x.2.1) λf=>ok f) (br (x.1 == 46) (bd (R.aS [[43],[45],[42],[47],[37],[38],[124],[94],[60,60],[62,62],[62,62,62],[60],[62],[60,61],[62,61],[61,61],[33,61],[61,61,61],[33,61,61],[105,110]] x.2.1) λh=>ok h) (br (x.1 == 47) (bd (R.aS [[38,38],[124,124],[63,63]] x.2.1) λj=>ok j) (br (x.1 == 49) (bd (R.aS [[61],[43,61],[45,61],[42,61],[47,61],[37,61],[38,61],[124,61],[94,61],[60,60,61],[62,62,61],[62,62,62,61]] x.2.1) λk=>ok k) (ok ((x.2.1 == ([]:List UInt8)))))))))))))
abbrev eo.g:Sg:=⟨[.val true (.bor (.seq .i (.seq .s (.seq (.own .h) (.seq (.frz aI) (.seq (.seq .b (.own .w)) (.own .i)))))))],[vb]⟩
def R.eo(x:aE.den):Res (Bool) :=
 given (eo.g.i x) (bd (α:=Bool) (br (ilt 4096 (x.2.1.length:Int)) (ok true) (br (!(x.1 == 32)) (br (!(x.1 == 40)) (br (ilt 0 (x.2.2.1.length:Int)) (ok true) (br (!(x.1 == 30)) (br (!((x.2.2.2.1.1 == 0) && ((x.2.2.2.1.2 == 0) && true))) (ok true) (br (!(x.1 == 31)) (br x.2.2.2.2.1.1 (ok true) (ok ((ilt 0 (x.2.2.2.2.1.2.length:Int))))) (ok false))) (br (!(x.1 == 31)) (br x.2.2.2.2.1.1 (ok true) (ok ((ilt 0 (x.2.2.2.2.1.2.length:Int))))) (ok false)))) (br (!(x.1 == 30)) (br (!((x.2.2.2.1.1 == 0) && ((x.2.2.2.1.2 == 0) && true))) (ok true) (br (!(x.1 == 31)) (br x.2.2.2.2.1.1 (ok true) (ok ((ilt 0 (x.2.2.2.2.1.2.length:Int))))) (ok false))) (br (!(x.1 == 31)) (br x.2.2.2.2.1.1 (ok true) (ok ((ilt 0 (x.2.2.2.2.1.2.length:Int))))) (ok false)))) (br (!(x.1 == 30)) (br (!((x.2.2.2.1.1 == 0) && ((x.2.2.2.1.2 == 0) && true))) (ok true) (br (!(x.1 == 31)) (br x.2.2.2.2.1.1 (ok true) (ok ((ilt 0 (x.2.2.2.2.1.2.length:Int))))) (ok false))) (br (!(x.1 == 31)) (br x.2.2.2.2.1.1 (ok true) (ok ((ilt 0 (x.2.2.2.2.1.2.length:Int))))) (ok false))))) λy=>br y (ok false) (bd (α:=Bool) (br (x.1 == 32) (ok ((x.1 == 32))) (ok ((x.1 == 40)))) λz=>br z (br (x.2.1 == ([]:List UInt8)) (ok ((ile (x.2.2.1.length:Int) 4096))) (ok false)) (br (x.1 == 30) (br (x.2.1 == ([]:List UInt8)) (br (x.2.2.2.1.1 == 0) (bd (R.lT x.2.2.2.1) λu=>br u (ok ((ile 0 x.2.2.2.1.2))) (ok false)) (ok false)) (ok false)) (br (x.1 == 31) (br (x.2.1 == ([]:List UInt8)) (bd (R.lQ x.2.2.2.2.1) λv=>br v (ok ((!x.2.2.2.2.1.1))) (ok false)) (ok false)) (bd (R.eC x) λw=>ok w)))))
abbrev gh.g:Sg:=⟨[.i,.i],[(false,(.own .i))]⟩
def R.gh(z:Int)(y:Int):Res ((List Int)) :=
 given (gh.g.i (z,y)) (bd (loop (α:=((List Int)×Int)) (β:=(List Int)) (λx=>br (ilt x.2 (w6 (z-1))) (aZ (decide ((x.1.length+[6].length)*8<=2^47)) (ok (.next (((x.1++[6]),w6 (x.2+1)))))) (ok (.done (x.1)))) fuel (([]:List Int),0)) λu=>aZ (decide ((u.length+[y].length)*8<=2^47)) (ok ((u++[y]))))
abbrev ja.g:Sg:=⟨[.i,.i],[(false,(.own .i)),vi]⟩
def R.ja(x:Int)(y:Int):Res (((List Int)×Int)) :=
 given (ja.g.i (x,y)) (bd (α:=Bool) (br (x == 1) (ok ((x == 1))) (ok ((x == 4)))) λz=>br z (ok ((([]:List Int),1))) (bd (α:=Bool) (br (x == 3) (ok ((x == 3))) (br (x == 15) (ok ((x == 15))) (br (x == 40) (ok ((x == 40))) (br (x == 43) (ok ((x == 43))) (ok ((x == 52))))))) λu=>br u (ok (([3],0))) (bd (α:=Bool) (br (x == 5) (ok ((x == 5))) (ok ((x == 6)))) λv=>br v (ok (([5],5))) (bd (α:=Bool) (br (x == 7) (ok ((x == 7))) (ok ((x == 14)))) λw=>br w (aZ (ile 0 (kF y 1) && ile (kF y 1) [3].length) (ok (((List.take (Int.toNat (kF y 1)) (List.drop 0 [3])),0)))) (br (x == 8) (aZ (ile 0 (kF (o6 y 2) 3) && ile (kF (o6 y 2) 3) [3,2,2].length) (ok (((List.take (Int.toNat (kF (o6 y 2) 3)) (List.drop 0 [3,2,2])),0)))) (br (x == 9) (ok (([3,2],0))) (br (x == 10) (ok (([10,9,9,2],0))) (br (x == 16) (ok (([8,11,12],0))) (br (x == 17) (ok (([8],0))) (br (x == 18) (ok (([2],0))) (bd (α:=Bool) (br (x == 19) (ok ((x == 19))) (ok ((x == 41)))) λa=>br a (cl (R.gh y 8) gh.g.o λb=>ok ((b,0))) (br (x == 42) (cl (R.gh y 13) gh.g.o λc=>ok ((c,0))) (br (x == 38) (ok ((([]:List Int),3))) (br (x == 39) (ok ((([]:List Int),7))) (bd (α:=Bool) (br (x == 44) (ok ((x == 44))) (ok ((x == 45)))) λd=>br d (ok (([4],0))) (bd (α:=Bool) (br (x == 46) (ok ((x == 46))) (br (x == 47) (ok ((x == 47))) (ok ((x == 53))))) λe=>br e (ok (([3,3],0))) (br (x == 48) (ok (([3,3,3],0))) (br (x == 49) (ok (([4,3],0))) (bd (α:=Bool) (br (x == 50) (ok ((x == 50))) (ok ((x == 51)))) λf=>br f (ok (([3],3))) (ok ((([]:List Int),0))))))))))))))))))))))
abbrev kK.g:Sg:=⟨[.i],[vb]⟩
def R.kK(x:Int):Res (Bool) :=
 given (kK.g.i x) (br (ile 1 x) (br (ile x 20) (ok true) (br (ile 30 x) (ok ((ile x 53))) (ok false))) (br (ile 30 x) (ok ((ile x 53))) (ok false)))
abbrev ez.g:Sg:=⟨[.i],[vb]⟩
def R.ez(x:Int):Res (Bool) :=
 given (ez.g.i x) (br (ile 2 x) (br (ile x 19) (br (!(x == 7)) (br (!(x == 11)) (ok ((!(x == 17)))) (ok false)) (ok false)) (ok false)) (ok false))
abbrev ll.g:Sg:=⟨[.i],[vb]⟩
def R.ll(x:Int):Res (Bool) :=
 given (ll.g.i x) (bd (R.ez x) λy=>br y (br (!(x == 5)) (br (!(x == 6)) (ok ((!(x == 19)))) (ok false)) (ok false)) (ok false))
abbrev eO.g:Sg:=⟨[.i],[vb]⟩
def R.eO(x:Int):Res (Bool) :=
 given (eO.g.i x) (br (ile 30 x) (br (ile x 53) (ok ((!(x == 40)))) (ok false)) (ok false))
abbrev lN.g:Sg:=⟨[.i,.i],[vb]⟩
def R.lN(y:Int)(x:Int):Res (Bool) :=
 given (lN.g.i (y,x)) (br (y == 1) (bd (R.ez x) λz=>ok z) (br (y == 2) (bd (R.ll x) λu=>ok u) (br (y == 3) (bd (R.eO x) λv=>ok v) (br (y == 4) (bd (R.gx x) λw=>ok w) (br (y == 5) (ok ((x == 7))) (br (y == 6) (ok ((x == 20))) (br (y == 7) (ok ((x == 40))) (br (y == 8) (ok ((x == 4))) (br (y == 9) (br (x == 11) (ok true) (bd (R.eO x) λa=>ok a)) (br (y == 10) (br (x == 11) (ok true) (br (x == 5) (ok true) (br (x == 6) (ok true) (bd (R.eO x) λb=>ok b)))) (br (y == 11) (br (x == 11) (ok true) (ok ((x == 17)))) (br (y == 12) (br (x == 11) (ok true) (ok ((x == 4)))) (br (y == 13) (br (x == 4) (ok true) (bd (R.eO x) λc=>ok c)) (ok false))))))))))))))
abbrev iS.g:Sg:=⟨[.val true (.bor lG),.i],[vb]⟩
def R.iS(y:(List aE.den))(z:Int):Res (Bool) :=
 given (iS.g.i (y,z)) (bd (loop (α:=Int) (β:=Bool) (λu=>cO (.frz aE) y u λx=>bd (α:=(Unit ⊕ Bool)) (br (x.1 == 8) (br ((x.2.2.2.2.2.length:Int) == 2) (ok (.inr true)) (ok (.inl ()))) (bd (α:=Bool) (br (x.1 == 9) (ok ((x.1 == 9))) (br (x.1 == 10) (ok ((x.1 == 10))) (ok ((x.1 == 18))))) λv=>br v (ok (.inl ())) (ok (.inr false)))) λw=>sum w (λd=>br ((x.2.2.2.2.2.length:Int) == 0) (ok (.done (false))) (idx (.int .i64) x.2.2.2.2.2 (w6 ((x.2.2.2.2.2.length:Int)-1)) λa=>ok (.next (a)))) (λb=>ok (.done (b)))) fuel z) λc=>ok c)
abbrev ia.g:Sg:=⟨[.val true (.bor lG),.i],[vb]⟩
def R.ia(z:(List aE.den))(v:Int):Res (Bool) :=
 given (ia.g.i (z,v)) (cO (.frz aE) z v λx=>cl (R.ja x.1 (x.2.2.2.2.2.length:Int)) ja.g.o λu=>bd (α:=Bool) (bd (R.kK x.1) λw=>br (!w) (ok true) (ok ((ilt (x.2.2.2.2.2.length:Int) (u.1.length:Int))))) λa=>br a (ok false) (bd (loop (α:=Int) (β:=(Unit ⊕ Bool)) (λy=>br (ilt y (x.2.2.2.2.2.length:Int)) (idx (.int .i64) x.2.2.2.2.2 y λb=>bd (α:=Int) (br (ilt y (u.1.length:Int)) (aZ (ile 0 y && ilt y u.1.length) (idx (.int .i64) u.1 (0+Int.toNat y) λc=>ok c)) (ok (u.2))) λd=>cO (.frz aE) z b λe=>bd (R.lN d e.1) λf=>br (!f) (ok (.done (.inr false))) (ok (.next (w6 (y+1))))) (ok (.done (.inl ())))) fuel 0) λh=>sum h (λs=>br (x.1 == 16) (idx (.int .i64) x.2.2.2.2.2 1 λj=>cO (.frz aE) z j λk=>br (k.1 == 17) (ok true) (idx (.int .i64) x.2.2.2.2.2 2 λl=>cO (.frz aE) z l λm=>ok ((m.1 == 4)))) (bd (α:=Bool) (br (x.1 == 8) (ok (((x.2.2.2.2.2.length:Int) == 3))) (ok false)) λn=>br n (idx (.int .i64) x.2.2.2.2.2 1 λp=>bd (R.iS z p) λq=>ok ((!q))) (ok true))) (λr=>ok r)))
abbrev mJ.g:Sg:=⟨[.val true (.frz (.list aE))],[vb]⟩
def R.mJ(x:(List aE.den)):Res (Bool) :=
 given (mJ.g.i x) (bd (α:=Bool) (br ((x.length:Int) == 0) (ok true) (br (ilt 4096 (x.length:Int)) (ok true) (idx aE x 0 λz=>br (!(z.1 == 1)) (ok true) (bd (R.jq x) λu=>ok ((!u)))))) λv=>br v (ok false) (bd (loop (α:=Int) (β:=(Unit ⊕ Bool)) (λy=>br (ilt y (x.length:Int)) (bd (α:=Bool) (br (ilt 0 y) (idx aE x y λw=>br (w.1 == 1) (ok true) (idx aE x y λa=>bd (R.eo a) λb=>br (!b) (ok true) (bd (R.ia x y) λc=>ok ((!c))))) (idx aE x y λd=>bd (R.eo d) λe=>br (!e) (ok true) (bd (R.ia x y) λf=>ok ((!f))))) λh=>br h (ok (.done (.inr false))) (ok (.next (w6 (y+1))))) (ok (.done (.inl ())))) fuel 0) λj=>sum j (λn=>cl (R.ik x) ik.g.o λk=>cl (R.eB k) eB.g.o λl=>ok ((ile l 48))) (λm=>ok m)))
abbrev jF.g:Sg:=⟨[.val true (.bor lG)],[vb]⟩
def R.jF(x:(List aE.den)):Res (Bool) :=
 given (jF.g.i x) (bd (α:=Bool) (br ((x.length:Int) == 0) (ok true) (br (ilt 4096 (x.length:Int)) (ok true) (cO (.frz aE) x 0 λz=>br (!(z.1 == 1)) (ok true) (bd (R.jq x) λu=>ok ((!u)))))) λv=>br v (ok false) (bd (loop (α:=Int) (β:=(Unit ⊕ Bool)) (λy=>br (ilt y (x.length:Int)) (bd (α:=Bool) (br (ilt 0 y) (cO (.frz aE) x y λw=>br (w.1 == 1) (ok true) (cO (.frz aE) x y λa=>bd (R.eo a) λb=>br (!b) (ok true) (bd (R.ia x y) λc=>ok ((!c))))) (cO (.frz aE) x y λd=>bd (R.eo d) λe=>br (!e) (ok true) (bd (R.ia x y) λf=>ok ((!f))))) λh=>br h (ok (.done (.inr false))) (ok (.next (w6 (y+1))))) (ok (.done (.inl ())))) fuel 0) λj=>sum j (λn=>cl (R.ik x) ik.g.o λk=>cl (R.eB k) eB.g.o λl=>ok ((ile l 48))) (λm=>ok m)))
abbrev gU.g:Sg:=⟨[.val true (.bor lG)],[(false,(.own .i))]⟩
def R.gU(x:(List aE.den)):Res ((List Int)) :=
 given (gU.g.i x) (aZ (ile 0 (x.length:Int) && (ile (x.length:Int) (x.length:Int) && decide ((Int.toNat (x.length:Int))*8<=2^47))) (aZ (ile 0 0 && ilt 0 (List.replicate (Int.toNat (x.length:Int)) (0:Int)).length) (idx (.int .i64) (List.replicate (Int.toNat (x.length:Int)) (0:Int)) (0+Int.toNat 0) λb=>bd (loop (α:=(Int×(List Int))) (β:=(List Int)) (λz=>br (ilt z.1 (x.length:Int)) (cO (.frz aE) x z.1 λv=>bd (loop (α:=(Int×(List Int))) (β:=(List Int)) (λy=>br (ilt y.1 (v.2.2.2.2.2.length:Int)) (idx (.int .i64) v.2.2.2.2.2 y.1 λu=>aZ (ile 0 u && ilt u y.2.length) (idx (.int .i64) y.2 (0+Int.toNat u) λc=>ok (.next ((w6 (y.1+1),(List.set y.2 (0+Int.toNat u) z.1)))))) (ok (.done (y.2)))) fuel (0,z.2)) λw=>ok (.next ((w6 (z.1+1),w)))) (ok (.done (z.2)))) fuel (0,(List.set (List.replicate (Int.toNat (x.length:Int)) (0:Int)) (0+Int.toNat 0) (-1)))) λa=>ok a)))
abbrev fk.g:Sg:=⟨[.i],[vb]⟩
def R.fk(x:Int):Res (Bool) :=
 given (fk.g.i x) (br (x == 5) (ok true) (ok ((x == 6))))
abbrev gz.g:Sg:=⟨[.val true (.bor lG),.i],[(false,(.own .s))]⟩
def R.gz(y:(List aE.den))(z:Int):Res ((List (List UInt8))) :=
 given (gz.g.i (y,z)) (cO (.frz aE) y z λu=>bd (loop (α:=((List (List UInt8))×Int)) (β:=(List (List UInt8))) (λx=>br (ilt x.2 (u.2.2.2.2.2.length:Int)) (idx (.int .i64) u.2.2.2.2.2 x.2 λw=>cO (.frz aE) y w λv=>aZ (decide ((x.1.length+[v.2.1].length)*16<=2^47)) (ok (.next (((x.1++[v.2.1]),w6 (x.2+1)))))) (ok (.done (x.1)))) fuel (([]:List (List UInt8)),0)) λa=>ok a)
abbrev fL.g:Sg:=⟨[.i],[vb]⟩
def R.fL(x:Int):Res (Bool) :=
 given (fL.g.i x) (br (x == 19) (ok true) (br (x == 41) (ok true) (ok ((x == 42)))))
end Go.Mach
end

set_option linter.unusedVariables false
set_option maxRecDepth 20000
noncomputable section
namespace Go.Mach
open Res
abbrev fF.g:Sg:=⟨[.val true (.bor lG),.i],[(false,(.own .s))]⟩
def R.fF(z:(List aE.den))(w:Int):Res ((List (List UInt8))) :=
 given (fF.g.i (z,w)) (cO (.frz aE) z w λx=>bd (α:=Bool) (br (x.1 == 1) (ok true) (ok ((x.1 == 4)))) λe=>br e (bd (loop (α:=((List (List UInt8))×Int)) (β:=(List (List UInt8))) (λy=>br (ilt y.2 (x.2.2.2.2.2.length:Int)) (idx (.int .i64) x.2.2.2.2.2 y.2 λa=>cO (.frz aE) z a λv=>bd (R.fk v.1) λf=>br f (cl (R.gz z a) gz.g.o λb=>aZ (decide ((y.1.length+b.length)*16<=2^47)) (ok (.next (((y.1++b),w6 (y.2+1)))))) (br (v.1 == 19) (aZ (decide ((y.1.length+[v.2.1].length)*16<=2^47)) (ok (.next (((y.1++[v.2.1]),w6 (y.2+1)))))) (ok (.next ((y.1,w6 (y.2+1))))))) (ok (.done (y.1)))) fuel (([]:List (List UInt8)),0)) λh=>ok h) (bd (α:=Bool) (br (x.1 == 10) (idx (.int .i64) x.2.2.2.2.2 0 λj=>cO (.frz aE) z j λk=>bd (R.fk k.1) λl=>ok l) (ok false)) λm=>br m (idx (.int .i64) x.2.2.2.2.2 0 λn=>cl (R.gz z n) gz.g.o λp=>ok p) (bd (α:=Bool) (br (x.1 == 17) (ok ((!(x.2.1 == ([]:List UInt8))))) (ok false)) λq=>br q (ok ([x.2.1])) (bd (R.fL x.1) λr=>br r (bd (loop (α:=((List (List UInt8))×Int)) (β:=(List (List UInt8))) (λu=>br (ilt u.2 (x.2.2.2.2.2.length:Int)) (idx (.int .i64) x.2.2.2.2.2 u.2 λc=>cO (.frz aE) z c λs=>br (s.1 == 20) (cO (.frz aE) z c λd=>aZ (decide ((u.1.length+[d.2.1].length)*16<=2^47)) (ok (.next (((u.1++[d.2.1]),w6 (u.2+1)))))) (ok (.next ((u.1,w6 (u.2+1)))))) (ok (.done (u.1)))) fuel (([]:List (List UInt8)),0)) λt=>ok t) (ok (([]:List (List UInt8))))))))
abbrev jR.g:Sg:=⟨[.val false (.bor (.own .s))],[vb]⟩
def R.jR(y:(List (List UInt8))):Res (Bool) :=
 given (jR.g.i y) (bd (loop (α:=Int) (β:=(Unit ⊕ Bool)) (λx=>br (ilt x (y.length:Int)) (cO .s y x λz=>aZ (ile 0 x && ile x y.length) (bd (R.aS (List.take (Int.toNat x) (List.drop 0 y)) z) λu=>br u (ok (.done (.inr true))) (ok (.next (w6 (x+1)))))) (ok (.done (.inl ())))) fuel 0) λv=>sum v (λa=>ok false) (λw=>ok w))
abbrev iB.g:Sg:=⟨[.s,.val false (.bor (.box (.own .s)))],[vb]⟩
def R.iB(x:(List UInt8))(y:(List (List UInt8))):Res (Bool) :=
 given (iB.g.i (x,y)) (bd (R.aS y x) λz=>ok z)
abbrev az.g:Sg:=⟨[.val false (.bor (.own .s)),.val false (.bor (.clo 83 (.box (.own .s))))],[vi]⟩
def R.az(y:(List (List UInt8)))(z:(List (List UInt8))):Res (Int) :=
 given (az.g.i (y,z)) (bd (loop (α:=Int) (β:=(Unit ⊕ Int)) (λx=>br (ilt x (y.length:Int)) (cO .s y x λu=>bd (R.iB u z) λv=>br v (ok (.done (.inr x))) (ok (.next (w6 (x+1))))) (ok (.done (.inl ())))) fuel 0) λw=>sum w (λb=>ok ((-1))) (λa=>ok a))
abbrev au.g:Sg:=⟨[.val false (.bor (.own .s)),.val false (.bor (.clo 83 (.box (.own .s))))],[vb]⟩
def R.au(x:(List (List UInt8)))(y:(List (List UInt8))):Res (Bool) :=
 given (au.g.i (x,y)) (cl (R.az x y) az.g.o λz=>ok ((ile 0 z)))
abbrev jO.g:Sg:=⟨[.val true (.bor lG),.i,.i],[vb]⟩
def R.jO(x:(List aE.den))(z:Int)(y:Int):Res (Bool) :=
 given (jO.g.i (x,(z,y))) (bd (α:=Bool) (br (ilt y 0) (ok true) (cO (.frz aE) x z λu=>br (!(u.1 == 4)) (ok true) (cO (.frz aE) x y λv=>bd (R.fL v.1) λw=>br (!w) (cO (.frz aE) x y λa=>ok ((!(a.1 == 17)))) (ok false)))) λb=>br b (ok false) (cl (R.fF x y) fF.g.o λc=>cl (R.fF x z) fF.g.o λd=>bd (R.au d c) λe=>ok e))
abbrev fP.g:Sg:=⟨[.val true (.bor lG),.val false (.bor (.own .i)),.i],[(false,(.own .i)),vi]⟩
def R.fP(z:(List aE.den))(y:(List Int))(u:Int):Res (((List Int)×Int)) :=
 given (fP.g.i (z,(y,u))) (cO .i y u λv=>bd (loop (α:=(Int×(List Int))) (β:=((List Int) ⊕ ((List Int)×Int))) (λx=>br (ile 0 x.1) (cO (.frz aE) z x.1 λw=>bd (R.fL w.1) λa=>br a (ok (.done (.inr (x.2,x.1)))) (aZ (decide ((x.2.length+[x.1].length)*8<=2^47)) (cO .i y x.1 λb=>ok (.next ((b,(x.2++[x.1]))))))) (ok (.done (.inl x.2)))) fuel (v,([]:List Int))) λc=>sum c (λd=>ok ((d,(-1)))) (λe=>ok e))
abbrev iO.g:Sg:=⟨[.i,.val false (.bor rF),.val false (.bor (.box (.seq .i (.seq .s (.seq (.own .h) (.seq .i (.seq .i (.seq .b (.seq (.own .w) (.own .i))))))))))],[vb]⟩
def R.iO(x:Int)(y:(List aE.den))(z:(Int×((List UInt8)×((List Int)×(Int×(Int×(Bool×((List Int)×(List Int))))))))):Res (Bool) :=
 given (iO.g.i (x,(y,z))) (cO (.frz aE) y x λu=>br (u.1 == 18) (cO (.frz aE) y x λv=>ok ((v.2.1 == z.2.1))) (ok false))
abbrev bJ.g:Sg:=⟨[.val false (.bor (.own .i)),.val false (.bor (.clo 59 (.seq rF (.box (.seq .i (.seq .s (.seq (.own .h) (.seq .i (.seq .i (.seq .b (.seq (.own .w) (.own .i))))))))))))],[vi]⟩
def R.bJ(y:(List Int))(z:((List aE.den)×(Int×((List UInt8)×((List Int)×(Int×(Int×(Bool×((List Int)×(List Int)))))))))):Res (Int) :=
 given (bJ.g.i (y,z)) (bd (loop (α:=Int) (β:=(Unit ⊕ Int)) (λx=>br (ilt x (y.length:Int)) (cO .i y x λu=>bd (R.iO u z.1 z.2) λv=>br v (ok (.done (.inr x))) (ok (.next (w6 (x+1))))) (ok (.done (.inl ())))) fuel 0) λw=>sum w (λb=>ok ((-1))) (λa=>ok a))
abbrev bA.g:Sg:=⟨[.val false (.bor (.own .i)),.val false (.bor (.clo 59 (.seq rF (.box (.seq .i (.seq .s (.seq (.own .h) (.seq .i (.seq .i (.seq .b (.seq (.own .w) (.own .i))))))))))))],[vb]⟩
def R.bA(x:(List Int))(y:((List aE.den)×(Int×((List UInt8)×((List Int)×(Int×(Int×(Bool×((List Int)×(List Int)))))))))):Res (Bool) :=
 given (bA.g.i (x,y)) (cl (R.bJ x y) bJ.g.o λz=>ok ((ile 0 z)))
abbrev jc.g:Sg:=⟨[.i],[vb]⟩
def R.jc(x:Int):Res (Bool) :=
 given (jc.g.i x) (br (x == 9) (ok true) (ok ((x == 10))))
abbrev fi.g:Sg:=⟨[.val true (.bor lG),.i],[vi]⟩
def R.fi(x:(List aE.den))(z:Int):Res (Int) :=
 given (fi.g.i (x,z)) (bd (loop (α:=Int) (β:=Int) (λy=>cO (.frz aE) x y λu=>br (u.1 == 18) (cO (.frz aE) x y λv=>idx (.int .i64) v.2.2.2.2.2 0 λw=>ok (.next (w))) (ok (.done (y)))) fuel z) λa=>cO (.frz aE) x a λb=>ok (b.1))
abbrev jS.g:Sg:=⟨[.val true (.bor lG),.val true (.bor (.seq .i (.seq .s (.seq (.own .h) (.seq (.frz aI) (.seq (.seq .b (.own .w)) (.own .i))))))),.val false (.bor (.own .i))],[vb]⟩
def R.jS(y:(List aE.den))(x:aE.den)(z:(List Int)):Res (Bool) :=
 given (jS.g.i (y,(x,z))) (bd (loop (α:=Int) (β:=(Unit ⊕ Bool)) (λu=>br (ilt u (z.length:Int)) (cO .i z u λw=>cO (.frz aE) y w λv=>bd (α:=Bool) (br (x.2.1 == ([]:List UInt8)) (bd (R.jc v.1) λa=>ok a) (ok false)) λb=>br b (ok (.done (.inr true))) (bd (α:=Bool) (br (!(x.2.1 == ([]:List UInt8))) (br (v.1 == 18) (ok ((v.2.1 == x.2.1))) (ok false)) (ok false)) λc=>br c (br (x.1 == 12) (ok (.done (.inr true))) (cl (R.fi y w) fi.g.o λd=>bd (R.jc d) λe=>ok (.done (.inr e)))) (ok (.next (w6 (u+1)))))) (ok (.done (.inl ())))) fuel 0) λf=>sum f (λj=>ok false) (λh=>ok h))
abbrev jQ.g:Sg:=⟨[.val true (.bor lG),.val false (.bor (.own .i)),.i],[vb]⟩
def R.jQ(y:(List aE.den))(u:(List Int))(z:Int):Res (Bool) :=
 given (jQ.g.i (y,(u,z))) (cO (.frz aE) y z λx=>bd (α:=Bool) (cl (R.fF y z) fF.g.o λv=>bd (R.jR v) λw=>br w (ok true) (cO .i u z λa=>bd (R.jO y z a) λb=>ok b)) λc=>br c (ok true) (br (x.1 == 7) (cO .i u z λd=>cO (.frz aE) y d λe=>br (e.1 == 6) (ok (((x.2.2.2.2.2.length:Int) == 0))) (ok false)) (br (x.1 == 18) (cl (R.fP y u z) fP.g.o λf=>bd (R.bA f.1 (y,(x.1,(x.2.1,(x.2.2.1,(x.2.2.2.1.1,(x.2.2.2.1.2,(x.2.2.2.2.1.1,(x.2.2.2.2.1.2,x.2.2.2.2.2))))))))) λh=>ok h) (bd (α:=Bool) (br (x.1 == 12) (ok ((x.1 == 12))) (ok ((x.1 == 13)))) λj=>br j (cl (R.fP y u z) fP.g.o λk=>bd (R.jS y x k.1) λl=>ok ((!l))) (br (x.1 == 14) (cl (R.fP y u z) fP.g.o λm=>ok ((ilt m.2 0))) (ok false))))))
abbrev fH.g:Sg:=⟨[.val true (.bor lG)],[vi,vi]⟩
def R.fH(x:(List aE.den)):Res ((Int×Int)) :=
 given (fH.g.i x) (bd (R.jF x) λz=>br (!z) (ok ((0,2))) (cl (R.gU x) gU.g.o λu=>bd (loop (α:=Int) (β:=(Unit ⊕ (Int×Int))) (λy=>br (ilt y (x.length:Int)) (bd (R.jQ x u y) λv=>br v (ok (.done (.inr (y,5)))) (ok (.next (w6 (y+1))))) (ok (.done (.inl ())))) fuel 0) λw=>sum w (λb=>ok ((0,0))) (λa=>ok a)))
abbrev jG.g:Sg:=⟨[.val false (.bor (.own .y))],[(true,(.frz (.list aE))),vi,vi]⟩
def R.jG(z:(List Int)):Res (((List aE.den)×(Int×Int))) :=
 given (jG.g.i z) (cl (R.ko z) ko.g.o λy=>br (!(y.2.2 == 0)) (ok ((([]:List aE.den),y.2))) (cl (R.j8 y.1) j8.g.o λx=>br (!(x.2.2 == 0)) (ok ((([]:List aE.den),x.2))) (cl (R.fH x.1) fH.g.o λu=>br (!(u.2 == 0)) (ok ((([]:List aE.den),u))) (ok ((x.1,(0,0)))))))
abbrev kT.g:Sg:=⟨[.val true (.frz eJ)],[vb]⟩
def R.kT(x:eJ.den):Res (Bool) :=
 given (kT.g.i x) (br (ile 0 x.1) (br (ile x.1 4096) (br (ile 1 x.2.1) (br (ile x.2.1 200) (br (ile 0 x.2.2) (ok ((ile x.2.2 100000))) (ok false)) (ok false)) (ok false)) (ok false)) (ok false))
abbrev lV.g:Sg:=⟨[.i],[(false,fK)]⟩
def R.lV(x:Int):Res (fK.den) :=
 given (lV.g.i x) (ok (((kF (o6 x 0) 4096),([]:List gu.den))))
abbrev ea.g:Sg:=⟨[.val true (.bor (.seq .i (.seq (.frz aI) (.seq (.seq .b (.own .w)) (.seq (.own .h) .i)))))],[(true,(.frz aC))]⟩
def R.ea(x:aC.den):Res (aC.den) :=
 given (ea.g.i x) (bd (ok x.2.2.1.2) λy=>given (ma (.int .u32) y) (bd (ok x.2.2.2.1) λz=>given (ma (.int .u16) z) (ok ((x.1,(x.2.1,((x.2.2.1.1,y),(z,x.2.2.2.2))))))))
abbrev gv.g:Sg:=⟨[.val true (.bor (.seq .i (.seq .i (.seq (.own (.frz bO)) (.seq (.own (.frz bH)) (.seq .s (.seq .i (.seq .i (.seq (.seq .i (.seq (.frz aI) (.seq (.seq .b (.own .w)) (.seq (.own .h) .i)))) (.seq .i (.seq .i (.seq .i (.seq .i (.own .y))))))))))))))],[(true,kD)]⟩
def R.gv(x:gu.den):Res (kD.den) :=
 given (gv.g.i x) (bd (aZ (decide ((0+x.2.2.1.length)*112<=2^47)) (ok x.2.2.1)) λu=>given (ma bO u) (bd (aZ (decide ((0+x.2.2.2.1.length)*112<=2^47)) (ok x.2.2.2.1)) λv=>given (ma bH v) (bd (ok x.2.2.2.2.2.2.2.2.2.2.2.2) λw=>given (ma (.int .u8) w) (cl (R.ea x.2.2.2.2.2.2.2.1) ea.g.o λd=>bd (loop (α:=(Int×(List bO.den))) (β:=(List bO.den)) (λy=>br (ilt y.1 (u.length:Int)) (aZ (ile 0 y.1 && ilt y.1 y.2.length) (idx bO y.2 (0+Int.toNat y.1) λa=>bd (ok a.1) λb=>given (ma (.int .u16) b) (cl (R.ea a.2) ea.g.o λe=>aZ (ile 0 y.1 && ilt y.1 y.2.length) (idx bO y.2 (0+Int.toNat y.1) λl=>ok (.next ((w6 (y.1+1),(List.set y.2 (0+Int.toNat y.1) (b,e))))))))) (ok (.done (y.2)))) fuel (0,u)) λf=>bd (loop (α:=(Int×(List bH.den))) (β:=(List bH.den)) (λz=>br (ilt z.1 (v.length:Int)) (aZ (ile 0 z.1 && ilt z.1 z.2.length) (idx bH z.2 (0+Int.toNat z.1) λh=>cl (R.ea h.2.1) ea.g.o λj=>aZ (ile 0 z.1 && ilt z.1 z.2.length) (idx bH z.2 (0+Int.toNat z.1) λc=>ok (.next ((w6 (z.1+1),(List.set z.2 (0+Int.toNat z.1) (c.1,(j,c.2.2))))))))) (ok (.done (z.2)))) fuel (0,v)) λk=>ok ((x.1,(x.2.1,(f,(k,(x.2.2.2.2.1,(x.2.2.2.2.2.1,(x.2.2.2.2.2.2.1,(d,(x.2.2.2.2.2.2.2.2.1,(x.2.2.2.2.2.2.2.2.2.1,(x.2.2.2.2.2.2.2.2.2.2.1,(x.2.2.2.2.2.2.2.2.2.2.2.1,w)))))))))))))))))
abbrev dn.g:Sg:=⟨[.obj fK,.val true (.bor (.seq .i (.seq .i (.seq (.own (.frz bO)) (.seq (.own (.frz bH)) (.seq .s (.seq .i (.seq .i (.seq (.seq .i (.seq (.frz aI) (.seq (.seq .b (.own .w)) (.seq (.own .h) .i)))) (.seq .i (.seq .i (.seq .i (.seq .i (.own .y))))))))))))))],[vi,vb]⟩
def R.dn(x:fK.den)(z:gu.den):Res ((Int×Bool)×fK.den) :=
 given (dn.g.i (x,z)) (br (ile x.1 (x.2.length:Int)) (ok (((0,false),x))) (cl (R.gv z) gv.g.o λy=>aZ (decide ((x.2.length+[y].length)*240<=2^47)) (ok (((w6 (((x.2++[y]).length:Int)-1),true),(x.1,(x.2++[y])))))))
abbrev cF.g:Sg:=⟨[.obj aJ,.i],[vi]⟩
def R.cF(x:aJ.den)(y:Int):Res (Int×aJ.den) :=
 given (cF.g.i (x,y)) (ok ((5,(x.1,(x.2.1,(x.2.2.1,(x.2.2.2.1,(x.2.2.2.2.1,(x.2.2.2.2.2.1,(x.2.2.2.2.2.2.1,(x.2.2.2.2.2.2.2.1,(y,([]:List Int)))))))))))))
abbrev aX.g:Sg:=⟨[.obj aJ,.val true (.bor (.seq .i (.seq .i (.seq (.own (.frz bO)) (.seq (.own (.frz bH)) (.seq .s (.seq .i (.seq .i (.seq (.seq .i (.seq (.frz aI) (.seq (.seq .b (.own .w)) (.seq (.own .h) .i)))) (.seq .i (.seq .i (.seq .i (.seq .i (.own .y))))))))))))))],[(true,(.frz aC)),vi]⟩
def R.aX(x:aJ.den)(z:gu.den):Res ((aC.den×Int)×aJ.den) :=
 given (aX.g.i (x,z)) (cl (R.dn x.2.2.2.2.1 z) dn.g.o λy=>br (!y.1.2) (cl (R.cF (x.1,(x.2.1,(x.2.2.1,(x.2.2.2.1,(y.2,x.2.2.2.2.2))))) 4) cF.g.o λu=>ok (((zV,u.1),u.2))) (ok ((((6,((0,0),((false,([]:List Int)),(([]:List Int),y.1.1)))),0),(x.1,(x.2.1,(x.2.2.1,(x.2.2.2.1,(y.2,x.2.2.2.2.2)))))))))
abbrev bm.g:Sg:=⟨[.obj aJ,.i],[vi,vi]⟩
def R.bm(y:aJ.den)(z:Int):Res ((Int×Int)×aJ.den) :=
 given (bm.g.i (y,z)) (cl (R.aX y (9,(0,(([]:List bO.den),(([]:List bH.den),(([]:List UInt8),(0,(z,(zV,(0,(0,(0,(0,([]:List Int)))))))))))))) aX.g.o λx=>ok (((x.1.1.2.2.2.2,x.1.2),x.2)))
abbrev bB.g:Sg:=⟨[.val false (.bor fK),.i],[vb]⟩
def R.bB(y:gW.den)(x:Int):Res (Bool) :=
 given (bB.g.i (y,x)) (br (ile 0 x) (ok ((ilt x (y.2.length:Int)))) (ok false))
abbrev fj.g:Sg:=⟨[.val true (.bor (.seq .s (.seq (.seq .i (.seq (.frz aI) (.seq (.seq .b (.own .w)) (.seq (.own .h) .i)))) (.seq .b .b)))),.val false (.bor (.box .s))],[vb]⟩
def R.fj(x:bH.den)(y:(List UInt8)):Res (Bool) :=
 given (fj.g.i (x,y)) (ok ((x.1 == y)))
abbrev ah.g:Sg:=⟨[.val false (.bor (.own (.frz bH))),.val false (.bor (.clo 148 (.box .s)))],[vi]⟩
def R.ah(y:(List bH.den))(z:(List UInt8)):Res (Int) :=
 given (ah.g.i (y,z)) (bd (loop (α:=Int) (β:=(Unit ⊕ Int)) (λx=>br (ilt x (y.length:Int)) (cO (.frz bH) y x λu=>bd (R.fj u z) λv=>br v (ok (.done (.inr x))) (ok (.next (w6 (x+1))))) (ok (.done (.inl ())))) fuel 0) λw=>sum w (λb=>ok ((-1))) (λa=>ok a))
abbrev c7.g:Sg:=⟨[.val false (.bor fK),.i,.s],[vi]⟩
def R.c7(x:gW.den)(y:Int)(z:(List UInt8)):Res (Int) :=
 given (c7.g.i (x,(y,z))) (cO kD x.2 y λu=>cl (R.ah u.2.2.2.1 z) ah.g.o λv=>ok v)
abbrev bE.g:Sg:=⟨[.obj fK,.i,.s,.val true (.bor (.seq .i (.seq (.frz aI) (.seq (.seq .b (.own .w)) (.seq (.own .h) .i))))),.b,.b],[vb]⟩
def R.bE(y:fK.den)(x:Int)(u:(List UInt8))(a:aC.den)(v:Bool)(w:Bool):Res (Bool×fK.den) :=
 given (bE.g.i (y,(x,(u,(a,(v,w)))))) (bd (α:=Bool) (bd (R.bB y x) λc=>br (!c) (ok true) (cl (R.c7 y x u) c7.g.o λd=>ok ((ile 0 d)))) λe=>br e (ok ((false,y))) (cO kD y.2 x λz=>aZ ((Int.toNat x) == (Int.toNat x)) (cl (R.ea a) ea.g.o λb=>aZ (decide ((z.2.2.2.1.length+[(u,(b,(v,w)))].length)*112<=2^47)) (aZ ((Int.toNat x) == (Int.toNat x)) (ok ((true,(y.1,(List.set y.2 (Int.toNat x) (z.1,(z.2.1,(z.2.2.1,((z.2.2.2.1++[(u,(b,(v,w)))]),z.2.2.2.2)))))))))))))
abbrev fG.g:Sg:=⟨[.val true (.bor (.seq (.own .h) (.seq .i (.seq (.frz aI) (.seq (.seq .b (.own .w)) (.seq (.own .h) .i)))))),.val false (.bor (.box (.own .h)))],[vb]⟩
def R.fG(x:bO.den)(y:(List Int)):Res (Bool) :=
 given (fG.g.i (x,y)) (bd (R.jL x.1 y) λz=>ok z)
abbrev ae.g:Sg:=⟨[.val false (.bor (.own (.frz bO))),.val false (.bor (.clo 187 (.box (.own .h))))],[vi]⟩
def R.ae(y:(List bO.den))(z:(List Int)):Res (Int) :=
 given (ae.g.i (y,z)) (bd (loop (α:=Int) (β:=(Unit ⊕ Int)) (λx=>br (ilt x (y.length:Int)) (cO (.frz bO) y x λu=>bd (R.fG u z) λv=>br v (ok (.done (.inr x))) (ok (.next (w6 (x+1))))) (ok (.done (.inl ())))) fuel 0) λw=>sum w (λb=>ok ((-1))) (λa=>ok a))
abbrev dI.g:Sg:=⟨[.val false (.bor fK),.i,.val false (.bor (.own .h))],[vi]⟩
def R.dI(x:gW.den)(y:Int)(z:(List Int)):Res (Int) :=
 given (dI.g.i (x,(y,z))) (cO kD x.2 y λu=>cl (R.ae u.2.2.1 z) ae.g.o λv=>ok v)
abbrev bc.g:Sg:=⟨[.obj fK,.i,.val false (.bor (.own .h)),.val true (.bor (.seq .i (.seq (.frz aI) (.seq (.seq .b (.own .w)) (.seq (.own .h) .i)))))],[vb]⟩
def R.bc(z:fK.den)(x:Int)(v:(List Int))(w:aC.den):Res (Bool×fK.den) :=
 given (bc.g.i (z,(x,(v,w)))) (bd (R.bB z x) λc=>br (!c) (ok ((false,z))) (cO kD z.2 x λy=>cl (R.dI (z.1,(List.set z.2 (Int.toNat x) y)) x v) dI.g.o λu=>br (ile 0 u) (aZ ((Int.toNat x) == (Int.toNat x)) (cl (R.ea w) ea.g.o λd=>aZ (ile 0 u && ilt u y.2.2.1.length) (idx bO y.2.2.1 (0+Int.toNat u) λe=>ok ((true,(z.1,(List.set z.2 (Int.toNat x) (y.1,(y.2.1,((List.set y.2.2.1 (0+Int.toNat u) (e.1,d)),y.2.2.2)))))))))) (aZ ((Int.toNat x) == (Int.toNat x)) (bd (ok v) λa=>given (ma (.int .u16) a) (cl (R.ea w) ea.g.o λb=>aZ (decide ((y.2.2.1.length+[(a,b)].length)*112<=2^47)) (aZ ((Int.toNat x) == (Int.toNat x)) (ok ((true,(z.1,(List.set z.2 (Int.toNat x) (y.1,(y.2.1,((y.2.2.1++[(a,b)]),y.2.2.2))))))))))))))
abbrev cN.g:Sg:=⟨[.obj fK,.i,.s,.val true (.bor (.seq .i (.seq (.frz aI) (.seq (.seq .b (.own .w)) (.seq (.own .h) .i))))),.b],[vb]⟩
def R.cN(x:fK.den)(u:Int)(a:(List UInt8))(b:aC.den)(c:Bool):Res (Bool×fK.den) :=
 given (cN.g.i (x,(u,(a,(b,c))))) (bd (R.bB x u) λe=>br (!e) (ok ((false,x))) (cl (R.c7 x u a) c7.g.o λy=>br (ilt y 0) (ok ((false,x))) (cO kD x.2 u λz=>aZ ((Int.toNat u) == (Int.toNat u)) (aZ (ile 0 y && ilt y z.2.2.2.1.length) (cl (R.ea b) ea.g.o λd=>idx bH z.2.2.2.1 (0+Int.toNat y) λv=>idx bH (List.set z.2.2.2.1 (0+Int.toNat y) (v.1,(d,v.2.2))) (0+Int.toNat y) λw=>ok ((true,(x.1,(List.set x.2 (Int.toNat u) (z.1,(z.2.1,(z.2.2.1,((List.set (List.set z.2.2.2.1 (0+Int.toNat y) (v.1,(d,v.2.2))) (0+Int.toNat y) (w.1,(w.2.1,(c,w.2.2.2)))),z.2.2.2.2)))))))))))))
abbrev cC.g:Sg:=⟨[.obj aJ,.i,.val true (.frz aM)],[(true,(.frz aC)),vi]⟩
def R.cC(a:aJ.den)(b:Int)(w:aM.den):Res ((aC.den×Int)×aJ.den) :=
 given (cC.g.i (a,(b,w))) (idx aE a.1 b λu=>bd (α:=Bool) (br (u.1 == 41) (ok ((!(u.2.1 == ([]:List UInt8))))) (ok false)) λd=>bd (α:=((aJ.den×gu.den) ⊕ (Int×(aJ.den×aC.den)))) (br d (cl (R.bm a w.1) bm.g.o λz=>br (!(z.1.2 == 0)) (ok (.inr (z.1.2,(z.2,zV)))) (cl (R.bE z.2.2.2.2.2.1 z.1.1 u.2.1 zV false true) bE.g.o λh=>ok (.inl ((z.2.1,(z.2.2.1,(z.2.2.2.1,(z.2.2.2.2.1,(h.2,z.2.2.2.2.2.2))))),(3,(0,(([]:List bO.den),(([]:List bH.den),(([]:List UInt8),(b,(z.1.1,(zV,(0,(0,(0,(0,([]:List Int))))))))))))))))) (ok (.inl (a,(3,(0,(([]:List bO.den),(([]:List bH.den),(([]:List UInt8),(b,(w.1,(zV,(0,(0,(0,(0,([]:List Int))))))))))))))))) λj=>sum j (λx=>bd (α:=gu.den) (bd (α:=Bool) (br (u.1 == 42) (ok (w.2.2)) (ok false)) λk=>br k (ok ((x.2.1,(x.2.2.1,(x.2.2.2.1,(x.2.2.2.2.1,(x.2.2.2.2.2.1,(x.2.2.2.2.2.2.1,(x.2.2.2.2.2.2.2.1,(w.2.1,(1,x.2.2.2.2.2.2.2.2.2.2))))))))))) (br (u.1 == 42) (ok ((x.2.1,(x.2.2.1,(x.2.2.2.1,(x.2.2.2.2.1,(x.2.2.2.2.2.1,(x.2.2.2.2.2.2.1,(x.2.2.2.2.2.2.2.1,(x.2.2.2.2.2.2.2.2.1,(2,x.2.2.2.2.2.2.2.2.2.2))))))))))) (ok (x.2)))) λe=>cl (R.aX x.1 e) aX.g.o λv=>bd (α:=Bool) (br (!(v.1.2 == 0)) (ok true) (ok ((u.1 == 42)))) λl=>br l (ok v) (cl (R.aX v.2 (1,((-1),(([]:List bO.den),(([]:List bH.den),(([]:List UInt8),(0,(0,(zV,(0,(0,(0,(0,([]:List Int)))))))))))))) aX.g.o λy=>br (!(y.1.2 == 0)) (ok y) (cl (R.av [112,114,111,116,111,116,121,112,101]) av.g.o λm=>cl (R.bc y.2.2.2.2.2.1 v.1.1.2.2.2.2 m y.1.1) bc.g.o λf=>br d (cl (R.cN f.2 e.2.2.2.2.2.2.1 u.2.1 v.1.1 true) cN.g.o λn=>ok (((v.1.1,0),(y.2.1,(y.2.2.1,(y.2.2.2.1,(y.2.2.2.2.1,(n.2,y.2.2.2.2.2.2)))))))) (ok (((v.1.1,0),(y.2.1,(y.2.2.1,(y.2.2.2.1,(y.2.2.2.2.1,(f.2,y.2.2.2.2.2.2))))))))))) (λc=>ok (((c.2.2,c.1),c.2.1))))
abbrev cA.g:Sg:=⟨[.obj aJ,.i,.val true (.frz aM)],[(true,(.frz aC)),vi]⟩
def R.cA(w:aJ.den)(b:Int)(v:aM.den):Res ((aC.den×Int)×aJ.den) :=
 given (cA.g.i (w,(b,v))) (idx aE w.1 b λc=>bd (loop (α:=(Int×aJ.den)) (β:=(aJ.den ⊕ (Int×(aJ.den×aC.den)))) (λx=>br (ilt x.1 (c.2.2.2.2.2.length:Int)) (idx (.int .i64) c.2.2.2.2.2 x.1 λd=>idx aE x.2.1 d λz=>bd (α:=Bool) (br (z.1 == 5) (ok ((z.1 == 5))) (ok ((z.1 == 6)))) λe=>br e (bd (loop (α:=(Int×fK.den)) (β:=fK.den) (λu=>br (ilt u.1 (z.2.2.2.2.2.length:Int)) (idx (.int .i64) z.2.2.2.2.2 u.1 λf=>idx aE x.2.1 f λh=>cl (R.bE u.2 v.1 h.2.1 zV false (z.1 == 6)) bE.g.o λj=>ok (.next ((w6 (u.1+1),j.2)))) (ok (.done (u.2)))) fuel (0,x.2.2.2.2.2.1)) λk=>ok (.next ((w6 (x.1+1),(x.2.1,(x.2.2.1,(x.2.2.2.1,(x.2.2.2.2.1,(k,x.2.2.2.2.2.2))))))))) (br (z.1 == 19) (cl (R.cC x.2 d v) cC.g.o λy=>br (!(y.1.2 == 0)) (ok (.done (.inr (y.1.2,(y.2,y.1.1))))) (cl (R.bE y.2.2.2.2.2.1 v.1 z.2.1 y.1.1 true false) bE.g.o λl=>ok (.next ((w6 (x.1+1),(y.2.1,(y.2.2.1,(y.2.2.2.1,(y.2.2.2.2.1,(l.2,y.2.2.2.2.2.2)))))))))) (ok (.next ((w6 (x.1+1),x.2)))))) (ok (.done (.inl x.2)))) fuel (0,w)) λm=>sum m (λn=>ok (((zV,0),n))) (λa=>ok (((a.2.2,a.1),a.2.1))))
abbrev bu.g:Sg:=⟨[.obj aJ],[vb]⟩
def R.bu(x:aJ.den):Res (Bool×aJ.den) :=
 given (bu.g.i x) (br (ile x.2.1.2.1 x.2.2.2.2.2.1) (cl (R.cF x 5) cF.g.o λy=>ok ((false,y.2))) (br (ile x.2.1.2.2 x.2.2.2.2.2.2.1) (cl (R.cF x 6) cF.g.o λz=>ok ((false,z.2))) (ok ((true,(x.1,(x.2.1,(x.2.2.1,(x.2.2.2.1,(x.2.2.2.2.1,(w6 (x.2.2.2.2.2.1+1),(w6 (x.2.2.2.2.2.2.1+1),x.2.2.2.2.2.2.2))))))))))))
abbrev eV.g:Sg:=⟨[.i,.val true (.frz aC),.i],[(true,(.frz aR))]⟩
def R.eV(z:Int)(x:aC.den)(y:Int):Res (aR.den) :=
 given (eV.g.i (z,(x,y))) (br (!(y == 0)) (ok ((y,(([]:List UInt8),x)))) (ok ((z,(([]:List UInt8),x)))))
abbrev fJ.g:Sg:=⟨[.val true (.bor lG),.i],[(false,(.own .s))]⟩
def R.fJ(x:(List aE.den))(y:Int):Res ((List (List UInt8))) :=
 given (fJ.g.i (x,y)) (cl (R.fF x y) fF.g.o λz=>ok z)
abbrev iL.g:Sg:=⟨[.val true (.frz aR),.val false (.bor (.own .s))],[vb,(true,(.frz aR))]⟩
def R.iL(x:aR.den)(y:(List (List UInt8))):Res ((Bool×aR.den)) :=
 given (iL.g.i (x,y)) (br (x.1 == 0) (ok ((true,x))) (bd (α:=Bool) (br (x.1 == 1) (ok ((x.2.1 == ([]:List UInt8)))) (ok false)) λz=>br z (ok ((false,(0,(([]:List UInt8),zV))))) (bd (α:=Bool) (br (x.1 == 2) (br (x.2.1 == ([]:List UInt8)) (ok true) (bd (R.aS y x.2.1) λu=>ok u)) (ok false)) λv=>br v (ok ((true,(0,(([]:List UInt8),zV))))) (ok ((false,x))))))
abbrev eR.g:Sg:=⟨[.val false (.bor fK),.i],[(true,(.frz gu)),vb]⟩
def R.eR(x:gW.den)(y:Int):Res ((gu.den×Bool)) :=
 given (eR.g.i (x,y)) (bd (R.bB x y) λz=>br (!z) (ok (((0,(0,(([]:List bO.den),(([]:List bH.den),(([]:List UInt8),(0,(0,(zV,(0,(0,(0,(0,([]:List Int))))))))))))),false))) (cO kD x.2 y λu=>cl (R.gv u) gv.g.o λv=>ok ((v,true))))
abbrev cw.g:Sg:=⟨[.obj aJ,.val true (.frz aM)],[(true,(.frz aM)),vi]⟩
def R.cw(x:aJ.den)(y:aM.den):Res ((aM.den×Int)×aJ.den) :=
 given (cw.g.i (x,y)) (cl (R.eR x.2.2.2.2.1 y.1) eR.g.o λu=>cl (R.aX x (9,(0,(([]:List bO.den),(u.1.2.2.2.1,(([]:List UInt8),(0,(u.1.2.2.2.2.2.2.1,(zV,(0,(0,(0,(0,([]:List Int)))))))))))))) aX.g.o λz=>ok ((((z.1.1.2.2.2.2,y.2),z.1.2),z.2)))
abbrev cn.g:Sg:=⟨[.val true (.frz aI)],[(true,(.frz aC))]⟩
def R.cn(x:aI.den):Res (aC.den) :=
 given (cn.g.i x) (ok ((3,(x,((false,([]:List Int)),(([]:List Int),0))))))
abbrev ed.g:Sg:=⟨[.val true (.frz aj)],[(true,(.frz aC))]⟩
def R.ed(x:aj.den):Res (aC.den) :=
 given (ed.g.i x) (ok ((4,((0,0),(x,(([]:List Int),0))))))
abbrev cP.g:Sg:=⟨[.val false (.bor (.own .h))],[(true,(.frz aC))]⟩
def R.cP(x:(List Int)):Res (aC.den) :=
 given (cP.g.i x) (aZ (ile 0 (kF (x.length:Int) 4096) && ile (kF (x.length:Int) 4096) x.length) (bd (ok (List.take (Int.toNat (kF (x.length:Int) 4096)) (List.drop 0 x))) λy=>given (ma (.int .u16) y) (ok ((5,((0,0),((false,([]:List Int)),(y,0))))))))
abbrev dh.g:Sg:=⟨[.val false (.bor fK),.i,.s],[(true,(.frz bH)),vi,vb]⟩
def R.dh(y:gW.den)(v:Int)(w:(List UInt8)):Res ((bH.den×(Int×Bool))) :=
 given (dh.g.i (y,(v,w))) (bd (loop (α:=(Int×Int)) (β:=(Unit ⊕ (Int×(Bool×bH.den)))) (λx=>br (ilt x.2 (y.2.length:Int)) (bd (R.bB y x.1) λb=>br (!b) (ok (.done (.inl ()))) (cl (R.c7 y x.1 w) c7.g.o λa=>br (ile 0 a) (cO kD y.2 x.1 λc=>cO (.frz bH) c.2.2.2.1 a λz=>cl (R.ea z.2.1) ea.g.o λd=>ok (.done (.inr (x.1,(true,(z.1,(d,z.2.2))))))) (cO kD y.2 x.1 λe=>ok (.next ((e.2.2.2.2.2.2.1,w6 (x.2+1))))))) (ok (.done (.inl ())))) fuel (v,0)) λf=>sum f (λh=>ok (((([]:List UInt8),(zV,(false,false))),((-1),false)))) (λu=>ok ((u.2.2,(u.1,u.2.1)))))
abbrev cI.g:Sg:=⟨[.obj aJ,.s],[(true,(.frz aC)),vi]⟩
def R.cI(y:aJ.den)(z:(List UInt8)):Res ((aC.den×Int)×aJ.den) :=
 given (cI.g.i (y,z)) (cl (R.cP ([]:List Int)) cP.g.o λu=>cl (R.aX y (10,(0,(([]:List bO.den),(([]:List bH.den),(z,(0,(0,(u,(0,(0,(0,(0,([]:List Int)))))))))))))) aX.g.o λx=>br (!(x.1.2 == 0)) (ok x) (ok (((x.1.1,4),x.2))))
abbrev aF.g:Sg:=⟨[.obj aJ,.i],[(true,(.frz aC)),vi]⟩
def R.aF(x:aJ.den)(y:Int):Res ((aC.den×Int)×aJ.den) :=
 given (aF.g.i (x,y)) (br (y == 1) (cl (R.cI x [84,121,112,101,69,114,114,111,114]) cI.g.o λu=>ok u) (br (y == 2) (cl (R.cI x [82,97,110,103,101,69,114,114,111,114]) cI.g.o λv=>ok v) (br (y == 4) (cl (R.cI x [82,101,102,101,114,101,110,99,101,69,114,114,111,114]) cI.g.o λw=>ok w) (br (y == 5) (cl (R.cI x [83,121,110,116,97,120,69,114,114,111,114]) cI.g.o λa=>ok a) (cl (R.cF x 3) cF.g.o λz=>ok (((zV,z.1),z.2)))))))
abbrev gp.g:Sg:=⟨[],[(false,(.own .s))]⟩
def R.gp :Res ((List (List UInt8))) :=
 given (gp.g.i ()) (ok ([[79,98,106,101,99,116],[65,114,114,97,121],[78,117,109,98,101,114],[66,105,103,73,110,116],[83,116,114,105,110,103],[66,111,111,108,101,97,110],[69,114,114,111,114],[84,121,112,101,69,114,114,111,114],[82,97,110,103,101,69,114,114,111,114],[82,101,102,101,114,101,110,99,101,69,114,114,111,114],[83,121,110,116,97,120,69,114,114,111,114],[65,114,114,97,121,66,117,102,102,101,114],[83,104,97,114,101,100,65,114,114,97,121,66,117,102,102,101,114],[68,97,116,97,86,105,101,119],[73,110,116,56,65,114,114,97,121],[85,105,110,116,56,65,114,114,97,121],[73,110,116,49,54,65,114,114,97,121],[85,105,110,116,49,54,65,114,114,97,121],[73,110,116,51,50,65,114,114,97,121],[85,105,110,116,51,50,65,114,114,97,121],[66,105,103,73,110,116,54,52,65,114,114,97,121],[66,105,103,85,105,110,116,54,52,65,114,114,97,121],[65,116,111,109,105,99,115],[36,50,54,50]]))
abbrev gE.g:Sg:=⟨[.s],[(false,(.own .s))]⟩
def R.gE(x:(List UInt8)):Res ((List (List UInt8))) :=
 given (gE.g.i x) (br (x == [79,98,106,101,99,116]) (ok ([[107,101,121,115],[99,114,101,97,116,101]])) (br (x == [65,114,114,97,121]) (ok ([[105,115,65,114,114,97,121]])) (br (x == [65,116,111,109,105,99,115]) (ok ([[108,111,97,100],[115,116,111,114,101],[97,100,100],[97,110,100],[111,114],[115,117,98],[120,111,114],[101,120,99,104,97,110,103,101],[99,111,109,112,97,114,101,69,120,99,104,97,110,103,101],[105,115,76,111,99,107,70,114,101,101],[119,97,105,116],[110,111,116,105,102,121]])) (br (x == [36,50,54,50]) (ok ([[97,103,101,110,116]])) (br (x == [36,50,54,50,46,97,103,101,110,116]) (ok ([[115,116,97,114,116],[98,114,111,97,100,99,97,115,116],[114,101,99,101,105,118,101,66,114,111,97,100,99,97,115,116],[114,101,112,111,114,116],[103,101,116,82,101,112,111,114,116],[115,108,101,101,112],[109,111,110,111,116,111,110,105,99,78,111,119]])) (ok (([]:List (List UInt8)))))))))
abbrev fx.g:Sg:=⟨[],[(false,(.own .s))]⟩
def R.fx :Res ((List (List UInt8))) :=
 given (fx.g.i ()) (ok ([[73,110,116,56],[85,105,110,116,56],[73,110,116,49,54],[85,105,110,116,49,54],[73,110,116,51,50],[85,105,110,116,51,50],[66,105,103,73,110,116,54,52],[66,105,103,85,105,110,116,54,52]]))
abbrev dD.g:Sg:=⟨[],[(false,(.own .s))]⟩
def R.dD :Res ((List (List UInt8))) :=
 given (dD.g.i ()) (cl (R.gp) gp.g.o λe=>cl (R.gp) gp.g.o λw=>aZ (decide ((w.length+[[36,50,54,50,46,97,103,101,110,116]].length)*16<=2^47)) (bd (loop (α:=((List (List UInt8))×Int)) (β:=(List (List UInt8))) (λz=>br (ilt z.2 ((w++[[36,50,54,50,46,97,103,101,110,116]]).length:Int)) (aZ (ile 0 z.2 && ilt z.2 (w++[[36,50,54,50,46,97,103,101,110,116]]).length) (idx .str (w++[[36,50,54,50,46,97,103,101,110,116]]) (0+Int.toNat z.2) λv=>cl (R.gE v) gE.g.o λa=>bd (loop (α:=((List (List UInt8))×Int)) (β:=(List (List UInt8))) (λx=>br (ilt x.2 (a.length:Int)) (aZ (ile 0 x.2 && ilt x.2 a.length) (idx .str a (0+Int.toNat x.2) λb=>aZ (lJ (v.length+[46].length)) (aZ (lJ ((v++[46]).length+b.length)) (aZ (decide ((x.1.length+[((v++[46])++b)].length)*16<=2^47)) (ok (.next (((x.1++[((v++[46])++b)]),w6 (x.2+1))))))))) (ok (.done (x.1)))) fuel (z.1,0)) λf=>ok (.next ((f,w6 (z.2+1)))))) (ok (.done (z.1)))) fuel (e,0)) λd=>aZ (decide ((d.length+[[65,114,114,97,121,35,112,117,115,104],[65,114,114,97,121,35,112,111,112]].length)*16<=2^47)) (cl (R.fx) fx.g.o λc=>bd (loop (α:=((List (List UInt8))×Int)) (β:=(List (List UInt8))) (λy=>br (ilt y.2 (c.length:Int)) (aZ (ile 0 y.2 && ilt y.2 c.length) (idx .str c (0+Int.toNat y.2) λu=>aZ (lJ ([68,97,116,97,86,105,101,119,35,103,101,116].length+u.length)) (aZ (lJ ([68,97,116,97,86,105,101,119,35,115,101,116].length+u.length)) (aZ (decide ((y.1.length+[([68,97,116,97,86,105,101,119,35,103,101,116]++u),([68,97,116,97,86,105,101,119,35,115,101,116]++u)].length)*16<=2^47)) (ok (.next (((y.1++[([68,97,116,97,86,105,101,119,35,103,101,116]++u),([68,97,116,97,86,105,101,119,35,115,101,116]++u)]),w6 (y.2+1))))))))) (ok (.done (y.1)))) fuel ((d++[[65,114,114,97,121,35,112,117,115,104],[65,114,114,97,121,35,112,111,112]]),0)) λh=>ok h)))
abbrev dP.g:Sg:=⟨[.s],[(true,(.frz aC))]⟩
def R.dP(x:(List UInt8)):Res (aC.den) :=
 given (dP.g.i x) (cl (R.dD) dD.g.o λy=>cl (R.bt y x) bt.g.o λz=>ok ((6,((0,0),((false,([]:List Int)),(([]:List Int),w6 (4096+z)))))))
abbrev iX.g:Sg:=⟨[.s],[(true,(.frz aC)),vb]⟩
def R.iX(x:(List UInt8)):Res ((aC.den×Bool)) :=
 given (iX.g.i x) (br (x == [117,110,100,101,102,105,110,101,100]) (ok ((zV,true))) (br (x == [78,97,78]) (cl (R.cn (2,0)) cn.g.o λy=>ok ((y,true))) (br (x == [73,110,102,105,110,105,116,121]) (cl (R.cn (3,0)) cn.g.o λz=>ok ((z,true))) (cl (R.gp) gp.g.o λu=>bd (R.aS u x) λv=>br v (cl (R.dP x) dP.g.o λw=>ok ((w,true))) (ok ((zV,false)))))))
abbrev kh.g:Sg:=⟨[.s],[vb]⟩
def R.kh(x:(List UInt8)):Res (Bool) :=
 given (kh.g.i x) (bd (α:=Bool) (br (x == [103,108,111,98,97,108,84,104,105,115]) (ok ((x == [103,108,111,98,97,108,84,104,105,115]))) (br (x == [65,103,103,114,101,103,97,116,101,69,114,114,111,114]) (ok ((x == [65,103,103,114,101,103,97,116,101,69,114,114,111,114]))) (br (x == [68,97,116,101]) (ok ((x == [68,97,116,101]))) (br (x == [69,118,97,108,69,114,114,111,114]) (ok ((x == [69,118,97,108,69,114,114,111,114]))) (br (x == [70,105,110,97,108,105,122,97,116,105,111,110,82,101,103,105,115,116,114,121]) (ok ((x == [70,105,110,97,108,105,122,97,116,105,111,110,82,101,103,105,115,116,114,121]))) (br (x == [70,108,111,97,116,51,50,65,114,114,97,121]) (ok ((x == [70,108,111,97,116,51,50,65,114,114,97,121]))) (br (x == [70,108,111,97,116,54,52,65,114,114,97,121]) (ok ((x == [70,108,111,97,116,54,52,65,114,114,97,121]))) (br (x == [70,117,110,99,116,105,111,110]) (ok ((x == [70,117,110,99,116,105,111,110]))) (br (x == [73,116,101,114,97,116,111,114]) (ok ((x == [73,116,101,114,97,116,111,114]))) (br (x == [74,83,79,78]) (ok ((x == [74,83,79,78]))) (br (x == [77,97,112]) (ok ((x == [77,97,112]))) (br (x == [77,97,116,104]) (ok ((x == [77,97,116,104]))) (br (x == [80,114,111,109,105,115,101]) (ok ((x == [80,114,111,109,105,115,101]))) (br (x == [80,114,111,120,121]) (ok ((x == [80,114,111,120,121]))) (br (x == [82,101,102,108,101,99,116]) (ok ((x == [82,101,102,108,101,99,116]))) (br (x == [82,101,103,69,120,112]) (ok ((x == [82,101,103,69,120,112]))) (br (x == [83,101,116]) (ok ((x == [83,101,116]))) (br (x == [83,121,109,98,111,108]) (ok ((x == [83,121,109,98,111,108]))) (br (x == [85,82,73,69,114,114,111,114]) (ok ((x == [85,82,73,69,114,114,111,114]))) (br (x == [85,105,110,116,56,67,108,97,109,112,101,100,65,114,114,97,121]) (ok ((x == [85,105,110,116,56,67,108,97,109,112,101,100,65,114,114,97,121]))) (br (x == [87,101,97,107,77,97,112]) (ok ((x == [87,101,97,107,77,97,112]))) (br (x == [87,101,97,107,82,101,102]) (ok ((x == [87,101,97,107,82,101,102]))) (br (x == [87,101,97,107,83,101,116]) (ok ((x == [87,101,97,107,83,101,116]))) (br (x == [100,101,99,111,100,101,85,82,73]) (ok ((x == [100,101,99,111,100,101,85,82,73]))) (br (x == [100,101,99,111,100,101,85,82,73,67,111,109,112,111,110,101,110,116]) (ok ((x == [100,101,99,111,100,101,85,82,73,67,111,109,112,111,110,101,110,116]))) (br (x == [101,110,99,111,100,101,85,82,73]) (ok ((x == [101,110,99,111,100,101,85,82,73]))) (br (x == [101,110,99,111,100,101,85,82,73,67,111,109,112,111,110,101,110,116]) (ok ((x == [101,110,99,111,100,101,85,82,73,67,111,109,112,111,110,101,110,116]))) (br (x == [101,115,99,97,112,101]) (ok ((x == [101,115,99,97,112,101]))) (br (x == [105,115,70,105,110,105,116,101]) (ok ((x == [105,115,70,105,110,105,116,101]))) (br (x == [105,115,78,97,78]) (ok ((x == [105,115,78,97,78]))) (br (x == [112,97,114,115,101,70,108,111,97,116]) (ok ((x == [112,97,114,115,101,70,108,111,97,116]))) (br (x == [112,97,114,115,101,73,110,116]) (ok ((x == [112,97,114,115,101,73,110,116]))) (ok ((x == [117,110,101,115,99,97,112,101]))))))))))))))))))))))))))))))))))) λy=>br y (ok true) (ok false))
abbrev aL.g:Sg:=⟨[.obj aJ],[(true,(.frz aC)),vi]⟩
def R.aL(x:aJ.den):Res ((aC.den×Int)×aJ.den) :=
 given (aL.g.i x) (cl (R.cF x 3) cF.g.o λy=>ok (((zV,y.1),y.2)))
abbrev dB.g:Sg:=⟨[.obj aJ,.s,.val true (.bor (.seq .i (.seq (.seq .i (.seq (.frz aI) (.seq (.seq .b (.own .w)) (.seq (.own .h) .i)))) .b))),.b],[(true,(.frz aC)),vi]⟩
def R.dB(x:aJ.den)(y:(List UInt8))(u:aM.den)(v:Bool):Res ((aC.den×Int)×aJ.den) :=
 given (dB.g.i (x,(y,(u,v)))) (cl (R.dh x.2.2.2.2.1 u.1 y) dh.g.o λz=>bd (α:=Bool) (br z.2.2 (ok ((!z.1.2.2.1))) (ok false)) λa=>br a (cl (R.aF x 4) aF.g.o λb=>ok b) (br z.2.2 (ok (((z.1.2.1,0),x))) (cl (R.iX y) iX.g.o λw=>br w.2 (ok (((w.1,0),x))) (bd (R.kh y) λc=>br c (cl (R.aL x) aL.g.o λd=>ok d) (br v (ok (((zV,0),x))) (cl (R.aF x 4) aF.g.o λe=>ok e))))))
abbrev da.g:Sg:=⟨[.obj aJ,.s,.val true (.bor (.seq .i (.seq (.seq .i (.seq (.frz aI) (.seq (.seq .b (.own .w)) (.seq (.own .h) .i)))) .b)))],[(true,(.frz aC)),vi]⟩
def R.da(x:aJ.den)(y:(List UInt8))(z:aM.den):Res ((aC.den×Int)×aJ.den) :=
 given (da.g.i (x,(y,z))) (cl (R.dB x y z false) dB.g.o λu=>ok u)
abbrev bP.g:Sg:=⟨[.b],[(true,(.frz aC))]⟩
def R.bP(x:Bool):Res (aC.den) :=
 given (bP.g.i x) (br x (ok ((2,((0,0),((false,([]:List Int)),(([]:List Int),1)))))) (ok ((2,((0,0),((false,([]:List Int)),(([]:List Int),0)))))))
abbrev ij.g:Sg:=⟨[.val true (.bor (.seq .i (.seq (.frz aI) (.seq (.seq .b (.own .w)) (.seq (.own .h) .i)))))],[vb]⟩
def R.ij(x:aC.den):Res (Bool) :=
 given (ij.g.i x) (br ((x.2.1.1 == 0) && ((x.2.1.2 == 0) && true)) (br (!x.2.2.1.1) (br ((x.2.2.1.2.length:Int) == 0) (br ((x.2.2.2.1.length:Int) == 0) (ok ((x.2.2.2.2 == 0))) (ok false)) (ok false)) (ok false)) (ok false))
abbrev mR.g:Sg:=⟨[.val true (.bor (.seq .i (.seq (.frz aI) (.seq (.seq .b (.own .w)) (.seq (.own .h) .i)))))],[vb]⟩
def R.mR(x:aC.den):Res (Bool) :=
 given (mR.g.i x) (bd (α:=Bool) (br (x.1 == 0) (ok ((x.1 == 0))) (ok ((x.1 == 1)))) λy=>br y (bd (R.ij x) λz=>ok z) (br (x.1 == 2) (bd (R.ij (x.1,(x.2.1,(x.2.2.1,(x.2.2.2.1,0))))) λu=>br u (br (x.2.2.2.2 == 0) (ok true) (ok ((x.2.2.2.2 == 1)))) (ok false)) (br (x.1 == 3) (bd (R.ij (x.1,((0,0),x.2.2))) λv=>br v (bd (R.lT x.2.1) λw=>ok w) (ok false)) (br (x.1 == 4) (bd (R.ij (x.1,(x.2.1,((false,([]:List Int)),x.2.2.2)))) λa=>br a (bd (R.lQ x.2.2.1) λb=>ok b) (ok false)) (br (x.1 == 5) (bd (R.ij (x.1,(x.2.1,(x.2.2.1,(([]:List Int),x.2.2.2.2))))) λc=>br c (ok ((ile (x.2.2.2.1.length:Int) 4096))) (ok false)) (br (x.1 == 6) (bd (R.ij (x.1,(x.2.1,(x.2.2.1,(x.2.2.2.1,0))))) λd=>br d (ok ((ile 0 x.2.2.2.2))) (ok false)) (ok false)))))))
abbrev cM.g:Sg:=⟨[.val true (.frz aC)],[(true,(.frz aC))]⟩
def R.cM(x:aC.den):Res (aC.den) :=
 given (cM.g.i x) (bd (R.mR x) λy=>br (!y) (ok zV) (ok x))
abbrev gD.g:Sg:=⟨[.val true (.frz aI)],[vb]⟩
def R.gD(x:aI.den):Res (Bool) :=
 given (gD.g.i x) (ok ((x.1 == 2)))
abbrev iP.g:Sg:=⟨[.val true (.frz aI)],[vi]⟩
def R.iP(x:aI.den):Res (Int) :=
 given (iP.g.i x) (br (x.1 == 3) (ok 9007199254740992) (br (x.1 == 4) (ok ((-9007199254740992))) (ok (x.2))))
abbrev jn.g:Sg:=⟨[.val true (.frz aI),.val true (.frz aI)],[vb]⟩
def R.jn(x:aI.den)(y:aI.den):Res (Bool) :=
 given (jn.g.i (x,y)) (cl (R.ev x) ev.g.o λz=>cl (R.ev y) ev.g.o λu=>bd (R.gD z) λv=>br (!v) (bd (R.gD u) λw=>br (!w) (cl (R.iP z) iP.g.o λa=>cl (R.iP u) iP.g.o λb=>ok ((a == b))) (ok false)) (ok false))
abbrev iM.g:Sg:=⟨[.val true (.frz aC)],[vb]⟩
def R.iM(y:aC.den):Res (Bool) :=
 given (iM.g.i y) (cl (R.cM y) cM.g.o λx=>br (x.1 == 2) (ok ((x.2.2.2.2 == 1))) (br (x.1 == 3) (br (!(x.2.1.1 == 2)) (bd (R.jn x.2.1 (0,0)) λz=>ok ((!z))) (ok false)) (br (x.1 == 4) (ok ((ilt 0 (x.2.2.1.2.length:Int)))) (br (x.1 == 5) (ok ((ilt 0 (x.2.2.2.1.length:Int)))) (ok ((x.1 == 6)))))))
abbrev gM.g:Sg:=⟨[.i],[(false,(.own .h))]⟩
def R.gM(x:Int):Res ((List Int)) :=
 given (gM.g.i x) (cl (rn x) rh.g.o λy=>cl (R.av y) av.g.o λz=>ok z)
abbrev cH.g:Sg:=⟨[.val true (.frz aC)],[(true,(.frz aI)),vi]⟩
def R.cH(y:aC.den):Res ((aI.den×Int)) :=
 given (cH.g.i y) (cl (R.cM y) cM.g.o λx=>br (x.1 == 0) (ok (((2,0),0))) (bd (α:=Bool) (br (x.1 == 1) (ok ((x.1 == 1))) (ok ((x.1 == 2)))) λu=>br u (ok (((0,x.2.2.2.2),0))) (br (x.1 == 3) (ok ((x.2.1,0))) (br (x.1 == 4) (ok (((0,0),1))) (br (x.1 == 5) (cl (R.gd x.2.2.2.1) gd.g.o λz=>br z.2 (ok ((z.1,0))) (ok (((0,0),3)))) (ok (((0,0),3))))))))
abbrev lC.g:Sg:=⟨[.val true (.bor (.seq .b (.own .w)))],[(true,(.frz aj))]⟩
def R.lC(x:aj.den):Res (aj.den) :=
 given (lC.g.i x) (bd (ok x.2) λy=>given (ma (.int .u32) y) (ok ((x.1,y))))
abbrev cV.g:Sg:=⟨[.val true (.frz aC)],[(true,(.frz aC)),vi]⟩
def R.cV(z:aC.den):Res ((aC.den×Int)) :=
 given (cV.g.i z) (cl (R.cM z) cM.g.o λx=>br (x.1 == 4) (cl (R.lC x.2.2.1) lC.g.o λu=>cl (R.ed u) ed.g.o λv=>ok ((v,0))) (cl (R.cH x) cH.g.o λy=>br (!(y.2 == 0)) (ok ((zV,y.2))) (cl (R.cn y.1) cn.g.o λw=>ok ((w,0)))))
abbrev dV.g:Sg:=⟨[.val true (.bor (.seq .b (.own .w)))],[(false,(.own .w))]⟩
def R.dV(x:aj.den):Res ((List Int)) :=
 given (dV.g.i x) (bd (R.lQ x) λz=>br (!z) (ok (([]:List Int))) (bd (ok x.2) λy=>given (ma (.int .u32) y) (ok y)))
abbrev iK.g:Sg:=⟨[.val true (.bor (.seq .b (.own .w)))],[vb]⟩
def R.iK(x:aj.den):Res (Bool) :=
 given (iK.g.i x) (bd (R.lQ x) λy=>br y (ok (x.1)) (ok false))
abbrev fg.g:Sg:=⟨[.val false (.frz (.list (.int .u32)))],[(false,(.frz (.list (.int .u32))))]⟩
def R.fg(y:(List Int)):Res ((List Int)) :=
 given (fg.g.i y) (bd (loop (α:=(List Int)) (β:=(List Int)) (λx=>bd (α:=Bool) (br (ilt 0 (x.length:Int)) (idx (.int .u32) x (w6 ((x.length:Int)-1)) λz=>ok ((z == 0))) (ok false)) λu=>br u (aZ (ile 0 (w6 ((x.length:Int)-1)) && ile (w6 ((x.length:Int)-1)) x.length) (ok (.next ((List.take (Int.toNat (w6 ((x.length:Int)-1))) x))))) (ok (.done (x)))) fuel y) λv=>ok v)
end Go.Mach
end

set_option linter.unusedVariables false
set_option maxRecDepth 20000
noncomputable section
namespace Go.Mach
open Res
abbrev ec.g:Sg:=⟨[.val false (.own .w)],[(false,(.own .w))]⟩
def R.ec(y:(List Int)):Res ((List Int)) :=
 given (ec.g.i y) (bd (loop (α:=(List Int)) (β:=(List Int)) (λx=>bd (α:=Bool) (br (ilt 0 (x.length:Int)) (aZ (ile 0 (w6 ((x.length:Int)-1)) && ilt (w6 ((x.length:Int)-1)) x.length) (idx (.int .u32) x (0+Int.toNat (w6 ((x.length:Int)-1))) λz=>ok ((z == 0)))) (ok false)) λu=>br u (aZ (ile 0 (w6 ((x.length:Int)-1)) && ile (w6 ((x.length:Int)-1)) x.length) (ok (.next ((List.take (Int.toNat (w6 ((x.length:Int)-1))) (List.drop 0 x)))))) (ok (.done (x)))) fuel y) λv=>ok v)
abbrev fI.g:Sg:=⟨[.val false (.frz (.list (.int .u32))),.b],[(true,(.frz aj))]⟩
def R.fI(x:(List Int))(y:Bool):Res (aj.den) :=
 given (fI.g.i (x,y)) (cl (R.fg x) fg.g.o λz=>br ((z.length:Int) == 0) (ok ((false,([]:List Int)))) (ok ((y,z))))
abbrev lW.g:Sg:=⟨[.val true (.bor (.seq .b (.own .w)))],[(true,(.frz aj))]⟩
def R.lW(x:aj.den):Res (aj.den) :=
 given (lW.g.i x) (cl (R.dV x) dV.g.o λy=>bd (R.iK x) λz=>cl (R.fI y (!z)) fI.g.o λu=>ok u)
abbrev gm.g:Sg:=⟨[.val true (.frz aI)],[vi]⟩
def R.gm(x:aI.den):Res (Int) :=
 given (gm.g.i x) (cl (R.ev x) ev.g.o λy=>br (!(y.1 == 0)) (ok 0) (ok (w6 (IntKind.wrap .u32 y.2))))
abbrev js.g:Sg:=⟨[.val true (.frz aI)],[vi]⟩
def R.js(x:aI.den):Res (Int) :=
 given (js.g.i x) (cl (R.gm x) gm.g.o λy=>ok (w6 (IntKind.wrap .i32 (IntKind.wrap .u32 y))))
abbrev mN.g:Sg:=⟨[.i,.val true (.frz aI),.val true (.frz aI)],[(true,(.frz aI))]⟩
def R.mN(x:Int)(u:aI.den)(v:aI.den):Res (aI.den) :=
 given (mN.g.i (x,(u,v))) (cl (R.js u) js.g.o λz=>cl (R.js v) js.g.o λw=>cl (R.gm v) gm.g.o λy=>aZ (!(32 == 0)) (br (x == 1) (cl (R.cj (fM .and .i64 z w)) cj.g.o λa=>ok a) (br (x == 2) (cl (R.cj (fM .or .i64 z w)) cj.g.o λb=>ok b) (br (x == 3) (cl (R.cj (fM .xor .i64 z w)) cj.g.o λc=>ok c) (br (x == 4) (aZ (ile 0 (Int.tmod y 32)) (cl (R.cj (w6 (IntKind.wrap .i32 (pY .u32 (IntKind.wrap .u32 z) (Int.tmod y 32))))) cj.g.o λd=>ok d)) (br (x == 5) (aZ (ile 0 (Int.tmod y 32)) (cl (R.cj (iI .i64 z (Int.tmod y 32))) cj.g.o λe=>ok e)) (br (x == 6) (cl (R.gm u) gm.g.o λf=>aZ (ile 0 (Int.tmod y 32)) (cl (R.cj (iI .i64 f (Int.tmod y 32))) cj.g.o λh=>ok h)) (cl (R.fY) fY.g.o λj=>ok j))))))))
abbrev ji.g:Sg:=⟨[.s,.val true (.frz aC)],[(true,(.frz aC)),vi]⟩
def R.ji(x:(List UInt8))(z:aC.den):Res ((aC.den×Int)) :=
 given (ji.g.i (x,z)) (br (x == [33]) (bd (R.iM z) λv=>cl (R.bP (!v)) bP.g.o λw=>ok ((w,0))) (br (x == [118,111,105,100]) (ok ((zV,0))) (br (x == [43]) (cl (R.cH z) cH.g.o λu=>br (!(u.2 == 0)) (ok ((zV,u.2))) (cl (R.cn u.1) cn.g.o λa=>ok ((a,0)))) (bd (α:=Bool) (br (x == [45]) (ok ((x == [45]))) (ok ((x == [126])))) λb=>br b (cl (R.cV z) cV.g.o λy=>br (!(y.2 == 0)) (ok ((zV,y.2))) (bd (α:=Bool) (br (x == [45]) (ok ((y.1.1 == 4))) (ok false)) λc=>br c (cl (R.lW y.1.2.2.1) lW.g.o λd=>cl (R.ed d) ed.g.o λe=>ok ((e,0))) (br (x == [45]) (cl (R.lU y.1.2.1) lU.g.o λf=>cl (R.cn f) cn.g.o λh=>ok ((h,0))) (br (y.1.1 == 4) (ok ((zV,3))) (cl (R.mN 3 y.1.2.1 (0,(-1))) mN.g.o λj=>cl (R.cn j) cn.g.o λk=>ok ((k,0))))))) (ok ((zV,3)))))))
abbrev bj.g:Sg:=⟨[.obj aJ,.val true (.frz aC),.i],[(true,(.frz aC)),vi]⟩
def R.bj(x:aJ.den)(z:aC.den)(y:Int):Res ((aC.den×Int)×aJ.den) :=
 given (bj.g.i (x,(z,y))) (br (!(y == 0)) (cl (R.aF x y) aF.g.o λu=>ok u) (ok (((z,0),x))))
abbrev bC.g:Sg:=⟨[.val false (.bor fK),.i],[vi]⟩
def R.bC(x:gW.den)(y:Int):Res (Int) :=
 given (bC.g.i (x,y)) (bd (R.bB x y) λz=>br (!z) (ok 0) (cO kD x.2 y λu=>ok (u.1)))
abbrev fl.g:Sg:=⟨[.i],[vs]⟩
def R.fl(x:Int):Res ((List UInt8)) :=
 given (fl.g.i x) (cl (R.dD) dD.g.o λy=>bd (α:=Bool) (br (ilt x 4096) (ok true) (ok ((ile (w6 (4096+(y.length:Int))) x)))) λz=>br z (ok (([]:List UInt8))) (aZ (ile 0 (w6 (x-4096)) && ilt (w6 (x-4096)) y.length) (idx .str y (0+Int.toNat (w6 (x-4096))) λu=>ok u)))
abbrev gB.g:Sg:=⟨[.s],[vb]⟩
def R.gB(x:(List UInt8)):Res (Bool) :=
 given (gB.g.i x) (br (!(x == ([]:List UInt8))) (br (!(x == [65,116,111,109,105,99,115])) (br (!(x == [36,50,54,50])) (ok ((!(x == [36,50,54,50,46,97,103,101,110,116])))) (ok false)) (ok false)) (ok false))
abbrev er.g:Sg:=⟨[.val false (.bor aJ),.val true (.bor (.seq .i (.seq (.frz aI) (.seq (.seq .b (.own .w)) (.seq (.own .h) .i)))))],[vs]⟩
def R.er(y:((List aE.den)×(eJ.den×((List eU.den)×(Int×(gW.den×(Int×(Int×(fT.den×iY.den)))))))))(x:aC.den):Res ((List UInt8)) :=
 given (er.g.i (y,x)) (br (x.1 == 0) (ok ([117,110,100,101,102,105,110,101,100])) (br (x.1 == 2) (ok ([98,111,111,108,101,97,110])) (br (x.1 == 3) (ok ([110,117,109,98,101,114])) (br (x.1 == 4) (ok ([98,105,103,105,110,116])) (br (x.1 == 5) (ok ([115,116,114,105,110,103])) (br (x.1 == 6) (bd (α:=Bool) (cl (R.bC y.2.2.2.2.1 x.2.2.2.2) bC.g.o λz=>br (z == 3) (ok true) (cl (R.fl x.2.2.2.2) fl.g.o λu=>bd (R.gB u) λv=>ok v)) λw=>br w (ok ([102,117,110,99,116,105,111,110])) (ok ([111,98,106,101,99,116]))) (ok ([111,98,106,101,99,116]))))))))
abbrev kH.g:Sg:=⟨[.val true (.bor (.seq .i (.seq (.frz aI) (.seq (.seq .b (.own .w)) (.seq (.own .h) .i)))))],[vb]⟩
def R.kH(x:aC.den):Res (Bool) :=
 given (kH.g.i x) (br (x.1 == 0) (ok true) (ok ((x.1 == 1))))
abbrev ly.g:Sg:=⟨[.val true (.frz aI)],[vs]⟩
def R.ly(y:aI.den):Res ((List UInt8)) :=
 given (ly.g.i y) (cl (R.ev y) ev.g.o λx=>br (x.1 == 2) (ok ([78,97,78])) (br (x.1 == 3) (ok ([73,110,102,105,110,105,116,121])) (br (x.1 == 4) (ok ([45,73,110,102,105,110,105,116,121])) (cl (rn x.2) rh.g.o λz=>ok z))))
abbrev b9.g:Sg:=⟨[.obj (.own .y)],[]⟩
def R.b9(y:(List Int)):Res (Unit×(List Int)) :=
 given (b9.g.i y) (bd (loop (α:=(Int×(Int×(List Int)))) (β:=(List Int)) (λx=>br (ilt x.1 x.2.1) (aZ (ile 0 x.2.1 && ilt x.2.1 x.2.2.length) (idx (.int .u8) x.2.2 (0+Int.toNat x.2.1) λz=>aZ (ile 0 x.1 && ilt x.1 x.2.2.length) (idx (.int .u8) x.2.2 (0+Int.toNat x.1) λu=>aZ (ile 0 x.1 && ilt x.1 x.2.2.length) (idx (.int .u8) x.2.2 (0+Int.toNat x.1) λw=>aZ (ile 0 x.2.1 && ilt x.2.1 (List.set x.2.2 (0+Int.toNat x.1) z).length) (idx (.int .u8) (List.set x.2.2 (0+Int.toNat x.1) z) (0+Int.toNat x.2.1) λa=>ok (.next ((w6 (x.1+1),(w6 (x.2.1-1),(List.set (List.set x.2.2 (0+Int.toNat x.1) z) (0+Int.toNat x.2.1) u)))))))))) (ok (.done (x.2.2)))) fuel (0,(w6 ((y.length:Int)-1),y))) λv=>ok (((),v)))
abbrev kz.g:Sg:=⟨[.val true (.bor (.seq .b (.own .w)))],[vs]⟩
def R.kz(z:aj.den):Res ((List UInt8)) :=
 given (kz.g.i z) (cl (R.dV z) dV.g.o λw=>br ((w.length:Int) == 0) (ok ([48])) (bd (loop (α:=((List Int)×(List Int))) (β:=(List Int)) (λy=>br (ilt 0 (y.1.length:Int)) (bd (loop (α:=(Int×(Int×(List Int)))) (β:=(Int×(List Int))) (λx=>br (ile 0 x.2.1) (aZ (ile 0 32) (aZ (ile 0 x.2.1 && ilt x.2.1 x.2.2.length) (idx (.int .u32) x.2.2 (0+Int.toNat x.2.1) λa=>aZ (!(10 == 0)) (aZ (ile 0 x.2.1 && ilt x.2.1 x.2.2.length) (idx (.int .u32) x.2.2 (0+Int.toNat x.2.1) λf=>aZ (!(10 == 0)) (ok (.next ((Int.tmod (fM .or .u64 (pY .u64 x.1 32) (IntKind.wrap .u64 a)) 10,(w6 (x.2.1-1),(List.set x.2.2 (0+Int.toNat x.2.1) (IntKind.wrap .u32 (IntKind.wrap .u64 (Int.tdiv (fM .or .u64 (pY .u64 x.1 32) (IntKind.wrap .u64 a)) 10)))))))))))))) (ok (.done ((x.1,x.2.2))))) fuel (0,(w6 ((y.1.length:Int)-1),y.1))) λu=>aZ (decide ((y.2.length+[IntKind.wrap .u8 (IntKind.wrap .u64 (48+u.1))].length)*1<=2^47)) (cl (R.ec u.2) ec.g.o λb=>ok (.next ((b,(y.2++[IntKind.wrap .u8 (IntKind.wrap .u64 (48+u.1))])))))) (ok (.done (y.2)))) fuel (w,([]:List Int))) λv=>bd (R.iK z) λc=>br c (aZ (decide ((v.length+[45].length)*1<=2^47)) (cl (R.b9 (v++[45])) b9.g.o λd=>ok (sL d.2))) (cl (R.b9 v) b9.g.o λe=>ok (sL e.2))))
abbrev cz.g:Sg:=⟨[.val true (.frz aC)],[(false,(.own .h)),vi]⟩
def R.cz(y:aC.den):Res (((List Int)×Int)) :=
 given (cz.g.i y) (cl (R.cM y) cM.g.o λx=>br (x.1 == 0) (cl (R.av [117,110,100,101,102,105,110,101,100]) av.g.o λu=>ok ((u,0))) (br (x.1 == 1) (cl (R.av [110,117,108,108]) av.g.o λv=>ok ((v,0))) (br (x.1 == 2) (br (x.2.2.2.2 == 1) (cl (R.av [116,114,117,101]) av.g.o λw=>ok ((w,0))) (cl (R.av [102,97,108,115,101]) av.g.o λa=>ok ((a,0)))) (br (x.1 == 3) (cl (R.ly x.2.1) ly.g.o λb=>cl (R.av b) av.g.o λc=>ok ((c,0))) (br (x.1 == 4) (cl (R.kz x.2.2.1) kz.g.o λd=>cl (R.av d) av.g.o λe=>ok ((e,0))) (br (x.1 == 5) (bd (ok x.2.2.2.1) λz=>given (ma (.int .u16) z) (ok ((z,0)))) (ok ((([]:List Int),3)))))))))
abbrev cG.g:Sg:=⟨[.i],[(true,(.frz aC))]⟩
def R.cG(x:Int):Res (aC.den) :=
 given (cG.g.i x) (cl (R.cn (0,x)) cn.g.o λy=>ok y)
abbrev eH.g:Sg:=⟨[.val false (.bor (.own .h))],[vi,vb]⟩
def R.eH(x:(List Int)):Res ((Int×Bool)) :=
 given (eH.g.i x) (bd (α:=Bool) (br ((x.length:Int) == 0) (ok true) (br (ilt 10 (x.length:Int)) (ok true) (cO .h x 0 λv=>br (v == 48) (ok ((ilt 1 (x.length:Int)))) (ok false)))) λw=>br w (ok ((0,false))) (bd (loop (α:=(Int×Int)) (β:=(Int ⊕ (Int×Bool))) (λy=>br (ilt y.2 (x.length:Int)) (cO .h x y.2 λz=>bd (R.gJ z) λa=>br (!a) (ok (.done (.inr (0,false)))) (ok (.next ((w6 ((w6 (10*y.1))+(w6 (IntKind.wrap .u16 (z-48)))),w6 (y.2+1)))))) (ok (.done (.inl y.1)))) fuel (0,0)) λb=>sum b (λu=>br (ilt 4294967294 u) (ok ((0,false))) (ok ((u,true)))) (λc=>ok c)))
abbrev eN.g:Sg:=⟨[.obj aJ,.val false (.bor (.own .h)),.val false (.bor (.own .h))],[(true,(.frz aC)),vi]⟩
def R.eN(y:aJ.den)(z:(List Int))(u:(List Int)):Res ((aC.den×Int)×aJ.den) :=
 given (eN.g.i (y,(z,u))) (cl (R.av [108,101,110,103,116,104]) av.g.o λv=>bd (R.jL u v) λw=>br w (cl (R.cG (z.length:Int)) cG.g.o λa=>ok (((a,0),y))) (cl (R.eH u) eH.g.o λx=>br (!x.2) (cl (R.aL y) aL.g.o λb=>ok b) (br (ile (z.length:Int) x.1) (ok (((zV,0),y))) (aZ (ile 0 x.1 && (ile x.1 (w6 (x.1+1)) && ile (w6 (x.1+1)) z.length)) (cl (R.cP (List.take ((Int.toNat (w6 (x.1+1)))-(Int.toNat x.1)) (List.drop (0+(Int.toNat x.1)) z))) cP.g.o λc=>ok (((c,0),y)))))))
abbrev al.g:Sg:=⟨[.val false (.bor fK),.i],[(true,iJ),vb]⟩
def R.al(y:gW.den)(z:Int):Res ((iJ.den×Bool)) :=
 given (al.g.i (y,z)) (bd (R.bB y z) λu=>br (!u) (ok (((0,(0,((),((),(([]:List UInt8),(0,(0,(zV,(0,(0,(0,(0,())))))))))))),false))) (cO kD y.2 z λx=>ok (((x.1,(x.2.1,((),((),(x.2.2.2.2.1,(x.2.2.2.2.2.1,(x.2.2.2.2.2.2.1,(x.2.2.2.2.2.2.2.1,(x.2.2.2.2.2.2.2.2.1,(x.2.2.2.2.2.2.2.2.2.1,(x.2.2.2.2.2.2.2.2.2.2.1,(x.2.2.2.2.2.2.2.2.2.2.2.1,())))))))))))),true))))
abbrev cW.g:Sg:=⟨[.val false (.bor fK),.i,.val false (.bor (.own .h))],[(true,(.frz aC)),vb]⟩
def R.cW(x:gW.den)(y:Int)(z:(List Int)):Res ((aC.den×Bool)) :=
 given (cW.g.i (x,(y,z))) (bd (R.bB x y) λv=>br (!v) (ok ((zV,false))) (cl (R.dI x y z) dI.g.o λu=>br (ilt u 0) (ok ((zV,false))) (cO kD x.2 y λw=>cO (.frz bO) w.2.2.1 u λa=>cl (R.ea a.2) ea.g.o λb=>ok ((b,true)))))
abbrev dm.g:Sg:=⟨[.val false (.bor fK),.i,.val false (.bor (.own .h))],[(true,(.frz aC)),vi,vb]⟩
def R.dm(x:gW.den)(v:Int)(w:(List Int)):Res ((aC.den×(Int×Bool))) :=
 given (dm.g.i (x,(v,w))) (bd (loop (α:=(Int×Int)) (β:=(Unit ⊕ (Int×(Bool×aC.den)))) (λy=>br (ilt y.2 (x.2.length:Int)) (cl (R.cW x y.1 w) cW.g.o λa=>br a.2 (ok (.done (.inr (0,(true,a.1))))) (bd (R.bB x y.1) λb=>br (!b) (ok (.done (.inr ((-2),(false,zV))))) (cO kD x.2 y.1 λz=>br (ilt z.2.1 0) (ok (.done (.inr (z.2.1,(false,zV))))) (ok (.next ((z.2.1,w6 (y.2+1)))))))) (ok (.done (.inl ())))) fuel (v,0)) λc=>sum c (λd=>ok ((zV,((-2),false)))) (λu=>ok ((u.2.2,(u.1,u.2.1)))))
abbrev iG.g:Sg:=⟨[.s],[vb]⟩
def R.iG(x:(List UInt8)):Res (Bool) :=
 given (iG.g.i x) (bd (α:=Bool) (br (x == [99,111,110,115,116,114,117,99,116,111,114]) (ok ((x == [99,111,110,115,116,114,117,99,116,111,114]))) (br (x == [95,95,100,101,102,105,110,101,71,101,116,116,101,114,95,95]) (ok ((x == [95,95,100,101,102,105,110,101,71,101,116,116,101,114,95,95]))) (br (x == [95,95,100,101,102,105,110,101,83,101,116,116,101,114,95,95]) (ok ((x == [95,95,100,101,102,105,110,101,83,101,116,116,101,114,95,95]))) (br (x == [104,97,115,79,119,110,80,114,111,112,101,114,116,121]) (ok ((x == [104,97,115,79,119,110,80,114,111,112,101,114,116,121]))) (br (x == [95,95,108,111,111,107,117,112,71,101,116,116,101,114,95,95]) (ok ((x == [95,95,108,111,111,107,117,112,71,101,116,116,101,114,95,95]))) (br (x == [95,95,108,111,111,107,117,112,83,101,116,116,101,114,95,95]) (ok ((x == [95,95,108,111,111,107,117,112,83,101,116,116,101,114,95,95]))) (br (x == [105,115,80,114,111,116,111,116,121,112,101,79,102]) (ok ((x == [105,115,80,114,111,116,111,116,121,112,101,79,102]))) (br (x == [112,114,111,112,101,114,116,121,73,115,69,110,117,109,101,114,97,98,108,101]) (ok ((x == [112,114,111,112,101,114,116,121,73,115,69,110,117,109,101,114,97,98,108,101]))) (br (x == [116,111,83,116,114,105,110,103]) (ok ((x == [116,111,83,116,114,105,110,103]))) (br (x == [118,97,108,117,101,79,102]) (ok ((x == [118,97,108,117,101,79,102]))) (br (x == [95,95,112,114,111,116,111,95,95]) (ok ((x == [95,95,112,114,111,116,111,95,95]))) (ok ((x == [116,111,76,111,99,97,108,101,83,116,114,105,110,103])))))))))))))) λy=>br y (ok true) (ok false))
abbrev bW.g:Sg:=⟨[.val false (.bor fK),.i],[vi]⟩
def R.bW(x:gW.den)(y:Int):Res (Int) :=
 given (bW.g.i (x,y)) (bd (R.bB x y) λz=>br (!z) (ok 0) (cO kD x.2 y λu=>ok ((u.2.2.1.length:Int))))
abbrev eL.g:Sg:=⟨[.obj aJ,.i,.s,.val false (.bor (.own .h)),.b],[(true,(.frz aC)),vi]⟩
def R.eL(x:aJ.den)(z:Int)(y:(List UInt8))(u:(List Int))(v:Bool):Res ((aC.den×Int)×aJ.den) :=
 given (eL.g.i (x,(z,(y,(u,v))))) (br v (cl (R.cW x.2.2.2.2.1 z u) cW.g.o λw=>ok (((w.1,0),x))) (br (y == [108,101,110,103,116,104]) (cl (R.bW x.2.2.2.2.1 z) bW.g.o λa=>cl (R.cG a) cG.g.o λb=>ok (((b,0),x))) (bd (α:=Bool) (br (y == [112,117,115,104]) (ok true) (ok ((y == [112,111,112])))) λc=>br c (aZ (lJ ([65,114,114,97,121,35].length+y.length)) (cl (R.dP ([65,114,114,97,121,35]++y)) dP.g.o λd=>ok (((d,0),x)))) (cl (R.aL x) aL.g.o λe=>ok e))))
abbrev cx.g:Sg:=⟨[.val false (.bor aJ),.i],[vi]⟩
def R.cx(x:((List aE.den)×(eJ.den×((List eU.den)×(Int×(gW.den×(Int×(Int×(fT.den×iY.den)))))))))(y:Int):Res (Int) :=
 given (cx.g.i (x,y)) (bd (R.bB x.2.2.2.2.1 y) λu=>br (!u) (br (0 == 6) (ok 0) (ok 0)) (cO kD x.2.2.2.2.1.2 y λz=>br (z.1 == 6) (ok (z.2.2.2.2.2.2.2.2.2.2.2.1)) (ok ((z.2.2.2.2.2.2.2.2.2.2.2.2.length:Int)))))
abbrev cD.g:Sg:=⟨[.i],[vi]⟩
def R.cD(x:Int):Res (Int) :=
 given (cD.g.i x) (bd (α:=Bool) (br (x == 1) (ok ((x == 1))) (ok ((x == 2)))) λy=>br y (ok 1) (bd (α:=Bool) (br (x == 3) (ok ((x == 3))) (ok ((x == 4)))) λz=>br z (ok 2) (bd (α:=Bool) (br (x == 5) (ok ((x == 5))) (ok ((x == 6)))) λu=>br u (ok 4) (bd (α:=Bool) (br (x == 7) (ok ((x == 7))) (ok ((x == 8)))) λv=>br v (ok 8) (ok 0)))))
abbrev fU.g:Sg:=⟨[.i],[vb]⟩
def R.fU(x:Int):Res (Bool) :=
 given (fU.g.i x) (br (x == 7) (ok true) (ok ((x == 8))))
abbrev cL.g:Sg:=⟨[.i],[vi]⟩
def R.cL(x:Int):Res (Int) :=
 given (cL.g.i x) (br (x == 1) (ok 2) (br (x == 2) (ok 4) (br (x == 4) (ok 6) (ok 8))))
abbrev ff.g:Sg:=⟨[.i,.val false (.bor (.own .y))],[(false,(.frz (.int .u64))),vb]⟩
def R.ff(u:Int)(z:(List Int)):Res ((Int×Bool)) :=
 given (ff.g.i (u,z)) (bd (α:=Bool) (cl (R.cD u) cD.g.o λv=>br (v == 0) (ok true) (cl (R.cD u) cD.g.o λw=>ok ((!((z.length:Int) == w))))) λa=>br a (ok ((0,false))) (bd (loop (α:=(Int×Int)) (β:=Int) (λx=>br (ilt x.2 (z.length:Int)) (cO .y z x.2 λb=>aZ (ile 0 (w6 (8*x.2))) (ok (.next ((fM .or .u64 x.1 (pY .u64 (IntKind.wrap .u64 b) (w6 (8*x.2))),w6 (x.2+1)))))) (ok (.done (x.1)))) fuel (0,0)) λw6=>ok ((w6,true))))
abbrev bT.g:Sg:=⟨[.obj aJ,.val true (.frz fT)],[(true,(.frz eU)),vi]⟩
def R.bT(x:aJ.den)(z:fT.den):Res ((eU.den×Int)×aJ.den) :=
 given (bT.g.i (x,z)) (br (x.2.2.2.1 == (x.2.2.1.length:Int)) (cl (R.cF (x.1,(x.2.1,(x.2.2.1,(x.2.2.2.1,(x.2.2.2.2.1,(x.2.2.2.2.2.1,(x.2.2.2.2.2.2.1,(z,x.2.2.2.2.2.2.2.2)))))))) 0) cF.g.o λu=>ok ((((0,(0,(0,(0,([]:List Int))))),u.1),u.2))) (idx eU x.2.2.1 (w6 ((w6 (x.2.2.2.1+1))-1)) λy=>bd (ok y.2.2.2.2) λv=>given (ma (.int .u16) v) (ok ((((y.1,(y.2.1,(y.2.2.1,(y.2.2.2.1,v)))),0),(x.1,(x.2.1,(x.2.2.1,(w6 (x.2.2.2.1+1),x.2.2.2.2)))))))))
abbrev bh.g:Sg:=⟨[.obj aJ,.val true iJ,.i,.i,.b,.b],[(false,(.frz (.int .u64))),vi]⟩
def R.bh(x:aJ.den)(u:iJ.den)(y:Int)(z:Int)(w:Bool)(a:Bool):Res ((Int×Int)×aJ.den) :=
 given (bh.g.i (x,(u,(y,(z,(w,a)))))) (bd (R.bB x.2.2.2.2.1 u.2.2.2.2.2.2.2.2.2.1) λd=>br (!d) (br (0 == 5) (cl (R.cL z) cL.g.o λe=>aZ (ile 0 y && (ile y (w6 (y+z)) && ile (w6 (y+z)) ([]:List Unit).length)) (cl (R.ff e ([]:List Int)) ff.g.o λf=>ok (((f.1,0),x)))) (cl (R.bT x (2,(0,(y,(z,(0,(w,(a,(0,(0,((0,0),(([]:List Int),0)))))))))))) bT.g.o λb=>ok (((b.1.1.1,b.1.2),b.2)))) (cO kD x.2.2.2.2.1.2 u.2.2.2.2.2.2.2.2.2.1 λv=>aZ ((Int.toNat u.2.2.2.2.2.2.2.2.2.1) == (Int.toNat u.2.2.2.2.2.2.2.2.2.1)) (br (v.1 == 5) (cl (R.cL z) cL.g.o λh=>aZ (ile 0 y && (ile y (w6 (y+z)) && ile (w6 (y+z)) v.2.2.2.2.2.2.2.2.2.2.2.2.length)) (cl (R.ff h (List.take ((Int.toNat (w6 (y+z)))-(Int.toNat y)) (List.drop (0+(Int.toNat y)) v.2.2.2.2.2.2.2.2.2.2.2.2))) ff.g.o λj=>ok (((j.1,0),(x.1,(x.2.1,(x.2.2.1,(x.2.2.2.1,((x.2.2.2.2.1.1,(List.set x.2.2.2.2.1.2 (Int.toNat u.2.2.2.2.2.2.2.2.2.1) v)),x.2.2.2.2.2))))))))) (cl (R.bT (x.1,(x.2.1,(x.2.2.1,(x.2.2.2.1,((x.2.2.2.2.1.1,(List.set x.2.2.2.2.1.2 (Int.toNat u.2.2.2.2.2.2.2.2.2.1) v)),x.2.2.2.2.2))))) (2,(v.2.2.2.2.2.2.2.2.2.1,(y,(z,(0,(w,(a,(0,(0,((0,0),(([]:List Int),0)))))))))))) bT.g.o λc=>ok (((c.1.1.1,c.1.2),c.2))))))
abbrev iH.g:Sg:=⟨[.val false (.frz (.int .u64)),.b],[(true,(.frz aj))]⟩
def R.iH(x:Int)(y:Bool):Res (aj.den) :=
 given (iH.g.i (x,y)) (bd (α:=Bool) (br y (aZ (ile 0 63) (ok (((iI .u64 x 63) == 1)))) (ok false)) λz=>bd (α:=Int) (br z (ok (IntKind.wrap .u64 (0-x))) (ok x)) λu=>aZ (ile 0 32) (cl (R.fI [IntKind.wrap .u32 u,IntKind.wrap .u32 (iI .u64 u 32)] z) fI.g.o λv=>ok v))
abbrev jZ.g:Sg:=⟨[.i,.val false (.frz (.int .u64))],[(true,(.frz aj))]⟩
def R.jZ(x:Int)(y:Int):Res (aj.den) :=
 given (jZ.g.i (x,y)) (bd (R.fU x) λz=>br (!z) (ok ((false,([]:List Int)))) (cl (R.iH y (x == 7)) iH.g.o λu=>ok u))
abbrev fD.g:Sg:=⟨[.i,.val false (.frz (.int .u64))],[(false,(.frz (.int .u64)))]⟩
def R.fD(z:Int)(x:Int):Res (Int) :=
 given (fD.g.i (z,x)) (cl (R.cD z) cD.g.o λy=>br (ilt y 8) (aZ (ile 0 (w6 (8*y))) (ok (fM .and .u64 x (IntKind.wrap .u64 ((pY .u64 1 (w6 (8*y)))-1))))) (ok x))
abbrev jh.g:Sg:=⟨[.i,.val false (.frz (.int .u64))],[(true,(.frz aI))]⟩
def R.jh(x:Int)(y:Int):Res (aI.den) :=
 given (jh.g.i (x,y)) (br (x == 1) (ok ((0,w6 (IntKind.wrap .i8 y)))) (br (x == 3) (ok ((0,w6 (IntKind.wrap .i16 y)))) (br (x == 5) (ok ((0,w6 (IntKind.wrap .i32 y)))) (bd (α:=Bool) (br (x == 2) (ok ((x == 2))) (br (x == 4) (ok ((x == 4))) (ok ((x == 6))))) λz=>br z (cl (R.fD x y) fD.g.o λu=>ok ((0,w6 u))) (ok ((0,0)))))))
abbrev eA.g:Sg:=⟨[.i,.val false (.frz (.int .u64))],[(true,(.frz aC))]⟩
def R.eA(x:Int)(y:Int):Res (aC.den) :=
 given (eA.g.i (x,y)) (bd (R.fU x) λz=>br z (cl (R.jZ x y) jZ.g.o λu=>cl (R.ed u) ed.g.o λv=>ok v) (cl (R.jh x y) jh.g.o λw=>cl (R.cn w) cn.g.o λa=>ok a))
abbrev cc.g:Sg:=⟨[.obj aJ,.val true iJ,.i],[(true,(.frz aC)),vi]⟩
def R.cc(z:aJ.den)(x:iJ.den)(u:Int):Res ((aC.den×Int)×aJ.den) :=
 given (cc.g.i (z,(x,u))) (cl (R.cD x.2.2.2.2.2.2.2.2.1) cD.g.o λv=>bd (R.fU x.2.2.2.2.2.2.2.2.1) λw=>cl (R.bh z (x.1,(x.2.1,((),((),(x.2.2.2.2.1,(x.2.2.2.2.2.1,(x.2.2.2.2.2.2.1,(x.2.2.2.2.2.2.2.1,(x.2.2.2.2.2.2.2.2.1,(x.2.2.2.2.2.2.2.2.2.1,(x.2.2.2.2.2.2.2.2.2.2.1,(x.2.2.2.2.2.2.2.2.2.2.2.1,())))))))))))) (w6 (x.2.2.2.2.2.2.2.2.2.2.1+(w6 (u*v)))) v false (!w)) bh.g.o λy=>br (!(y.1.2 == 0)) (ok (((zV,y.1.2),y.2))) (cl (R.eA x.2.2.2.2.2.2.2.2.1 y.1.1) eA.g.o λa=>ok (((a,0),y.2))))
abbrev dd.g:Sg:=⟨[.obj aJ,.val true iJ,.s,.i],[(true,(.frz aC)),vi]⟩
def R.dd(z:aJ.den)(y:iJ.den)(x:(List UInt8))(u:Int):Res ((aC.den×Int)×aJ.den) :=
 given (dd.g.i (z,(y,(x,u)))) (bd (α:=(Unit ⊕ (Int×aC.den))) (br (x == [98,121,116,101,76,101,110,103,116,104]) (cl (R.cG (w6 (y.2.2.2.2.2.2.2.2.2.2.2.1*u))) cG.g.o λw=>ok (.inr (0,w))) (br (x == [98,121,116,101,79,102,102,115,101,116]) (cl (R.cG y.2.2.2.2.2.2.2.2.2.2.1) cG.g.o λa=>ok (.inr (0,a))) (br (x == [98,117,102,102,101,114]) (ok (.inr (0,(6,((0,0),((false,([]:List Int)),(([]:List Int),y.2.2.2.2.2.2.2.2.2.1))))))) (br (x == [108,101,110,103,116,104]) (br (y.1 == 7) (cl (R.cG y.2.2.2.2.2.2.2.2.2.2.2.1) cG.g.o λb=>ok (.inr (0,b))) (ok (.inl ()))) (ok (.inl ())))))) λc=>sum c (λk=>bd (α:=Bool) (br (y.1 == 8) (cl (R.dD) dD.g.o λd=>aZ (lJ ([68,97,116,97,86,105,101,119,35].length+x.length)) (bd (R.aS d ([68,97,116,97,86,105,101,119,35]++x)) λe=>ok e)) (ok false)) λf=>br f (aZ (lJ ([68,97,116,97,86,105,101,119,35].length+x.length)) (cl (R.dP ([68,97,116,97,86,105,101,119,35]++x)) dP.g.o λh=>ok (((h,0),z)))) (cl (R.aL z) aL.g.o λj=>ok j)) (λv=>ok (((v.2,v.1),z))))
abbrev dJ.g:Sg:=⟨[.obj aJ,.i,.val false (.bor (.own .h))],[(true,(.frz aC)),vi]⟩
def R.dJ(y:aJ.den)(u:Int)(v:(List Int)):Res ((aC.den×Int)×aJ.den) :=
 given (dJ.g.i (y,(u,v))) (cl (R.fW v) fW.g.o λc=>bd (α:=(List UInt8)) (br (!c.2) (ok ([35])) (ok (c.1))) λz=>cl (R.al y.2.2.2.2.1 u) al.g.o λx=>br (!x.2) (cl (R.fl u) fl.g.o λw=>cl (R.gE w) gE.g.o λe=>bd (R.aS e z) λf=>br f (aZ (lJ (w.length+[46].length)) (aZ (lJ ((w++[46]).length+z.length)) (cl (R.dP ((w++[46])++z)) dP.g.o λh=>ok (((h,0),y))))) (cl (R.aL y) aL.g.o λj=>ok j)) (cl (R.eH v) eH.g.o λa=>br (x.1.1 == 1) (cl (R.dm y.2.2.2.2.1 u v) dm.g.o λb=>bd (α:=Bool) (br (!b.2.2) (br (b.2.1 == (-1)) (bd (R.iG z) λk=>ok k) (ok false)) (ok false)) λl=>br l (cl (R.aL y) aL.g.o λm=>ok m) (ok (((b.1,0),y)))) (br (x.1.1 == 2) (cl (R.eL y u z v a.2) eL.g.o λn=>ok n) (br (x.1.1 == 3) (cl (R.cW y.2.2.2.2.1 u v) cW.g.o λd=>br d.2 (ok (((d.1,0),y))) (cl (R.aL y) aL.g.o λp=>ok p)) (br (x.1.1 == 10) (br (z == [110,97,109,101]) (cl (R.av x.1.2.2.2.2.1) av.g.o λq=>cl (R.cP q) cP.g.o λr=>ok (((r,0),y))) (br (z == [109,101,115,115,97,103,101]) (ok (((x.1.2.2.2.2.2.2.2.1,0),y))) (cl (R.aL y) aL.g.o λs=>ok s))) (bd (α:=Bool) (br (x.1.1 == 5) (ok ((x.1.1 == 5))) (ok ((x.1.1 == 6)))) λt=>br t (br (z == [98,121,116,101,76,101,110,103,116,104]) (cl (R.cx y u) cx.g.o λA=>cl (R.cG A) cG.g.o λB=>ok (((B,0),y))) (cl (R.aL y) aL.g.o λC=>ok C)) (br (x.1.1 == 7) (br a.2 (br (ile x.1.2.2.2.2.2.2.2.2.2.2.2.1 a.1) (ok (((zV,0),y))) (cl (R.cc y (x.1.1,(x.1.2.1,((),((),(x.1.2.2.2.2.1,(x.1.2.2.2.2.2.1,(x.1.2.2.2.2.2.2.1,(x.1.2.2.2.2.2.2.2.1,(x.1.2.2.2.2.2.2.2.2.1,(x.1.2.2.2.2.2.2.2.2.2.1,(x.1.2.2.2.2.2.2.2.2.2.2.1,(x.1.2.2.2.2.2.2.2.2.2.2.2.1,())))))))))))) a.1) cc.g.o λD=>ok D)) (cl (R.cD x.1.2.2.2.2.2.2.2.2.1) cD.g.o λE=>cl (R.dd y (x.1.1,(x.1.2.1,((),((),(x.1.2.2.2.2.1,(x.1.2.2.2.2.2.1,(x.1.2.2.2.2.2.2.1,(x.1.2.2.2.2.2.2.2.1,(x.1.2.2.2.2.2.2.2.2.1,(x.1.2.2.2.2.2.2.2.2.2.1,(x.1.2.2.2.2.2.2.2.2.2.2.1,(x.1.2.2.2.2.2.2.2.2.2.2.2.1,())))))))))))) z E) dd.g.o λF=>ok F)) (br (x.1.1 == 8) (cl (R.dd y (x.1.1,(x.1.2.1,((),((),(x.1.2.2.2.2.1,(x.1.2.2.2.2.2.1,(x.1.2.2.2.2.2.2.1,(x.1.2.2.2.2.2.2.2.1,(x.1.2.2.2.2.2.2.2.2.1,(x.1.2.2.2.2.2.2.2.2.2.1,(x.1.2.2.2.2.2.2.2.2.2.2.1,(x.1.2.2.2.2.2.2.2.2.2.2.2.1,())))))))))))) z 1) dd.g.o λG=>ok G) (cl (R.aL y) aL.g.o λH=>ok H)))))))))
abbrev de.g:Sg:=⟨[.obj aJ,.val true (.frz dN)],[(true,(.frz aC)),vi]⟩
def R.de(y:aJ.den)(x:dN.den):Res ((aC.den×Int)×aJ.den) :=
 given (de.g.i (y,x)) (bd (R.kH x.2.1) λu=>br u (cl (R.aF y 1) aF.g.o λv=>ok v) (cl (R.cz x.2.2) cz.g.o λz=>br (!(z.2 == 0)) (cl (R.aF y z.2) aF.g.o λw=>ok w) (br (x.2.1.1 == 5) (cl (R.eN y x.2.1.2.2.2.1 z.1) eN.g.o λa=>ok a) (br (x.2.1.1 == 6) (cl (R.dJ y x.2.1.2.2.2.2 z.1) dJ.g.o λb=>ok b) (cl (R.aL y) aL.g.o λc=>ok c)))))
abbrev db.g:Sg:=⟨[.obj aJ,.val true (.frz dN),.val true (.bor (.seq .i (.seq (.seq .i (.seq (.frz aI) (.seq (.seq .b (.own .w)) (.seq (.own .h) .i)))) .b)))],[(true,(.frz aC)),vi]⟩
def R.db(y:aJ.den)(x:dN.den)(z:aM.den):Res ((aC.den×Int)×aJ.den) :=
 given (db.g.i (y,(x,z))) (br (!(x.1 == ([]:List UInt8))) (cl (R.da y x.1 z) da.g.o λu=>ok u) (cl (R.de y x) de.g.o λv=>ok v))
abbrev lB.g:Sg:=⟨[.i],[(true,(.frz aj))]⟩
def R.lB(x:Int):Res (aj.den) :=
 given (lB.g.i x) (bd (α:=Int) (br (ilt x 0) (ok (IntKind.wrap .u64 (0-(IntKind.wrap .u64 x)))) (ok (IntKind.wrap .u64 x))) λy=>aZ (ile 0 32) (cl (R.fI [IntKind.wrap .u32 y,IntKind.wrap .u32 (iI .u64 y 32)] (ilt x 0)) fI.g.o λz=>ok z))
abbrev mC.g:Sg:=⟨[.val false (.bor (.own .w)),.val false (.bor (.own .w))],[(false,(.own .w))]⟩
def R.mC(y:(List Int))(z:(List Int)):Res ((List Int)) :=
 given (mC.g.i (y,z)) (bd (loop (α:=((List Int)×(Int×Int))) (β:=((List Int)×Int)) (λx=>br (ilt x.2.2 (o6 (y.length:Int) (z.length:Int))) (bd (α:=Int) (br (ilt x.2.2 (y.length:Int)) (cO .w y x.2.2 λb=>ok (IntKind.wrap .u64 (x.2.1+(IntKind.wrap .u64 b)))) (ok (x.2.1))) λa=>bd (α:=Int) (br (ilt x.2.2 (z.length:Int)) (cO .w z x.2.2 λc=>ok (IntKind.wrap .u64 (a+(IntKind.wrap .u64 c)))) (ok a)) λv=>aZ (decide ((x.1.length+[IntKind.wrap .u32 v].length)*4<=2^47)) (aZ (ile 0 32) (ok (.next (((x.1++[IntKind.wrap .u32 v]),(iI .u64 v 32,w6 (x.2.2+1)))))))) (ok (.done ((x.1,x.2.1))))) fuel (([]:List Int),(0,0))) λu=>aZ (decide ((u.1.length+[IntKind.wrap .u32 u.2].length)*4<=2^47)) (ok ((u.1++[IntKind.wrap .u32 u.2]))))
abbrev jJ.g:Sg:=⟨[.val false (.frz (.list (.int .u32))),.b],[(true,(.frz aj)),vb]⟩
def R.jJ(x:(List Int))(y:Bool):Res ((aj.den×Bool)) :=
 given (jJ.g.i (x,y)) (cl (R.fg x) fg.g.o λz=>br (ilt 8 (z.length:Int)) (ok (((false,([]:List Int)),false))) (cl (R.fI z y) fI.g.o λu=>ok ((u,true))))
abbrev lD.g:Sg:=⟨[.i],[vi]⟩
def R.lD(x:Int):Res (Int) :=
 given (lD.g.i x) (ok ((kF (o6 x (-1)) 1)))
abbrev kV.g:Sg:=⟨[.val false (.bor (.own .w)),.val false (.bor (.own .w))],[vi]⟩
def R.kV(x:(List Int))(z:(List Int)):Res (Int) :=
 given (kV.g.i (x,z)) (br (!((x.length:Int) == (z.length:Int))) (cl (R.lD (w6 ((x.length:Int)-(z.length:Int)))) lD.g.o λu=>ok u) (bd (loop (α:=Int) (β:=(Unit ⊕ Int)) (λy=>br (ile 0 y) (cO .w x y λv=>cO .w z y λa=>br (!(v == a)) (cO .w x y λb=>cO .w z y λc=>cl (R.lD (w6 ((w6 b)-(w6 c)))) lD.g.o λd=>ok (.done (.inr d))) (ok (.next (w6 (y-1))))) (ok (.done (.inl ())))) fuel (w6 ((x.length:Int)-1))) λe=>sum e (λh=>ok 0) (λf=>ok f)))
abbrev jb.g:Sg:=⟨[.val false .w,.val false .w,.val false .w],[(false,.w),(false,.w)]⟩
def R.jb(x:Int)(y:Int)(z:Int):Res ((Int×Int)) :=
 given (jb.g.i (x,(y,z))) (aZ (ile 0 31) (ok ((IntKind.wrap .u32 ((IntKind.wrap .u32 (x-y))-z),iI .u32 (fM .or .u32 (fM .and .u32 (fM .xor .u32 (IntKind.max .u32) x) y) (fM .and .u32 (fM .xor .u32 (IntKind.max .u32) (fM .xor .u32 x y)) (IntKind.wrap .u32 ((IntKind.wrap .u32 (x-y))-z)))) 31))))
abbrev jD.g:Sg:=⟨[.val false (.bor (.own .w)),.val false (.bor (.own .w))],[(false,(.own .w))]⟩
def R.jD(y:(List Int))(z:(List Int)):Res ((List Int)) :=
 given (jD.g.i (y,z)) (bd (loop (α:=((List Int)×(Int×Int))) (β:=(List Int)) (λx=>br (ilt x.2.2 (y.length:Int)) (cO .w y x.2.2 λv=>bd (α:=Int) (br (ilt x.2.2 (z.length:Int)) (cO .w z x.2.2 λa=>ok a) (ok 0)) λb=>cl (R.jb v b x.2.1) jb.g.o λu=>aZ (decide ((x.1.length+[u.1].length)*4<=2^47)) (ok (.next (((x.1++[u.1]),(u.2,w6 (x.2.2+1))))))) (ok (.done (x.1)))) fuel (([]:List Int),(0,0))) λc=>ok c)
abbrev lX.g:Sg:=⟨[.val true (.bor (.seq .b (.own .w))),.val true (.bor (.seq .b (.own .w)))],[(true,(.frz aj)),vb]⟩
def R.lX(x:aj.den)(y:aj.den):Res ((aj.den×Bool)) :=
 given (lX.g.i (x,y)) (cl (R.dV x) dV.g.o λz=>cl (R.dV y) dV.g.o λu=>bd (R.iK x) λv=>bd (R.iK y) λw=>br (v == w) (cl (R.mC z u) mC.g.o λa=>bd (R.iK x) λb=>cl (R.jJ a b) jJ.g.o λc=>ok c) (cl (R.kV z u) kV.g.o λd=>br (ilt d 0) (cl (R.jD u z) jD.g.o λe=>bd (R.iK y) λf=>cl (R.jJ e f) jJ.g.o λh=>ok h) (cl (R.jD z u) jD.g.o λj=>bd (R.iK x) λk=>cl (R.jJ j k) jJ.g.o λl=>ok l)))
abbrev fE.g:Sg:=⟨[.val true (.frz aj),.b],[(true,(.frz aC)),vi]⟩
def R.fE(x:aj.den)(y:Bool):Res ((aC.den×Int)) :=
 given (fE.g.i (x,y)) (br (!y) (ok ((zV,3))) (cl (R.ed x) ed.g.o λz=>ok ((z,0))))
abbrev ei.g:Sg:=⟨[.val true (.frz aI)],[vb]⟩
def R.ei(x:aI.den):Res (Bool) :=
 given (ei.g.i x) (br (x.1 == 3) (ok true) (ok ((x.1 == 4))))
abbrev nS.g:Sg:=⟨[.i],[(true,(.frz aI)),vb]⟩
def R.nS(x:Int):Res ((aI.den×Bool)) :=
 given (nS.g.i x) (bd (α:=Bool) (br (ilt x (-9007199254740991)) (ok true) (ok ((ilt 9007199254740991 x)))) λy=>br y (cl (R.fY) fY.g.o λz=>ok ((z,false))) (cl (R.cj x) cj.g.o λu=>ok ((u,true))))
abbrev lR.g:Sg:=⟨[.val true (.frz aI),.val true (.frz aI)],[(true,(.frz aI)),vb]⟩
def R.lR(z:aI.den)(u:aI.den):Res ((aI.den×Bool)) :=
 given (lR.g.i (z,u)) (cl (R.ev z) ev.g.o λx=>cl (R.ev u) ev.g.o λy=>bd (α:=Bool) (bd (R.gD x) λv=>br v (ok true) (bd (R.gD y) λw=>br w (ok true) (bd (R.ei x) λa=>br a (bd (R.ei y) λb=>br b (ok ((!(x.1 == y.1)))) (ok false)) (ok false)))) λc=>br c (cl (R.fY) fY.g.o λd=>ok ((d,true))) (bd (R.ei x) λe=>br e (ok ((x,true))) (bd (R.ei y) λf=>br f (ok ((y,true))) (bd (α:=Bool) (br (x.1 == 1) (ok ((y.1 == 1))) (ok false)) λh=>br h (ok ((x,true))) (cl (R.nS (w6 (x.2+y.2))) nS.g.o λj=>ok j)))))
abbrev cp.g:Sg:=⟨[.val true (.frz aI),.b],[(true,(.frz aC)),vi]⟩
def R.cp(x:aI.den)(y:Bool):Res ((aC.den×Int)) :=
 given (cp.g.i (x,y)) (br (!y) (ok ((zV,3))) (cl (R.cn x) cn.g.o λz=>ok ((z,0))))
abbrev kZ.g:Sg:=⟨[.val true (.frz aC),.i],[(true,(.frz aC)),vi]⟩
def R.kZ(z:aC.den)(x:Int):Res ((aC.den×Int)) :=
 given (kZ.g.i (z,x)) (cl (R.cV z) cV.g.o λy=>br (!(y.2 == 0)) (ok ((zV,y.2))) (bd (α:=Bool) (br (!(x == 1)) (ok ((!(x == (-1))))) (ok false)) λw=>br w (ok ((zV,3))) (br (y.1.1 == 4) (cl (R.lB x) lB.g.o λa=>cl (R.lX y.1.2.2.1 a) lX.g.o λu=>cl (R.fE u.1 u.2) fE.g.o λb=>ok b) (cl (R.lR y.1.2.1 (0,x)) lR.g.o λv=>cl (R.cp v.1 v.2) cp.g.o λc=>ok c))))
abbrev dk.g:Sg:=⟨[.obj aJ,.s,.val true (.frz aC),.val true (.bor (.seq .i (.seq (.seq .i (.seq (.frz aI) (.seq (.seq .b (.own .w)) (.seq (.own .h) .i)))) .b)))],[(true,(.frz aC)),vi]⟩
def R.dk(x:aJ.den)(z:(List UInt8))(u:aC.den)(v:aM.den):Res ((aC.den×Int)×aJ.den) :=
 given (dk.g.i (x,(z,(u,v)))) (cl (R.dh x.2.2.2.2.1 v.1 z) dh.g.o λy=>bd (α:=Bool) (br y.2.2 (ok ((!y.1.2.2.1))) (ok false)) λw=>br w (cl (R.aF x 4) aF.g.o λa=>ok a) (bd (α:=Bool) (br y.2.2 (ok (y.1.2.2.2)) (ok false)) λb=>br b (cl (R.aF x 1) aF.g.o λc=>ok c) (br y.2.2 (cl (R.cN x.2.2.2.2.1 y.2.1 z u true) cN.g.o λd=>ok (((u,0),(x.1,(x.2.1,(x.2.2.1,(x.2.2.2.1,(d.2,x.2.2.2.2.2)))))))) (cl (R.iX z) iX.g.o λe=>bd (α:=Bool) (br e.2 (ok true) (bd (R.kh z) λf=>ok f)) λh=>br h (cl (R.aL x) aL.g.o λj=>ok j) (cl (R.aF x 4) aF.g.o λk=>ok k)))))
abbrev jm.g:Sg:=⟨[.val false .h],[vb]⟩
def R.jm(x:Int):Res (Bool) :=
 given (jm.g.i x) (br (x == 32) (ok true) (br (x == 9) (ok true) (br (x == 10) (ok true) (ok ((x == 13))))))
abbrev kY.g:Sg:=⟨[.val false (.frz (.list (.int .u16)))],[(false,(.frz (.list (.int .u16))))]⟩
def R.kY(z:(List Int)):Res ((List Int)) :=
 given (kY.g.i z) (bd (loop (α:=(List Int)) (β:=(List Int)) (λy=>bd (α:=Bool) (br (ilt 0 (y.length:Int)) (idx (.int .u16) y 0 λu=>bd (R.jm u) λv=>ok v) (ok false)) λw=>br w (aZ (ile 0 1 && ile 1 y.length) (ok (.next ((List.drop (Int.toNat 1) y))))) (ok (.done (y)))) fuel z) λa=>bd (loop (α:=(List Int)) (β:=(List Int)) (λx=>bd (α:=Bool) (br (ilt 0 (x.length:Int)) (idx (.int .u16) x (w6 ((x.length:Int)-1)) λb=>bd (R.jm b) λc=>ok c) (ok false)) λd=>br d (aZ (ile 0 (w6 ((x.length:Int)-1)) && ile (w6 ((x.length:Int)-1)) x.length) (ok (.next ((List.take (Int.toNat (w6 ((x.length:Int)-1))) x))))) (ok (.done (x)))) fuel a) λe=>ok e)
abbrev jC.g:Sg:=⟨[.val false .h],[vb]⟩
def R.jC(x:Int):Res (Bool) :=
 given (jC.g.i x) (br (ile 48 x) (ok ((ile x 57))) (ok false))
abbrev jP.g:Sg:=⟨[.val false (.bor (.own .h))],[vb]⟩
def R.jP(x:(List Int)):Res (Bool) :=
 given (jP.g.i x) (bd (loop (α:=Int) (β:=(Unit ⊕ Bool)) (λy=>br (ilt y (x.length:Int)) (cO .h x y λz=>bd (R.jC z) λu=>br (!u) (ok (.done (.inr false))) (ok (.next (w6 (y+1))))) (ok (.done (.inl ())))) fuel 0) λv=>sum v (λa=>ok ((ilt 0 (x.length:Int)))) (λw=>ok w))
abbrev kL.g:Sg:=⟨[.s],[vb]⟩
def R.kL(x:(List UInt8)):Res (Bool) :=
 given (kL.g.i x) (bd (loop (α:=Int) (β:=(Unit ⊕ Bool)) (λy=>br (ilt y (x.length:Int)) (bd (α:=Bool) (idx (.int .u8) (lH x) y λz=>br (ilt z 48) (ok true) (idx (.int .u8) (lH x) y λu=>ok ((ilt 57 u)))) λv=>br v (ok (.done (.inr false))) (ok (.next (w6 (y+1))))) (ok (.done (.inl ())))) fuel 0) λw=>sum w (λc=>br (!(x == ([]:List UInt8))) (idx (.int .u8) (lH x) 0 λa=>br (!(a == 48)) (ok true) (ok ((x == [48])))) (ok false)) (λb=>ok b))
abbrev kn.g:Sg:=⟨[.s],[(true,(.frz aj)),vi]⟩
def R.kn(y:(List UInt8)):Res ((aj.den×Int)) :=
 given (kn.g.i y) (bd (α:=((List UInt8)×Bool)) (br (ilt 0 (y.length:Int)) (idx (.int .u8) (lH y) 0 λd=>ok ((y,(d == 45)))) (ok ((y,false)))) λv=>bd (α:=(List UInt8)) (br v.2 (aZ (ile 0 1 && ile 1 y.length) (ok ((List.drop (Int.toNat 1) y)))) (ok (v.1))) λw=>bd (α:=Bool) (bd (R.kL w) λe=>br (!e) (ok true) (ok ((y == [45,48])))) λf=>br f (ok (((false,([]:List Int)),2))) (bd (loop (α:=((List Int)×Int)) (β:=((List Int) ⊕ (Int×aj.den))) (λz=>br (ilt z.2 (w.length:Int)) (idx (.int .u8) (lH w) z.2 λh=>bd (loop (α:=(Int×(Int×(List Int)))) (β:=(Int×(List Int))) (λx=>br (ilt x.2.1 (z.1.length:Int)) (aZ (ile 0 x.2.1 && ilt x.2.1 x.2.2.length) (idx (.int .u32) x.2.2 (0+Int.toNat x.2.1) λa=>aZ (ile 0 x.2.1 && ilt x.2.1 x.2.2.length) (idx (.int .u32) x.2.2 (0+Int.toNat x.2.1) λm=>aZ (ile 0 32) (ok (.next ((iI .u64 (IntKind.wrap .u64 (x.1+(IntKind.wrap .u64 (10*(IntKind.wrap .u64 a))))) 32,(w6 (x.2.1+1),(List.set x.2.2 (0+Int.toNat x.2.1) (IntKind.wrap .u32 (IntKind.wrap .u64 (x.1+(IntKind.wrap .u64 (10*(IntKind.wrap .u64 a))))))))))))))) (ok (.done ((x.1,x.2.2))))) fuel (IntKind.wrap .u64 (IntKind.wrap .u8 (h-48)),(0,z.1))) λu=>aZ (decide ((u.2.length+[IntKind.wrap .u32 u.1].length)*4<=2^47)) (cl (R.ec (u.2++[IntKind.wrap .u32 u.1])) ec.g.o λb=>br (ilt 8 (b.length:Int)) (ok (.done (.inr (3,(false,([]:List Int)))))) (ok (.next ((b,w6 (z.2+1))))))) (ok (.done (.inl z.1)))) fuel (([]:List Int),0)) λj=>sum j (λk=>cl (R.fI k v.2) fI.g.o λl=>ok ((l,0))) (λc=>ok ((c.2,c.1)))))
abbrev iQ.g:Sg:=⟨[.val false (.bor (.own .h))],[vb]⟩
def R.iQ(z:(List Int)):Res (Bool) :=
 given (iQ.g.i z) (bd (loop (α:=(Bool×Int)) (β:=(Bool ⊕ Bool)) (λy=>br (ilt y.2 (z.length:Int)) (cO .h z y.2 λx=>bd (α:=Bool) (br y.1 (ok true) (bd (R.jC x) λu=>ok u)) λv=>bd (α:=Bool) (bd (R.jC x) λw=>br (!w) (br (ilt x 97) (br (ilt x 65) (br (!(x == 120)) (br (!(x == 88)) (br (!(x == 111)) (ok ((!(x == 79)))) (ok false)) (ok false)) (ok false)) (br (ilt 70 x) (br (!(x == 120)) (br (!(x == 88)) (br (!(x == 111)) (ok ((!(x == 79)))) (ok false)) (ok false)) (ok false)) (ok false))) (br (ilt 102 x) (br (ilt x 65) (br (!(x == 120)) (br (!(x == 88)) (br (!(x == 111)) (ok ((!(x == 79)))) (ok false)) (ok false)) (ok false)) (br (ilt 70 x) (br (!(x == 120)) (br (!(x == 88)) (br (!(x == 111)) (ok ((!(x == 79)))) (ok false)) (ok false)) (ok false)) (ok false))) (ok false))) (ok false)) λa=>br a (ok (.done (.inr false))) (ok (.next ((v,w6 (y.2+1)))))) (ok (.done (.inl y.1)))) fuel (false,0)) λb=>sum b (λc=>ok c) (λd=>ok d))
abbrev ic.g:Sg:=⟨[.val false (.frz (.list (.int .u16)))],[(true,(.frz aj)),vi]⟩
def R.ic(u:(List Int)):Res ((aj.den×Int)) :=
 given (ic.g.i u) (cl (R.kY u) kY.g.o λx=>br ((x.length:Int) == 0) (ok (((false,([]:List Int)),0))) (idx (.int .u16) x 0 λv=>bd (α:=(List Int)) (bd (α:=Bool) (br (v == 45) (ok true) (idx (.int .u16) x 0 λa=>ok ((a == 43)))) λb=>br b (aZ (ile 0 1 && ile 1 x.length) (ok ((List.drop (Int.toNat 1) x)))) (ok x)) λw=>bd (R.jP w) λc=>br c (bd (loop (α:=(List Int)) (β:=(List Int)) (λy=>bd (α:=Bool) (br (ilt 1 (y.length:Int)) (idx (.int .u16) y 0 λd=>ok ((d == 48))) (ok false)) λe=>br e (aZ (ile 0 1 && ile 1 y.length) (ok (.next ((List.drop (Int.toNat 1) y))))) (ok (.done (y)))) fuel w) λf=>cl (R.fW f) fW.g.o λh=>cl (R.kn h.1) kn.g.o λz=>br (!(z.2 == 0)) (ok (((false,([]:List Int)),3))) (br (v == 45) (cl (R.lW z.1) lW.g.o λj=>ok ((j,0))) (ok ((z.1,0))))) (bd (R.iQ x) λk=>br k (ok (((false,([]:List Int)),3))) (ok (((false,([]:List Int)),5))))))
abbrev gC.g:Sg:=⟨[.val true (.frz aC)],[(true,(.frz aj)),vi]⟩
def R.gC(y:aC.den):Res ((aj.den×Int)) :=
 given (gC.g.i y) (cl (R.cM y) cM.g.o λx=>br (x.1 == 2) (cl (R.lB x.2.2.2.2) lB.g.o λz=>ok ((z,0))) (br (x.1 == 4) (cl (R.lC x.2.2.1) lC.g.o λu=>ok ((u,0))) (br (x.1 == 5) (cl (R.ic x.2.2.2.1) ic.g.o λv=>ok v) (br (x.1 == 6) (ok (((false,([]:List Int)),3))) (ok (((false,([]:List Int)),1)))))))
end Go.Mach
end

set_option linter.unusedVariables false
set_option maxRecDepth 20000
noncomputable section
namespace Go.Mach
open Res
abbrev nD.g:Sg:=⟨[.val false (.bor (.own .w)),.i],[(false,(.own .w))]⟩
def R.nD(y:(List Int))(z:Int):Res ((List Int)) :=
 given (nD.g.i (y,z)) (aZ (ile 0 8 && (ile 8 8 && decide ((Int.toNat 8)*4<=2^47))) (bd (loop (α:=(Int×(List Int))) (β:=(List Int)) (λx=>br (ilt x.1 ((List.take 0 (List.replicate (Int.toNat 8) (0:Int))++(List.take (min y.length (List.replicate (Int.toNat 8) (0:Int)).length) y++List.drop (0+(min y.length (List.replicate (Int.toNat 8) (0:Int)).length)) (List.replicate (Int.toNat 8) (0:Int)))).length:Int)) (br (ile z (w6 (32*x.1))) (aZ (ile 0 x.1 && ilt x.1 x.2.length) (idx (.int .u32) x.2 (0+Int.toNat x.1) λw=>ok (.next ((w6 (x.1+1),(List.set x.2 (0+Int.toNat x.1) 0)))))) (br (ilt z (w6 ((w6 (32*x.1))+32))) (aZ (ile 0 x.1 && ilt x.1 x.2.length) (idx (.int .u32) x.2 (0+Int.toNat x.1) λu=>aZ (ile 0 (w6 (z-(w6 (32*x.1))))) (aZ (ile 0 x.1 && ilt x.1 x.2.length) (idx (.int .u32) x.2 (0+Int.toNat x.1) λa=>ok (.next ((w6 (x.1+1),(List.set x.2 (0+Int.toNat x.1) (fM .and .u32 u (IntKind.wrap .u32 ((pY .u32 1 (w6 (z-(w6 (32*x.1)))))-1))))))))))) (ok (.next ((w6 (x.1+1),x.2)))))) (ok (.done (x.2)))) fuel (0,(List.take 0 (List.replicate (Int.toNat 8) (0:Int))++(List.take (min y.length (List.replicate (Int.toNat 8) (0:Int)).length) y++List.drop (0+(min y.length (List.replicate (Int.toNat 8) (0:Int)).length)) (List.replicate (Int.toNat 8) (0:Int)))))) λv=>ok v))
abbrev kX.g:Sg:=⟨[.i],[(false,(.own .w))]⟩
def R.kX(x:Int):Res ((List Int)) :=
 given (kX.g.i x) (aZ (!(32 == 0)) (aZ (ile 0 (w6 ((w6 (Int.tdiv x 32))+1)) && (ile (w6 ((w6 (Int.tdiv x 32))+1)) (w6 ((w6 (Int.tdiv x 32))+1)) && decide ((Int.toNat (w6 ((w6 (Int.tdiv x 32))+1)))*4<=2^47))) (aZ (!(32 == 0)) (aZ (!(32 == 0)) (aZ (ile 0 (Int.tmod x 32)) (aZ (ile 0 (w6 (Int.tdiv x 32)) && ilt (w6 (Int.tdiv x 32)) (List.replicate (Int.toNat (w6 ((w6 (Int.tdiv x 32))+1))) (0:Int)).length) (idx (.int .u32) (List.replicate (Int.toNat (w6 ((w6 (Int.tdiv x 32))+1))) (0:Int)) (0+Int.toNat (w6 (Int.tdiv x 32))) λy=>ok ((List.set (List.replicate (Int.toNat (w6 ((w6 (Int.tdiv x 32))+1))) (0:Int)) (0+Int.toNat (w6 (Int.tdiv x 32))) (pY .u32 1 (Int.tmod x 32)))))))))))
abbrev i6.g:Sg:=⟨[.i,.val true (.bor (.seq .b (.own .w)))],[(true,(.frz aj)),vi]⟩
def R.i6(x:Int)(y:aj.den):Res ((aj.den×Int)) :=
 given (i6.g.i (x,y)) (bd (α:=Bool) (br (ilt x 0) (ok true) (ok ((ilt 256 x)))) λu=>br u (ok (((false,([]:List Int)),1))) (cl (R.dV y) dV.g.o λv=>cl (R.nD v x) nD.g.o λw=>cl (R.ec w) ec.g.o λz=>bd (α:=Bool) (bd (R.iK y) λa=>br a (ok ((ilt 0 (z.length:Int)))) (ok false)) λb=>br b (cl (R.kX x) kX.g.o λc=>cl (R.jD c z) jD.g.o λd=>cl (R.fI d false) fI.g.o λe=>ok ((e,0))) (cl (R.fI z false) fI.g.o λf=>ok ((f,0)))))
abbrev lv.g:Sg:=⟨[.val true (.bor (.seq .b (.own .w)))],[(false,(.frz (.int .u64)))]⟩
def R.lv(y:aj.den):Res (Int) :=
 given (lv.g.i y) (cl (R.i6 64 y) i6.g.o λz=>bd (loop (α:=(Int×Int)) (β:=Int) (λx=>br (ilt x.2 (z.1.2.length:Int)) (idx (.int .u32) z.1.2 x.2 λu=>aZ (ile 0 (w6 (32*x.2))) (ok (.next ((fM .or .u64 x.1 (pY .u64 (IntKind.wrap .u64 u) (w6 (32*x.2))),w6 (x.2+1)))))) (ok (.done (x.1)))) fuel (0,0)) λv=>ok v)
abbrev gF.g:Sg:=⟨[.i,.val true (.bor (.seq .b (.own .w)))],[(false,(.frz (.int .u64)))]⟩
def R.gF(x:Int)(y:aj.den):Res (Int) :=
 given (gF.g.i (x,y)) (bd (R.fU x) λz=>br (!z) (ok 0) (cl (R.lv y) lv.g.o λu=>ok u))
abbrev gI.g:Sg:=⟨[.i,.val true (.frz aI)],[(false,(.frz (.int .u64)))]⟩
def R.gI(y:Int)(x:aI.den):Res (Int) :=
 given (gI.g.i (y,x)) (bd (α:=Bool) (bd (R.fU y) λz=>br z (ok true) (br (!(x.1 == 0)) (ok true) (br (ilt x.2 (-9007199254740991)) (ok true) (ok ((ilt 9007199254740991 x.2)))))) λu=>br u (ok 0) (cl (R.fD y (IntKind.wrap .u64 x.2)) fD.g.o λv=>ok v))
abbrev iq.g:Sg:=⟨[.i,.val true (.frz aC)],[(false,(.frz (.int .u64))),vi]⟩
def R.iq(x:Int)(y:aC.den):Res ((Int×Int)) :=
 given (iq.g.i (x,y)) (bd (R.fU x) λv=>br v (cl (R.gC y) gC.g.o λz=>cl (R.gF x z.1) gF.g.o λw=>ok ((w,z.2))) (cl (R.cH y) cH.g.o λu=>cl (R.gI x u.1) gI.g.o λa=>ok ((a,u.2))))
abbrev iV.g:Sg:=⟨[.i,.val false (.frz (.int .u64))],[(false,(.own .y))]⟩
def R.iV(z:Int)(y:Int):Res ((List Int)) :=
 given (iV.g.i (z,y)) (cl (R.cD z) cD.g.o λu=>bd (loop (α:=((List Int)×Int)) (β:=(List Int)) (λx=>br (ilt x.2 u) (aZ (ile 0 (w6 (8*x.2))) (aZ (decide ((x.1.length+[IntKind.wrap .u8 (iI .u64 y (w6 (8*x.2)))].length)*1<=2^47)) (ok (.next (((x.1++[IntKind.wrap .u8 (iI .u64 y (w6 (8*x.2)))]),w6 (x.2+1))))))) (ok (.done (x.1)))) fuel (([]:List Int),0)) λv=>ok v)
abbrev dK.g:Sg:=⟨[.obj fK,.i,.i,.val false (.bor (.own .y))],[vb]⟩
def R.dK(u:fK.den)(y:Int)(z:Int)(v:(List Int)):Res (Bool×fK.den) :=
 given (dK.g.i (u,(y,(z,v)))) (bd (R.bB u y) λw=>br (!w) (ok ((false,u))) (cO kD u.2 y λx=>bd (α:=Bool) (br (ilt z 0) (ok true) (aZ ((Int.toNat y) == (Int.toNat y)) (br (ilt (x.2.2.2.2.2.2.2.2.2.2.2.2.length:Int) z) (ok true) (aZ ((Int.toNat y) == (Int.toNat y)) (ok ((ilt (w6 ((x.2.2.2.2.2.2.2.2.2.2.2.2.length:Int)-z)) (v.length:Int)))))))) λa=>br a (ok ((false,(u.1,(List.set u.2 (Int.toNat y) x))))) (aZ ((Int.toNat y) == (Int.toNat y)) (aZ (ile 0 z && ile z x.2.2.2.2.2.2.2.2.2.2.2.2.length) (ok ((true,(u.1,(List.set u.2 (Int.toNat y) (x.1,(x.2.1,(x.2.2.1,(x.2.2.2.1,(x.2.2.2.2.1,(x.2.2.2.2.2.1,(x.2.2.2.2.2.2.1,(x.2.2.2.2.2.2.2.1,(x.2.2.2.2.2.2.2.2.1,(x.2.2.2.2.2.2.2.2.2.1,(x.2.2.2.2.2.2.2.2.2.2.1,(x.2.2.2.2.2.2.2.2.2.2.2.1,(List.take (0+(Int.toNat z)) x.2.2.2.2.2.2.2.2.2.2.2.2++(List.take (min v.length (x.2.2.2.2.2.2.2.2.2.2.2.2.length-(Int.toNat z))) v++List.drop ((0+(Int.toNat z))+(min v.length (x.2.2.2.2.2.2.2.2.2.2.2.2.length-(Int.toNat z)))) x.2.2.2.2.2.2.2.2.2.2.2.2)))))))))))))))))))))))
abbrev bZ.g:Sg:=⟨[.obj aJ,.val true iJ,.i,.i,.val false (.frz (.int .u64)),.b,.b],[vi]⟩
def R.bZ(x:aJ.den)(y:iJ.den)(z:Int)(u:Int)(v:Int)(w:Bool)(a:Bool):Res (Int×aJ.den) :=
 given (bZ.g.i (x,(y,(z,(u,(v,(w,a))))))) (cl (R.al x.2.2.2.2.1 y.2.2.2.2.2.2.2.2.2.1) al.g.o λb=>br (b.1.1 == 5) (cl (R.cL u) cL.g.o λd=>cl (R.iV d v) iV.g.o λe=>cl (R.dK x.2.2.2.2.1 y.2.2.2.2.2.2.2.2.2.1 z e) dK.g.o λf=>ok ((0,(x.1,(x.2.1,(x.2.2.1,(x.2.2.2.1,(f.2,x.2.2.2.2.2)))))))) (cl (R.bT x (3,(b.1.2.2.2.2.2.2.2.2.2.1,(z,(u,(0,(w,(a,(v,(0,((0,0),(([]:List Int),0)))))))))))) bT.g.o λc=>ok ((c.1.2,c.2))))
abbrev eg.g:Sg:=⟨[.obj aJ,.val true iJ,.i,.val true (.frz aC)],[(true,(.frz aC)),vi]⟩
def R.eg(y:aJ.den)(x:iJ.den)(v:Int)(z:aC.den):Res ((aC.den×Int)×aJ.den) :=
 given (eg.g.i (y,(x,(v,z)))) (cl (R.iq x.2.2.2.2.2.2.2.2.1 z) iq.g.o λw=>br (!(w.2 == 0)) (cl (R.aF y w.2) aF.g.o λa=>ok a) (br (ilt v x.2.2.2.2.2.2.2.2.2.2.2.1) (cl (R.cD x.2.2.2.2.2.2.2.2.1) cD.g.o λb=>cl (R.cD x.2.2.2.2.2.2.2.2.1) cD.g.o λc=>bd (R.fU x.2.2.2.2.2.2.2.2.1) λd=>cl (R.bZ y (x.1,(x.2.1,((),((),(x.2.2.2.2.1,(x.2.2.2.2.2.1,(x.2.2.2.2.2.2.1,(x.2.2.2.2.2.2.2.1,(x.2.2.2.2.2.2.2.2.1,(x.2.2.2.2.2.2.2.2.2.1,(x.2.2.2.2.2.2.2.2.2.2.1,(x.2.2.2.2.2.2.2.2.2.2.2.1,())))))))))))) (w6 (x.2.2.2.2.2.2.2.2.2.2.1+(w6 (v*b)))) c w.1 false (!d)) bZ.g.o λu=>br (!(u.1 == 0)) (ok (((zV,u.1),u.2))) (ok (((z,0),u.2)))) (ok (((z,0),y)))))
abbrev ee.g:Sg:=⟨[.obj aJ,.val true (.frz dN),.val true (.frz aC)],[(true,(.frz aC)),vi]⟩
def R.ee(x:aJ.den)(z:dN.den)(v:aC.den):Res ((aC.den×Int)×aJ.den) :=
 given (ee.g.i (x,(z,v))) (bd (R.kH z.2.1) λj=>br j (cl (R.aF x 1) aF.g.o λk=>ok k) (cl (R.cz z.2.2) cz.g.o λu=>br (!(u.2 == 0)) (cl (R.aF x u.2) aF.g.o λl=>ok l) (br (!(z.2.1.1 == 6)) (cl (R.aF x 1) aF.g.o λm=>ok m) (cl (R.al x.2.2.2.2.1 z.2.1.2.2.2.2) al.g.o λy=>cl (R.eH u.1) eH.g.o λw=>bd (α:=(Unit ⊕ (Int×(aJ.den×aC.den)))) (br (y.1.1 == 1) (cl (R.av [95,95,112,114,111,116,111,95,95]) av.g.o λn=>bd (R.jL u.1 n) λp=>br p (cl (R.aL x) aL.g.o λa=>ok (.inr (a.1.2,(a.2,a.1.1)))) (ok (.inl ()))) (br (y.1.1 == 2) (bd (α:=Bool) (br (!w.2) (ok true) (cl (R.bW x.2.2.2.2.1 z.2.1.2.2.2.2) bW.g.o λq=>ok ((ilt q w.1)))) λr=>br r (cl (R.aL x) aL.g.o λb=>ok (.inr (b.1.2,(b.2,b.1.1)))) (ok (.inl ()))) (br (y.1.1 == 3) (cl (R.cW x.2.2.2.2.1 z.2.1.2.2.2.2 u.1) cW.g.o λs=>br (!s.2) (cl (R.aL x) aL.g.o λc=>ok (.inr (c.1.2,(c.2,c.1.1)))) (ok (.inl ()))) (br (y.1.1 == 7) (br (!w.2) (cl (R.aL x) aL.g.o λd=>ok (.inr (d.1.2,(d.2,d.1.1)))) (cl (R.eg x (y.1.1,(y.1.2.1,((),((),(y.1.2.2.2.2.1,(y.1.2.2.2.2.2.1,(y.1.2.2.2.2.2.2.1,(y.1.2.2.2.2.2.2.2.1,(y.1.2.2.2.2.2.2.2.2.1,(y.1.2.2.2.2.2.2.2.2.2.1,(y.1.2.2.2.2.2.2.2.2.2.2.1,(y.1.2.2.2.2.2.2.2.2.2.2.2.1,())))))))))))) w.1 v) eg.g.o λe=>ok (.inr (e.1.2,(e.2,e.1.1))))) (cl (R.aL x) aL.g.o λf=>ok (.inr (f.1.2,(f.2,f.1.1)))))))) λt=>sum t (λB=>cl (R.bc x.2.2.2.2.1 z.2.1.2.2.2.2 u.1 v) bc.g.o λA=>ok (((v,0),(x.1,(x.2.1,(x.2.2.1,(x.2.2.2.1,(A.2,x.2.2.2.2.2)))))))) (λh=>ok (((h.2.2,h.1),h.2.1)))))))
abbrev eG.g:Sg:=⟨[.obj aJ,.val true (.frz dN),.val true (.frz aC),.val true (.bor (.seq .i (.seq (.seq .i (.seq (.frz aI) (.seq (.seq .b (.own .w)) (.seq (.own .h) .i)))) .b)))],[(true,(.frz aC)),vi]⟩
def R.eG(y:aJ.den)(x:dN.den)(z:aC.den)(u:aM.den):Res ((aC.den×Int)×aJ.den) :=
 given (eG.g.i (y,(x,(z,u)))) (br (!(x.1 == ([]:List UInt8))) (cl (R.dk y x.1 z u) dk.g.o λv=>ok v) (cl (R.ee y x z) ee.g.o λw=>ok w))
abbrev fc.g:Sg:=⟨[.obj aJ,.val true (.frz aC),.val true (.bor (.seq .i (.seq (.frz aI) (.seq (.seq .b (.own .w)) (.seq (.own .h) .i)))))],[(true,(.frz aC)),vi]⟩
def R.fc(x:aJ.den)(a:aC.den)(y:aC.den):Res ((aC.den×Int)×aJ.den) :=
 given (fc.g.i (x,(a,y))) (br (!(y.1 == 6)) (cl (R.aF x 1) aF.g.o λc=>ok c) (cl (R.cz a) cz.g.o λz=>br (!(z.2 == 0)) (cl (R.aF x z.2) aF.g.o λd=>ok d) (cl (R.al x.2.2.2.2.1 y.2.2.2.2) al.g.o λu=>cl (R.eH z.1) eH.g.o λv=>br (u.1.1 == 1) (cl (R.dm x.2.2.2.2.1 y.2.2.2.2 z.1) dm.g.o λw=>cl (R.fW z.1) fW.g.o λb=>bd (α:=Bool) (br (!w.2.2) (br (w.2.1 == (-1)) (br b.2 (bd (R.iG b.1) λe=>ok e) (ok false)) (ok false)) (ok false)) λf=>br f (cl (R.aL x) aL.g.o λh=>ok h) (cl (R.bP w.2.2) bP.g.o λj=>ok (((j,0),x)))) (bd (α:=Bool) (br (u.1.1 == 2) (ok (v.2)) (ok false)) λk=>br k (cl (R.bW x.2.2.2.2.1 y.2.2.2.2) bW.g.o λl=>cl (R.bP (ilt v.1 l)) bP.g.o λm=>ok (((m,0),x))) (bd (α:=Bool) (br (u.1.1 == 7) (ok (v.2)) (ok false)) λn=>br n (cl (R.bP (ilt v.1 u.1.2.2.2.2.2.2.2.2.2.2.2.1)) bP.g.o λp=>ok (((p,0),x))) (cl (R.aL x) aL.g.o λq=>ok q))))))
abbrev kj.g:Sg:=⟨[.val true (.frz aC),.val true (.frz aC)],[(true,(.frz aC)),vi]⟩
def R.kj(z:aC.den)(u:aC.den):Res ((aC.den×Int)) :=
 given (kj.g.i (z,u)) (cl (R.cz z) cz.g.o λx=>br (!(x.2 == 0)) (ok ((zV,x.2))) (cl (R.cz u) cz.g.o λy=>br (!(y.2 == 0)) (ok ((zV,y.2))) (br (ilt 4096 (w6 ((x.1.length:Int)+(y.1.length:Int)))) (ok ((zV,3))) (aZ (decide ((x.1.length+y.1.length)*2<=2^47)) (cl (R.cP (x.1++y.1)) cP.g.o λv=>ok ((v,0)))))))
abbrev fR.g:Sg:=⟨[.val true (.frz aC),.val true (.frz aC)],[(true,(.frz aC)),(true,(.frz aC)),vi]⟩
def R.fR(z:aC.den)(u:aC.den):Res ((aC.den×(aC.den×Int))) :=
 given (fR.g.i (z,u)) (cl (R.cV z) cV.g.o λx=>br (!(x.2 == 0)) (ok ((zV,(zV,x.2)))) (cl (R.cV u) cV.g.o λy=>br (!(y.2 == 0)) (ok ((zV,(zV,y.2)))) (br (!(x.1.1 == y.1.1)) (ok ((zV,(zV,1)))) (ok ((x.1,(y.1,0)))))))
abbrev mq.g:Sg:=⟨[.val true (.bor (.seq .b (.own .w))),.val true (.bor (.seq .b (.own .w)))],[(true,(.frz aj)),vb]⟩
def R.mq(x:aj.den)(y:aj.den):Res ((aj.den×Bool)) :=
 given (mq.g.i (x,y)) (cl (R.lW y) lW.g.o λz=>cl (R.lX x z) lX.g.o λu=>ok u)
abbrev mw.g:Sg:=⟨[.val true (.bor (.seq .b (.own .w))),.val true (.bor (.seq .b (.own .w)))],[(true,(.frz aj)),vb]⟩
def R.mw(w:aj.den)(a:aj.den):Res ((aj.den×Bool)) :=
 given (mw.g.i (w,a)) (cl (R.dV w) dV.g.o λu=>cl (R.dV a) dV.g.o λz=>aZ (ile 0 (w6 ((u.length:Int)+(z.length:Int))) && (ile (w6 ((u.length:Int)+(z.length:Int))) (w6 ((u.length:Int)+(z.length:Int))) && decide ((Int.toNat (w6 ((u.length:Int)+(z.length:Int))))*4<=2^47))) (bd (loop (α:=(Int×(List Int))) (β:=(List Int)) (λy=>br (ilt y.1 (u.length:Int)) (aZ (ile 0 y.1 && ilt y.1 u.length) (idx (.int .u32) u (0+Int.toNat y.1) λb=>bd (loop (α:=(Int×(Int×(List Int)))) (β:=(Int×(List Int))) (λx=>br (ilt x.2.1 (z.length:Int)) (aZ (ile 0 x.2.1 && ilt x.2.1 z.length) (idx (.int .u32) z (0+Int.toNat x.2.1) λc=>aZ (ile 0 (w6 (y.1+x.2.1)) && ilt (w6 (y.1+x.2.1)) x.2.2.length) (idx (.int .u32) x.2.2 (0+Int.toNat (w6 (y.1+x.2.1))) λd=>aZ (ile 0 (w6 (y.1+x.2.1)) && ilt (w6 (y.1+x.2.1)) x.2.2.length) (idx (.int .u32) x.2.2 (0+Int.toNat (w6 (y.1+x.2.1))) λk=>aZ (ile 0 32) (ok (.next ((iI .u64 (IntKind.wrap .u64 (x.1+(IntKind.wrap .u64 ((IntKind.wrap .u64 ((IntKind.wrap .u64 b)*(IntKind.wrap .u64 c)))+(IntKind.wrap .u64 d))))) 32,(w6 (x.2.1+1),(List.set x.2.2 (0+Int.toNat (w6 (y.1+x.2.1))) (IntKind.wrap .u32 (IntKind.wrap .u64 (x.1+(IntKind.wrap .u64 ((IntKind.wrap .u64 ((IntKind.wrap .u64 b)*(IntKind.wrap .u64 c)))+(IntKind.wrap .u64 d)))))))))))))))) (ok (.done ((x.1,x.2.2))))) fuel (0,(0,y.2))) λv=>aZ (ile 0 (w6 (y.1+(z.length:Int))) && ilt (w6 (y.1+(z.length:Int))) v.2.length) (idx (.int .u32) v.2 (0+Int.toNat (w6 (y.1+(z.length:Int)))) λl=>ok (.next ((w6 (y.1+1),(List.set v.2 (0+Int.toNat (w6 (y.1+(z.length:Int)))) (IntKind.wrap .u32 v.1)))))))) (ok (.done (y.2)))) fuel (0,(List.replicate (Int.toNat (w6 ((u.length:Int)+(z.length:Int)))) (0:Int)))) λe=>bd (R.iK w) λf=>bd (R.iK a) λh=>cl (R.jJ e (!(f == h))) jJ.g.o λj=>ok j))
abbrev jx.g:Sg:=⟨[.val false (.bor (.own .w)),.val false .w],[(false,(.own .w))]⟩
def R.jx(z:(List Int))(v:Int):Res ((List Int)) :=
 given (jx.g.i (z,v)) (bd (loop (α:=(Int×((List Int)×Int))) (β:=(Int×(List Int))) (λx=>br (ilt x.2.2 (z.length:Int)) (cO .w z x.2.2 λu=>aZ (ile 0 1) (aZ (decide ((x.2.1.length+[fM .or .u32 (pY .u32 u 1) x.1].length)*4<=2^47)) (aZ (ile 0 31) (ok (.next ((iI .u32 u 31,((x.2.1++[fM .or .u32 (pY .u32 u 1) x.1]),w6 (x.2.2+1))))))))) (ok (.done ((x.1,x.2.1))))) fuel (v,(([]:List Int),0))) λy=>aZ (decide ((y.2.length+[y.1].length)*4<=2^47)) (cl (R.ec (y.2++[y.1])) ec.g.o λa=>ok a))
abbrev iU.g:Sg:=⟨[.val false (.bor (.own .w)),.val false (.bor (.own .w))],[(false,(.own .w)),(false,(.own .w))]⟩
def R.iU(z:(List Int))(u:(List Int)):Res (((List Int)×(List Int))) :=
 given (iU.g.i (z,u)) (aZ (ile 0 (z.length:Int) && (ile (z.length:Int) (z.length:Int) && decide ((Int.toNat (z.length:Int))*4<=2^47))) (bd (loop (α:=((List Int)×(Int×(List Int)))) (β:=((List Int)×(List Int))) (λy=>br (ile 0 y.2.1) (bd (loop (α:=((List Int)×(Int×(List Int)))) (β:=((List Int)×(List Int))) (λx=>br (ile 0 x.2.1) (cO .w z y.2.1 λc=>aZ (ile 0 x.2.1) (cl (R.jx x.1 (fM .and .u32 (iI .u32 c x.2.1) 1)) jx.g.o λv=>cl (R.kV v u) kV.g.o λd=>br (ile 0 d) (cl (R.jD v u) jD.g.o λe=>cl (R.ec e) ec.g.o λf=>aZ (ile 0 y.2.1 && ilt y.2.1 x.2.2.length) (idx (.int .u32) x.2.2 (0+Int.toNat y.2.1) λh=>aZ (ile 0 x.2.1) (aZ (ile 0 y.2.1 && ilt y.2.1 x.2.2.length) (idx (.int .u32) x.2.2 (0+Int.toNat y.2.1) λj=>ok (.next ((f,(w6 (x.2.1-1),(List.set x.2.2 (0+Int.toNat y.2.1) (fM .or .u32 h (pY .u32 1 x.2.1))))))))))) (ok (.next ((v,(w6 (x.2.1-1),x.2.2))))))) (ok (.done ((x.1,x.2.2))))) fuel (y.1,(31,y.2.2))) λa=>ok (.next ((a.1,(w6 (y.2.1-1),a.2))))) (ok (.done ((y.1,y.2.2))))) fuel (([]:List Int),(w6 ((z.length:Int)-1),(List.replicate (Int.toNat (z.length:Int)) (0:Int))))) λb=>ok ((b.2,b.1))))
abbrev nB.g:Sg:=⟨[.val true (.bor (.seq .b (.own .w))),.val true (.bor (.seq .b (.own .w)))],[(true,(.frz aj)),vi]⟩
def R.nB(y:aj.den)(x:aj.den):Res ((aj.den×Int)) :=
 given (nB.g.i (y,x)) (cl (R.dV x) dV.g.o λz=>br ((z.length:Int) == 0) (ok (((false,([]:List Int)),4))) (cl (R.dV y) dV.g.o λu=>cl (R.dV x) dV.g.o λv=>cl (R.iU u v) iU.g.o λw=>bd (R.iK y) λa=>bd (R.iK x) λb=>cl (R.fI w.1 (!(a == b))) fI.g.o λc=>ok ((c,0))))
abbrev mm.g:Sg:=⟨[.val true (.bor (.seq .b (.own .w))),.val true (.bor (.seq .b (.own .w)))],[(true,(.frz aj)),vi]⟩
def R.mm(x:aj.den)(y:aj.den):Res ((aj.den×Int)) :=
 given (mm.g.i (x,y)) (cl (R.dV y) dV.g.o λz=>br ((z.length:Int) == 0) (ok (((false,([]:List Int)),4))) (cl (R.dV x) dV.g.o λu=>cl (R.dV y) dV.g.o λv=>cl (R.iU u v) iU.g.o λw=>bd (R.iK x) λa=>cl (R.fI w.2 a) fI.g.o λb=>ok ((b,0))))
abbrev ke.g:Sg:=⟨[.s,.val true (.bor (.seq .b (.own .w))),.val true (.bor (.seq .b (.own .w)))],[(true,(.frz aC)),vi]⟩
def R.ke(z:(List UInt8))(x:aj.den)(y:aj.den):Res ((aC.den×Int)) :=
 given (ke.g.i (z,(x,y))) (br (z == [43]) (cl (R.lX x y) lX.g.o λu=>cl (R.fE u.1 u.2) fE.g.o λd=>ok d) (br (z == [45]) (cl (R.mq x y) mq.g.o λv=>cl (R.fE v.1 v.2) fE.g.o λe=>ok e) (br (z == [42]) (cl (R.mw x y) mw.g.o λw=>cl (R.fE w.1 w.2) fE.g.o λf=>ok f) (cl (R.nB x y) nB.g.o λa=>bd (α:=(Int×aj.den)) (br (z == [37]) (cl (R.mm x y) mm.g.o λb=>ok ((b.2,b.1))) (ok ((a.2,a.1)))) λc=>br (!(c.1 == 0)) (ok ((zV,2))) (cl (R.ed c.2) ed.g.o λh=>ok ((h,0)))))))
abbrev nC.g:Sg:=⟨[.val true (.frz aI),.val true (.frz aI)],[(true,(.frz aI)),vb]⟩
def R.nC(x:aI.den)(y:aI.den):Res ((aI.den×Bool)) :=
 given (nC.g.i (x,y)) (cl (R.lU y) lU.g.o λz=>cl (R.lR x z) lR.g.o λu=>ok u)
abbrev jl.g:Sg:=⟨[.val true (.frz aI)],[vb]⟩
def R.jl(x:aI.den):Res (Bool) :=
 given (jl.g.i x) (br (x.1 == 1) (ok true) (br (x.1 == 4) (ok true) (br (x.1 == 0) (ok ((ilt x.2 0))) (ok false))))
abbrev dC.g:Sg:=⟨[.val true (.frz aI)],[vb]⟩
def R.dC(x:aI.den):Res (Bool) :=
 given (dC.g.i x) (br (x.1 == 1) (ok true) (br (x.1 == 0) (ok ((x.2 == 0))) (ok false)))
abbrev fo.g:Sg:=⟨[.i],[(false,(.frz (.int .u64)))]⟩
def R.fo(x:Int):Res (Int) :=
 given (fo.g.i x) (ok (IntKind.wrap .u64 (o6 x (w6 (0-x)))))
abbrev jg.g:Sg:=⟨[.val false (.frz (.int .u64)),.val false (.frz (.int .u64))],[(false,(.frz (.int .u64))),(false,(.frz (.int .u64)))]⟩
def R.jg(x:Int)(y:Int):Res ((Int×Int)) :=
 given (jg.g.i (x,y)) (aZ (ile 0 32) (aZ (ile 0 32) (aZ (ile 0 32) (aZ (ile 0 32) (aZ (ile 0 32) (ok ((IntKind.wrap .u64 ((IntKind.wrap .u64 ((IntKind.wrap .u64 ((iI .u64 x 32)*(iI .u64 y 32)))+(iI .u64 (IntKind.wrap .u64 ((IntKind.wrap .u64 ((iI .u64 x 32)*(fM .and .u64 y 4294967295)))+(iI .u64 (IntKind.wrap .u64 ((fM .and .u64 x 4294967295)*(fM .and .u64 y 4294967295))) 32))) 32)))+(iI .u64 (IntKind.wrap .u64 ((fM .and .u64 (IntKind.wrap .u64 ((IntKind.wrap .u64 ((iI .u64 x 32)*(fM .and .u64 y 4294967295)))+(iI .u64 (IntKind.wrap .u64 ((fM .and .u64 x 4294967295)*(fM .and .u64 y 4294967295))) 32))) 4294967295)+(IntKind.wrap .u64 ((fM .and .u64 x 4294967295)*(iI .u64 y 32))))) 32)),IntKind.wrap .u64 (x*y)))))))))
abbrev gf.g:Sg:=⟨[.val false (.frz (.int .u64)),.b],[(true,(.frz aI))]⟩
def R.gf(x:Int)(y:Bool):Res (aI.den) :=
 given (gf.g.i (x,y)) (br y (cl (R.cj (w6 (0-(w6 x)))) cj.g.o λz=>ok z) (cl (R.cj (w6 x)) cj.g.o λu=>ok u))
abbrev nE.g:Sg:=⟨[.val true (.frz aI),.val true (.frz aI)],[(true,(.frz aI)),vb]⟩
def R.nE(w:aI.den)(a:aI.den):Res ((aI.den×Bool)) :=
 given (nE.g.i (w,a)) (cl (R.ev w) ev.g.o λx=>cl (R.ev a) ev.g.o λy=>bd (R.jl x) λz=>bd (R.jl y) λu=>bd (α:=Bool) (bd (R.gD x) λb=>br b (ok true) (bd (R.gD y) λc=>br c (ok true) (bd (R.ei x) λd=>br d (bd (R.dC y) λe=>br e (ok true) (bd (R.dC x) λf=>br f (bd (R.ei y) λh=>ok h) (ok false))) (bd (R.dC x) λj=>br j (bd (R.ei y) λk=>ok k) (ok false))))) λl=>br l (cl (R.fY) fY.g.o λm=>ok ((m,true))) (bd (α:=Bool) (bd (R.ei x) λn=>br n (ok true) (bd (R.ei y) λp=>ok p)) λq=>br q (cl (R.jy (!(z == u))) jy.g.o λr=>ok ((r,true))) (bd (α:=Bool) (bd (R.dC x) λs=>br s (ok true) (bd (R.dC y) λt=>ok t)) λA=>br A (cl (R.gL (!(z == u))) gL.g.o λB=>ok ((B,true))) (cl (R.fo x.2) fo.g.o λC=>cl (R.fo y.2) fo.g.o λD=>cl (R.jg C D) jg.g.o λv=>bd (α:=Bool) (br (ilt 0 v.1) (ok true) (ok ((ilt 9007199254740991 v.2)))) λE=>br E (cl (R.fY) fY.g.o λF=>ok ((F,false))) (cl (R.gf v.2 (!(z == u))) gf.g.o λG=>ok ((G,true)))))))
abbrev mu.g:Sg:=⟨[.val true (.frz aI),.val true (.frz aI)],[(true,(.frz aI)),vb]⟩
def R.mu(v:aI.den)(w:aI.den):Res ((aI.den×Bool)) :=
 given (mu.g.i (v,w)) (cl (R.ev v) ev.g.o λx=>cl (R.ev w) ev.g.o λy=>bd (R.jl x) λz=>bd (R.jl y) λu=>bd (α:=Bool) (bd (R.gD x) λc=>br c (ok true) (bd (R.gD y) λd=>br d (ok true) (bd (R.ei x) λe=>br e (bd (R.ei y) λf=>br f (ok true) (bd (R.dC x) λh=>br h (bd (R.dC y) λj=>ok j) (ok false))) (bd (R.dC x) λk=>br k (bd (R.dC y) λl=>ok l) (ok false))))) λm=>br m (cl (R.fY) fY.g.o λn=>ok ((n,true))) (bd (α:=Bool) (bd (R.ei x) λp=>br p (ok true) (bd (R.dC y) λq=>ok q)) λr=>br r (cl (R.jy (!(z == u))) jy.g.o λs=>ok ((s,true))) (bd (α:=Bool) (bd (R.ei y) λt=>br t (ok true) (bd (R.dC x) λA=>ok A)) λB=>br B (cl (R.gL (!(z == u))) gL.g.o λC=>ok ((C,true))) (cl (R.fo x.2) fo.g.o λD=>cl (R.fo y.2) fo.g.o λa=>aZ (!(a == 0)) (br (!((Int.tmod D a) == 0)) (cl (R.fY) fY.g.o λE=>ok ((E,false))) (cl (R.fo x.2) fo.g.o λF=>cl (R.fo y.2) fo.g.o λb=>aZ (!(b == 0)) (cl (R.gf (IntKind.wrap .u64 (Int.tdiv F b)) (!(z == u))) gf.g.o λG=>ok ((G,true)))))))))
abbrev nA.g:Sg:=⟨[.val true (.frz aI),.val true (.frz aI)],[(true,(.frz aI))]⟩
def R.nA(u:aI.den)(v:aI.den):Res (aI.den) :=
 given (nA.g.i (u,v)) (cl (R.ev u) ev.g.o λx=>cl (R.ev v) ev.g.o λy=>bd (α:=Bool) (bd (R.gD x) λa=>br a (ok true) (bd (R.gD y) λb=>br b (ok true) (bd (R.ei x) λc=>br c (ok true) (bd (R.dC y) λd=>ok d)))) λe=>br e (cl (R.fY) fY.g.o λf=>ok f) (bd (α:=Bool) (bd (R.ei y) λh=>br h (ok true) (bd (R.dC x) λj=>ok j)) λk=>br k (ok x) (cl (R.fo x.2) fo.g.o λw=>cl (R.fo y.2) fo.g.o λz=>aZ (!(z == 0)) (br ((Int.tmod w z) == 0) (cl (R.gL (ilt x.2 0)) gL.g.o λl=>ok l) (cl (R.gf (Int.tmod w z) (ilt x.2 0)) gf.g.o λm=>ok m)))))
abbrev ju.g:Sg:=⟨[.s,.val true (.frz aC),.val true (.frz aC)],[(true,(.frz aC)),vi]⟩
def R.ju(y:(List UInt8))(z:aC.den)(u:aC.den):Res ((aC.den×Int)) :=
 given (ju.g.i (y,(z,u))) (cl (R.fR z u) fR.g.o λx=>br (!(x.2.2 == 0)) (ok ((zV,x.2.2))) (br (x.1.1 == 4) (cl (R.ke y x.1.2.2.1 x.2.1.2.2.1) ke.g.o λc=>ok c) (br (y == [43]) (cl (R.lR x.1.2.1 x.2.1.2.1) lR.g.o λv=>cl (R.cp v.1 v.2) cp.g.o λd=>ok d) (br (y == [45]) (cl (R.nC x.1.2.1 x.2.1.2.1) nC.g.o λw=>cl (R.cp w.1 w.2) cp.g.o λe=>ok e) (br (y == [42]) (cl (R.nE x.1.2.1 x.2.1.2.1) nE.g.o λa=>cl (R.cp a.1 a.2) cp.g.o λf=>ok f) (br (y == [47]) (cl (R.mu x.1.2.1 x.2.1.2.1) mu.g.o λb=>cl (R.cp b.1 b.2) cp.g.o λh=>ok h) (cl (R.nA x.1.2.1 x.2.1.2.1) nA.g.o λj=>cl (R.cp j true) cp.g.o λk=>ok k)))))))
abbrev kg.g:Sg:=⟨[.s,.val true (.frz aC),.val true (.frz aC)],[(true,(.frz aC)),vi]⟩
def R.kg(x:(List UInt8))(z:aC.den)(u:aC.den):Res ((aC.den×Int)) :=
 given (kg.g.i (x,(z,u))) (cl (R.fR z u) fR.g.o λy=>br (!(y.2.2 == 0)) (ok ((zV,y.2.2))) (bd (α:=Bool) (br (y.1.1 == 4) (ok ((x == [62,62,62]))) (ok false)) λv=>br v (ok ((zV,1))) (br (y.1.1 == 4) (ok ((zV,3))) (bd (α:=Int) (br (x == [38]) (ok 1) (br (x == [124]) (ok 2) (br (x == [94]) (ok 3) (br (x == [60,60]) (ok 4) (br (x == [62,62]) (ok 5) (br (x == [62,62,62]) (ok 6) (ok 0))))))) λw=>cl (R.mN w y.1.2.1 y.2.1.2.1) mN.g.o λa=>cl (R.cn a) cn.g.o λb=>ok ((b,0))))))
abbrev eY.g:Sg:=⟨[.val false .h],[vb]⟩
def R.eY(x:Int):Res (Bool) :=
 given (eY.g.i x) (ok ((!(x == x))))
abbrev dv.g:Sg:=⟨[.val false .h,.val false .h],[vi]⟩
def R.dv(x:Int)(y:Int):Res (Int) :=
 given (dv.g.i (x,y)) (bd (R.eY x) λu=>bd (R.eY y) λz=>br u (br z (ok 0) (ok ((-1)))) (br z (ok 1) (br (ilt x y) (ok ((-1))) (br (ilt y x) (ok 1) (ok 0)))))
abbrev ca.g:Sg:=⟨[.val false (.bor (.own .h)),.val false (.bor (.own .h))],[vi]⟩
def R.ca(s1_0:(List Int))(s2_1:(List Int)):Res (Int) :=
 given (ca.g.i (s1_0,s2_1)) (bd (loop (α:=Int) (β:=(Unit ⊕ Int)) (λx=>br (ilt x (s1_0.length:Int)) (cO .h s1_0 x λz=>br (ile (s2_1.length:Int) x) (ok (.done (.inr 1))) (cO .h s2_1 x λu=>cl (R.dv z u) dv.g.o λy=>br (!(y == 0)) (ok (.done (.inr y))) (ok (.next (w6 (x+1)))))) (ok (.done (.inl ())))) fuel 0) λv=>sum v (λa=>br (ilt (s1_0.length:Int) (s2_1.length:Int)) (ok ((-1))) (ok 0)) (λw=>ok w))
abbrev lL.g:Sg:=⟨[.val false (.bor (.own .h)),.val false (.bor (.own .h))],[vb]⟩
def R.lL(x:(List Int))(y:(List Int)):Res (Bool) :=
 given (lL.g.i (x,y)) (cl (R.ca x y) ca.g.o λz=>ok ((ilt z 0)))
abbrev lO.g:Sg:=⟨[.val true (.bor (.seq .b (.own .w))),.val true (.bor (.seq .b (.own .w)))],[vi]⟩
def R.lO(x:aj.den)(y:aj.den):Res (Int) :=
 given (lO.g.i (x,y)) (bd (R.iK x) λz=>bd (R.iK y) λu=>bd (α:=Bool) (br z (ok ((!u))) (ok false)) λv=>br v (ok ((-1))) (bd (α:=Bool) (br u (ok ((!z))) (ok false)) λw=>br w (ok 1) (br z (cl (R.dV y) dV.g.o λa=>cl (R.dV x) dV.g.o λb=>cl (R.kV a b) kV.g.o λc=>ok c) (cl (R.dV x) dV.g.o λd=>cl (R.dV y) dV.g.o λe=>cl (R.kV d e) kV.g.o λf=>ok f))))
abbrev gg.g:Sg:=⟨[.val true (.bor (.seq .b (.own .w))),.val true (.frz aI)],[vi,vb]⟩
def R.gg(y:aj.den)(x:aI.den):Res ((Int×Bool)) :=
 given (gg.g.i (y,x)) (br (x.1 == 2) (ok ((0,false))) (br (x.1 == 3) (ok (((-1),true))) (br (x.1 == 4) (ok ((1,true))) (cl (R.lB x.2) lB.g.o λz=>cl (R.lO y z) lO.g.o λu=>ok ((u,true))))))
abbrev kS.g:Sg:=⟨[.val true (.frz aI),.val true (.frz aI)],[vb]⟩
def R.kS(x:aI.den)(y:aI.den):Res (Bool) :=
 given (kS.g.i (x,y)) (cl (R.ev x) ev.g.o λz=>cl (R.ev y) ev.g.o λu=>bd (R.gD z) λv=>br (!v) (bd (R.gD u) λw=>br (!w) (cl (R.iP z) iP.g.o λa=>cl (R.iP u) iP.g.o λb=>ok ((ilt a b))) (ok false)) (ok false))
abbrev jf.g:Sg:=⟨[.val true (.bor (.seq .i (.seq (.frz aI) (.seq (.seq .b (.own .w)) (.seq (.own .h) .i))))),.val true (.bor (.seq .i (.seq (.frz aI) (.seq (.seq .b (.own .w)) (.seq (.own .h) .i)))))],[vi,vb]⟩
def R.jf(x:aC.den)(y:aC.den):Res ((Int×Bool)) :=
 given (jf.g.i (x,y)) (bd (α:=Bool) (br (x.1 == 4) (ok ((y.1 == 4))) (ok false)) λu=>br u (cl (R.lO x.2.2.1 y.2.2.1) lO.g.o λv=>ok ((v,true))) (br (x.1 == 4) (cl (R.gg x.2.2.1 y.2.1) gg.g.o λw=>ok w) (br (y.1 == 4) (cl (R.gg y.2.2.1 x.2.1) gg.g.o λz=>ok ((w6 (0-z.1),z.2))) (bd (R.kS x.2.1 y.2.1) λa=>br a (ok (((-1),true))) (bd (R.jn x.2.1 y.2.1) λb=>br b (ok ((0,true))) (bd (R.kS y.2.1 x.2.1) λc=>ok ((1,c))))))))
abbrev iF.g:Sg:=⟨[.val true (.frz aC),.val true (.frz aC),.b,.b],[(true,(.frz aC)),vi]⟩
def R.iF(x:aC.den)(y:aC.den)(v:Bool)(w:Bool):Res ((aC.den×Int)) :=
 given (iF.g.i (x,(y,(v,w)))) (bd (α:=Bool) (br (x.1 == 6) (ok true) (ok ((y.1 == 6)))) λd=>br d (ok ((zV,3))) (bd (α:=Bool) (br (x.1 == 5) (ok ((y.1 == 5))) (ok false)) λe=>br e (bd (α:=(aC.den×aC.den)) (br v (ok ((y,x))) (ok ((x,y)))) λa=>bd (R.lL a.1.2.2.2.1 a.2.2.2.2.1) λf=>cl (R.bP (!(f == w))) bP.g.o λh=>ok ((h,0))) (bd (α:=Bool) (br (x.1 == 5) (br (y.1 == 4) (ok true) (br (x.1 == 4) (ok ((y.1 == 5))) (ok false))) (br (x.1 == 4) (ok ((y.1 == 5))) (ok false))) λj=>br j (ok ((zV,3))) (cl (R.cV x) cV.g.o λz=>br (!(z.2 == 0)) (ok ((zV,z.2))) (cl (R.cV y) cV.g.o λu=>br (!(u.2 == 0)) (ok ((zV,u.2))) (bd (α:=(aC.den×aC.den)) (br v (ok ((u.1,z.1))) (ok ((z.1,u.1)))) λb=>cl (R.jf b.1 b.2) jf.g.o λc=>br c.2 (cl (R.bP (!((ilt c.1 0) == w))) bP.g.o λk=>ok ((k,0))) (cl (R.bP false) bP.g.o λl=>ok ((l,0)))))))))
abbrev dy.g:Sg:=⟨[.val false (.bor (.own .w)),.val false (.bor (.own .w))],[vb]⟩
def R.dy(s1_0:(List Int))(s2_1:(List Int)):Res (Bool) :=
 given (dy.g.i (s1_0,s2_1)) (br (!((s1_0.length:Int) == (s2_1.length:Int))) (ok false) (bd (loop (α:=Int) (β:=(Unit ⊕ Bool)) (λx=>br (ilt x (s1_0.length:Int)) (cO .w s1_0 x λy=>cO .w s2_1 x λz=>br (!(y == z)) (ok (.done (.inr false))) (ok (.next (w6 (x+1))))) (ok (.done (.inl ())))) fuel 0) λu=>sum u (λa=>ok true) (λv=>ok v)))
abbrev lM.g:Sg:=⟨[.val true (.bor (.seq .i (.seq (.frz aI) (.seq (.seq .b (.own .w)) (.seq (.own .h) .i))))),.val true (.bor (.seq .i (.seq (.frz aI) (.seq (.seq .b (.own .w)) (.seq (.own .h) .i)))))],[vb]⟩
def R.lM(x:aC.den)(y:aC.den):Res (Bool) :=
 given (lM.g.i (x,y)) (br (x.1 == y.1) (br ((x.2.1.1 == y.2.1.1) && ((x.2.1.2 == y.2.1.2) && true)) (br (x.2.2.1.1 == y.2.2.1.1) (bd (R.dy x.2.2.1.2 y.2.2.1.2) λz=>br z (bd (R.dX x.2.2.2.1 y.2.2.2.1) λu=>br u (ok ((x.2.2.2.2 == y.2.2.2.2))) (ok false)) (ok false)) (ok false)) (ok false)) (ok false))
abbrev gi.g:Sg:=⟨[.val true (.frz aC),.val true (.frz aC)],[vb]⟩
def R.gi(z:aC.den)(u:aC.den):Res (Bool) :=
 given (gi.g.i (z,u)) (cl (R.cM z) cM.g.o λx=>cl (R.cM u) cM.g.o λy=>br (!(x.1 == y.1)) (ok false) (br (x.1 == 3) (bd (R.jn x.2.1 y.2.1) λv=>ok v) (bd (R.lM x y) λw=>ok w)))
abbrev je.g:Sg:=⟨[.val true (.bor (.seq .i (.seq (.frz aI) (.seq (.seq .b (.own .w)) (.seq (.own .h) .i)))))],[vb]⟩
def R.je(x:aC.den):Res (Bool) :=
 given (je.g.i x) (br (x.1 == 0) (ok true) (ok ((x.1 == 1))))
abbrev gK.g:Sg:=⟨[.val true (.frz aC)],[(true,(.frz aC))]⟩
def R.gK(x:aC.den):Res (aC.den) :=
 given (gK.g.i x) (br (x.1 == 2) (cl (R.cn (0,x.2.2.2.2)) cn.g.o λy=>ok y) (ok x))
abbrev lx.g:Sg:=⟨[.val true (.bor (.seq .b (.own .w))),.val true (.bor (.seq .b (.own .w)))],[vb]⟩
def R.lx(x:aj.den)(y:aj.den):Res (Bool) :=
 given (lx.g.i (x,y)) (cl (R.lO x y) lO.g.o λz=>ok ((z == 0)))
abbrev kM.g:Sg:=⟨[.val true (.bor (.seq .b (.own .w))),.val true (.frz aI)],[vb]⟩
def R.kM(y:aj.den)(x:aI.den):Res (Bool) :=
 given (kM.g.i (y,x)) (br (x.1 == 1) (br ((y.2.length:Int) == 0) (ok true) (br (x.1 == 0) (cl (R.lB x.2) lB.g.o λz=>bd (R.lx y z) λu=>ok u) (ok false))) (br (x.1 == 0) (cl (R.lB x.2) lB.g.o λv=>bd (R.lx y v) λw=>ok w) (ok false)))
abbrev jk.g:Sg:=⟨[.val true (.frz aC),.val true (.frz aC)],[vb,vi]⟩
def R.jk(a:aC.den)(b:aC.den):Res ((Bool×Int)) :=
 given (jk.g.i (a,b)) (cl (R.cM a) cM.g.o λy=>cl (R.cM b) cM.g.o λz=>br (y.1 == z.1) (bd (R.gi y z) λc=>ok ((c,0))) (bd (α:=Bool) (bd (R.je y) λd=>br d (ok true) (bd (R.je z) λe=>ok e)) λf=>br f (bd (R.je y) λh=>br h (bd (R.je z) λj=>ok ((j,0))) (ok ((false,0)))) (cl (R.gK y) gK.g.o λv=>cl (R.gK z) gK.g.o λw=>bd (α:=(aC.den×aC.den)) (br (ilt w.1 v.1) (ok ((w,v))) (ok ((v,w)))) λx=>br (x.1.1 == x.2.1) (bd (R.gi x.1 x.2) λk=>ok ((k,0))) (bd (α:=Bool) (br (x.1.1 == 3) (ok ((x.2.1 == 4))) (ok false)) λl=>br l (bd (R.kM x.2.2.2.1 x.1.2.1) λm=>ok ((m,0))) (bd (α:=Bool) (br (x.1.1 == 3) (ok ((x.2.1 == 5))) (ok false)) λn=>br n (cl (R.cH x.2) cH.g.o λu=>br (u.2 == 0) (bd (R.jn x.1.2.1 u.1) λp=>ok ((p,u.2))) (ok ((false,u.2)))) (ok ((false,3))))))))
abbrev ga.g:Sg:=⟨[.s,.val true (.frz aC),.val true (.frz aC)],[(true,(.frz aC)),vi]⟩
def R.ga(x:(List UInt8))(v:aC.den)(w:aC.den):Res ((aC.den×Int)) :=
 given (ga.g.i (x,(v,w))) (cl (R.cM v) cM.g.o λy=>cl (R.cM w) cM.g.o λz=>br (x == [43]) (bd (α:=Bool) (br (y.1 == 5) (ok true) (ok ((z.1 == 5)))) λa=>br a (cl (R.kj y z) kj.g.o λb=>ok b) (cl (R.ju x y z) ju.g.o λc=>ok c)) (bd (α:=Bool) (br (x == [45]) (ok ((x == [45]))) (br (x == [42]) (ok ((x == [42]))) (br (x == [47]) (ok ((x == [47]))) (ok ((x == [37])))))) λd=>br d (cl (R.ju x y z) ju.g.o λe=>ok e) (bd (α:=Bool) (br (x == [38]) (ok ((x == [38]))) (br (x == [124]) (ok ((x == [124]))) (br (x == [94]) (ok ((x == [94]))) (br (x == [60,60]) (ok ((x == [60,60]))) (br (x == [62,62]) (ok ((x == [62,62]))) (ok ((x == [62,62,62])))))))) λf=>br f (cl (R.kg x y z) kg.g.o λh=>ok h) (br (x == [60]) (cl (R.iF y z false false) iF.g.o λj=>ok j) (br (x == [62]) (cl (R.iF y z true false) iF.g.o λk=>ok k) (br (x == [60,61]) (cl (R.iF y z true true) iF.g.o λl=>ok l) (br (x == [62,61]) (cl (R.iF y z false true) iF.g.o λm=>ok m) (br (x == [61,61,61]) (bd (R.gi y z) λn=>cl (R.bP n) bP.g.o λp=>ok ((p,0))) (br (x == [33,61,61]) (bd (R.gi y z) λq=>cl (R.bP (!q)) bP.g.o λr=>ok ((r,0))) (bd (α:=Bool) (br (x == [61,61]) (ok ((x == [61,61]))) (ok ((x == [33,61])))) λs=>br s (cl (R.jk y z) jk.g.o λu=>br (!(u.2 == 0)) (ok ((zV,u.2))) (cl (R.bP (u.1 == (x == [61,61]))) bP.g.o λt=>ok ((t,0)))) (ok ((zV,3)))))))))))))
abbrev bk.g:Sg:=⟨[.val false (.bor (.own (.frz aC))),.i],[(true,(.frz aC))]⟩
def R.bk(x:(List aC.den))(y:Int):Res (aC.den) :=
 given (bk.g.i (x,y)) (br (ilt y (x.length:Int)) (cO (.frz aC) x y λz=>ok z) (ok zV))
abbrev fp.g:Sg:=⟨[.val true (.frz aI)],[(true,(.frz aI))]⟩
def R.fp(y:aI.den):Res (aI.den) :=
 given (fp.g.i y) (cl (R.ev y) ev.g.o λx=>bd (α:=Bool) (br (x.1 == 2) (ok true) (ok ((x.1 == 1)))) λz=>br z (cl (R.cj 0) cj.g.o λu=>ok u) (ok x))
abbrev kf.g:Sg:=⟨[.val true (.frz aI)],[vi,vb]⟩
def R.kf(y:aI.den):Res ((Int×Bool)) :=
 given (kf.g.i y) (cl (R.fp y) fp.g.o λx=>bd (α:=Bool) (br (!(x.1 == 0)) (ok true) (ok ((ilt x.2 0)))) λz=>br z (ok ((0,false))) (ok ((x.2,true))))
abbrev dO.g:Sg:=⟨[.val true (.frz aC)],[vi,vi]⟩
def R.dO(y:aC.den):Res ((Int×Int)) :=
 given (dO.g.i y) (cl (R.cM y) cM.g.o λz=>br (z.1 == 0) (ok ((0,0))) (cl (R.cH z) cH.g.o λx=>br (!(x.2 == 0)) (ok ((0,x.2))) (cl (R.kf x.1) kf.g.o λu=>br (!u.2) (ok ((0,2))) (ok ((u.1,0))))))
abbrev cb.g:Sg:=⟨[.obj aJ,.val false (.bor (.own (.frz aC)))],[(true,(.frz aC)),vi]⟩
def R.cb(y:aJ.den)(u:(List aC.den)):Res ((aC.den×Int)×aJ.den) :=
 given (cb.g.i (y,u)) (cl (R.bk u 0) bk.g.o λv=>cl (R.dO v) dO.g.o λz=>br (!(z.2 == 0)) (cl (R.aF y z.2) aF.g.o λw=>ok w) (cl (R.bk u 1) bk.g.o λa=>br (!(a.1 == 0)) (cl (R.aL y) aL.g.o λb=>ok b) (cl (R.bT y (1,(0,(0,(0,(0,(false,(false,(0,(0,((0,0),(([]:List Int),z.1)))))))))))) bT.g.o λx=>br (!(x.1.2 == 0)) (ok (((zV,x.1.2),x.2))) (br (!(x.1.1.2.1 == 0)) (cl (R.aF x.2 2) aF.g.o λc=>ok c) (cl (R.aX x.2 (6,(0,(([]:List bO.den),(([]:List bH.den),(([]:List UInt8),(0,(0,(zV,(0,(x.1.1.2.2.1,(0,(z.1,([]:List Int)))))))))))))) aX.g.o λd=>ok d)))))
abbrev dx.g:Sg:=⟨[.val false (.bor aJ),.val true (.bor (.seq .i (.seq (.frz aI) (.seq (.seq .b (.own .w)) (.seq (.own .h) .i)))))],[vb]⟩
def R.dx(y:((List aE.den)×(eJ.den×((List eU.den)×(Int×(gW.den×(Int×(Int×(fT.den×iY.den)))))))))(x:aC.den):Res (Bool) :=
 given (dx.g.i (y,x)) (br (!(x.1 == 6)) (ok false) (cl (R.bC y.2.2.2.2.1 x.2.2.2.2) bC.g.o λz=>br (z == 5) (ok true) (ok ((z == 6)))))
abbrev ch.g:Sg:=⟨[.obj aJ,.val false (.bor (.own (.frz aC)))],[(true,(.frz aC)),vi]⟩
def R.ch(x:aJ.den)(z:(List aC.den)):Res ((aC.den×Int)×aJ.den) :=
 given (ch.g.i (x,z)) (cl (R.bk z 0) bk.g.o λv=>bd (R.dx x v) λe=>br (!e) (cl (R.aF x 1) aF.g.o λf=>ok f) (cl (R.cx x v.2.2.2.2) cx.g.o λw=>cl (R.bk z 1) bk.g.o λh=>cl (R.dO h) dO.g.o λy=>br (!(y.2 == 0)) (cl (R.aF x y.2) aF.g.o λj=>ok j) (br (ilt w y.1) (cl (R.aF x 2) aF.g.o λk=>ok k) (bd (α:=(Int ⊕ (Int×(aJ.den×aC.den)))) (cl (R.bk z 2) bk.g.o λd=>br (!(d.1 == 0)) (cl (R.dO d) dO.g.o λu=>br (!(u.2 == 0)) (cl (R.aF x u.2) aF.g.o λa=>ok (.inr (a.1.2,(a.2,a.1.1)))) (br (ilt (w6 (w-y.1)) u.1) (cl (R.aF x 2) aF.g.o λb=>ok (.inr (b.1.2,(b.2,b.1.1)))) (ok (.inl u.1)))) (ok (.inl (w6 (w-y.1))))) λl=>sum l (λm=>cl (R.aX x (8,(0,(([]:List bO.den),(([]:List bH.den),(([]:List UInt8),(0,(0,(zV,(0,(v.2.2.2.2,(y.1,(m,([]:List Int)))))))))))))) aX.g.o λn=>ok n) (λc=>ok (((c.2.2,c.1),c.2.1)))))))
end Go.Mach
end

set_option linter.unusedVariables false
set_option maxRecDepth 20000
noncomputable section
namespace Go.Mach
open Res
abbrev dM.g:Sg:=⟨[.s,.s],[vb]⟩
def R.dM(x:(List UInt8))(y:(List UInt8)):Res (Bool) :=
 given (dM.g.i (x,y)) (br (ile (y.length:Int) (x.length:Int)) (aZ (ile 0 (w6 ((x.length:Int)-(y.length:Int))) && ile (w6 ((x.length:Int)-(y.length:Int))) x.length) (ok (((List.drop (Int.toNat (w6 ((x.length:Int)-(y.length:Int)))) x) == y)))) (ok false))
abbrev cg.g:Sg:=⟨[.s,.s],[vs,vb]⟩
def R.cg(x:(List UInt8))(y:(List UInt8)):Res (((List UInt8)×Bool)) :=
 given (cg.g.i (x,y)) (bd (R.dM x y) λz=>br (!z) (ok ((x,false))) (aZ (ile 0 (w6 ((x.length:Int)-(y.length:Int))) && ile (w6 ((x.length:Int)-(y.length:Int))) x.length) (ok (((List.take (Int.toNat (w6 ((x.length:Int)-(y.length:Int)))) x),true)))))
abbrev eE.g:Sg:=⟨[.s,.s],[vs,vb]⟩
def R.eE(x:(List UInt8))(y:(List UInt8)):Res (((List UInt8)×Bool)) :=
 given (eE.g.i (x,y)) (cl (R.cg x y) cg.g.o λz=>ok z)
abbrev fN.g:Sg:=⟨[.s],[vi]⟩
def R.fN(x:(List UInt8)):Res (Int) :=
 given (fN.g.i x) (cl (R.fx) fx.g.o λy=>cl (R.bt y x) bt.g.o λz=>ok (w6 (1+z)))
abbrev jj.g:Sg:=⟨[.s],[vi]⟩
def R.jj(x:(List UInt8)):Res (Int) :=
 given (jj.g.i x) (cl (R.eE x [65,114,114,97,121]) eE.g.o λy=>br y.2 (cl (R.fN y.1) fN.g.o λz=>ok z) (ok 0))
abbrev eM.g:Sg:=⟨[.obj aJ,.i,.i,.val true (.frz aC),.val true (.frz aC)],[(true,(.frz aC)),vi]⟩
def R.eM(z:aJ.den)(w:Int)(a:Int)(j:aC.den)(v:aC.den):Res ((aC.den×Int)×aJ.den) :=
 given (eM.g.i (z,(w,(a,(j,v))))) (cl (R.cD w) cD.g.o λx=>cl (R.cx z a) cx.g.o λu=>cl (R.dO j) dO.g.o λy=>br (!(y.2 == 0)) (cl (R.aF z y.2) aF.g.o λk=>ok k) (aZ (!(x == 0)) (br (!((Int.tmod y.1 x) == 0)) (cl (R.aF z 2) aF.g.o λl=>ok l) (bd (α:=(Int ⊕ (Int×(aJ.den×aC.den)))) (br (!(v.1 == 0)) (cl (R.dO v) dO.g.o λb=>br (!(b.2 == 0)) (cl (R.aF z b.2) aF.g.o λc=>ok (.inr (c.1.2,(c.2,c.1.1)))) (ok (.inl b.1))) (ok (.inl 0))) λm=>sum m (λd=>bd (α:=(Int ⊕ (Int×(aJ.den×aC.den)))) (bd (α:=Bool) (br (v.1 == 0) (aZ (!(x == 0)) (br (!((Int.tmod u x) == 0)) (ok true) (br (ilt u y.1) (ok true) (aZ (!(x == 0)) (ok ((ilt (w6 (Int.tdiv (w6 (u-y.1)) x)) d))))))) (br (ilt u y.1) (ok true) (aZ (!(x == 0)) (ok ((ilt (w6 (Int.tdiv (w6 (u-y.1)) x)) d)))))) λn=>br n (cl (R.aF z 2) aF.g.o λe=>ok (.inr (e.1.2,(e.2,e.1.1)))) (br (v.1 == 0) (aZ (!(x == 0)) (ok (.inl (w6 (Int.tdiv (w6 (u-y.1)) x))))) (ok (.inl d)))) λp=>sum p (λq=>cl (R.aX z (7,(0,(([]:List bO.den),(([]:List bH.den),(([]:List UInt8),(0,(0,(zV,(w,(a,(y.1,(q,([]:List Int)))))))))))))) aX.g.o λr=>ok r) (λf=>ok (((f.2.2,f.1),f.2.1)))) (λh=>ok (((h.2.2,h.1),h.2.1)))))))
abbrev dG.g:Sg:=⟨[.obj aJ,.i,.val false (.bor (.own (.frz aC)))],[(true,(.frz aC)),vi]⟩
def R.dG(y:aJ.den)(u:Int)(v:(List aC.den)):Res ((aC.den×Int)×aJ.den) :=
 given (dG.g.i (y,(u,v))) (cl (R.bk v 0) bk.g.o λw=>cl (R.bk v 1) bk.g.o λb=>cl (R.bk v 2) bk.g.o λc=>cl (R.cD u) cD.g.o λz=>bd (R.dx y w) λd=>br d (cl (R.eM y u w.2.2.2.2 b c) eM.g.o λe=>ok e) (br (w.1 == 6) (cl (R.aL y) aL.g.o λf=>ok f) (cl (R.dO w) dO.g.o λx=>br (!(x.2 == 0)) (cl (R.aF y x.2) aF.g.o λh=>ok h) (aZ (!(z == 0)) (br (ilt (w6 (Int.tdiv 4096 z)) x.1) (cl (R.aF y 2) aF.g.o λj=>ok j) (aZ (ile 0 (w6 (x.1*z)) && (ile (w6 (x.1*z)) (w6 (x.1*z)) && decide ((Int.toNat (w6 (x.1*z)))*1<=2^47))) (cl (R.aX y (5,(0,(([]:List bO.den),(([]:List bH.den),(([]:List UInt8),(0,(0,(zV,(0,(0,(0,(0,(List.replicate (Int.toNat (w6 (x.1*z))) (0:Int))))))))))))))) aX.g.o λa=>br (!(a.1.2 == 0)) (ok a) (cl (R.aX a.2 (7,(0,(([]:List bO.den),(([]:List bH.den),(([]:List UInt8),(0,(0,(zV,(u,(a.1.1.2.2.2.2,(0,(x.1,([]:List Int)))))))))))))) aX.g.o λk=>ok k))))))))
abbrev cU.g:Sg:=⟨[.val false (.bor (.own .h)),.val false (.bor (.own .h))],[vi]⟩
def R.cU(x:(List Int))(y:(List Int)):Res (Int) :=
 given (cU.g.i (x,y)) (cl (R.eH x) eH.g.o λz=>cl (R.eH y) eH.g.o λu=>ok (w6 (z.1-u.1)))
abbrev aP.g:Sg:=⟨[.obj (.own (.frz (.list (.int .u16)))),.i,.i,.val false (.bor (.clo 430 .nil))],[]⟩
def R.aP(v:(List (List Int)))(z:Int)(w:Int)(a:Unit):Res (Unit×(List (List Int))) :=
 given (aP.g.i (v,(z,(w,a)))) (bd (loop (α:=(Int×(List (List Int)))) (β:=(List (List Int))) (λy=>br (ilt y.1 w) (bd (loop (α:=(Int×(List (List Int)))) (β:=(List (List Int))) (λx=>bd (α:=Bool) (br (ilt z x.1) (aZ (ile 0 x.1 && ilt x.1 x.2.length) (idx (.list (.int .u16)) x.2 (0+Int.toNat x.1) λb=>aZ (ile 0 (w6 (x.1-1)) && ilt (w6 (x.1-1)) x.2.length) (idx (.list (.int .u16)) x.2 (0+Int.toNat (w6 (x.1-1))) λc=>cl (R.cU b c) cU.g.o λd=>ok ((ilt d 0))))) (ok false)) λe=>br e (aZ (ile 0 (w6 (x.1-1)) && ilt (w6 (x.1-1)) x.2.length) (idx (.list (.int .u16)) x.2 (0+Int.toNat (w6 (x.1-1))) λu=>aZ (ile 0 x.1 && ilt x.1 x.2.length) (idx (.list (.int .u16)) x.2 (0+Int.toNat x.1) λf=>aZ (ile 0 x.1 && ilt x.1 x.2.length) (idx (.list (.int .u16)) x.2 (0+Int.toNat x.1) λk=>aZ (ile 0 (w6 (x.1-1)) && ilt (w6 (x.1-1)) (List.set x.2 (0+Int.toNat x.1) u).length) (idx (.list (.int .u16)) (List.set x.2 (0+Int.toNat x.1) u) (0+Int.toNat (w6 (x.1-1))) λl=>ok (.next ((w6 (x.1-1),(List.set (List.set x.2 (0+Int.toNat x.1) u) (0+Int.toNat (w6 (x.1-1))) f))))))))) (ok (.done (x.2)))) fuel y) λh=>ok (.next ((w6 (y.1+1),h)))) (ok (.done (y.2)))) fuel (w6 (z+1),v)) λj=>ok (((),j)))
abbrev aN.g:Sg:=⟨[.obj (.own (.frz (.list (.int .u16)))),.i,.i,.i,.val false (.bor (.clo 430 .nil))],[]⟩
def R.aN(v:(List (List Int)))(y:Int)(z:Int)(w:Int)(a:Unit):Res (Unit×(List (List Int))) :=
 given (aN.g.i (v,(y,(z,(w,a))))) (bd (loop (α:=(Int×(List (List Int)))) (β:=(List (List Int))) (λx=>br (ilt x.1 w) (aZ (ile 0 (w6 (z+x.1)) && ilt (w6 (z+x.1)) x.2.length) (idx (.list (.int .u16)) x.2 (0+Int.toNat (w6 (z+x.1))) λu=>aZ (ile 0 (w6 (y+x.1)) && ilt (w6 (y+x.1)) x.2.length) (idx (.list (.int .u16)) x.2 (0+Int.toNat (w6 (y+x.1))) λb=>aZ (ile 0 (w6 (y+x.1)) && ilt (w6 (y+x.1)) x.2.length) (idx (.list (.int .u16)) x.2 (0+Int.toNat (w6 (y+x.1))) λd=>aZ (ile 0 (w6 (z+x.1)) && ilt (w6 (z+x.1)) (List.set x.2 (0+Int.toNat (w6 (y+x.1))) u).length) (idx (.list (.int .u16)) (List.set x.2 (0+Int.toNat (w6 (y+x.1))) u) (0+Int.toNat (w6 (z+x.1))) λe=>ok (.next ((w6 (x.1+1),(List.set (List.set x.2 (0+Int.toNat (w6 (y+x.1))) u) (0+Int.toNat (w6 (z+x.1))) b))))))))) (ok (.done (x.2)))) fuel (0,v)) λc=>ok (((),c)))
abbrev aY.g:Sg:=⟨[.obj (.own (.frz (.list (.int .u16)))),.i,.i,.i,.val false (.bor (.clo 430 .nil))],[]⟩
def R.aY(u:(List (List Int)))(v:Int)(y:Int)(w:Int)(a:Unit):Res (Unit×(List (List Int))) :=
 given (aY.g.i (u,(v,(y,(w,a))))) (bd (loop (α:=(Int×(Int×(List (List Int))))) (β:=(Int×(List (List Int)))) (λx=>br (!(x.1 == x.2.1)) (br (ilt x.2.1 x.1) (cl (R.aN x.2.2 (w6 (y-x.1)) y x.2.1 ()) aN.g.o λb=>ok (.next ((w6 (x.1-x.2.1),(x.2.1,b.2))))) (cl (R.aN x.2.2 (w6 (y-x.1)) (w6 ((w6 (y+x.2.1))-x.1)) x.1 ()) aN.g.o λc=>ok (.next ((x.1,(w6 (x.2.1-x.1),c.2)))))) (ok (.done ((x.1,x.2.2))))) fuel (w6 (y-v),(w6 (w-y),u))) λz=>cl (R.aN z.2 (w6 (y-z.1)) y z.1 ()) aN.g.o λd=>ok (((),d.2)))
abbrev aH.g:Sg:=⟨[.obj (.own (.frz (.list (.int .u16)))),.i,.i,.i,.val false (.bor (.clo 430 .nil))],[]⟩
def R.aH:Nat->(List (List Int))->Int->Int->Int->Unit->Res (Unit×(List (List Int)))
 |0,_,_,_,_,_=>.stuck
 |fu+1,data_0,a_1,m_2,b_3,cmp_4=>given (aH.g.i (data_0,(a_1,(m_2,(b_3,cmp_4))))) (br ((w6 (m_2-a_1)) == 1) (bd (loop (α:=(Int×Int)) (β:=Int) (λi1=>br (ilt i1.1 i1.2) (aZ (ile 0 1) (aZ (ile 0 (w6 (iI .u64 (IntKind.wrap .u64 (w6 (i1.1+i1.2))) 1)) && ilt (w6 (iI .u64 (IntKind.wrap .u64 (w6 (i1.1+i1.2))) 1)) data_0.length) (idx (.list (.int .u16)) data_0 (0+Int.toNat (w6 (iI .u64 (IntKind.wrap .u64 (w6 (i1.1+i1.2))) 1))) λe2=>aZ (ile 0 a_1 && ilt a_1 data_0.length) (idx (.list (.int .u16)) data_0 (0+Int.toNat a_1) λe3=>cl (R.cU e2 e3) cU.g.o λr4=>br (ilt r4 0) (ok (.next ((w6 ((w6 (iI .u64 (IntKind.wrap .u64 (w6 (i1.1+i1.2))) 1))+1),i1.2)))) (ok (.next ((i1.1,w6 (iI .u64 (IntKind.wrap .u64 (w6 (i1.1+i1.2))) 1))))))))) (ok (.done (i1.1)))) fuel (m_2,b_3)) λi5=>bd (loop (α:=(Int×(List (List Int)))) (β:=(List (List Int))) (λk6=>br (ilt k6.1 (w6 (i5-1))) (aZ (ile 0 (w6 (k6.1+1)) && ilt (w6 (k6.1+1)) k6.2.length) (idx (.list (.int .u16)) k6.2 (0+Int.toNat (w6 (k6.1+1))) λe7=>aZ (ile 0 k6.1 && ilt k6.1 k6.2.length) (idx (.list (.int .u16)) k6.2 (0+Int.toNat k6.1) λe8=>aZ (ile 0 k6.1 && ilt k6.1 k6.2.length) (idx (.list (.int .u16)) k6.2 (0+Int.toNat k6.1) λe9=>aZ (ile 0 (w6 (k6.1+1)) && ilt (w6 (k6.1+1)) (List.set k6.2 (0+Int.toNat k6.1) e7).length) (idx (.list (.int .u16)) (List.set k6.2 (0+Int.toNat k6.1) e7) (0+Int.toNat (w6 (k6.1+1))) λe10=>ok (.next ((w6 (k6.1+1),(List.set (List.set k6.2 (0+Int.toNat k6.1) e7) (0+Int.toNat (w6 (k6.1+1))) e8))))))))) (ok (.done (k6.2)))) fuel (a_1,data_0)) λx11=>ok (((),x11))) (br ((w6 (b_3-m_2)) == 1) (bd (loop (α:=(Int×Int)) (β:=Int) (λi12=>br (ilt i12.1 i12.2) (aZ (ile 0 1) (aZ (ile 0 m_2 && ilt m_2 data_0.length) (idx (.list (.int .u16)) data_0 (0+Int.toNat m_2) λe13=>aZ (ile 0 (w6 (iI .u64 (IntKind.wrap .u64 (w6 (i12.1+i12.2))) 1)) && ilt (w6 (iI .u64 (IntKind.wrap .u64 (w6 (i12.1+i12.2))) 1)) data_0.length) (idx (.list (.int .u16)) data_0 (0+Int.toNat (w6 (iI .u64 (IntKind.wrap .u64 (w6 (i12.1+i12.2))) 1))) λe14=>cl (R.cU e13 e14) cU.g.o λr15=>br (!(ilt r15 0)) (ok (.next ((w6 ((w6 (iI .u64 (IntKind.wrap .u64 (w6 (i12.1+i12.2))) 1))+1),i12.2)))) (ok (.next ((i12.1,w6 (iI .u64 (IntKind.wrap .u64 (w6 (i12.1+i12.2))) 1))))))))) (ok (.done (i12.1)))) fuel (a_1,m_2)) λi16=>bd (loop (α:=(Int×(List (List Int)))) (β:=(List (List Int))) (λk17=>br (ilt i16 k17.1) (aZ (ile 0 (w6 (k17.1-1)) && ilt (w6 (k17.1-1)) k17.2.length) (idx (.list (.int .u16)) k17.2 (0+Int.toNat (w6 (k17.1-1))) λe18=>aZ (ile 0 k17.1 && ilt k17.1 k17.2.length) (idx (.list (.int .u16)) k17.2 (0+Int.toNat k17.1) λe19=>aZ (ile 0 k17.1 && ilt k17.1 k17.2.length) (idx (.list (.int .u16)) k17.2 (0+Int.toNat k17.1) λe20=>aZ (ile 0 (w6 (k17.1-1)) && ilt (w6 (k17.1-1)) (List.set k17.2 (0+Int.toNat k17.1) e18).length) (idx (.list (.int .u16)) (List.set k17.2 (0+Int.toNat k17.1) e18) (0+Int.toNat (w6 (k17.1-1))) λe21=>ok (.next ((w6 (k17.1-1),(List.set (List.set k17.2 (0+Int.toNat k17.1) e18) (0+Int.toNat (w6 (k17.1-1))) e19))))))))) (ok (.done (k17.2)))) fuel (m_2,data_0)) λx22=>ok (((),x22))) (aZ (ile 0 1) (bd (α:=(Int×Int)) (br (ilt (w6 (iI .u64 (IntKind.wrap .u64 (w6 (a_1+b_3))) 1)) m_2) (ok ((w6 ((w6 ((w6 (iI .u64 (IntKind.wrap .u64 (w6 (a_1+b_3))) 1))+m_2))-b_3),w6 (iI .u64 (IntKind.wrap .u64 (w6 (a_1+b_3))) 1)))) (ok ((a_1,m_2)))) λstart23=>bd (loop (α:=(Int×Int)) (β:=Int) (λstart24=>br (ilt start24.1 start24.2) (aZ (ile 0 1) (aZ (ile 0 (w6 ((w6 ((w6 ((w6 (iI .u64 (IntKind.wrap .u64 (w6 (a_1+b_3))) 1))+m_2))-1))-(w6 (iI .u64 (IntKind.wrap .u64 (w6 (start24.1+start24.2))) 1)))) && ilt (w6 ((w6 ((w6 ((w6 (iI .u64 (IntKind.wrap .u64 (w6 (a_1+b_3))) 1))+m_2))-1))-(w6 (iI .u64 (IntKind.wrap .u64 (w6 (start24.1+start24.2))) 1)))) data_0.length) (idx (.list (.int .u16)) data_0 (0+Int.toNat (w6 ((w6 ((w6 ((w6 (iI .u64 (IntKind.wrap .u64 (w6 (a_1+b_3))) 1))+m_2))-1))-(w6 (iI .u64 (IntKind.wrap .u64 (w6 (start24.1+start24.2))) 1))))) λe25=>aZ (ile 0 (w6 (iI .u64 (IntKind.wrap .u64 (w6 (start24.1+start24.2))) 1)) && ilt (w6 (iI .u64 (IntKind.wrap .u64 (w6 (start24.1+start24.2))) 1)) data_0.length) (idx (.list (.int .u16)) data_0 (0+Int.toNat (w6 (iI .u64 (IntKind.wrap .u64 (w6 (start24.1+start24.2))) 1))) λe26=>cl (R.cU e25 e26) cU.g.o λr27=>br (!(ilt r27 0)) (ok (.next ((w6 ((w6 (iI .u64 (IntKind.wrap .u64 (w6 (start24.1+start24.2))) 1))+1),start24.2)))) (ok (.next ((start24.1,w6 (iI .u64 (IntKind.wrap .u64 (w6 (start24.1+start24.2))) 1))))))))) (ok (.done (start24.1)))) fuel start23) λstart28=>bd (α:=(List (List Int))) (bd (α:=Bool) (br (ilt start28 m_2) (ok ((ilt m_2 (w6 ((w6 ((w6 (iI .u64 (IntKind.wrap .u64 (w6 (a_1+b_3))) 1))+m_2))-start28))))) (ok false)) λx29=>br x29 (cl (R.aY data_0 start28 m_2 (w6 ((w6 ((w6 (iI .u64 (IntKind.wrap .u64 (w6 (a_1+b_3))) 1))+m_2))-start28)) ()) aY.g.o λr30=>ok (r30.2)) (ok data_0)) λx31=>bd (α:=(List (List Int))) (bd (α:=Bool) (br (ilt a_1 start28) (ok ((ilt start28 (w6 (iI .u64 (IntKind.wrap .u64 (w6 (a_1+b_3))) 1))))) (ok false)) λx32=>br x32 (cl (R.aH fu x31 a_1 start28 (w6 (iI .u64 (IntKind.wrap .u64 (w6 (a_1+b_3))) 1)) ()) aH.g.o λr33=>ok (r33.2)) (ok x31)) λx34=>bd (α:=Bool) (br (ilt (w6 (iI .u64 (IntKind.wrap .u64 (w6 (a_1+b_3))) 1)) (w6 ((w6 ((w6 (iI .u64 (IntKind.wrap .u64 (w6 (a_1+b_3))) 1))+m_2))-start28))) (ok ((ilt (w6 ((w6 ((w6 (iI .u64 (IntKind.wrap .u64 (w6 (a_1+b_3))) 1))+m_2))-start28)) b_3))) (ok false)) λx35=>br x35 (cl (R.aH fu x34 (w6 (iI .u64 (IntKind.wrap .u64 (w6 (a_1+b_3))) 1)) (w6 ((w6 ((w6 (iI .u64 (IntKind.wrap .u64 (w6 (a_1+b_3))) 1))+m_2))-start28)) b_3 ()) aH.g.o λr36=>ok (((),r36.2))) (ok (((),x34)))))))
abbrev aV.g:Sg:=⟨[.obj (.own (.frz (.list (.int .u16)))),.i,.val false (.bor (.clo 430 .nil))],[]⟩
def R.aV(w:(List (List Int)))(u:Int)(b:Unit):Res (Unit×(List (List Int))) :=
 given (aV.g.i (w,(u,b))) (bd (loop (α:=(Int×(Int×(List (List Int))))) (β:=(Int×(List (List Int)))) (λz=>br (ile z.2.1 u) (cl (R.aP z.2.2 z.1 z.2.1 ()) aP.g.o λc=>ok (.next ((z.2.1,(w6 (z.2.1+20),c.2))))) (ok (.done ((z.1,z.2.2))))) fuel (0,(20,w))) λa=>cl (R.aP a.2 a.1 u ()) aP.g.o λd=>bd (loop (α:=(Int×(List (List Int)))) (β:=(List (List Int))) (λx=>br (ilt x.1 u) (bd (loop (α:=(Int×(Int×(List (List Int))))) (β:=(Int×(List (List Int)))) (λy=>br (ile y.2.1 u) (cl (R.aH fuel y.2.2 y.1 (w6 (y.1+x.1)) y.2.1 ()) aH.g.o λe=>ok (.next ((y.2.1,(w6 (y.2.1+(w6 (2*x.1))),e.2))))) (ok (.done ((y.1,y.2.2))))) fuel (0,(w6 (2*x.1),x.2))) λv=>br (ilt (w6 (v.1+x.1)) u) (cl (R.aH fuel v.2 v.1 (w6 (v.1+x.1)) u ()) aH.g.o λf=>ok (.next ((w6 (x.1*2),f.2)))) (ok (.next ((w6 (x.1*2),v.2))))) (ok (.done (x.2)))) fuel (20,d.2)) λh=>ok (((),h)))
abbrev aT.g:Sg:=⟨[.obj (.own (.frz (.list (.int .u16)))),.val false (.bor (.clo 430 .nil))],[]⟩
def R.aT(x:(List (List Int)))(y:Unit):Res (Unit×(List (List Int))) :=
 given (aT.g.i (x,y)) (cl (R.aV x (x.length:Int) ()) aV.g.o λz=>ok (((),z.2)))
abbrev eQ.g:Sg:=⟨[.val false (.bor fK),.i],[(false,(.own (.frz (.list (.int .u16)))))]⟩
def R.eQ(z:gW.den)(u:Int):Res ((List (List Int))) :=
 given (eQ.g.i (z,u)) (bd (R.bB z u) λb=>br (!b) (ok (([]:List (List Int)))) (cO kD z.2 u λw=>bd (loop (α:=((List (List Int))×((List (List Int))×Int))) (β:=((List (List Int))×(List (List Int)))) (λx=>br (ilt x.2.2 (w.2.2.1.length:Int)) (cO (.frz bO) w.2.2.1 x.2.2 λc=>bd (ok c.1) λy=>given (ma (.int .u16) y) (cl (R.eH y) eH.g.o λd=>br d.2 (aZ (decide ((x.1.length+[y].length)*24<=2^47)) (ok (.next (((x.1++[y]),(x.2.1,w6 (x.2.2+1))))))) (aZ (decide ((x.2.1.length+[y].length)*24<=2^47)) (ok (.next ((x.1,((x.2.1++[y]),w6 (x.2.2+1))))))))) (ok (.done ((x.1,x.2.1))))) fuel (([]:List (List Int)),(([]:List (List Int)),0))) λv=>cl (R.aT v.1 ()) aT.g.o λa=>aZ (decide ((a.2.length+v.2.length)*24<=2^47)) (ok ((a.2++v.2)))))
abbrev eI.g:Sg:=⟨[.obj aJ,.val true (.bor (.seq .i (.seq (.frz aI) (.seq (.seq .b (.own .w)) (.seq (.own .h) .i)))))],[(true,(.frz aC)),vi]⟩
def R.eI(z:aJ.den)(u:aC.den):Res ((aC.den×Int)×aJ.den) :=
 given (eI.g.i (z,u)) (bd (R.kH u) λe=>br e (cl (R.aF z 1) aF.g.o λf=>ok f) (bd (α:=Int) (br (u.1 == 6) (cl (R.bC z.2.2.2.2.1 u.2.2.2.2) bC.g.o λh=>ok h) (ok 0)) λc=>bd (α:=((List (List Int)) ⊕ (Int×(aJ.den×aC.den)))) (br (c == 1) (cl (R.eQ z.2.2.2.2.1 u.2.2.2.2) eQ.g.o λj=>ok (.inl j)) (br (c == 2) (cl (R.bW z.2.2.2.2.1 u.2.2.2.2) bW.g.o λk=>bd (loop (α:=((List (List Int))×Int)) (β:=(List (List Int))) (λv=>br (ilt v.2 k) (cl (R.gM v.2) gM.g.o λd=>aZ (decide ((v.1.length+[d].length)*24<=2^47)) (ok (.next (((v.1++[d]),w6 (v.2+1)))))) (ok (.done (v.1)))) fuel (([]:List (List Int)),0)) λl=>ok (.inl l)) (cl (R.aL z) aL.g.o λw=>ok (.inr (w.1.2,(w.2,w.1.1)))))) λm=>sum m (λa=>cl (R.aX z (2,(0,(([]:List bO.den),(([]:List bH.den),(([]:List UInt8),(0,(0,(zV,(0,(0,(0,(0,([]:List Int)))))))))))))) aX.g.o λx=>br (!(x.1.2 == 0)) (ok x) (bd (loop (α:=(Int×fK.den)) (β:=fK.den) (λy=>br (ilt y.1 (a.length:Int)) (aZ (ile 0 y.1 && ilt y.1 a.length) (idx (.list (.int .u16)) a (0+Int.toNat y.1) λn=>cl (R.gM y.1) gM.g.o λp=>cl (R.cP n) cP.g.o λq=>cl (R.bc y.2 x.1.1.2.2.2.2 p q) bc.g.o λr=>ok (.next ((w6 (y.1+1),r.2))))) (ok (.done (y.2)))) fuel (0,x.2.2.2.2.2.1)) λs=>ok (((x.1.1,0),(x.2.1,(x.2.2.1,(x.2.2.2.1,(x.2.2.2.2.1,(s,x.2.2.2.2.2.2))))))))) (λb=>ok (((b.2.2,b.1),b.2.1)))))
abbrev dL.g:Sg:=⟨[.obj aJ,.val true (.bor (.seq .i (.seq (.frz aI) (.seq (.seq .b (.own .w)) (.seq (.own .h) .i))))),.val true (.bor (.seq .i (.seq (.frz aI) (.seq (.seq .b (.own .w)) (.seq (.own .h) .i)))))],[(true,(.frz aC)),vi]⟩
def R.dL(x:aJ.den)(y:aC.den)(w:aC.den):Res ((aC.den×Int)×aJ.den) :=
 given (dL.g.i (x,(y,w))) (bd (α:=(Int ⊕ (Int×(aJ.den×aC.den)))) (bd (α:=Bool) (br (y.1 == 6) (cl (R.bC x.2.2.2.2.1 y.2.2.2.2) bC.g.o λa=>ok ((!(a == 1)))) (ok false)) λb=>br b (cl (R.aL x) aL.g.o λz=>ok (.inr (z.1.2,(z.2,z.1.1)))) (br (y.1 == 6) (ok (.inl y.2.2.2.2)) (br (!(y.1 == 1)) (cl (R.aF x 1) aF.g.o λu=>ok (.inr (u.1.2,(u.2,u.1.1)))) (ok (.inl (-2)))))) λc=>sum c (λd=>br (!(w.1 == 0)) (cl (R.aL x) aL.g.o λe=>ok e) (cl (R.aX x (1,(d,(([]:List bO.den),(([]:List bH.den),(([]:List UInt8),(0,(0,(zV,(0,(0,(0,(0,([]:List Int)))))))))))))) aX.g.o λf=>ok f)) (λv=>ok (((v.2.2,v.1),v.2.1))))
abbrev eK.g:Sg:=⟨[.obj aJ,.val true (.bor (.seq .i (.seq (.frz aI) (.seq (.seq .b (.own .w)) (.seq (.own .h) .i))))),.val false (.bor (.own (.frz aC)))],[(true,(.frz aC)),vi]⟩
def R.eK(x:aJ.den)(y:aC.den)(u:(List aC.den)):Res ((aC.den×Int)×aJ.den) :=
 given (eK.g.i (x,(y,u))) (bd (α:=Bool) (br (!(y.1 == 6)) (ok true) (cl (R.bC x.2.2.2.2.1 y.2.2.2.2) bC.g.o λw=>ok ((!(w == 2))))) λa=>br a (cl (R.aL x) aL.g.o λb=>ok b) (bd (loop (α:=(Int×fK.den)) (β:=fK.den) (λz=>br (ilt z.1 (u.length:Int)) (cO (.frz aC) u z.1 λc=>cl (R.bW z.2 y.2.2.2.2) bW.g.o λd=>cl (R.gM d) gM.g.o λe=>cl (R.bc z.2 y.2.2.2.2 e c) bc.g.o λf=>ok (.next ((w6 (z.1+1),f.2)))) (ok (.done (z.2)))) fuel (0,x.2.2.2.2.1)) λv=>cl (R.bW v y.2.2.2.2) bW.g.o λh=>cl (R.cG h) cG.g.o λj=>ok (((j,0),(x.1,(x.2.1,(x.2.2.1,(x.2.2.2.1,(v,x.2.2.2.2.2)))))))))
abbrev di.g:Sg:=⟨[.obj fK,.i],[(true,(.frz aC)),vb]⟩
def R.di(z:fK.den)(y:Int):Res ((aC.den×Bool)×fK.den) :=
 given (di.g.i (z,y)) (cl (R.bW z y) bW.g.o λu=>br (u == 0) (ok (((zV,false),z))) (cO kD z.2 y λx=>aZ ((Int.toNat y) == (Int.toNat y)) (aZ ((Int.toNat y) == (Int.toNat y)) (aZ (ile 0 (w6 ((x.2.2.1.length:Int)-1)) && ilt (w6 ((x.2.2.1.length:Int)-1)) x.2.2.1.length) (idx bO x.2.2.1 (0+Int.toNat (w6 ((x.2.2.1.length:Int)-1))) λv=>aZ ((Int.toNat y) == (Int.toNat y)) (aZ (ile 0 (w6 ((x.2.2.1.length:Int)-1)) && ile (w6 ((x.2.2.1.length:Int)-1)) x.2.2.1.length) (aZ ((Int.toNat y) == (Int.toNat y)) (cl (R.ea v.2) ea.g.o λw=>ok (((w,true),(z.1,(List.set z.2 (Int.toNat y) (x.1,(x.2.1,((List.take (Int.toNat (w6 ((x.2.2.1.length:Int)-1))) (List.drop 0 x.2.2.1)),x.2.2.2)))))))))))))))
abbrev kc.g:Sg:=⟨[.s],[(true,(.frz aI)),vb]⟩
def R.kc(x:(List UInt8)):Res ((aI.den×Bool)) :=
 given (kc.g.i x) (br (x == [78,97,78]) (cl (R.fY) fY.g.o λz=>ok ((z,true))) (br (x == [73,110,102,105,110,105,116,121]) (cl (R.jy false) jy.g.o λu=>ok ((u,true))) (br (x == [45,73,110,102,105,110,105,116,121]) (cl (R.jy true) jy.g.o λv=>ok ((v,true))) (cl (qU x) qL.g.o λy=>bd (α:=Bool) (br (!y.2) (ok true) (cl (rn y.1) rh.g.o λw=>ok ((!(w == x))))) λa=>br a (cl (R.fY) fY.g.o λb=>ok ((b,false))) (cl (R.nS y.1) nS.g.o λc=>ok c)))))
abbrev cR.g:Sg:=⟨[.obj aJ,.val true (.frz aC),.i],[(true,(.frz aC)),vi]⟩
def R.cR(x:aJ.den)(y:aC.den)(z:Int):Res ((aC.den×Int)×aJ.den) :=
 given (cR.g.i (x,(y,z))) (br (z == 0) (cl (R.cG 0) cG.g.o λw=>ok (((w,0),x))) (br (y.1 == 4) (cl (R.kz y.2.2.1) kz.g.o λa=>cl (R.kc a) kc.g.o λu=>br (!u.2) (cl (R.aL x) aL.g.o λb=>ok b) (cl (R.cn u.1) cn.g.o λc=>ok (((c,0),x)))) (cl (R.cH y) cH.g.o λv=>cl (R.cn v.1) cn.g.o λd=>cl (R.bj x d v.2) bj.g.o λe=>ok e)))
abbrev dE.g:Sg:=⟨[.obj aJ,.val true (.frz aC)],[(true,(.frz aC)),vi]⟩
def R.dE(y:aJ.den)(x:aC.den):Res ((aC.den×Int)×aJ.den) :=
 given (dE.g.i (y,x)) (br (x.1 == 3) (cl (R.fp x.2.1) fp.g.o λz=>bd (α:=Bool) (br (!(x.2.1.1 == 2)) (ok ((z.1 == 0))) (ok false)) λv=>br v (cl (R.lB z.2) lB.g.o λw=>cl (R.ed w) ed.g.o λa=>ok (((a,0),y))) (cl (R.aF y 2) aF.g.o λb=>ok b)) (cl (R.gC x) gC.g.o λu=>cl (R.ed u.1) ed.g.o λc=>cl (R.bj y c u.2) bj.g.o λd=>ok d))
abbrev cf.g:Sg:=⟨[.obj aJ,.s,.val true (.frz aC)],[(true,(.frz aC)),vi]⟩
def R.cf(x:aJ.den)(w:(List UInt8))(y:aC.den):Res ((aC.den×Int)×aJ.den) :=
 given (cf.g.i (x,(w,y))) (cl (R.cP ([]:List Int)) cP.g.o λa=>bd (α:=(aC.den ⊕ (Int×(aJ.den×aC.den)))) (br (!(y.1 == 0)) (cl (R.cz y) cz.g.o λz=>br (!(z.2 == 0)) (cl (R.aF x z.2) aF.g.o λu=>ok (.inr (u.1.2,(u.2,u.1.1)))) (cl (R.cP z.1) cP.g.o λb=>ok (.inl b))) (ok (.inl a))) λc=>sum c (λd=>cl (R.aX x (10,(0,(([]:List bO.den),(([]:List bH.den),(w,(0,(0,(d,(0,(0,(0,(0,([]:List Int)))))))))))))) aX.g.o λe=>ok e) (λv=>ok (((v.2.2,v.1),v.2.1))))
abbrev cm.g:Sg:=⟨[.s,.s],[vb]⟩
def R.cm(y:(List UInt8))(x:(List UInt8)):Res (Bool) :=
 given (cm.g.i (y,x)) (br (ile (x.length:Int) (y.length:Int)) (aZ (ile 0 (x.length:Int) && ile (x.length:Int) y.length) (ok (((List.take (Int.toNat (x.length:Int)) y) == x)))) (ok false))
abbrev cY.g:Sg:=⟨[.s,.s],[vb]⟩
def R.cY(x:(List UInt8))(y:(List UInt8)):Res (Bool) :=
 given (cY.g.i (x,y)) (bd (R.cm x y) λz=>ok z)
abbrev cT.g:Sg:=⟨[.s,.s],[vs]⟩
def R.cT(x:(List UInt8))(y:(List UInt8)):Res ((List UInt8)) :=
 given (cT.g.i (x,y)) (bd (R.cm x y) λz=>br z (aZ (ile 0 (y.length:Int) && ile (y.length:Int) x.length) (ok ((List.drop (Int.toNat (y.length:Int)) x)))) (ok x))
abbrev cB.g:Sg:=⟨[.s,.s],[vs]⟩
def R.cB(x:(List UInt8))(y:(List UInt8)):Res ((List UInt8)) :=
 given (cB.g.i (x,y)) (cl (R.cT x y) cT.g.o λz=>ok z)
abbrev hJ.g:Sg:=⟨[.i,.val false (.frz (.int .u64))],[(false,(.frz (.int .u64)))]⟩
def R.hJ(x:Int)(y:Int):Res (Int) :=
 given (hJ.g.i (x,y)) (cl (R.cL x) cL.g.o λz=>cl (R.iV z y) iV.g.o λu=>cl (R.b9 u) b9.g.o λv=>cl (R.cL x) cL.g.o λw=>cl (R.ff w v.2) ff.g.o λa=>ok (a.1))
abbrev dF.g:Sg:=⟨[.obj aJ,.s,.val true (.bor (.seq .i (.seq (.frz aI) (.seq (.seq .b (.own .w)) (.seq (.own .h) .i))))),.val false (.bor (.own (.frz aC)))],[(true,(.frz aC)),vi]⟩
def R.dF(y:aJ.den)(w:(List UInt8))(c:aC.den)(a:(List aC.den)):Res ((aC.den×Int)×aJ.den) :=
 given (dF.g.i (y,(w,(c,a)))) (cl (R.al y.2.2.2.2.1 c.2.2.2.2) al.g.o λx=>bd (α:=Bool) (br (!(c.1 == 6)) (ok true) (ok ((!(x.1.1 == 8))))) λp=>br p (cl (R.aF y 1) aF.g.o λq=>ok q) (aZ (ile 0 3 && ile 3 w.length) (cl (R.fN (List.drop (Int.toNat 3) w)) fN.g.o λb=>bd (R.cY w [115,101,116]) λd=>cl (R.cD b) cD.g.o λu=>cl (R.bk a 0) bk.g.o λr=>cl (R.dO r) dO.g.o λv=>br (!(v.2 == 0)) (cl (R.aF y v.2) aF.g.o λs=>ok s) (bd (α:=((Int×Int) ⊕ (Int×(aJ.den×aC.den)))) (br d (cl (R.bk a 1) bk.g.o λt=>cl (R.iq b t) iq.g.o λe=>br (!(e.2 == 0)) (cl (R.aF y e.2) aF.g.o λf=>ok (.inr (f.1.2,(f.2,f.1.1)))) (ok (.inl (e.1,2)))) (ok (.inl (0,1)))) λA=>sum A (λh=>cl (R.bk a h.2) bk.g.o λB=>bd (R.iM B) λm=>bd (α:=(Int ⊕ (Int×(aJ.den×aC.den)))) (bd (α:=Bool) (br (ilt x.1.2.2.2.2.2.2.2.2.2.2.2.1 u) (ok true) (ok ((ilt (w6 (x.1.2.2.2.2.2.2.2.2.2.2.2.1-u)) v.1)))) λC=>br C (cl (R.aF y 2) aF.g.o λj=>ok (.inr (j.1.2,(j.2,j.1.1)))) (bd (α:=Bool) (br d (ok ((!m))) (ok false)) λD=>br D (cl (R.hJ u h.1) hJ.g.o λE=>ok (.inl E)) (ok (.inl h.1)))) λF=>sum F (λG=>br d (cl (R.bZ y (x.1.1,(x.1.2.1,((),((),(x.1.2.2.2.2.1,(x.1.2.2.2.2.2.1,(x.1.2.2.2.2.2.2.1,(x.1.2.2.2.2.2.2.2.1,(x.1.2.2.2.2.2.2.2.2.1,(x.1.2.2.2.2.2.2.2.2.2.1,(x.1.2.2.2.2.2.2.2.2.2.2.1,(x.1.2.2.2.2.2.2.2.2.2.2.2.1,())))))))))))) (w6 (x.1.2.2.2.2.2.2.2.2.2.2.1+v.1)) u G false false) bZ.g.o λn=>ok (((zV,n.1),n.2))) (cl (R.bh y (x.1.1,(x.1.2.1,((),((),(x.1.2.2.2.2.1,(x.1.2.2.2.2.2.1,(x.1.2.2.2.2.2.2.1,(x.1.2.2.2.2.2.2.2.1,(x.1.2.2.2.2.2.2.2.2.1,(x.1.2.2.2.2.2.2.2.2.2.1,(x.1.2.2.2.2.2.2.2.2.2.2.1,(x.1.2.2.2.2.2.2.2.2.2.2.2.1,())))))))))))) (w6 (x.1.2.2.2.2.2.2.2.2.2.2.1+v.1)) u false false) bh.g.o λz=>br (!(z.1.2 == 0)) (ok (((zV,z.1.2),z.2))) (br (!m) (cl (R.hJ u z.1.1) hJ.g.o λH=>cl (R.eA b H) eA.g.o λI=>ok (((I,0),z.2))) (cl (R.eA b z.1.1) eA.g.o λJ=>ok (((J,0),z.2)))))) (λk=>ok (((k.2.2,k.1),k.2.1)))) (λl=>ok (((l.2.2,l.1),l.2.1)))))))
abbrev dq.g:Sg:=⟨[.obj aJ,.val true iJ,.val true (.frz aC)],[vi,(true,(.frz aC)),vi]⟩
def R.dq(y:aJ.den)(z:iJ.den)(u:aC.den):Res ((Int×(aC.den×Int))×aJ.den) :=
 given (dq.g.i (y,(z,u))) (cl (R.dO u) dO.g.o λx=>bd (α:=Int) (bd (α:=Bool) (br (x.2 == 0) (ok ((ile z.2.2.2.2.2.2.2.2.2.2.2.1 x.1))) (ok false)) λa=>br a (ok 2) (ok (x.2))) λv=>br (!(v == 0)) (cl (R.aF y v) aF.g.o λw=>ok (((0,w.1),w.2))) (ok (((x.1,(zV,0)),y))))
abbrev fA.g:Sg:=⟨[.val true (.frz aI)],[(true,(.frz aI))]⟩
def R.fA(x:aI.den):Res (aI.den) :=
 given (fA.g.i x) (cl (R.fp x) fp.g.o λy=>bd (R.kS y (0,0)) λz=>br z (ok ((0,0))) (ok y))
abbrev dt.g:Sg:=⟨[.obj aJ,.val true iJ,.val true iJ,.i,.val true (.frz aC),.val true (.frz aC)],[(true,(.frz aC)),vi]⟩
def R.dt(y:aJ.den)(z:iJ.den)(w:iJ.den)(a:Int)(b:aC.den)(c:aC.den):Res ((aC.den×Int)×aJ.den) :=
 given (dt.g.i (y,(z,(w,(a,(b,c)))))) (cl (R.iq z.2.2.2.2.2.2.2.2.1 b) iq.g.o λv=>br (!(v.2 == 0)) (cl (R.aF y v.2) aF.g.o λe=>ok e) (cl (R.cH c) cH.g.o λu=>br (!(u.2 == 0)) (cl (R.aF y u.2) aF.g.o λf=>ok f) (bd (α:=aI.den) (br (u.1.1 == 2) (ok ((3,0))) (ok (u.1))) λh=>cl (R.cD z.2.2.2.2.2.2.2.2.1) cD.g.o λd=>cl (R.fA h) fA.g.o λj=>cl (R.bT y (6,(w.2.2.2.2.2.2.2.2.2.1,(w6 (z.2.2.2.2.2.2.2.2.2.2.1+(w6 (a*d))),(d,(0,(false,(false,(0,(v.1,(j,(([]:List Int),0)))))))))))) bT.g.o λx=>br (!(x.1.2 == 0)) (ok (((zV,x.1.2),x.2))) (br (x.1.1.2.1 == 0) (cl (R.av [111,107]) av.g.o λk=>cl (R.cP k) cP.g.o λl=>ok (((l,0),x.2))) (br (x.1.1.2.1 == 1) (cl (R.av [110,111,116,45,101,113,117,97,108]) av.g.o λm=>cl (R.cP m) cP.g.o λn=>ok (((n,0),x.2))) (cl (R.av [116,105,109,101,100,45,111,117,116]) av.g.o λp=>cl (R.cP p) cP.g.o λq=>ok (((q,0),x.2))))))))
abbrev cS.g:Sg:=⟨[.obj aJ,.val true iJ,.val true iJ,.i,.val true (.frz aC)],[(true,(.frz aC)),vi]⟩
def R.cS(y:aJ.den)(z:iJ.den)(u:iJ.den)(c:Int)(v:aC.den):Res ((aC.den×Int)×aJ.den) :=
 given (cS.g.i (y,(z,(u,(c,v))))) (bd (α:=(aI.den ⊕ (Int×(aJ.den×aC.den)))) (br (!(v.1 == 0)) (cl (R.cH v) cH.g.o λw=>br (!(w.2 == 0)) (cl (R.aF y w.2) aF.g.o λa=>ok (.inr (a.1.2,(a.2,a.1.1)))) (cl (R.fA w.1) fA.g.o λd=>ok (.inl d))) (ok (.inl (3,0)))) λe=>sum e (λf=>br (!(u.1 == 6)) (cl (R.cG 0) cG.g.o λh=>ok (((h,0),y))) (cl (R.cD z.2.2.2.2.2.2.2.2.1) cD.g.o λj=>cl (R.bT y (7,(u.2.2.2.2.2.2.2.2.2.1,(w6 (z.2.2.2.2.2.2.2.2.2.2.1+(w6 (c*j))),(0,(0,(false,(false,(0,(0,(f,(([]:List Int),0)))))))))))) bT.g.o λx=>br (!(x.1.2 == 0)) (ok (((zV,x.1.2),x.2))) (cl (R.cG (w6 (fM .and .u64 x.1.1.1 9007199254740991))) cG.g.o λk=>ok (((k,0),x.2))))) (λb=>ok (((b.2.2,b.1),b.2.1))))
abbrev gH.g:Sg:=⟨[.i,.val true (.frz aC)],[(true,(.frz aC)),(false,(.frz (.int .u64))),vi]⟩
def R.gH(x:Int)(y:aC.den):Res ((aC.den×(Int×Int))) :=
 given (gH.g.i (x,y)) (bd (R.fU x) λw=>br w (cl (R.gC y) gC.g.o λz=>cl (R.ed z.1) ed.g.o λa=>cl (R.gF x z.1) gF.g.o λb=>ok ((a,(b,z.2)))) (cl (R.cH y) cH.g.o λu=>cl (R.fp u.1) fp.g.o λv=>cl (R.cn v) cn.g.o λc=>cl (R.gI x v) gI.g.o λd=>ok ((c,(d,u.2)))))
abbrev ig.g:Sg:=⟨[.i,.i,.val false (.frz (.int .u64)),.val false (.frz (.int .u64))],[(false,(.frz (.int .u64))),vb]⟩
def R.ig(x:Int)(y:Int)(u:Int)(z:Int):Res ((Int×Bool)) :=
 given (ig.g.i (x,(y,(u,z)))) (cl (R.cD x) cD.g.o λv=>br (v == 0) (ok ((0,false))) (br (y == 1) (cl (R.fD x (IntKind.wrap .u64 (u+z))) fD.g.o λw=>ok ((w,true))) (br (y == 2) (cl (R.fD x (fM .and .u64 u z)) fD.g.o λa=>ok ((a,true))) (br (y == 3) (cl (R.fD x (fM .or .u64 u z)) fD.g.o λb=>ok ((b,true))) (br (y == 4) (cl (R.fD x (IntKind.wrap .u64 (u-z))) fD.g.o λc=>ok ((c,true))) (br (y == 5) (cl (R.fD x (fM .xor .u64 u z)) fD.g.o λd=>ok ((d,true))) (br (y == 6) (cl (R.fD x z) fD.g.o λe=>ok ((e,true))) (ok ((0,false))))))))))
abbrev cX.g:Sg:=⟨[.obj aJ,.val true iJ,.i,.val true (.frz fT)],[(true,(.frz aC)),vi]⟩
def R.cX(w:aJ.den)(x:iJ.den)(a:Int)(y:fT.den):Res ((aC.den×Int)×aJ.den) :=
 given (cX.g.i (w,(x,(a,y)))) (cl (R.cD x.2.2.2.2.2.2.2.2.1) cD.g.o λz=>cl (R.al w.2.2.2.2.1 x.2.2.2.2.2.2.2.2.2.1) al.g.o λb=>br (!(b.1.1 == 5)) (cl (R.bT w (y.1,(b.1.2.2.2.2.2.2.2.2.2.1,(w6 (x.2.2.2.2.2.2.2.2.2.2.1+(w6 (a*z))),(z,(y.2.2.2.2.1,(true,(true,y.2.2.2.2.2.2.2)))))))) bT.g.o λu=>br (!(u.1.2 == 0)) (ok (((zV,u.1.2),u.2))) (cl (R.eA x.2.2.2.2.2.2.2.2.1 u.1.1.1) eA.g.o λc=>ok (((c,0),u.2)))) (cl (R.bh w (x.1,(x.2.1,((),((),(x.2.2.2.2.1,(x.2.2.2.2.2.1,(x.2.2.2.2.2.2.1,(x.2.2.2.2.2.2.2.1,(x.2.2.2.2.2.2.2.2.1,(x.2.2.2.2.2.2.2.2.2.1,(x.2.2.2.2.2.2.2.2.2.2.1,(x.2.2.2.2.2.2.2.2.2.2.2.1,())))))))))))) (w6 (x.2.2.2.2.2.2.2.2.2.2.1+(w6 (a*z)))) z true true) bh.g.o λv=>cl (R.ig x.2.2.2.2.2.2.2.2.1 y.2.2.2.2.1 v.1.1 y.2.2.2.2.2.2.2.1) ig.g.o λd=>bd (α:=Int) (br (y.1 == 5) (br (v.1.1 == y.2.2.2.2.2.2.2.2.1) (ok (y.2.2.2.2.2.2.2.1)) (ok (v.1.1))) (ok (d.1))) λe=>cl (R.bZ v.2 (x.1,(x.2.1,((),((),(x.2.2.2.2.1,(x.2.2.2.2.2.1,(x.2.2.2.2.2.2.1,(x.2.2.2.2.2.2.2.1,(x.2.2.2.2.2.2.2.2.1,(x.2.2.2.2.2.2.2.2.2.1,(x.2.2.2.2.2.2.2.2.2.2.1,(x.2.2.2.2.2.2.2.2.2.2.2.1,())))))))))))) (w6 (x.2.2.2.2.2.2.2.2.2.2.1+(w6 (a*z)))) z e true true) bZ.g.o λf=>cl (R.eA x.2.2.2.2.2.2.2.2.1 v.1.1) eA.g.o λh=>ok (((h,0),f.2))))
abbrev iD.g:Sg:=⟨[.s],[vi]⟩
def R.iD(x:(List UInt8)):Res (Int) :=
 given (iD.g.i x) (br (x == [97,100,100]) (ok 1) (br (x == [97,110,100]) (ok 2) (br (x == [111,114]) (ok 3) (br (x == [115,117,98]) (ok 4) (br (x == [120,111,114]) (ok 5) (ok 6))))))
end Go.Mach
end

set_option linter.unusedVariables false
set_option maxRecDepth 20000
noncomputable section
namespace Go.Mach
open Res
abbrev dH.g:Sg:=⟨[.obj aJ,.s,.val false (.bor (.own (.frz aC)))],[(true,(.frz aC)),vi]⟩
def R.dH(u:aJ.den)(v:(List UInt8))(w:(List aC.den)):Res ((aC.den×Int)×aJ.den) :=
 given (dH.g.i (u,(v,w))) (br (v == [105,115,76,111,99,107,70,114,101,101]) (cl (R.bk w 0) bk.g.o λm=>cl (R.cH m) cH.g.o λf=>br (!(f.2 == 0)) (cl (R.aF u f.2) aF.g.o λn=>ok n) (cl (R.fp f.1) fp.g.o λb=>br (b.1 == 0) (br (b.2 == 1) (cl (R.bP true) bP.g.o λp=>ok (((p,0),u))) (br (b.2 == 2) (cl (R.bP true) bP.g.o λq=>ok (((q,0),u))) (br (b.2 == 4) (cl (R.bP true) bP.g.o λr=>ok (((r,0),u))) (cl (R.bP (b.2 == 8)) bP.g.o λs=>ok (((s,0),u)))))) (cl (R.bP false) bP.g.o λt=>ok (((t,0),u))))) (cl (R.bk w 0) bk.g.o λj=>cl (R.al u.2.2.2.2.1 j.2.2.2.2) al.g.o λx=>cl (R.al u.2.2.2.2.1 x.1.2.2.2.2.2.2.2.2.2.1) al.g.o λy=>bd (α:=Bool) (br (v == [119,97,105,116]) (ok true) (ok ((v == [110,111,116,105,102,121])))) λA=>bd (α:=Bool) (bd (α:=Bool) (br (!(j.1 == 6)) (ok true) (ok ((!(x.1.1 == 7))))) λk=>br k (ok k) (bd (α:=Bool) (br A (br (!(x.1.2.2.2.2.2.2.2.2.1 == 5)) (ok ((!(x.1.2.2.2.2.2.2.2.2.1 == 7)))) (ok false)) (ok false)) λl=>br l (ok l) (br (v == [119,97,105,116]) (ok ((!(y.1.1 == 6)))) (ok false)))) λB=>br B (cl (R.aF u 1) aF.g.o λC=>ok C) (cl (R.bk w 1) bk.g.o λD=>cl (R.dq u (x.1.1,(x.1.2.1,((),((),(x.1.2.2.2.2.1,(x.1.2.2.2.2.2.1,(x.1.2.2.2.2.2.2.1,(x.1.2.2.2.2.2.2.2.1,(x.1.2.2.2.2.2.2.2.2.1,(x.1.2.2.2.2.2.2.2.2.2.1,(x.1.2.2.2.2.2.2.2.2.2.2.1,(x.1.2.2.2.2.2.2.2.2.2.2.2.1,())))))))))))) D) dq.g.o λz=>br (!(z.1.2.2 == 0)) (ok ((z.1.2,z.2))) (cl (R.cD x.1.2.2.2.2.2.2.2.2.1) cD.g.o λd=>br (v == [108,111,97,100]) (cl (R.bh z.2 (x.1.1,(x.1.2.1,((),((),(x.1.2.2.2.2.1,(x.1.2.2.2.2.2.1,(x.1.2.2.2.2.2.2.1,(x.1.2.2.2.2.2.2.2.1,(x.1.2.2.2.2.2.2.2.2.1,(x.1.2.2.2.2.2.2.2.2.2.1,(x.1.2.2.2.2.2.2.2.2.2.2.1,(x.1.2.2.2.2.2.2.2.2.2.2.2.1,())))))))))))) (w6 (x.1.2.2.2.2.2.2.2.2.2.2.1+(w6 (z.1.1*d)))) d true true) bh.g.o λc=>br (!(c.1.2 == 0)) (ok (((zV,c.1.2),c.2))) (cl (R.eA x.1.2.2.2.2.2.2.2.2.1 c.1.1) eA.g.o λE=>ok (((E,0),c.2)))) (br (v == [119,97,105,116]) (cl (R.bk w 2) bk.g.o λF=>cl (R.bk w 3) bk.g.o λG=>cl (R.dt z.2 (x.1.1,(x.1.2.1,((),((),(x.1.2.2.2.2.1,(x.1.2.2.2.2.2.1,(x.1.2.2.2.2.2.2.1,(x.1.2.2.2.2.2.2.2.1,(x.1.2.2.2.2.2.2.2.2.1,(x.1.2.2.2.2.2.2.2.2.2.1,(x.1.2.2.2.2.2.2.2.2.2.2.1,(x.1.2.2.2.2.2.2.2.2.2.2.2.1,())))))))))))) (y.1.1,(y.1.2.1,((),((),(y.1.2.2.2.2.1,(y.1.2.2.2.2.2.1,(y.1.2.2.2.2.2.2.1,(y.1.2.2.2.2.2.2.2.1,(y.1.2.2.2.2.2.2.2.2.1,(y.1.2.2.2.2.2.2.2.2.2.1,(y.1.2.2.2.2.2.2.2.2.2.2.1,(y.1.2.2.2.2.2.2.2.2.2.2.2.1,())))))))))))) z.1.1 F G) dt.g.o λH=>ok H) (br (v == [110,111,116,105,102,121]) (cl (R.bk w 2) bk.g.o λI=>cl (R.cS z.2 (x.1.1,(x.1.2.1,((),((),(x.1.2.2.2.2.1,(x.1.2.2.2.2.2.1,(x.1.2.2.2.2.2.2.1,(x.1.2.2.2.2.2.2.2.1,(x.1.2.2.2.2.2.2.2.2.1,(x.1.2.2.2.2.2.2.2.2.2.1,(x.1.2.2.2.2.2.2.2.2.2.2.1,(x.1.2.2.2.2.2.2.2.2.2.2.2.1,())))))))))))) (y.1.1,(y.1.2.1,((),((),(y.1.2.2.2.2.1,(y.1.2.2.2.2.2.1,(y.1.2.2.2.2.2.2.1,(y.1.2.2.2.2.2.2.2.1,(y.1.2.2.2.2.2.2.2.2.1,(y.1.2.2.2.2.2.2.2.2.2.1,(y.1.2.2.2.2.2.2.2.2.2.2.1,(y.1.2.2.2.2.2.2.2.2.2.2.2.1,())))))))))))) z.1.1 I) cS.g.o λJ=>ok J) (cl (R.bk w 2) bk.g.o λK=>cl (R.gH x.1.2.2.2.2.2.2.2.2.1 K) gH.g.o λa=>br (!(a.2.2 == 0)) (cl (R.aF z.2 a.2.2) aF.g.o λL=>ok L) (br (v == [115,116,111,114,101]) (cl (R.bZ z.2 (x.1.1,(x.1.2.1,((),((),(x.1.2.2.2.2.1,(x.1.2.2.2.2.2.1,(x.1.2.2.2.2.2.2.1,(x.1.2.2.2.2.2.2.2.1,(x.1.2.2.2.2.2.2.2.2.1,(x.1.2.2.2.2.2.2.2.2.2.1,(x.1.2.2.2.2.2.2.2.2.2.2.1,(x.1.2.2.2.2.2.2.2.2.2.2.2.1,())))))))))))) (w6 (x.1.2.2.2.2.2.2.2.2.2.2.1+(w6 (z.1.1*d)))) d a.2.1 true true) bZ.g.o λe=>br (!(e.1 == 0)) (ok (((zV,e.1),e.2))) (ok (((a.1,0),e.2)))) (br (v == [99,111,109,112,97,114,101,69,120,99,104,97,110,103,101]) (cl (R.bk w 3) bk.g.o λM=>cl (R.gH x.1.2.2.2.2.2.2.2.2.1 M) gH.g.o λh=>br (!(h.2.2 == 0)) (cl (R.aF z.2 h.2.2) aF.g.o λN=>ok N) (cl (R.cX z.2 (x.1.1,(x.1.2.1,((),((),(x.1.2.2.2.2.1,(x.1.2.2.2.2.2.1,(x.1.2.2.2.2.2.2.1,(x.1.2.2.2.2.2.2.2.1,(x.1.2.2.2.2.2.2.2.2.1,(x.1.2.2.2.2.2.2.2.2.2.1,(x.1.2.2.2.2.2.2.2.2.2.2.1,(x.1.2.2.2.2.2.2.2.2.2.2.2.1,())))))))))))) z.1.1 (5,(0,(0,(0,(0,(false,(false,(h.2.1,(a.2.1,((0,0),(([]:List Int),0)))))))))))) cX.g.o λO=>ok O)) (cl (R.iD v) iD.g.o λP=>cl (R.cX z.2 (x.1.1,(x.1.2.1,((),((),(x.1.2.2.2.2.1,(x.1.2.2.2.2.2.1,(x.1.2.2.2.2.2.2.1,(x.1.2.2.2.2.2.2.2.1,(x.1.2.2.2.2.2.2.2.2.1,(x.1.2.2.2.2.2.2.2.2.2.1,(x.1.2.2.2.2.2.2.2.2.2.2.1,(x.1.2.2.2.2.2.2.2.2.2.2.2.1,())))))))))))) z.1.1 (4,(0,(0,(0,(P,(false,(false,(a.2.1,(0,((0,0),(([]:List Int),0)))))))))))) cX.g.o λQ=>ok Q))))))))))
end Go.Mach
end

set_option linter.unusedVariables false
set_option maxRecDepth 20000
noncomputable section
namespace Go.Mach
open Res
abbrev eval_run_list.g:Sg:=⟨[.obj aJ,.val false (.frz (.list (.int .i64))),.val true (.frz aM)],[(true,(.frz aR))]⟩
abbrev eval_run_statement.g:Sg:=⟨[.obj aJ,.i,.val true (.frz aM),.val false (.frz (.list .str))],[(true,(.frz aR))]⟩
abbrev eval_run_act.g:Sg:=⟨[.obj aJ,.i,.val true (.frz aM),.val false (.frz (.list .str))],[(true,(.frz aR))]⟩
abbrev eval_run_expression.g:Sg:=⟨[.obj aJ,.i,.val true (.frz aM)],[(true,(.frz aC)),vi]⟩
abbrev eval_run_block.g:Sg:=⟨[.obj aJ,.i,.val true (.frz aM)],[(true,(.frz aR))]⟩
abbrev eval_run_decls.g:Sg:=⟨[.obj aJ,.val false (.frz (.list (.int .i64))),.val true (.frz aM)],[(true,(.frz aR))]⟩
abbrev eval_run_choice.g:Sg:=⟨[.obj aJ,.val false (.frz (.list (.int .i64))),.val true (.frz aM)],[(true,(.frz aR))]⟩
abbrev eval_run_while.g:Sg:=⟨[.obj aJ,.val false (.frz (.list (.int .i64))),.val true (.frz aM),.val false (.frz (.list .str))],[(true,(.frz aR))]⟩
abbrev eval_run_loop.g:Sg:=⟨[.obj aJ,.val false (.frz (.list (.int .i64))),.val true (.frz aM),.val false (.frz (.list .str))],[(true,(.frz aR))]⟩
abbrev eval_run_try.g:Sg:=⟨[.obj aJ,.val false (.frz (.list (.int .i64))),.val true (.frz aM)],[(true,(.frz aR))]⟩
abbrev eval_run_value.g:Sg:=⟨[.obj aJ,.i,.val true (.frz aM)],[(true,(.frz aC)),vi]⟩
abbrev eval_run_asked.g:Sg:=⟨[.obj aJ,.i,.val true (.frz aM)],[vb,(true,(.frz aR))]⟩
abbrev eval_run_first.g:Sg:=⟨[.obj aJ,.i,.val true (.frz aM)],[(true,(.frz aM)),(true,(.frz aR))]⟩
abbrev eval_run_catch.g:Sg:=⟨[.obj aJ,.s,.i,.val true (.frz aC),.val true (.frz aM)],[(true,(.frz aR))]⟩
abbrev eval_run_array.g:Sg:=⟨[.obj aJ,.val false (.frz (.list (.int .i64))),.val true (.frz aM)],[(true,(.frz aC)),vi]⟩
abbrev eval_run_object.g:Sg:=⟨[.obj aJ,.val false (.frz (.list (.int .i64))),.val true (.frz aM)],[(true,(.frz aC)),vi]⟩
abbrev eval_run_operation.g:Sg:=⟨[.obj aJ,.i,.val true (.frz aE),.val true (.frz aM)],[(true,(.frz aC)),vi]⟩
abbrev eval_run_unary.g:Sg:=⟨[.obj aJ,.s,.i,.val true (.frz aM)],[(true,(.frz aC)),vi]⟩
abbrev eval_run_step.g:Sg:=⟨[.obj aJ,.val true (.frz aE),.val true (.frz aM)],[(true,(.frz aC)),vi]⟩
abbrev eval_run_binary.g:Sg:=⟨[.obj aJ,.val true (.frz aE),.val true (.frz aM)],[(true,(.frz aC)),vi]⟩
abbrev eval_run_logic.g:Sg:=⟨[.obj aJ,.val true (.frz aE),.val true (.frz aM)],[(true,(.frz aC)),vi]⟩
abbrev eval_run_assign.g:Sg:=⟨[.obj aJ,.val true (.frz aE),.val true (.frz aM)],[(true,(.frz aC)),vi]⟩
abbrev eval_run_callee.g:Sg:=⟨[.obj aJ,.val false (.frz (.list (.int .i64))),.val true (.frz aM)],[(true,(.frz aC)),vi]⟩
abbrev eval_run_arguments.g:Sg:=⟨[.obj aJ,.val false (.frz (.list (.int .i64))),.val true (.frz aM)],[(false,(.own (.frz aC))),(true,(.frz aC)),vi]⟩
abbrev eval_run_fresh.g:Sg:=⟨[.obj aJ,.val true (.frz aC),.val false (.frz (.list aC))],[(true,(.frz aC)),vi]⟩
abbrev eval_run_property.g:Sg:=⟨[.obj aJ,.i,.val true (.frz aM)],[(true,(.frz aC)),vi]⟩
abbrev eval_run_parts.g:Sg:=⟨[.obj aJ,.i,.val true (.frz aM)],[(true,(.frz dN)),(true,(.frz aC)),vi]⟩
abbrev eval_run_called.g:Sg:=⟨[.obj aJ,.i,.val true (.frz aM)],[(true,(.frz aC)),(true,(.frz aC)),vi]⟩
abbrev eval_run_call.g:Sg:=⟨[.obj aJ,.val true (.frz aC),.val true (.frz aC),.val false (.frz (.list aC))],[(true,(.frz aC)),vi]⟩
abbrev eval_run_builds.g:Sg:=⟨[.obj aJ,.s,.val false (.frz (.list aC))],[(true,(.frz aC)),vi]⟩
abbrev eval_run_apply.g:Sg:=⟨[.obj aJ,.i,.val true (.frz aC),.val false (.frz (.list aC))],[(true,(.frz aC)),vi]⟩
abbrev eval_run_does.g:Sg:=⟨[.obj aJ,.s,.val true (.frz aC),.val false (.frz (.list aC))],[(true,(.frz aC)),vi]⟩
abbrev eval_run_host.g:Sg:=⟨[.obj aJ,.s,.val true (.frz aC)],[(true,(.frz aC)),vi]⟩
abbrev eval_run_receives.g:Sg:=⟨[.obj aJ,.val true (.frz aC)],[(true,(.frz aC)),vi]⟩
structure af where
 eval_run_list:aJ.den->(List Int)->aM.den->Res (aR.den×aJ.den)
 eval_run_statement:aJ.den->Int->aM.den->(List (List UInt8))->Res (aR.den×aJ.den)
 eval_run_act:aJ.den->Int->aM.den->(List (List UInt8))->Res (aR.den×aJ.den)
 eval_run_expression:aJ.den->Int->aM.den->Res ((aC.den×Int)×aJ.den)
 eval_run_block:aJ.den->Int->aM.den->Res (aR.den×aJ.den)
 eval_run_decls:aJ.den->(List Int)->aM.den->Res (aR.den×aJ.den)
 eval_run_choice:aJ.den->(List Int)->aM.den->Res (aR.den×aJ.den)
 eval_run_while:aJ.den->(List Int)->aM.den->(List (List UInt8))->Res (aR.den×aJ.den)
 eval_run_loop:aJ.den->(List Int)->aM.den->(List (List UInt8))->Res (aR.den×aJ.den)
 eval_run_try:aJ.den->(List Int)->aM.den->Res (aR.den×aJ.den)
 eval_run_value:aJ.den->Int->aM.den->Res ((aC.den×Int)×aJ.den)
 eval_run_asked:aJ.den->Int->aM.den->Res ((Bool×aR.den)×aJ.den)
 eval_run_first:aJ.den->Int->aM.den->Res ((aM.den×aR.den)×aJ.den)
 eval_run_catch:aJ.den->(List UInt8)->Int->aC.den->aM.den->Res (aR.den×aJ.den)
 eval_run_array:aJ.den->(List Int)->aM.den->Res ((aC.den×Int)×aJ.den)
 eval_run_object:aJ.den->(List Int)->aM.den->Res ((aC.den×Int)×aJ.den)
 eval_run_operation:aJ.den->Int->aE.den->aM.den->Res ((aC.den×Int)×aJ.den)
 eval_run_unary:aJ.den->(List UInt8)->Int->aM.den->Res ((aC.den×Int)×aJ.den)
 eval_run_step:aJ.den->aE.den->aM.den->Res ((aC.den×Int)×aJ.den)
 eval_run_binary:aJ.den->aE.den->aM.den->Res ((aC.den×Int)×aJ.den)
 eval_run_logic:aJ.den->aE.den->aM.den->Res ((aC.den×Int)×aJ.den)
 eval_run_assign:aJ.den->aE.den->aM.den->Res ((aC.den×Int)×aJ.den)
 eval_run_callee:aJ.den->(List Int)->aM.den->Res ((aC.den×Int)×aJ.den)
 eval_run_arguments:aJ.den->(List Int)->aM.den->Res (((List aC.den)×(aC.den×Int))×aJ.den)
 eval_run_fresh:aJ.den->aC.den->(List aC.den)->Res ((aC.den×Int)×aJ.den)
 eval_run_property:aJ.den->Int->aM.den->Res ((aC.den×Int)×aJ.den)
 eval_run_parts:aJ.den->Int->aM.den->Res ((dN.den×(aC.den×Int))×aJ.den)
 eval_run_called:aJ.den->Int->aM.den->Res ((aC.den×(aC.den×Int))×aJ.den)
 eval_run_call:aJ.den->aC.den->aC.den->(List aC.den)->Res ((aC.den×Int)×aJ.den)
 eval_run_builds:aJ.den->(List UInt8)->(List aC.den)->Res ((aC.den×Int)×aJ.den)
 eval_run_apply:aJ.den->Int->aC.den->(List aC.den)->Res ((aC.den×Int)×aJ.den)
 eval_run_does:aJ.den->(List UInt8)->aC.den->(List aC.den)->Res ((aC.den×Int)×aJ.den)
 eval_run_host:aJ.den->(List UInt8)->aC.den->Res ((aC.den×Int)×aJ.den)
 eval_run_receives:aJ.den->aC.den->Res ((aC.den×Int)×aJ.den)
def R.eval_run_list(G:af)(u:aJ.den)(z:(List Int))(v:aM.den):Res (aR.den×aJ.den) :=
 given (eval_run_list.g.i (u,(z,v))) (bd (loop (α:=(Int×aJ.den)) (β:=(aJ.den ⊕ (aJ.den×aR.den))) (λx=>br (ilt x.1 (z.length:Int)) (idx (.int .i64) z x.1 λa=>cl (G.eval_run_statement x.2 a v ([]:List (List UInt8))) eval_run_statement.g.o λy=>br (!(y.1.1 == 0)) (ok (.done (.inr (y.2,y.1)))) (ok (.next ((w6 (x.1+1),y.2))))) (ok (.done (.inl x.2)))) fuel (0,u)) λb=>sum b (λc=>ok (((0,(([]:List UInt8),zV)),c))) (λw=>ok ((w.2,w.1))))
def R.eval_run_statement(G:af)(z:aJ.den)(u:Int)(v:aM.den)(w:(List (List UInt8))):Res (aR.den×aJ.den) :=
 given (eval_run_statement.g.i (z,(u,(v,w)))) (cl (R.bu z) bu.g.o λy=>br (!y.1) (ok (((5,(([]:List UInt8),zV)),y.2))) (cl (G.eval_run_act y.2 u v w) eval_run_act.g.o λx=>ok ((x.1,(x.2.1,(x.2.2.1,(x.2.2.2.1,(x.2.2.2.2.1,(x.2.2.2.2.2.1,(w6 (x.2.2.2.2.2.2.1-1),x.2.2.2.2.2.2.2))))))))))
def R.eval_run_act(G:af)(y:aJ.den)(a:Int)(z:aM.den)(v:(List (List UInt8))):Res (aR.den×aJ.den) :=
 given (eval_run_act.g.i (y,(a,(z,v)))) (idx aE y.1 a λx=>br (x.1 == 3) (idx (.int .i64) x.2.2.2.2.2 0 λe=>cl (G.eval_run_expression y e z) eval_run_expression.g.o λu=>br (!(u.1.2 == 0)) (ok (((u.1.2,(([]:List UInt8),u.1.1)),u.2))) (ok (((0,(([]:List UInt8),zV)),u.2)))) (br (x.1 == 4) (cl (G.eval_run_block y a z) eval_run_block.g.o λf=>ok f) (bd (α:=Bool) (br (x.1 == 5) (ok ((x.1 == 5))) (ok ((x.1 == 6)))) λh=>br h (cl (G.eval_run_decls y x.2.2.2.2.2 z) eval_run_decls.g.o λj=>ok j) (br (x.1 == 8) (cl (G.eval_run_choice y x.2.2.2.2.2 z) eval_run_choice.g.o λk=>ok k) (br (x.1 == 9) (cl (G.eval_run_while y x.2.2.2.2.2 z v) eval_run_while.g.o λl=>ok l) (br (x.1 == 10) (cl (G.eval_run_loop y x.2.2.2.2.2 z v) eval_run_loop.g.o λm=>ok m) (br (x.1 == 12) (ok (((1,(x.2.1,zV)),y))) (br (x.1 == 13) (ok (((2,(x.2.1,zV)),y))) (br (x.1 == 14) (br ((x.2.2.2.2.2.length:Int) == 0) (ok (((3,(([]:List UInt8),zV)),y))) (idx (.int .i64) x.2.2.2.2.2 0 λn=>cl (G.eval_run_expression y n z) eval_run_expression.g.o λb=>cl (R.eV 3 b.1.1 b.1.2) eV.g.o λp=>ok ((p,b.2)))) (br (x.1 == 15) (idx (.int .i64) x.2.2.2.2.2 0 λq=>cl (G.eval_run_expression y q z) eval_run_expression.g.o λc=>cl (R.eV 4 c.1.1 c.1.2) eV.g.o λr=>ok ((r,c.2))) (br (x.1 == 16) (cl (G.eval_run_try y x.2.2.2.2.2 z) eval_run_try.g.o λs=>ok s) (br (x.1 == 18) (idx (.int .i64) x.2.2.2.2.2 0 λt=>bd (ok v) λd=>given (ma .str d) (aZ (decide ((d.length+[x.2.1].length)*16<=2^47)) (cl (G.eval_run_statement y t z (d++[x.2.1])) eval_run_statement.g.o λw=>bd (α:=Bool) (br (w.1.1 == 1) (ok ((w.1.2.1 == x.2.1))) (ok false)) λA=>br A (ok (((0,(([]:List UInt8),zV)),w.2))) (ok w)))) (ok (((0,(([]:List UInt8),zV)),y)))))))))))))))
def R.eval_run_expression(G:af)(z:aJ.den)(u:Int)(v:aM.den):Res ((aC.den×Int)×aJ.den) :=
 given (eval_run_expression.g.i (z,(u,v))) (cl (R.bu z) bu.g.o λy=>br (!y.1) (ok (((zV,5),y.2))) (cl (G.eval_run_value y.2 u v) eval_run_value.g.o λx=>ok ((x.1,(x.2.1,(x.2.2.1,(x.2.2.2.1,(x.2.2.2.2.1,(x.2.2.2.2.2.1,(w6 (x.2.2.2.2.2.2.1-1),x.2.2.2.2.2.2.2))))))))))
def R.eval_run_block(G:af)(u:aJ.den)(v:Int)(y:aM.den):Res (aR.den×aJ.den) :=
 given (eval_run_block.g.i (u,(v,y))) (bd (α:=((aJ.den×aM.den) ⊕ (aJ.den×aR.den))) (cl (R.fJ u.1 v) fJ.g.o λb=>br (ilt 0 (b.length:Int)) (cl (R.bm u y.1) bm.g.o λx=>br (!(x.1.2 == 0)) (ok (.inr (x.2,(x.1.2,(([]:List UInt8),zV))))) (cl (R.cA x.2 v (x.1.1,y.2)) cA.g.o λz=>br (!(z.1.2 == 0)) (ok (.inr (z.2,(z.1.2,(([]:List UInt8),z.1.1))))) (ok (.inl (z.2,(x.1.1,y.2)))))) (ok (.inl (u,y)))) λc=>sum c (λw=>idx aE w.1.1 v λd=>cl (G.eval_run_list w.1 d.2.2.2.2.2 w.2) eval_run_list.g.o λe=>ok e) (λa=>ok ((a.2,a.1))))
def R.eval_run_decls(G:af)(a:aJ.den)(u:(List Int))(v:aM.den):Res (aR.den×aJ.den) :=
 given (eval_run_decls.g.i (a,(u,v))) (bd (loop (α:=(Int×aJ.den)) (β:=(aJ.den ⊕ (aJ.den×aR.den))) (λx=>br (ilt x.1 (u.length:Int)) (idx (.int .i64) u x.1 λc=>idx aE x.2.1 c λw=>bd (α:=((aJ.den×aC.den) ⊕ (aJ.den×aR.den))) (br (ilt 0 (w.2.2.2.2.2.length:Int)) (idx (.int .i64) w.2.2.2.2.2 0 λd=>cl (G.eval_run_expression x.2 d v) eval_run_expression.g.o λz=>br (!(z.1.2 == 0)) (ok (.inr (z.2,(z.1.2,(([]:List UInt8),z.1.1))))) (ok (.inl (z.2,z.1.1)))) (ok (.inl (x.2,zV)))) λe=>sum e (λy=>cl (R.cN y.1.2.2.2.2.1 v.1 w.2.1 y.2 true) cN.g.o λf=>ok (.next ((w6 (x.1+1),(y.1.1,(y.1.2.1,(y.1.2.2.1,(y.1.2.2.2.1,(f.2,y.1.2.2.2.2.2))))))))) (λh=>ok (.done (.inr h)))) (ok (.done (.inl x.2)))) fuel (0,a)) λj=>sum j (λk=>ok (((0,(([]:List UInt8),zV)),k))) (λb=>ok ((b.2,b.1))))
def R.eval_run_choice(G:af)(u:aJ.den)(y:(List Int))(z:aM.den):Res (aR.den×aJ.den) :=
 given (eval_run_choice.g.i (u,(y,z))) (idx (.int .i64) y 0 λv=>cl (G.eval_run_asked u v z) eval_run_asked.g.o λx=>br (!(x.1.2.1 == 0)) (ok ((x.1.2,x.2))) (br x.1.1 (idx (.int .i64) y 1 λw=>cl (G.eval_run_statement x.2 w z ([]:List (List UInt8))) eval_run_statement.g.o λa=>ok a) (br (ilt 2 (y.length:Int)) (idx (.int .i64) y 2 λb=>cl (G.eval_run_statement x.2 b z ([]:List (List UInt8))) eval_run_statement.g.o λc=>ok c) (ok (((0,(([]:List UInt8),zV)),x.2))))))
def R.eval_run_while(G:af)(v:aJ.den)(y:(List Int))(z:aM.den)(w:(List (List UInt8))):Res (aR.den×aJ.den) :=
 given (eval_run_while.g.i (v,(y,(z,w)))) (bd (loop (α:=aJ.den) (β:=(aJ.den×aR.den)) (λc=>idx (.int .i64) y 0 λd=>cl (G.eval_run_asked c d z) eval_run_asked.g.o λx=>bd (α:=Bool) (br (!(x.1.2.1 == 0)) (ok true) (ok ((!x.1.1)))) λe=>br e (ok (.done ((x.2,x.1.2)))) (idx (.int .i64) y 1 λf=>cl (G.eval_run_statement x.2 f z ([]:List (List UInt8))) eval_run_statement.g.o λu=>cl (R.iL u.1 w) iL.g.o λa=>br a.1 (ok (.next (u.2))) (ok (.done ((u.2,a.2)))))) fuel v) λb=>ok ((b.2,b.1)))
def R.eval_run_loop(G:af)(d:aJ.den)(x:(List Int))(e:aM.den)(f:(List (List UInt8))):Res (aR.den×aJ.den) :=
 given (eval_run_loop.g.i (d,(x,(e,f)))) (idx (.int .i64) x 0 λm=>cl (G.eval_run_first d m e) eval_run_first.g.o λy=>br (!(y.1.2.1 == 0)) (ok ((y.1.2,y.2))) (idx (.int .i64) x 0 λn=>idx aE y.2.1 n λh=>bd (α:=((aJ.den×aM.den) ⊕ (aJ.den×aR.den))) (br (h.1 == 5) (cl (R.cw y.2 y.1.1) cw.g.o λu=>br (!(u.1.2 == 0)) (ok (.inr (u.2,(u.1.2,(([]:List UInt8),zV))))) (ok (.inl (u.2,u.1.1)))) (ok (.inl (y.2,y.1.1)))) λp=>sum p (λq=>bd (loop (α:=(aJ.den×aM.den)) (β:=(aJ.den×aR.den)) (λz=>bd (α:=(aJ.den ⊕ (aJ.den×aR.den))) (idx (.int .i64) x 1 λr=>idx aE z.1.1 r λs=>br (!(s.1 == 11)) (idx (.int .i64) x 1 λt=>cl (G.eval_run_asked z.1 t z.2) eval_run_asked.g.o λv=>bd (α:=Bool) (br (!(v.1.2.1 == 0)) (ok true) (ok ((!v.1.1)))) λA=>br A (ok (.inr (v.2,v.1.2))) (ok (.inl v.2))) (ok (.inl z.1))) λB=>sum B (λC=>idx (.int .i64) x 3 λD=>cl (G.eval_run_statement C D z.2 ([]:List (List UInt8))) eval_run_statement.g.o λc=>cl (R.iL c.1 f) iL.g.o λj=>br (!j.1) (ok (.done ((c.2,j.2)))) (bd (α:=((aJ.den×aM.den) ⊕ (aJ.den×aR.den))) (br (h.1 == 5) (cl (R.cw c.2 z.2) cw.g.o λw=>br (!(w.1.2 == 0)) (ok (.inr (w.2,(w.1.2,(([]:List UInt8),zV))))) (ok (.inl (w.2,w.1.1)))) (ok (.inl (c.2,z.2)))) λE=>sum E (λa=>idx (.int .i64) x 2 λF=>idx aE a.1.1 F λH=>br (H.1 == 11) (ok (.next (a))) (idx (.int .i64) x 2 λI=>cl (G.eval_run_expression a.1 I a.2) eval_run_expression.g.o λb=>br (!(b.1.2 == 0)) (ok (.done ((b.2,(b.1.2,(([]:List UInt8),b.1.1)))))) (ok (.next ((b.2,a.2)))))) (λJ=>ok (.done (J))))) (λK=>ok (.done (K)))) fuel q) λk=>ok ((k.2,k.1))) (λl=>ok ((l.2,l.1)))))
def R.eval_run_try(G:af)(a:aJ.den)(z:(List Int))(u:aM.den):Res (aR.den×aJ.den) :=
 given (eval_run_try.g.i (a,(z,u))) (idx (.int .i64) z 0 λc=>cl (G.eval_run_statement a c u ([]:List (List UInt8))) eval_run_statement.g.o λx=>bd (α:=(aJ.den×aR.den)) (idx (.int .i64) z 1 λd=>idx aE x.2.1 d λv=>bd (α:=Bool) (br (x.1.1 == 4) (ok ((v.1 == 17))) (ok false)) λe=>br e (idx (.int .i64) v.2.2.2.2.2 0 λf=>cl (G.eval_run_catch x.2 v.2.1 f x.1.2.2 u) eval_run_catch.g.o λb=>ok ((b.2,b.1))) (ok ((x.2,x.1)))) λy=>bd (α:=Bool) (br (y.2.1 == 5) (ok true) (idx (.int .i64) z 2 λh=>idx aE y.1.1 h λj=>ok ((j.1 == 11)))) λk=>br k (ok ((y.2,y.1))) (idx (.int .i64) z 2 λl=>cl (G.eval_run_statement y.1 l u ([]:List (List UInt8))) eval_run_statement.g.o λw=>br (!(w.1.1 == 0)) (ok w) (ok ((y.2,w.2)))))
def R.eval_run_value(G:af)(y:aJ.den)(u:Int)(z:aM.den):Res ((aC.den×Int)×aJ.den) :=
 given (eval_run_value.g.i (y,(u,z))) (idx aE y.1 u λx=>br (x.1 == 30) (cl (R.cn x.2.2.2.1) cn.g.o λv=>ok (((v,0),y))) (br (x.1 == 31) (cl (R.ed x.2.2.2.2.1) ed.g.o λw=>ok (((w,0),y))) (br (x.1 == 32) (cl (R.cP x.2.2.1) cP.g.o λa=>ok (((a,0),y))) (br (x.1 == 33) (cl (R.da y x.2.1 z) da.g.o λb=>ok b) (bd (α:=Bool) (br (x.1 == 34) (ok ((x.1 == 34))) (ok ((x.1 == 35)))) λc=>br c (cl (R.bP (x.1 == 34)) bP.g.o λd=>ok (((d,0),y))) (br (x.1 == 36) (ok ((((1,((0,0),((false,([]:List Int)),(([]:List Int),0)))),0),y))) (br (x.1 == 37) (br (!z.2.2) (cl (R.aL y) aL.g.o λe=>ok e) (ok (((z.2.1,0),y)))) (br (x.1 == 38) (cl (G.eval_run_array y x.2.2.2.2.2 z) eval_run_array.g.o λf=>ok f) (br (x.1 == 39) (cl (G.eval_run_object y x.2.2.2.2.2 z) eval_run_object.g.o λh=>ok h) (bd (α:=Bool) (br (x.1 == 41) (ok ((x.1 == 41))) (ok ((x.1 == 42)))) λj=>br j (cl (R.cC y u z) cC.g.o λk=>ok k) (cl (G.eval_run_operation y u x z) eval_run_operation.g.o λl=>ok l)))))))))))
def R.eval_run_asked(G:af)(y:aJ.den)(z:Int)(u:aM.den):Res ((Bool×aR.den)×aJ.den) :=
 given (eval_run_asked.g.i (y,(z,u))) (cl (G.eval_run_expression y z u) eval_run_expression.g.o λx=>br (!(x.1.2 == 0)) (ok (((false,(x.1.2,(([]:List UInt8),x.1.1))),x.2))) (bd (R.iM x.1.1) λv=>ok (((v,(0,(([]:List UInt8),zV))),x.2))))
def R.eval_run_first(G:af)(u:aJ.den)(w:Int)(y:aM.den):Res ((aM.den×aR.den)×aJ.den) :=
 given (eval_run_first.g.i (u,(w,y))) (idx aE u.1 w λz=>br (z.1 == 11) (ok (((y,(0,(([]:List UInt8),zV))),u))) (bd (α:=Bool) (br (z.1 == 5) (ok ((z.1 == 5))) (ok ((z.1 == 6)))) λc=>br c (cl (R.bm u y.1) bm.g.o λx=>br (!(x.1.2 == 0)) (ok (((y,(x.1.2,(([]:List UInt8),zV))),x.2))) (bd (loop (α:=(Int×fK.den)) (β:=fK.den) (λv=>br (ilt v.1 (z.2.2.2.2.2.length:Int)) (idx (.int .i64) z.2.2.2.2.2 v.1 λd=>idx aE x.2.1 d λe=>cl (R.bE v.2 x.1.1 e.2.1 zV false (z.1 == 6)) bE.g.o λf=>ok (.next ((w6 (v.1+1),f.2)))) (ok (.done (v.2)))) fuel (0,x.2.2.2.2.2.1)) λh=>cl (G.eval_run_statement (x.2.1,(x.2.2.1,(x.2.2.2.1,(x.2.2.2.2.1,(h,x.2.2.2.2.2.2))))) w (x.1.1,y.2) ([]:List (List UInt8))) eval_run_statement.g.o λb=>ok ((((x.1.1,y.2),b.1),b.2)))) (cl (G.eval_run_expression u w y) eval_run_expression.g.o λa=>cl (R.eV 0 a.1.1 a.1.2) eV.g.o λj=>ok (((y,j),a.2)))))
def R.eval_run_catch(G:af)(z:aJ.den)(u:(List UInt8))(v:Int)(w:aC.den)(y:aM.den):Res (aR.den×aJ.den) :=
 given (eval_run_catch.g.i (z,(u,(v,(w,y))))) (br (!(u == ([]:List UInt8))) (cl (R.bm z y.1) bm.g.o λx=>br (!(x.1.2 == 0)) (ok (((x.1.2,(([]:List UInt8),zV)),x.2))) (cl (R.bE x.2.2.2.2.2.1 x.1.1 u w true false) bE.g.o λa=>cl (G.eval_run_statement (x.2.1,(x.2.2.1,(x.2.2.2.1,(x.2.2.2.2.1,(a.2,x.2.2.2.2.2.2))))) v (x.1.1,y.2) ([]:List (List UInt8))) eval_run_statement.g.o λb=>ok b)) (cl (G.eval_run_statement z v y ([]:List (List UInt8))) eval_run_statement.g.o λc=>ok c))
def R.eval_run_array(G:af)(w:aJ.den)(u:(List Int))(a:aM.den):Res ((aC.den×Int)×aJ.den) :=
 given (eval_run_array.g.i (w,(u,a))) (cl (R.aX w (2,(0,(([]:List bO.den),(([]:List bH.den),(([]:List UInt8),(0,(0,(zV,(0,(0,(0,(0,([]:List Int)))))))))))))) aX.g.o λz=>br (!(z.1.2 == 0)) (ok z) (bd (loop (α:=(Int×aJ.den)) (β:=(aJ.den ⊕ (Int×(aJ.den×aC.den)))) (λy=>br (ilt y.1 (u.length:Int)) (idx (.int .i64) u y.1 λb=>cl (G.eval_run_expression y.2 b a) eval_run_expression.g.o λx=>br (!(x.1.2 == 0)) (ok (.done (.inr (x.1.2,(x.2,x.1.1))))) (cl (R.gM y.1) gM.g.o λc=>cl (R.bc x.2.2.2.2.2.1 z.1.1.2.2.2.2 c x.1.1) bc.g.o λd=>ok (.next ((w6 (y.1+1),(x.2.1,(x.2.2.1,(x.2.2.2.1,(x.2.2.2.2.1,(d.2,x.2.2.2.2.2.2)))))))))) (ok (.done (.inl y.2)))) fuel (0,z.2)) λe=>sum e (λf=>ok (((z.1.1,0),f))) (λv=>ok (((v.2.2,v.1),v.2.1)))))
def R.eval_run_object(G:af)(b:aJ.den)(u:(List Int))(c:aM.den):Res ((aC.den×Int)×aJ.den) :=
 given (eval_run_object.g.i (b,(u,c))) (cl (R.aX b (1,((-1),(([]:List bO.den),(([]:List bH.den),(([]:List UInt8),(0,(0,(zV,(0,(0,(0,(0,([]:List Int)))))))))))))) aX.g.o λz=>br (!(z.1.2 == 0)) (ok z) (bd (loop (α:=(Int×aJ.den)) (β:=(aJ.den ⊕ (Int×(aJ.den×aC.den)))) (λy=>br (ilt y.1 (u.length:Int)) (idx (.int .i64) u y.1 λd=>idx aE y.2.1 d λv=>idx (.int .i64) v.2.2.2.2.2 0 λe=>cl (G.eval_run_expression y.2 e c) eval_run_expression.g.o λx=>br (!(x.1.2 == 0)) (ok (.done (.inr (x.1.2,(x.2,x.1.1))))) (cl (R.av [95,95,112,114,111,116,111,95,95]) av.g.o λf=>bd (R.jL v.2.2.1 f) λh=>br h (cl (R.aL x.2) aL.g.o λw=>ok (.done (.inr (w.1.2,(w.2,w.1.1))))) (cl (R.bc x.2.2.2.2.2.1 z.1.1.2.2.2.2 v.2.2.1 x.1.1) bc.g.o λj=>ok (.next ((w6 (y.1+1),(x.2.1,(x.2.2.1,(x.2.2.2.1,(x.2.2.2.2.1,(j.2,x.2.2.2.2.2.2))))))))))) (ok (.done (.inl y.2)))) fuel (0,z.2)) λk=>sum k (λl=>ok (((z.1.1,0),l))) (λa=>ok (((a.2.2,a.1),a.2.1)))))
def R.eval_run_operation(G:af)(z:aJ.den)(a:Int)(x:aE.den)(y:aM.den):Res ((aC.den×Int)×aJ.den) :=
 given (eval_run_operation.g.i (z,(a,(x,y)))) (br (x.1 == 43) (idx (.int .i64) x.2.2.2.2.2 0 λb=>cl (G.eval_run_unary z x.2.1 b y) eval_run_unary.g.o λc=>ok c) (bd (α:=Bool) (br (x.1 == 44) (ok ((x.1 == 44))) (ok ((x.1 == 45)))) λd=>br d (cl (G.eval_run_step z x y) eval_run_step.g.o λe=>ok e) (br (x.1 == 46) (cl (G.eval_run_binary z x y) eval_run_binary.g.o λf=>ok f) (br (x.1 == 47) (cl (G.eval_run_logic z x y) eval_run_logic.g.o λh=>ok h) (br (x.1 == 48) (idx (.int .i64) x.2.2.2.2.2 0 λj=>cl (G.eval_run_expression z j y) eval_run_expression.g.o λu=>br (!(u.1.2 == 0)) (ok u) (bd (R.iM u.1.1) λk=>br k (idx (.int .i64) x.2.2.2.2.2 1 λl=>cl (G.eval_run_expression u.2 l y) eval_run_expression.g.o λm=>ok m) (idx (.int .i64) x.2.2.2.2.2 2 λn=>cl (G.eval_run_expression u.2 n y) eval_run_expression.g.o λp=>ok p))) (br (x.1 == 49) (cl (G.eval_run_assign z x y) eval_run_assign.g.o λq=>ok q) (br (x.1 == 50) (cl (G.eval_run_callee z x.2.2.2.2.2 y) eval_run_callee.g.o λr=>ok r) (br (x.1 == 51) (idx (.int .i64) x.2.2.2.2.2 0 λs=>cl (G.eval_run_expression z s y) eval_run_expression.g.o λw=>br (!(w.1.2 == 0)) (ok w) (aZ (ile 0 1 && ile 1 x.2.2.2.2.2.length) (cl (G.eval_run_arguments w.2 (List.drop (Int.toNat 1) x.2.2.2.2.2) y) eval_run_arguments.g.o λv=>br (!(v.1.2.2 == 0)) (ok ((v.1.2,v.2))) (cl (G.eval_run_fresh v.2 w.1.1 v.1.1) eval_run_fresh.g.o λt=>ok t)))) (cl (G.eval_run_property z a y) eval_run_property.g.o λA=>ok A)))))))))
def R.eval_run_unary(G:af)(z:aJ.den)(a:(List UInt8))(u:Int)(v:aM.den):Res ((aC.den×Int)×aJ.den) :=
 given (eval_run_unary.g.i (z,(a,(u,v)))) (br (!(a == [116,121,112,101,111,102])) (cl (G.eval_run_expression z u v) eval_run_expression.g.o λw=>br (!(w.1.2 == 0)) (ok w) (cl (R.ji a w.1.1) ji.g.o λe=>cl (R.bj w.2 e.1 e.2) bj.g.o λh=>ok h)) (bd (α:=((Int×(aJ.den×aC.den)) ⊕ (Int×(aJ.den×aC.den)))) (idx aE z.1 u λf=>br (f.1 == 33) (cl (R.bu z) bu.g.o λb=>br (!b.1) (ok (.inr (5,(b.2,zV)))) (cl (R.dB b.2 f.2.1 v true) dB.g.o λx=>ok (.inl (x.1.2,((x.2.1,(x.2.2.1,(x.2.2.2.1,(x.2.2.2.2.1,(x.2.2.2.2.2.1,(w6 (x.2.2.2.2.2.2.1-1),x.2.2.2.2.2.2.2)))))),x.1.1))))) (cl (G.eval_run_expression z u v) eval_run_expression.g.o λc=>ok (.inl (c.1.2,(c.2,c.1.1))))) λj=>sum j (λy=>br (!(y.1 == 0)) (ok (((y.2.2,y.1),y.2.1))) (cl (R.er y.2.1 y.2.2) er.g.o λk=>cl (R.av k) av.g.o λl=>cl (R.cP l) cP.g.o λm=>ok (((m,0),y.2.1)))) (λd=>ok (((d.2.2,d.1),d.2.1)))))
def R.eval_run_step(G:af)(b:aJ.den)(z:aE.den)(u:aM.den):Res ((aC.den×Int)×aJ.den) :=
 given (eval_run_step.g.i (b,(z,u))) (idx (.int .i64) z.2.2.2.2.2 0 λc=>cl (G.eval_run_parts b c u) eval_run_parts.g.o λx=>br (!(x.1.2.2 == 0)) (ok ((x.1.2,x.2))) (cl (R.db x.2 x.1.1 u) db.g.o λy=>br (!(y.1.2 == 0)) (ok y) (cl (R.cV y.1.1) cV.g.o λv=>br (!(v.2 == 0)) (cl (R.aF y.2 v.2) aF.g.o λd=>ok d) (bd (α:=Int) (br (z.2.1 == [45,45]) (ok ((-1))) (ok 1)) λe=>cl (R.kZ v.1 e) kZ.g.o λw=>br (!(w.2 == 0)) (cl (R.aF y.2 w.2) aF.g.o λf=>ok f) (cl (R.eG y.2 x.1.1 w.1 u) eG.g.o λa=>br (!(a.1.2 == 0)) (ok a) (br (z.1 == 44) (ok (((w.1,0),a.2))) (ok (((v.1,0),a.2)))))))))
def R.eval_run_binary(G:af)(v:aJ.den)(y:aE.den)(u:aM.den):Res ((aC.den×Int)×aJ.den) :=
 given (eval_run_binary.g.i (v,(y,u))) (idx (.int .i64) y.2.2.2.2.2 0 λa=>cl (G.eval_run_expression v a u) eval_run_expression.g.o λz=>br (!(z.1.2 == 0)) (ok z) (idx (.int .i64) y.2.2.2.2.2 1 λb=>cl (G.eval_run_expression z.2 b u) eval_run_expression.g.o λx=>br (!(x.1.2 == 0)) (ok x) (br (y.2.1 == [105,110]) (cl (R.fc x.2 z.1.1 x.1.1) fc.g.o λc=>ok c) (cl (R.ga y.2.1 z.1.1 x.1.1) ga.g.o λw=>cl (R.bj x.2 w.1 w.2) bj.g.o λd=>ok d))))
def R.eval_run_logic(G:af)(u:aJ.den)(y:aE.den)(z:aM.den):Res ((aC.den×Int)×aJ.den) :=
 given (eval_run_logic.g.i (u,(y,z))) (idx (.int .i64) y.2.2.2.2.2 0 λv=>cl (G.eval_run_expression u v z) eval_run_expression.g.o λx=>br (!(x.1.2 == 0)) (ok x) (bd (α:=Bool) (br (y.2.1 == [38,38]) (bd (R.iM x.1.1) λw=>ok ((!w))) (br (y.2.1 == [124,124]) (bd (R.iM x.1.1) λa=>ok a) (br (!(x.1.1.1 == 0)) (ok ((!(x.1.1.1 == 1)))) (ok false)))) λb=>br b (ok (((x.1.1,0),x.2))) (idx (.int .i64) y.2.2.2.2.2 1 λc=>cl (G.eval_run_expression x.2 c z) eval_run_expression.g.o λd=>ok d)))
def R.eval_run_assign(G:af)(e:aJ.den)(x:aE.den)(v:aM.den):Res ((aC.den×Int)×aJ.den) :=
 given (eval_run_assign.g.i (e,(x,v))) (idx (.int .i64) x.2.2.2.2.2 0 λj=>cl (G.eval_run_parts e j v) eval_run_parts.g.o λy=>br (!(y.1.2.2 == 0)) (ok ((y.1.2,y.2))) (aZ (ile 0 (w6 ((x.2.1.length:Int)-1)) && ile (w6 ((x.2.1.length:Int)-1)) x.2.1.length) (bd (α:=((aJ.den×aC.den) ⊕ (Int×(aJ.den×aC.den)))) (br (!((List.take (Int.toNat (w6 ((x.2.1.length:Int)-1))) x.2.1) == ([]:List UInt8))) (cl (R.db y.2 y.1.1 v) db.g.o λz=>br (!(z.1.2 == 0)) (ok (.inr (z.1.2,(z.2,z.1.1)))) (ok (.inl (z.2,z.1.1)))) (ok (.inl (y.2,zV)))) λk=>sum k (λf=>idx (.int .i64) x.2.2.2.2.2 1 λl=>cl (G.eval_run_expression f.1 l v) eval_run_expression.g.o λu=>br (!(u.1.2 == 0)) (ok u) (bd (α:=(aC.den ⊕ (Int×(aJ.den×aC.den)))) (br (!((List.take (Int.toNat (w6 ((x.2.1.length:Int)-1))) x.2.1) == ([]:List UInt8))) (cl (R.ga (List.take (Int.toNat (w6 ((x.2.1.length:Int)-1))) x.2.1) f.2 u.1.1) ga.g.o λw=>br (!(w.2 == 0)) (cl (R.aF u.2 w.2) aF.g.o λa=>ok (.inr (a.1.2,(a.2,a.1.1)))) (ok (.inl w.1))) (ok (.inl u.1.1))) λm=>sum m (λh=>cl (R.eG u.2 y.1.1 h v) eG.g.o λb=>br (!(b.1.2 == 0)) (ok b) (ok (((h,0),b.2)))) (λc=>ok (((c.2.2,c.1),c.2.1))))) (λd=>ok (((d.2.2,d.1),d.2.1))))))
def R.eval_run_callee(G:af)(v:aJ.den)(z:(List Int))(u:aM.den):Res ((aC.den×Int)×aJ.den) :=
 given (eval_run_callee.g.i (v,(z,u))) (idx (.int .i64) z 0 λw=>cl (G.eval_run_called v w u) eval_run_called.g.o λx=>br (!(x.1.2.2 == 0)) (ok (((x.1.1,x.1.2.2),x.2))) (aZ (ile 0 1 && ile 1 z.length) (cl (G.eval_run_arguments x.2 (List.drop (Int.toNat 1) z) u) eval_run_arguments.g.o λy=>br (!(y.1.2.2 == 0)) (ok ((y.1.2,y.2))) (cl (G.eval_run_call y.2 x.1.1 x.1.2.1 y.1.1) eval_run_call.g.o λa=>ok a))))
def R.eval_run_arguments(G:af)(v:aJ.den)(u:(List Int))(w:aM.den):Res (((List aC.den)×(aC.den×Int))×aJ.den) :=
 given (eval_run_arguments.g.i (v,(u,w))) (bd (loop (α:=((List aC.den)×(Int×aJ.den))) (β:=(((List aC.den)×aJ.den) ⊕ ((List aC.den)×(Int×(aJ.den×aC.den))))) (λx=>br (ilt x.2.1 (u.length:Int)) (idx (.int .i64) u x.2.1 λb=>cl (G.eval_run_expression x.2.2 b w) eval_run_expression.g.o λy=>br (!(y.1.2 == 0)) (ok (.done (.inr (([]:List aC.den),(y.1.2,(y.2,y.1.1)))))) (aZ (decide ((x.1.length+[y.1.1].length)*88<=2^47)) (ok (.next (((x.1++[y.1.1]),(w6 (x.2.1+1),y.2))))))) (ok (.done (.inl (x.1,x.2.2))))) fuel (([]:List aC.den),(0,v))) λc=>sum c (λa=>ok (((a.1,(zV,0)),a.2))) (λz=>ok (((z.1,(z.2.2.2,z.2.1)),z.2.2.1))))
def R.eval_run_fresh(G:af)(x:aJ.den)(y:aC.den)(v:(List aC.den)):Res ((aC.den×Int)×aJ.den) :=
 given (eval_run_fresh.g.i (x,(y,v))) (br (!(y.1 == 6)) (cl (R.aF x 1) aF.g.o λd=>ok d) (cl (R.al x.2.2.2.2.1 y.2.2.2.2) al.g.o λw=>br (!w.2) (cl (R.fl y.2.2.2.2) fl.g.o λe=>cl (G.eval_run_builds x e v) eval_run_builds.g.o λf=>ok f) (bd (α:=Bool) (br (!(w.1.1 == 3)) (ok true) (ok ((!(w.1.2.2.2.2.2.2.2.2.1 == 0))))) λh=>br h (cl (R.aF x 1) aF.g.o λj=>ok j) (bd (α:=(Int ⊕ (Int×(aJ.den×aC.den)))) (cl (R.av [112,114,111,116,111,116,121,112,101]) av.g.o λk=>cl (R.cW x.2.2.2.2.1 y.2.2.2.2 k) cW.g.o λa=>br (a.1.1 == 6) (cl (R.bC x.2.2.2.2.1 a.1.2.2.2.2) bC.g.o λl=>br (!(l == 1)) (cl (R.aL x) aL.g.o λb=>ok (.inr (b.1.2,(b.2,b.1.1)))) (ok (.inl a.1.2.2.2.2))) (ok (.inl (-1)))) λm=>sum m (λn=>cl (R.aX x (1,(n,(([]:List bO.den),(([]:List bH.den),(([]:List UInt8),(0,(0,(zV,(0,(0,(0,(0,([]:List Int)))))))))))))) aX.g.o λz=>br (!(z.1.2 == 0)) (ok z) (cl (G.eval_run_apply z.2 y.2.2.2.2 z.1.1 v) eval_run_apply.g.o λu=>bd (α:=Bool) (br (!(u.1.2 == 0)) (ok true) (ok ((u.1.1.1 == 6)))) λp=>br p (ok u) (ok (((z.1.1,0),u.2))))) (λc=>ok (((c.2.2,c.1),c.2.1)))))))
def R.eval_run_property(G:af)(y:aJ.den)(z:Int)(u:aM.den):Res ((aC.den×Int)×aJ.den) :=
 given (eval_run_property.g.i (y,(z,u))) (cl (G.eval_run_parts y z u) eval_run_parts.g.o λx=>br (!(x.1.2.2 == 0)) (ok ((x.1.2,x.2))) (cl (R.de x.2 x.1.1) de.g.o λv=>ok v))
def R.eval_run_parts(G:af)(u:aJ.den)(w:Int)(v:aM.den):Res ((dN.den×(aC.den×Int))×aJ.den) :=
 given (eval_run_parts.g.i (u,(w,v))) (idx aE u.1 w λy=>br (y.1 == 33) (ok ((((y.2.1,(zV,zV)),(zV,0)),u))) (idx (.int .i64) y.2.2.2.2.2 0 λa=>cl (G.eval_run_expression u a v) eval_run_expression.g.o λx=>br (!(x.1.2 == 0)) (ok ((((([]:List UInt8),(zV,zV)),x.1),x.2))) (br (y.1 == 52) (cl (R.av y.2.1) av.g.o λb=>cl (R.cP b) cP.g.o λc=>ok ((((([]:List UInt8),(x.1.1,c)),(zV,0)),x.2))) (idx (.int .i64) y.2.2.2.2.2 1 λd=>cl (G.eval_run_expression x.2 d v) eval_run_expression.g.o λz=>br (!(z.1.2 == 0)) (ok ((((([]:List UInt8),(zV,zV)),z.1),z.2))) (ok ((((([]:List UInt8),(x.1.1,z.1.1)),(zV,0)),z.2)))))))
def R.eval_run_called(G:af)(z:aJ.den)(u:Int)(v:aM.den):Res ((aC.den×(aC.den×Int))×aJ.den) :=
 given (eval_run_called.g.i (z,(u,v))) (idx aE z.1 u λc=>bd (α:=Bool) (br (!(c.1 == 52)) (ok ((!(c.1 == 53)))) (ok false)) λd=>br d (cl (G.eval_run_expression z u v) eval_run_expression.g.o λw=>ok (((w.1.1,(zV,w.1.2)),w.2))) (cl (R.bu z) bu.g.o λa=>br (!a.1) (ok (((zV,(zV,5)),a.2))) (cl (G.eval_run_parts a.2 u v) eval_run_parts.g.o λy=>bd (α:=(Int×(aJ.den×aC.den))) (br (y.1.2.2 == 0) (cl (R.de y.2 y.1.1) de.g.o λb=>ok ((b.1.2,(b.2,b.1.1)))) (ok ((y.1.2.2,(y.2,y.1.2.1))))) λx=>ok (((x.2.2,(y.1.1.2.1,x.1)),(x.2.1.1,(x.2.1.2.1,(x.2.1.2.2.1,(x.2.1.2.2.2.1,(x.2.1.2.2.2.2.1,(w6 (x.2.1.2.2.2.2.2.1-1),x.2.1.2.2.2.2.2.2)))))))))))
def R.eval_run_call(G:af)(x:aJ.den)(y:aC.den)(z:aC.den)(u:(List aC.den)):Res ((aC.den×Int)×aJ.den) :=
 given (eval_run_call.g.i (x,(y,(z,u)))) (br (!(y.1 == 6)) (cl (R.aF x 1) aF.g.o λw=>ok w) (cl (R.fl y.2.2.2.2) fl.g.o λv=>bd (R.gB v) λa=>br a (cl (G.eval_run_does x v z u) eval_run_does.g.o λb=>ok b) (cl (R.bC x.2.2.2.2.1 y.2.2.2.2) bC.g.o λc=>br (!(c == 3)) (cl (R.aF x 1) aF.g.o λd=>ok d) (cl (G.eval_run_apply x y.2.2.2.2 z u) eval_run_apply.g.o λe=>ok e))))
def R.eval_run_builds(G:af)(y:aJ.den)(x:(List UInt8))(u:(List aC.den)):Res ((aC.den×Int)×aJ.den) :=
 given (eval_run_builds.g.i (y,(x,u))) (bd (α:=Bool) (br (x == [79,98,106,101,99,116]) (ok ((x == [79,98,106,101,99,116]))) (br (x == [65,114,114,97,121]) (ok ((x == [65,114,114,97,121]))) (br (x == [78,117,109,98,101,114]) (ok ((x == [78,117,109,98,101,114]))) (br (x == [83,116,114,105,110,103]) (ok ((x == [83,116,114,105,110,103]))) (ok ((x == [66,111,111,108,101,97,110]))))))) λw=>br w (cl (R.aL y) aL.g.o λa=>ok a) (bd (α:=Bool) (br (x == [69,114,114,111,114]) (ok ((x == [69,114,114,111,114]))) (br (x == [84,121,112,101,69,114,114,111,114]) (ok ((x == [84,121,112,101,69,114,114,111,114]))) (br (x == [82,97,110,103,101,69,114,114,111,114]) (ok ((x == [82,97,110,103,101,69,114,114,111,114]))) (br (x == [82,101,102,101,114,101,110,99,101,69,114,114,111,114]) (ok ((x == [82,101,102,101,114,101,110,99,101,69,114,114,111,114]))) (ok ((x == [83,121,110,116,97,120,69,114,114,111,114]))))))) λb=>br b (cl (G.eval_run_does y x zV u) eval_run_does.g.o λc=>ok c) (br (x == [65,114,114,97,121,66,117,102,102,101,114]) (cl (R.bk u 0) bk.g.o λd=>cl (R.dO d) dO.g.o λz=>br (!(z.2 == 0)) (cl (R.aF y z.2) aF.g.o λe=>ok e) (br (ilt 4096 z.1) (cl (R.aF y 2) aF.g.o λf=>ok f) (aZ (ile 0 z.1 && (ile z.1 z.1 && decide ((Int.toNat z.1)*1<=2^47))) (cl (R.aX y (5,(0,(([]:List bO.den),(([]:List bH.den),(([]:List UInt8),(0,(0,(zV,(0,(0,(0,(0,(List.replicate (Int.toNat z.1) (0:Int))))))))))))))) aX.g.o λh=>ok h)))) (br (x == [83,104,97,114,101,100,65,114,114,97,121,66,117,102,102,101,114]) (cl (R.cb y u) cb.g.o λj=>ok j) (br (x == [68,97,116,97,86,105,101,119]) (cl (R.ch y u) ch.g.o λk=>ok k) (cl (R.jj x) jj.g.o λv=>br (ilt 0 v) (cl (R.dG y v u) dG.g.o λl=>ok l) (cl (R.aF y 1) aF.g.o λm=>ok m)))))))
def R.eval_run_apply(G:af)(b:aJ.den)(d:Int)(e:aC.den)(f:(List aC.den)):Res ((aC.den×Int)×aJ.den) :=
 given (eval_run_apply.g.i (b,(d,(e,f)))) (cl (R.al b.2.2.2.2.1 d) al.g.o λv=>cl (R.bm b v.1.2.2.2.2.2.2.1) bm.g.o λx=>br (!(x.1.2 == 0)) (ok (((zV,x.1.2),x.2))) (bd (α:=aM.den) (br (v.1.2.2.2.2.2.2.2.2.1 == 1) (ok ((x.1.1,(v.1.2.2.2.2.2.2.2.1,true)))) (br (v.1.2.2.2.2.2.2.2.2.1 == 2) (ok ((x.1.1,(zV,false)))) (ok ((x.1.1,(e,true)))))) λc=>idx aE x.2.1 v.1.2.2.2.2.2.1 λz=>aZ (ile 0 (w6 ((z.2.2.2.2.2.length:Int)-1)) && ile (w6 ((z.2.2.2.2.2.length:Int)-1)) z.2.2.2.2.2.length) (bd (loop (α:=(Int×fK.den)) (β:=fK.den) (λu=>br (ilt u.1 ((List.take (Int.toNat (w6 ((z.2.2.2.2.2.length:Int)-1))) z.2.2.2.2.2).length:Int)) (idx (.int .i64) (List.take (Int.toNat (w6 ((z.2.2.2.2.2.length:Int)-1))) z.2.2.2.2.2) u.1 λj=>idx aE x.2.1 j λk=>cl (R.bk f u.1) bk.g.o λl=>cl (R.bE u.2 x.1.1 k.2.1 l true false) bE.g.o λm=>ok (.next ((w6 (u.1+1),m.2)))) (ok (.done (u.2)))) fuel (0,x.2.2.2.2.2.1)) λh=>idx (.int .i64) z.2.2.2.2.2 (w6 ((z.2.2.2.2.2.length:Int)-1)) λw=>idx aE x.2.1 w λn=>br (!(n.1 == 4)) (cl (G.eval_run_expression (x.2.1,(x.2.2.1,(x.2.2.2.1,(x.2.2.2.2.1,(h,x.2.2.2.2.2.2))))) w c) eval_run_expression.g.o λp=>ok p) (cl (R.cA (x.2.1,(x.2.2.1,(x.2.2.2.1,(x.2.2.2.2.1,(h,x.2.2.2.2.2.2))))) w c) cA.g.o λa=>br (!(a.1.2 == 0)) (ok a) (idx aE a.2.1 w λq=>cl (G.eval_run_list a.2 q.2.2.2.2.2 c) eval_run_list.g.o λy=>br (y.1.1 == 3) (ok (((y.1.2.2,0),y.2))) (bd (α:=Bool) (br (y.1.1 == 4) (ok ((y.1.1 == 4))) (ok ((y.1.1 == 5)))) λr=>br r (ok (((y.1.2.2,y.1.1),y.2))) (ok (((zV,0),y.2)))))))))
def R.eval_run_does(G:af)(y:aJ.den)(x:(List UInt8))(v:aC.den)(u:(List aC.den)):Res ((aC.den×Int)×aJ.den) :=
 given (eval_run_does.g.i (y,(x,(v,u)))) (cl (R.bk u 0) bk.g.o λz=>bd (α:=Bool) (br (x == [79,98,106,101,99,116]) (ok ((x == [79,98,106,101,99,116]))) (ok ((x == [65,114,114,97,121])))) λb=>br b (cl (R.aL y) aL.g.o λc=>ok c) (br (x == [79,98,106,101,99,116,46,107,101,121,115]) (cl (R.eI y z) eI.g.o λd=>ok d) (br (x == [79,98,106,101,99,116,46,99,114,101,97,116,101]) (cl (R.bk u 1) bk.g.o λe=>cl (R.dL y z e) dL.g.o λf=>ok f) (br (x == [65,114,114,97,121,46,105,115,65,114,114,97,121]) (br (z.1 == 6) (cl (R.bC y.2.2.2.2.1 z.2.2.2.2) bC.g.o λh=>cl (R.bP (h == 2)) bP.g.o λj=>ok (((j,0),y))) (cl (R.bP false) bP.g.o λk=>ok (((k,0),y)))) (br (x == [65,114,114,97,121,35,112,117,115,104]) (cl (R.eK y v u) eK.g.o λl=>ok l) (br (x == [65,114,114,97,121,35,112,111,112]) (bd (α:=Bool) (br (!(v.1 == 6)) (ok true) (cl (R.bC y.2.2.2.2.1 v.2.2.2.2) bC.g.o λm=>ok ((!(m == 2))))) λn=>br n (cl (R.aL y) aL.g.o λp=>ok p) (cl (R.di y.2.2.2.2.1 v.2.2.2.2) di.g.o λw=>ok (((w.1.1,0),(y.1,(y.2.1,(y.2.2.1,(y.2.2.2.1,(w.2,y.2.2.2.2.2))))))))) (br (x == [78,117,109,98,101,114]) (cl (R.cR y z (u.length:Int)) cR.g.o λq=>ok q) (br (x == [83,116,114,105,110,103]) (br ((u.length:Int) == 0) (cl (R.cP ([]:List Int)) cP.g.o λr=>ok (((r,0),y))) (cl (R.cz z) cz.g.o λa=>cl (R.cP a.1) cP.g.o λs=>cl (R.bj y s a.2) bj.g.o λt=>ok t)) (br (x == [66,111,111,108,101,97,110]) (bd (R.iM z) λA=>cl (R.bP A) bP.g.o λB=>ok (((B,0),y))) (br (x == [66,105,103,73,110,116]) (cl (R.dE y z) dE.g.o λC=>ok C) (bd (α:=Bool) (br (x == [69,114,114,111,114]) (ok ((x == [69,114,114,111,114]))) (br (x == [84,121,112,101,69,114,114,111,114]) (ok ((x == [84,121,112,101,69,114,114,111,114]))) (br (x == [82,97,110,103,101,69,114,114,111,114]) (ok ((x == [82,97,110,103,101,69,114,114,111,114]))) (br (x == [82,101,102,101,114,101,110,99,101,69,114,114,111,114]) (ok ((x == [82,101,102,101,114,101,110,99,101,69,114,114,111,114]))) (ok ((x == [83,121,110,116,97,120,69,114,114,111,114]))))))) λD=>br D (cl (R.cf y x z) cf.g.o λE=>ok E) (bd (R.cY x [68,97,116,97,86,105,101,119,35]) λF=>br F (cl (R.cB x [68,97,116,97,86,105,101,119,35]) cB.g.o λH=>cl (R.dF y H v u) dF.g.o λI=>ok I) (bd (R.cY x [65,116,111,109,105,99,115,46]) λJ=>br J (cl (R.cB x [65,116,111,109,105,99,115,46]) cB.g.o λK=>cl (R.dH y K u) dH.g.o λL=>ok L) (bd (R.cY x [36,50,54,50,46,97,103,101,110,116,46]) λM=>br M (cl (R.cB x [36,50,54,50,46,97,103,101,110,116,46]) cB.g.o λN=>cl (G.eval_run_host y N z) eval_run_host.g.o λO=>ok O) (cl (R.aF y 1) aF.g.o λP=>ok P)))))))))))))))
def R.eval_run_host(G:af)(y:aJ.den)(u:(List UInt8))(z:aC.den):Res ((aC.den×Int)×aJ.den) :=
 given (eval_run_host.g.i (y,(u,z))) (bd (α:=(fT.den ⊕ (Int×(aJ.den×aC.den)))) (br (u == [115,116,97,114,116]) (br (!(z.1 == 5)) (cl (R.aL y) aL.g.o λw=>ok (.inr (w.1.2,(w.2,w.1.1)))) (ok (.inl (8,(0,(0,(0,(0,(false,(false,(0,(0,((0,0),(z.2.2.2.1,0)))))))))))))) (br (u == [98,114,111,97,100,99,97,115,116]) (cl (R.al y.2.2.2.2.1 z.2.2.2.2) al.g.o λa=>bd (α:=Bool) (br (!(z.1 == 6)) (ok true) (ok ((!(a.1.1 == 6))))) λk=>br k (cl (R.aF y 1) aF.g.o λb=>ok (.inr (b.1.2,(b.2,b.1.1)))) (ok (.inl (9,(a.1.2.2.2.2.2.2.2.2.2.1,(0,(0,(0,(false,(false,(0,(0,((0,0),(([]:List Int),a.1.2.2.2.2.2.2.2.2.2.2.2.1)))))))))))))) (br (u == [114,101,99,101,105,118,101,66,114,111,97,100,99,97,115,116]) (cl (G.eval_run_receives y z) eval_run_receives.g.o λc=>ok (.inr (c.1.2,(c.2,c.1.1)))) (br (u == [114,101,112,111,114,116]) (cl (R.cz z) cz.g.o λd=>br (!(d.2 == 0)) (cl (R.aF y d.2) aF.g.o λe=>ok (.inr (e.1.2,(e.2,e.1.1)))) (ok (.inl (11,(0,(0,(0,(0,(false,(false,(0,(0,((0,0),(d.1,0)))))))))))))) (br (u == [103,101,116,82,101,112,111,114,116]) (ok (.inl (12,(0,(0,(0,(0,(false,(false,(0,(0,((0,0),(([]:List Int),0))))))))))))) (br (u == [115,108,101,101,112]) (cl (R.cH z) cH.g.o λf=>br (!(f.2 == 0)) (cl (R.aF y f.2) aF.g.o λh=>ok (.inr (h.1.2,(h.2,h.1.1)))) (cl (R.fA f.1) fA.g.o λl=>ok (.inl (13,(0,(0,(0,(0,(false,(false,(0,(0,(l,(([]:List Int),0)))))))))))))) (ok (.inl (14,(0,(0,(0,(0,(false,(false,(0,(0,((0,0),(([]:List Int),0))))))))))))))))))) λm=>sum m (λv=>cl (R.bT y v) bT.g.o λx=>br (!(x.1.2 == 0)) (ok (((zV,x.1.2),x.2))) (br (v.1 == 14) (cl (R.cG (w6 (fM .and .u64 x.1.1.1 9007199254740991))) cG.g.o λn=>ok (((n,0),x.2))) (bd (α:=Bool) (br (v.1 == 12) (ok ((!(x.1.1.2.1 == 0)))) (ok false)) λp=>br p (ok ((((1,((0,0),((false,([]:List Int)),(([]:List Int),0)))),0),x.2))) (br (v.1 == 12) (cl (R.cP x.1.1.2.2.2.2) cP.g.o λq=>ok (((q,0),x.2))) (ok (((zV,0),x.2))))))) (λj=>ok (((j.2.2,j.1),j.2.1))))
def R.eval_run_receives(G:af)(y:aJ.den)(z:aC.den):Res ((aC.den×Int)×aJ.den) :=
 given (eval_run_receives.g.i (y,z)) (bd (α:=Bool) (br (!(z.1 == 6)) (ok true) (cl (R.bC y.2.2.2.2.1 z.2.2.2.2) bC.g.o λw=>ok ((!(w == 3))))) λa=>br a (cl (R.aF y 1) aF.g.o λb=>ok b) (cl (R.bT y (10,(0,(0,(0,(0,(false,(false,(0,(0,((0,0),(([]:List Int),0)))))))))))) bT.g.o λx=>br (!(x.1.2 == 0)) (ok (((zV,x.1.2),x.2))) (bd (α:=Int) (bd (α:=Bool) (br (ilt x.1.1.2.2.2.1 0) (ok true) (ok ((ilt 9007199254740991 x.1.1.2.2.2.1)))) λc=>br c (ok 0) (ok (x.1.1.2.2.2.1))) λd=>cl (R.aX x.2 (6,(0,(([]:List bO.den),(([]:List bH.den),(([]:List UInt8),(0,(0,(zV,(0,(x.1.1.2.2.1,(0,(d,([]:List Int)))))))))))))) aX.g.o λu=>br (!(u.1.2 == 0)) (ok u) (cl (G.eval_run_call u.2 z zV [u.1.1]) eval_run_call.g.o λv=>br (!(v.1.2 == 0)) (ok v) (ok (((zV,0),v.2)))))))
def bw:Nat->af
 |0=>{ eval_run_list:=λ_ _ _=>.stuck,eval_run_statement:=λ_ _ _ _=>.stuck,eval_run_act:=λ_ _ _ _=>.stuck,eval_run_expression:=λ_ _ _=>.stuck,eval_run_block:=λ_ _ _=>.stuck,eval_run_decls:=λ_ _ _=>.stuck,eval_run_choice:=λ_ _ _=>.stuck,eval_run_while:=λ_ _ _ _=>.stuck,eval_run_loop:=λ_ _ _ _=>.stuck,eval_run_try:=λ_ _ _=>.stuck,eval_run_value:=λ_ _ _=>.stuck,eval_run_asked:=λ_ _ _=>.stuck,eval_run_first:=λ_ _ _=>.stuck,eval_run_catch:=λ_ _ _ _ _=>.stuck,eval_run_array:=λ_ _ _=>.stuck,eval_run_object:=λ_ _ _=>.stuck,eval_run_operation:=λ_ _ _ _=>.stuck,eval_run_unary:=λ_ _ _ _=>.stuck,eval_run_step:=λ_ _ _=>.stuck,eval_run_binary:=λ_ _ _=>.stuck,eval_run_logic:=λ_ _ _=>.stuck,eval_run_assign:=λ_ _ _=>.stuck,eval_run_callee:=λ_ _ _=>.stuck,eval_run_arguments:=λ_ _ _=>.stuck,eval_run_fresh:=λ_ _ _=>.stuck,eval_run_property:=λ_ _ _=>.stuck,eval_run_parts:=λ_ _ _=>.stuck,eval_run_called:=λ_ _ _=>.stuck,eval_run_call:=λ_ _ _ _=>.stuck,eval_run_builds:=λ_ _ _=>.stuck,eval_run_apply:=λ_ _ _ _=>.stuck,eval_run_does:=λ_ _ _ _=>.stuck,eval_run_host:=λ_ _ _=>.stuck,eval_run_receives:=λ_ _=>.stuck }
 |n+1=>{ eval_run_list:=R.eval_run_list (bw n),eval_run_statement:=R.eval_run_statement (bw n),eval_run_act:=R.eval_run_act (bw n),eval_run_expression:=R.eval_run_expression (bw n),eval_run_block:=R.eval_run_block (bw n),eval_run_decls:=R.eval_run_decls (bw n),eval_run_choice:=R.eval_run_choice (bw n),eval_run_while:=R.eval_run_while (bw n),eval_run_loop:=R.eval_run_loop (bw n),eval_run_try:=R.eval_run_try (bw n),eval_run_value:=R.eval_run_value (bw n),eval_run_asked:=R.eval_run_asked (bw n),eval_run_first:=R.eval_run_first (bw n),eval_run_catch:=R.eval_run_catch (bw n),eval_run_array:=R.eval_run_array (bw n),eval_run_object:=R.eval_run_object (bw n),eval_run_operation:=R.eval_run_operation (bw n),eval_run_unary:=R.eval_run_unary (bw n),eval_run_step:=R.eval_run_step (bw n),eval_run_binary:=R.eval_run_binary (bw n),eval_run_logic:=R.eval_run_logic (bw n),eval_run_assign:=R.eval_run_assign (bw n),eval_run_callee:=R.eval_run_callee (bw n),eval_run_arguments:=R.eval_run_arguments (bw n),eval_run_fresh:=R.eval_run_fresh (bw n),eval_run_property:=R.eval_run_property (bw n),eval_run_parts:=R.eval_run_parts (bw n),eval_run_called:=R.eval_run_called (bw n),eval_run_call:=R.eval_run_call (bw n),eval_run_builds:=R.eval_run_builds (bw n),eval_run_apply:=R.eval_run_apply (bw n),eval_run_does:=R.eval_run_does (bw n),eval_run_host:=R.eval_run_host (bw n),eval_run_receives:=R.eval_run_receives (bw n) }
end Go.Mach
end

set_option linter.unusedVariables false
set_option maxRecDepth 20000
noncomputable section
namespace Go.Mach
open Res
abbrev cZ.g:Sg:=⟨[.obj aJ],[(true,(.frz aR))]⟩
def R.cZ(z:aJ.den):Res (aR.den×aJ.den) :=
 given (cZ.g.i z) (cl (R.bm z (-1)) bm.g.o λx=>br (!(x.1.2 == 0)) (ok (((x.1.2,(([]:List UInt8),zV)),x.2))) (cl (R.cA x.2 0 (x.1.1,(zV,false))) cA.g.o λy=>br (!(y.1.2 == 0)) (ok (((y.1.2,(([]:List UInt8),y.1.1)),y.2))) (idx aE y.2.1 0 λu=>cl ((bw fuel).eval_run_list y.2 u.2.2.2.2.2 (x.1.1,(zV,false))) eval_run_list.g.o λv=>ok v)))
abbrev dw.g:Sg:=⟨[.val false (.bor aJ),.val true (.frz aC)],[(false,(.own .h))]⟩
def R.dw(z:((List aE.den)×(eJ.den×((List eU.den)×(Int×(gW.den×(Int×(Int×(fT.den×iY.den)))))))))(x:aC.den):Res ((List Int)) :=
 given (dw.g.i (z,x)) (br (!(x.1 == 6)) (cl (R.cz x) cz.g.o λu=>ok (u.1)) (cl (R.al z.2.2.2.2.1 x.2.2.2.2) al.g.o λy=>bd (α:=Bool) (br y.2 (ok ((y.1.1 == 10))) (ok false)) λv=>br v (cl (R.av y.1.2.2.2.2.1) av.g.o λw=>ok w) (cl (R.av [111,98,106,101,99,116]) av.g.o λa=>ok a)))
abbrev fb.g:Sg:=⟨[.val true (.frz (.list aE)),.val true (.frz eJ),.val false (.frz (.list eU))],[(true,(.frz fT)),(true,(.frz iY))]⟩
def R.fb(z:(List aE.den))(y:eJ.den)(u:(List eU.den)):Res ((fT.den×iY.den)) :=
 given (fb.g.i (z,(y,u))) (cl (R.lV y.1) lV.g.o λv=>cl (R.cZ (z,(y,(u,(0,(v,(0,(0,((0,(0,(0,(0,(0,(false,(false,(0,(0,((0,0),(([]:List Int),0))))))))))),(0,([]:List Int))))))))))) cZ.g.o λx=>br (x.1.1 == 5) (ok (x.2.2.2.2.2.2.2.2)) (br (x.1.1 == 4) (cl (R.dw x.2 x.1.2.2) dw.g.o λw=>ok (((0,(0,(0,(0,(0,(false,(false,(0,(0,((0,0),(([]:List Int),0))))))))))),(2,w)))) (ok (((0,(0,(0,(0,(0,(false,(false,(0,(0,((0,0),(([]:List Int),0))))))))))),(1,([]:List Int)))))))
abbrev ey.g:Sg:=⟨[.val true (.frz (.list aE)),.val true (.frz eJ),.val false (.frz (.list eU))],[(true,(.frz fT)),(true,(.frz iY))]⟩
def R.ey(x:(List aE.den))(y:eJ.den)(z:(List eU.den)):Res ((fT.den×iY.den)) :=
 given (ey.g.i (x,(y,z))) (cl (R.fH x) fH.g.o λu=>bd (α:=Bool) (br (!(u.2 == 0)) (ok true) (bd (R.kT y) λv=>ok ((!v)))) λw=>br w (ok (((0,(0,(0,(0,(0,(false,(false,(0,(0,((0,0),(([]:List Int),0))))))))))),(0,([]:List Int))))) (cl (R.fb x y z) fb.g.o λa=>ok a))
abbrev eX.g:Sg:=⟨[.s,.val false (.frz (.list eU))],[(true,(.frz fT)),(true,(.frz iY))]⟩
def R.eX(x:(List UInt8))(y:(List eU.den)):Res ((fT.den×iY.den)) :=
 given (eX.g.i (x,y)) (cl (R.jG (lH x)) jG.g.o λz=>cl (R.ey z.1 (100,(50,500)) y) ey.g.o λu=>ok u)
abbrev jA.g:Sg:=⟨[.s],[(false,(.own .h))]⟩
def R.jA(y:(List UInt8)):Res ((List Int)) :=
 given (jA.g.i y) (bd (loop (α:=((List Int)×Int)) (β:=(List Int)) (λx=>br (ilt x.2 (y.length:Int)) (idx (.int .u8) (lH y) x.2 λz=>aZ (decide ((x.1.length+[IntKind.wrap .u16 z].length)*2<=2^47)) (ok (.next (((x.1++[IntKind.wrap .u16 z]),w6 (x.2+1)))))) (ok (.done (x.1)))) fuel (([]:List Int),0)) λu=>ok u)
abbrev j6.g:Sg:=⟨[.val false (.bor (.own .h)),.val false (.bor (.own .h))],[vb]⟩
def R.j6(x:(List Int))(z:(List Int)):Res (Bool) :=
 given (j6.g.i (x,z)) (br (!((x.length:Int) == (z.length:Int))) (ok false) (bd (loop (α:=Int) (β:=(Unit ⊕ Bool)) (λy=>br (ilt y (x.length:Int)) (cO .h x y λu=>cO .h z y λv=>br (!(u == v)) (ok (.done (.inr false))) (ok (.next (w6 (y+1))))) (ok (.done (.inl ())))) fuel 0) λw=>sum w (λb=>ok true) (λa=>ok a)))
abbrev gA.g:Sg:=⟨[.s,.i,.s],[vb]⟩
def R.gA(y:(List UInt8))(z:Int)(u:(List UInt8)):Res (Bool) :=
 given (gA.g.i (y,(z,u))) (cl (R.eX y ([]:List eU.den)) eX.g.o λx=>br (x.1.1 == 0) (br (x.2.1 == z) (cl (R.jA u) jA.g.o λv=>bd (R.j6 x.2.2 v) λw=>ok w) (ok false)) (ok false))
abbrev eZ.g:Sg:=⟨[],[vb]⟩
def R.eZ :Res (Bool) :=
 given (eZ.g.i ()) (cl (R.eX [65,116,111,109,105,99,115,46,108,111,97,100,40,110,101,119,32,73,110,116,51,50,65,114,114,97,121,40,110,101,119,32,83,104,97,114,101,100,65,114,114,97,121,66,117,102,102,101,114,40,56,41,41,44,32,49,41] ([]:List eU.den)) eX.g.o λy=>cl (R.eX [65,116,111,109,105,99,115,46,108,111,97,100,40,110,101,119,32,73,110,116,51,50,65,114,114,97,121,40,110,101,119,32,83,104,97,114,101,100,65,114,114,97,121,66,117,102,102,101,114,40,56,41,41,44,32,49,41] [(0,(0,(3,(0,([]:List Int)))))]) eX.g.o λx=>cl (R.eX [108,101,116,32,102,32,61,32,40,41,32,61,62,32,102,40,41,59,32,102,40,41] ([]:List eU.den)) eX.g.o λz=>bd (R.gA [108,101,116,32,120,32,61,32,49,59,32,120,32,61,32,120,32,43,32,49] 1 ([]:List UInt8)) λu=>br u (bd (R.gA [116,104,114,111,119,32,110,101,119,32,69,114,114,111,114,40,39,97,39,41] 2 [69,114,114,111,114]) λv=>br v (bd (R.gA [110,117,108,108,46,120] 2 [84,121,112,101,69,114,114,111,114]) λw=>br w (bd (R.gA [49,32,47,32,50] 3 ([]:List UInt8)) λa=>br a (bd (R.gA [77,97,116,104] 3 ([]:List UInt8)) λb=>br b (br (y.1.1 == 1) (br (y.1.2.2.2.2.2.2.2.2.2.2.2 == 8) (br (y.2.1 == 0) (br (x.1.1 == 2) (br (x.1.2.1 == 3) (br (x.1.2.2.1 == 4) (br (x.1.2.2.2.1 == 4) (br x.1.2.2.2.2.2.1 (br (x.2.1 == 0) (ok ((ile 4 z.2.1))) (ok false)) (ok false)) (ok false)) (ok false)) (ok false)) (ok false)) (ok false)) (ok false)) (ok false)) (ok false)) (ok false)) (ok false)) (ok false)) (ok false))
abbrev gV.g:Sg:=⟨[.val true (.bor lG),.i],[vi]⟩
def R.gV(u:(List aE.den))(x:Int):Res (Int) :=
 given (gV.g.i (u,x)) (bd (loop (α:=(Int×Int)) (β:=Int) (λy=>bd (α:=Bool) (br (ilt y.2 (u.length:Int)) (ok ((ile y.1 x))) (ok false)) λv=>br v (cO (.frz aE) u y.2 λz=>ok (.next ((w6 ((w6 ((w6 ((w6 ((w6 (y.1+1))+(kF (z.2.2.1.length:Int) (w6 (x+1)))))+(kF (z.2.2.2.2.1.2.length:Int) (w6 (x+1)))))+(kF (z.2.2.2.2.2.length:Int) (w6 (x+1)))))+(kF (z.2.1.length:Int) (w6 (x+1)))),w6 (y.2+1))))) (ok (.done (y.1)))) fuel (0,0)) λw=>ok w)
abbrev jT.g:Sg:=⟨[.val true (.bor lG)],[vb]⟩
def R.jT(x:(List aE.den)):Res (Bool) :=
 given (jT.g.i x) (br (ile (x.length:Int) 20000) (cl (R.gV x 20000) gV.g.o λy=>ok ((ile y 20000))) (ok false))
abbrev iT.g:Sg:=⟨[.val false (.bor (.own (.frz eU)))],[vb]⟩
def R.iT(y:(List eU.den)):Res (Bool) :=
 given (iT.g.i y) (bd (loop (α:=(Int×Int)) (β:=Int) (λx=>bd (α:=Bool) (br (ilt x.2 (y.length:Int)) (ok ((ilt x.2 100))) (ok false)) λz=>br z (cO (.frz eU) y x.2 λu=>ok (.next ((w6 (x.1+(kF (u.2.2.2.2.length:Int) 20001)),w6 (x.2+1))))) (ok (.done (x.1)))) fuel (0,0)) λv=>br (ile (y.length:Int) 100) (ok ((ile v 20000))) (ok false))
abbrev gO.g:Sg:=⟨[.val true (.frz eJ)],[vb]⟩
def R.gO(x:eJ.den):Res (Bool) :=
 given (gO.g.i x) (br (ile x.2.2 3000) (br (ile x.2.1 200) (ok ((ile x.1 1000))) (ok false)) (ok false))
abbrev dS.g:Sg:=⟨[.val true (.frz (.list aE)),.val true (.frz eJ),.val false (.frz (.list eU))],[vb]⟩
def R.dS(u:(List aE.den))(y:eJ.den)(z:(List eU.den)):Res (Bool) :=
 given (dS.g.i (u,(y,z))) (bd (R.eZ) λb=>br (!b) (ok false) (bd (α:=Bool) (bd (R.jT u) λc=>br (!c) (ok true) (bd (R.iT z) λd=>br (!d) (ok true) (br (ilt 40 (z.length:Int)) (ok true) (bd (R.gO y) λe=>br (!e) (ok true) (br (ilt 1000 y.2.2) (ok true) (bd (R.kT y) λf=>ok ((!f)))))))) λh=>br h (bd (R.eZ) λj=>ok j) (bd (loop (α:=(Int×(Bool×Int))) (β:=(Int ⊕ Bool)) (λx=>br (ile x.2.2 (z.length:Int)) (aZ (ile 0 x.2.2 && ile x.2.2 z.length) (cl (R.ey u y (List.take (Int.toNat x.2.2) z)) ey.g.o λw=>bd (α:=Bool) (br (w.2.1 == 0) (ok ((!(w.1.1 == 0)))) (ok false)) λv=>bd (α:=Bool) (br v (ok (x.2.1)) (ok false)) λk=>br k (ok (.done (.inr false))) (bd (α:=Bool) (br x.2.1 (ok true) (ok ((!v)))) λa=>br v (ok (.next ((w6 (x.1+1),(a,w6 (x.2.2+1)))))) (ok (.next ((x.1,(a,w6 (x.2.2+1))))))))) (ok (.done (.inl x.1)))) fuel (0,(false,0))) λl=>sum l (λm=>bd (R.eZ) λn=>br n (ok ((ile m y.2.2))) (ok false)) (λp=>ok p))))
end Go.Mach
end





