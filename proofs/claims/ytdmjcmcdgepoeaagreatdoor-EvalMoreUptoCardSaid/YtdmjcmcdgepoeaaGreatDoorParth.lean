/-
  Proved here: the law renlaw12.EvalMore returns true for every input of the stated bulk and leaves its arguments as they were; no further condition.
  By an AI agent; no person has read it.
-/
import Derived.Test.YtdmjcmcdgepoeaaGreatDoorPartg
import Derived.Shelf.Strconv.ErrVarAll
import Derived.Shelf.Strconv.Itoa3
import Derived.Shelf.Small.Strs
import Derived.KernelRfl
import Derived.Test.YtdmjcmcdgepoeaaGreatDoorProg
import Derived.Lib.ItoaLen
import Derived.Lib.AtoiErrMem
import Derived.Lib.AtoiAllCases
import Derived.ChangeArms
import Derived.DataReads
import Derived.ChangeSame
import Derived.OpenShut
import Derived.RowKit
set_option linter.all false
set_option linter.deprecated false
set_option maxRecDepth 100000
namespace Go.Mach
open Go.Proofs Go.Shelf
def ze:Go.Shelf.Ren:=⟨fun|171=>119|243=>152|246=>171|283=>201|284=>202|285=>203|286=>204|129=>237|317=>236|318=>238|319=>239|320=>240|337=>264|338=>265|n=>n,fun|3=>3|9=>9|2=>2|4=>4|171=>248|0=>0|53=>43|37=>111|5=>5|173=>251|212=>278|51=>112|20=>20|213=>279|46=>108|232=>304|233=>305|n=>n,fun|17=>2|18=>3|19=>4|n=>n⟩
theorem HQ:Go.Proofs.LaysM.n171 Tryz.prog ze where
 mixed:=by kernel_rfl
 f129:=Tryz.func237.trans (congrArg some (by kernel_rfl))
 f171:=Tryz.func119.trans (congrArg some (by kernel_rfl))
 f243:=Tryz.func152.trans (congrArg some (by kernel_rfl))
 f246:=Tryz.func171.trans (congrArg some (by kernel_rfl))
 f283:=Tryz.func201.trans (congrArg some (by kernel_rfl))
 f284:=Tryz.func202.trans (congrArg some (by kernel_rfl))
 f285:=Tryz.func203.trans (congrArg some (by kernel_rfl))
 f286:=Tryz.func204.trans (congrArg some (by kernel_rfl))
 f317:=Tryz.func236.trans (congrArg some (by kernel_rfl))
 f318:=Tryz.func238.trans (congrArg some (by kernel_rfl))
 f319:=Tryz.func239.trans (congrArg some (by kernel_rfl))
 f320:=Tryz.func240.trans (congrArg some (by kernel_rfl))
 f337:=Tryz.func264.trans (congrArg some (by kernel_rfl))
 f338:=Tryz.func265.trans (congrArg some (by kernel_rfl))
 t0:=Tryz.underlying0
 a0:=Tryz.isAgg0
 z0:=Tryz.sizeOf0
 v0:=Tryz.zeroValue0
 t2:=Tryz.underlying2
 a2:=Tryz.isAgg2
 z2:=Tryz.sizeOf2
 v2:=Tryz.zeroValue2
 t3:=Tryz.underlying3
 a3:=Tryz.isAgg3
 z3:=Tryz.sizeOf3
 v3:=Tryz.zeroValue3
 t4:=Tryz.underlying4
 a4:=Tryz.isAgg4
 z4:=Tryz.sizeOf4
 v4:=Tryz.zeroValue4
 t5:=Tryz.underlying5
 a5:=Tryz.isAgg5
 z5:=Tryz.sizeOf5
 v5:=Tryz.zeroValue5
 t9:=Tryz.underlying9
 a9:=Tryz.isAgg9
 z9:=Tryz.sizeOf9
 v9:=Tryz.zeroValue9
 t20:=Tryz.underlying20
 a20:=Tryz.isAgg20
 z20:=Tryz.sizeOf20
 v20:=Tryz.zeroValue20
 t37:=Tryz.underlying111
 a37:=Tryz.isAgg111
 z37:=Tryz.sizeOf111
 v37:=Tryz.zeroValue111
 t46:=Tryz.underlying108
 a46:=Tryz.isAgg108
 z46:=Tryz.sizeOf108
 v46:=Tryz.zeroValue108
 t51:=Tryz.underlying112
 a51:=Tryz.isAgg112
 z51:=Tryz.sizeOf112
 v51:=Tryz.zeroValue112
 t53:=Tryz.underlying43
 a53:=Tryz.isAgg43
 z53:=Tryz.sizeOf43
 v53:=Tryz.zeroValue43
 t171:=Tryz.underlying248
 a171:=Tryz.isAgg248
 z171:=Tryz.sizeOf248
 v171:=Tryz.zeroValue248
 t173:=Tryz.underlying251
 a173:=Tryz.isAgg251
 z173:=Tryz.sizeOf251
 v173:=Tryz.zeroValue251
 t212:=Tryz.underlying278
 a212:=Tryz.isAgg278
 z212:=Tryz.sizeOf278
 v212:=Tryz.zeroValue278
 t213:=Tryz.underlying279
 a213:=Tryz.isAgg279
 z213:=Tryz.sizeOf279
 t232:=Tryz.underlying304
 a232:=Tryz.isAgg304
 z232:=Tryz.sizeOf304
 v232:=Tryz.zeroValue304
 t233:=Tryz.underlying305
 a233:=Tryz.isAgg305
 z233:=Tryz.sizeOf305
 v233:=Tryz.zeroValue305
 g17:=by kernel_rfl
 g18:=by kernel_rfl
 g19:=by kernel_rfl
 i0:=by kernel_rfl
 i2:=by kernel_rfl
 i3:=by kernel_rfl
 i4:=by kernel_rfl
 i5:=by kernel_rfl
 i9:=by kernel_rfl
 i20:=by kernel_rfl
 i37:=by kernel_rfl
 i46:=by kernel_rfl
 i51:=by kernel_rfl
 i53:=by kernel_rfl
 i171:=by kernel_rfl
 i173:=by kernel_rfl
 i212:=by kernel_rfl
 i232:=by kernel_rfl
 i233:=by kernel_rfl
 m17:=by kernel_rfl
 m18:=by kernel_rfl
 m19:=by kernel_rfl
def zG:Go.Shelf.Ren:=⟨fun|172=>437|244=>445|245=>446|247=>450|279=>451|280=>452|281=>453|282=>454|287=>456|316=>457|171=>119|205=>458|321=>460|322=>461|243=>152|246=>171|283=>201|284=>202|285=>203|286=>204|129=>237|317=>236|318=>238|319=>239|320=>240|337=>264|338=>265|n=>n,fun|9=>9|3=>3|75=>414|76=>415|4=>4|5=>5|167=>425|37=>111|0=>0|85=>426|2=>2|168=>428|53=>43|175=>431|46=>108|210=>435|127=>438|145=>441|143=>439|21=>21|171=>248|173=>251|212=>278|51=>112|20=>20|213=>279|232=>304|233=>305|80=>235|n=>n,fun|15=>6|16=>7|17=>2|18=>3|19=>4|n=>n⟩
theorem yA:Go.Proofs.LaysC.n172 Tryz.prog zG where
 mixed:=by kernel_rfl
 f129:=Tryz.func237.trans (congrArg some (by kernel_rfl))
 f171:=Tryz.func119.trans (congrArg some (by kernel_rfl))
 f172:=Tryz.func437.trans (congrArg some (by kernel_rfl))
 f205:=Tryz.func458.trans (congrArg some (by kernel_rfl))
 f243:=Tryz.func152.trans (congrArg some (by kernel_rfl))
 f244:=Tryz.func445.trans (congrArg some (by kernel_rfl))
 f245:=Tryz.func446.trans (congrArg some (by kernel_rfl))
 f246:=Tryz.func171.trans (congrArg some (by kernel_rfl))
 f247:=Tryz.func450.trans (congrArg some (by kernel_rfl))
 f279:=Tryz.func451.trans (congrArg some (by kernel_rfl))
 f280:=Tryz.func452.trans (congrArg some (by kernel_rfl))
 f281:=Tryz.func453.trans (congrArg some (by kernel_rfl))
 f282:=Tryz.func454.trans (congrArg some (by kernel_rfl))
 f283:=Tryz.func201.trans (congrArg some (by kernel_rfl))
 f284:=Tryz.func202.trans (congrArg some (by kernel_rfl))
 f285:=Tryz.func203.trans (congrArg some (by kernel_rfl))
 f286:=Tryz.func204.trans (congrArg some (by kernel_rfl))
 f287:=Tryz.func456.trans (congrArg some (by kernel_rfl))
 f316:=Tryz.func457.trans (congrArg some (by kernel_rfl))
 f317:=Tryz.func236.trans (congrArg some (by kernel_rfl))
 f318:=Tryz.func238.trans (congrArg some (by kernel_rfl))
 f319:=Tryz.func239.trans (congrArg some (by kernel_rfl))
 f320:=Tryz.func240.trans (congrArg some (by kernel_rfl))
 f321:=Tryz.func460.trans (congrArg some (by kernel_rfl))
 f322:=Tryz.func461.trans (congrArg some (by kernel_rfl))
 f337:=Tryz.func264.trans (congrArg some (by kernel_rfl))
 f338:=Tryz.func265.trans (congrArg some (by kernel_rfl))
 t0:=Tryz.underlying0
 a0:=Tryz.isAgg0
 z0:=Tryz.sizeOf0
 v0:=Tryz.zeroValue0
 t2:=Tryz.underlying2
 a2:=Tryz.isAgg2
 z2:=Tryz.sizeOf2
 v2:=Tryz.zeroValue2
 t3:=Tryz.underlying3
 a3:=Tryz.isAgg3
 z3:=Tryz.sizeOf3
 v3:=Tryz.zeroValue3
 t4:=Tryz.underlying4
 a4:=Tryz.isAgg4
 z4:=Tryz.sizeOf4
 v4:=Tryz.zeroValue4
 t5:=Tryz.underlying5
 a5:=Tryz.isAgg5
 z5:=Tryz.sizeOf5
 v5:=Tryz.zeroValue5
 t9:=Tryz.underlying9
 a9:=Tryz.isAgg9
 z9:=Tryz.sizeOf9
 v9:=Tryz.zeroValue9
 t20:=Tryz.underlying20
 a20:=Tryz.isAgg20
 z20:=Tryz.sizeOf20
 v20:=Tryz.zeroValue20
 t21:=Tryz.underlying21
 a21:=Tryz.isAgg21
 z21:=Tryz.sizeOf21
 v21:=Tryz.zeroValue21
 t37:=Tryz.underlying111
 a37:=Tryz.isAgg111
 z37:=Tryz.sizeOf111
 v37:=Tryz.zeroValue111
 t46:=Tryz.underlying108
 a46:=Tryz.isAgg108
 z46:=Tryz.sizeOf108
 v46:=Tryz.zeroValue108
 t51:=Tryz.underlying112
 a51:=Tryz.isAgg112
 z51:=Tryz.sizeOf112
 v51:=Tryz.zeroValue112
 t53:=Tryz.underlying43
 a53:=Tryz.isAgg43
 z53:=Tryz.sizeOf43
 v53:=Tryz.zeroValue43
 t75:=Tryz.underlying414
 a75:=Tryz.isAgg414
 z75:=Tryz.sizeOf414
 v75:=Tryz.zeroValue414
 t76:=Tryz.underlying415
 a76:=Tryz.isAgg415
 z76:=Tryz.sizeOf415
 v76:=Tryz.zeroValue415
 t85:=Tryz.underlying426
 a85:=Tryz.isAgg426
 z85:=Tryz.sizeOf426
 v85:=Tryz.zeroValue426
 t127:=Tryz.underlying438
 a127:=Tryz.isAgg438
 z127:=Tryz.sizeOf438
 v127:=Tryz.zeroValue438
 t143:=Tryz.underlying439
 a143:=Tryz.isAgg439
 z143:=Tryz.sizeOf439
 v143:=Tryz.zeroValue439
 t145:=Tryz.underlying441
 a145:=Tryz.isAgg441
 z145:=Tryz.sizeOf441
 v145:=Tryz.zeroValue441
 t167:=Tryz.underlying425
 a167:=Tryz.isAgg425
 z167:=Tryz.sizeOf425
 v167:=Tryz.zeroValue425
 t168:=Tryz.underlying428
 a168:=Tryz.isAgg428
 z168:=Tryz.sizeOf428
 v168:=Tryz.zeroValue428
 t171:=Tryz.underlying248
 a171:=Tryz.isAgg248
 z171:=Tryz.sizeOf248
 v171:=Tryz.zeroValue248
 t173:=Tryz.underlying251
 a173:=Tryz.isAgg251
 z173:=Tryz.sizeOf251
 v173:=Tryz.zeroValue251
 t175:=Tryz.underlying431
 a175:=Tryz.isAgg431
 z175:=Tryz.sizeOf431
 v175:=Tryz.zeroValue431
 t210:=Tryz.underlying435
 a210:=Tryz.isAgg435
 z210:=Tryz.sizeOf435
 v210:=Tryz.zeroValue435
 t212:=Tryz.underlying278
 a212:=Tryz.isAgg278
 z212:=Tryz.sizeOf278
 v212:=Tryz.zeroValue278
 t213:=Tryz.underlying279
 a213:=Tryz.isAgg279
 z213:=Tryz.sizeOf279
 t232:=Tryz.underlying304
 a232:=Tryz.isAgg304
 z232:=Tryz.sizeOf304
 v232:=Tryz.zeroValue304
 t233:=Tryz.underlying305
 a233:=Tryz.isAgg305
 z233:=Tryz.sizeOf305
 v233:=Tryz.zeroValue305
 g15:=by kernel_rfl
 g16:=by kernel_rfl
 g17:=by kernel_rfl
 g18:=by kernel_rfl
 g19:=by kernel_rfl
 t80:=Tryz.underlying235
 a80:=Tryz.isAgg235
 z80:=Tryz.sizeOf235
 v80:=Tryz.zeroValue235
 i0:=by kernel_rfl
 i2:=by kernel_rfl
 i3:=by kernel_rfl
 i4:=by kernel_rfl
 i5:=by kernel_rfl
 i9:=by kernel_rfl
 i20:=by kernel_rfl
 i21:=by kernel_rfl
 i37:=by kernel_rfl
 i46:=by kernel_rfl
 i51:=by kernel_rfl
 i53:=by kernel_rfl
 i75:=by kernel_rfl
 i76:=by kernel_rfl
 i80:=by kernel_rfl
 i85:=by kernel_rfl
 i127:=by kernel_rfl
 i143:=by kernel_rfl
 i145:=by kernel_rfl
 i167:=by kernel_rfl
 i168:=by kernel_rfl
 i171:=by kernel_rfl
 i173:=by kernel_rfl
 i175:=by kernel_rfl
 i210:=by kernel_rfl
 i212:=by kernel_rfl
 i232:=by kernel_rfl
 i233:=by kernel_rfl
 m15:=by kernel_rfl
 m16:=by kernel_rfl
 m17:=by kernel_rfl
 m18:=by kernel_rfl
 m19:=by kernel_rfl
 c0:=by kernel_rfl
 c2:=by kernel_rfl
 c3:=by kernel_rfl
 c4:=by kernel_rfl
 c5:=by kernel_rfl
 c9:=by kernel_rfl
 c20:=by kernel_rfl
 c21:=by kernel_rfl
 c37:=by kernel_rfl
 c46:=by kernel_rfl
 c51:=by kernel_rfl
 c53:=by kernel_rfl
 c75:=by kernel_rfl
 c76:=by kernel_rfl
 c80:=by kernel_rfl
 c85:=by kernel_rfl
 c127:=by kernel_rfl
 c143:=by kernel_rfl
 c145:=by kernel_rfl
 c167:=by kernel_rfl
 c168:=by kernel_rfl
 c171:=by kernel_rfl
 c173:=by kernel_rfl
 c175:=by kernel_rfl
 c210:=by kernel_rfl
 c212:=by kernel_rfl
 c213:=by kernel_rfl
 c232:=by kernel_rfl
 c233:=by kernel_rfl
end Go.Mach

set_option maxRecDepth 10000
namespace Go.Mach
open Go.Proofs Go.Shelf
theorem gPow:Tryz.prog.globalNamed "internal/strconv.uint64pow10"=some 2:=by kernel_rfl
theorem gSyn:Tryz.prog.globalNamed "strconv.ErrSyntax"=some 6:=by kernel_rfl
theorem gRng:Tryz.prog.globalNamed "strconv.ErrRange"=some 7:=by kernel_rfl
def xj:qx where
 n:=8
 holds w:=Lib.TabIs Tryz.prog w "internal/strconv.uint64pow10" .u64 Lib.pow10Tab /\
  (∃ tp p,World.var? Tryz.prog w "strconv.ErrSyntax"=some #[.iface tp p])/\∃ tp p,World.var? Tryz.prog w "strconv.ErrRange"=some #[.iface tp p]
 mono:=fun w w' h ⟨h2,⟨t3,p3,h3⟩,t4,p4,h4⟩=>by
  refine ⟨?_,⟨t3,p3,?_⟩,t4,p4,?_⟩
  ·simp only [Lib.TabIs,World.var?,gPow,Option.bind_some,h 2 (by decide)] at h2 ⊢;exact h2
  ·simp only [World.var?,gSyn,Option.bind_some,h 6 (by decide)] at h3 ⊢;exact h3
  ·simp only [World.var?,gRng,Option.bind_some,h 7 (by decide)] at h4 ⊢;exact h4
theorem EM {n:Int}(h:fG .i64 n=true):-9223372036854775808<=n/\n<=9223372036854775807:=by
 have h:IntKind.wrap .i64 n=n:=by simpa [fG] using h
 have h1:∀ m,-9223372036854775808<=IntKind.wrap .i64 m/\IntKind.wrap .i64 m<=9223372036854775807:=by
  intro m
  have e:IntKind.wrap .i64 m=(m+2^63) % 2^64-2^63:=by
   simp only [IntKind.wrap,IntKind.signed,IntKind.bits];first|rfl|(simp;try omega)
  rw [e]
  constructor<;>omega
 rw [<- h];exact h1 n
theorem Dw {n:Int}(h0:-9223372036854775808<=n) (h1:n<=9223372036854775807):fG .i64 n=true:=by
 have e:IntKind.wrap .i64 n=(n+2^63) % 2^64-2^63:=by
  simp only [IntKind.wrap,IntKind.signed,IntKind.bits];first|rfl|(simp;try omega)
 simp only [fG,e,beq_iff_eq];omega
theorem Fk {n:Nat}(h:lQ n=true):n<=140737488355328:=by
 simp only [lQ,decide_eq_true_eq] at h;omega
theorem Fg {n:Nat}(h:n<=140737488355328):lQ n=true:=by
 simp only [lQ,decide_eq_true_eq];omega
theorem HY {w:World}{Z Y S:Nat->Prop}{v:Value}{x:List UInt8}(h:sP w Z Y (false,.frz .str) v x S):v=lh x/\lQ x.length=true:=by
 obtain ⟨us,h1,h2,h3⟩:=h;have h1:us=[v]:=h1;subst h1;have h3:[v]=[lh x]/\lQ x.length=true:=h3;exact ⟨by simpa using h3.1,h3.2⟩
theorem Hp {w:World}{Z Y S:Nat->Prop}{v:Value}{x:Int}(h:sP w Z Y (false,.frz (.int .i64)) v x S):v=.int .i64 x/\fG .i64 x=true:=by
 obtain ⟨us,h1,h2,h3⟩:=h;have h1:us=[v]:=h1;subst h1;have h3:[v]=[.int .i64 x]/\fG .i64 x=true:=h3;exact ⟨by simpa using h3.1,h3.2⟩
theorem str_mk {w:World}{Z Y S:Nat->Prop}{x:List UInt8}(h:lQ x.length=true):sP w Z Y (false,.frz .str) (lh x) x S:=⟨[lh x],rfl,rfl,rfl,h⟩
theorem int_mk {w:World}{Z Y S:Nat->Prop}{x:Int}(h:fG .i64 x=true):sP w Z Y (false,.frz (.int .i64)) (.int .i64 x) x S:=⟨[.int .i64 x],rfl,rfl,rfl,h⟩
theorem err_mk {w:World}{Z Y S:Nat->Prop}{v:Value}{b:Bool}(h1:v.cells=#[v]) (h:Bz b v):sP w Z Y (false,.err) v b S:=⟨[v],rfl,rfl,v,rfl,h⟩
theorem xu {w w':World}{Z S:Nat->Prop}{ps:List Par}{rs:List VSh}{args:List Value}{e:Ending}{v:Value}{kC:List Value}{Ψ:outs (lA rs) (boxes ps)->Prop}{y:outs (lA rs) (boxes ps)}
  (he:e=.returned v) (hΨ:Ψ y) (hret:yT rs v kC) (hv:lW w' Z (fun _=>False) rs kC (lb (boxes ps) y) (fun _=>False)) (ho:mb w' Z (fun _=>False) ps args y (fun _=>False))
  (hZ:∀ b,Z b->b < w.heap.size) (hsz:w.heap.size<=w'.heap.size) (hk:∀ b,b < w.heap.size->w'.heap[b]?=w.heap[b]?) (hio:Io w w') :
  ∃ y v kC,∃ Z' S1 S2:Nat->Prop,e=.returned v/\Ψ y/\yT rs v kC /\
   lW w' Z' (fun _=>False) rs kC (lb (boxes ps) y) S1/\mb w' Z' (fun _=>False) ps args y S2/\(∀ d,S1 d->S2 d->False) /\
   (∀ b,S1 b\/S2 b->b < w'.heap.size/\¬ Z' b/\(S b\/w.heap.size<=b))/\(∀ b,Z b->Z' b)/\(∀ b,Z' b->b < w'.heap.size/\(Z b\/S b\/w.heap.size<=b)) /\
   w.heap.size<=w'.heap.size/\(∀ b,b < w.heap.size->¬ S b->w'.heap[b]?=w.heap[b]?)/\Io w w' :=
 ⟨y,v,kC,Z,fun _=>False,fun _=>False,he,hΨ,hret,hv,ho,fun _ h=>h.elim,fun b hb=>by rcases hb with hb|hb<;>exact hb.elim,fun _ h=>h,fun b hb=>⟨Nat.lt_of_lt_of_le (hZ b hb) hsz,.inl hb⟩,hsz,fun b hb _=>hk b hb,hio⟩
theorem Ek:kf Tryz.prog xj (p7 119):=by
 refine ⟨⟨Tryz.f119,by kernel_rfl,by kernel_rfl,by kernel_rfl⟩,rfl,fun w Z Y S args x Ψ hsat hG hZ hY hS hV=>?_⟩;obtain ⟨v,rfl,hv⟩:=hV;have hv:sP w Z Y (false,.frz (.int .i64)) v x S:=hv;obtain ⟨rfl,hr⟩:=Hp hv;obtain ⟨h0,h1⟩:=EM hr;have hΨ:Ψ (Lib.itoa x):=hsat;have hc:=Any.strconv_Itoa HQ x h0 h1 w hG.1.1;change Calls Tryz.prog 119 _ _ _ at hc;refine hc.mono ?_;rintro e w' ⟨rfl,k,os,rfl⟩;refine xu (ps:=rN.ps) (rs:=rN.rs) rfl hΨ rfl ⟨lh (Lib.itoa x),rfl,str_mk (Fg (Nat.le_trans (Lib.itoa_length_le x h0 h1) (by omega)))⟩ ⟨_,_,rfl,trivial⟩ hZ ?_ ?_ ⟨rfl,rfl,rfl⟩
 ·show w.heap.size<=(w.heap++os).size;rw [Array.size_append];omega
 ·intro b hb;show (w.heap++os)[b]?=_;rw [Array.getElem?_append_left hb]
theorem wz (l:List UInt8):fG .i64 (Lib.atoiSat l)=true:=by
 unfold Lib.atoiSat
 split<;>decide
theorem FR:kf Tryz.prog xj (tz 437):=by
 refine ⟨⟨Tryz.f437,by kernel_rfl,by kernel_rfl,by kernel_rfl⟩,rfl,fun w Z Y S args x Ψ hsat hG hZ hY hS hV=>?_⟩;obtain ⟨v,rfl,hv⟩:=hV;have hv:sP w Z Y (false,.frz .str) v x S:=hv;obtain ⟨rfl,hr⟩:=HY hv;have hx:=Fk hr;have hsat:(qE x).sat Ψ:=hsat;unfold qE at hsat
 have fin:∀ (n:Int) (b:Bool) (u:Value) (w':World),fG .i64 n=true->Bz b u->u.cells=#[u]->Ψ (n,b)->RowKit.Below w.heap.size w w'->∃ y v kC,∃ Z' S1 S2:Nat->Prop,Ending.returned (.tuple #[.int .i64 n,u])=.returned v/\Ψ y/\yT qC.rs v kC /\
   lW w' Z' (fun _=>False) qC.rs kC (lb (boxes qC.ps) y) S1/\mb w' Z' (fun _=>False) qC.ps [lh x] y S2/\(∀ d,S1 d->S2 d->False) /\
   (∀ b,S1 b\/S2 b->b < w'.heap.size/\¬ Z' b/\(S b\/w.heap.size<=b))/\(∀ b,Z b->Z' b)/\(∀ b,Z' b->b < w'.heap.size/\(Z b\/S b\/w.heap.size<=b)) /\
   w.heap.size<=w'.heap.size/\(∀ b,b < w.heap.size->¬ S b->w'.heap[b]?=w.heap[b]?)/\Io w w':=fun n b u w' h1 h2 h3 h4 h5 =>
  xu (ps:=qC.ps) (rs:=qC.rs) (kC:=[.int .i64 n,u]) rfl h4 rfl ⟨_,_,fun _=>False,fun _=>False,rfl,fun _ h=>h,fun _ h=>h,fun _ h _=>h,int_mk h1,_,rfl,err_mk h3 h2⟩ ⟨_,_,rfl,trivial⟩ hZ h5.size h5.block ⟨h5.os,h5.output,h5.tape⟩
 rcases ha:Lib.atoiAll x with n|_|_
 ·rw [ha] at hsat;obtain ⟨b1,b2⟩:=Lib.atoiAll_bounds ha;have hc:=Any.strconv_Atoi_ok yA ⟨⟨x⟩⟩ (show x.length<=_ by omega) n ha w;change Calls Tryz.prog 437 _ _ _ at hc;refine hc.mono ?_;rintro e w' ⟨rfl,hw⟩;refine fin n true .nilIface w' (Dw b1 b2) (.inl ⟨rfl,rfl⟩) rfl hsat ?_;rcases hw with rfl|⟨t,rfl⟩
  ·exact ⟨rfl,rfl,rfl,Nat.le_refl _,fun _ _=>rfl⟩
  ·exact Lib.bytesWorld_below _ _ _
 ·rw [ha] at hsat;obtain ⟨tp,p,hp⟩:=hG.1.2.1;have hc:=Any.strconv_Atoi_syntax_var yA ⟨⟨x⟩⟩ (show x.length<=_ by omega) ha tp p w hp;change Calls Tryz.prog 437 _ _ _ at hc;refine hc.mono ?_;rintro e w' ⟨N,rfl,_,_,hb⟩;exact fin 0 false _ w' (by decide) (.inr ⟨rfl,_,_,rfl⟩) rfl hsat hb
 ·rw [ha] at hsat;obtain ⟨tp,p,hp⟩:=hG.1.2.2;have hc:=Any.strconv_Atoi_range_var yA ⟨⟨x⟩⟩ (show x.length<=_ by omega) ha tp p w hp;change Calls Tryz.prog 437 _ _ _ at hc;refine hc.mono ?_;rintro e w' ⟨N,rfl,_,_,hb⟩;exact fin (Lib.atoiSat x) false _ w' (wz x) (.inr ⟨rfl,_,_,rfl⟩) rfl hsat hb
end Go.Mach

namespace Go.Mach
def Dy (T:TypeId):Code:=.region 0 #[{ dst:=some 2,op:=.assign (.const (.slice none 0 0)),type:=T,pos := "slices.go:355",after:=#[],guard:=none }] false
def C8 (T B:TypeId):Code:=.region 1 #[{ dst:=some 3,op:=.move (.tmp 0),type:=T,pos := "slices.go:357",after:=#[],guard:=none },
 {dst:=some 4,op:=.binOp .eql T (.tmp 3) (.const (.slice none 0 0)) T,type:=B,pos := "slices.go:357",after:=#[{ on:=0,ground:=.data }],guard:=none }] false
def Em (T:TypeId):Code:=(Code.region 2 #[{ dst:=some 2,op:=.assign (.const (.slice none 0 0)),type:=T,pos := "slices.go:358",after:=#[],guard:=none }] false).seq .ret
def pz (T:TypeId):Code:=(Code.region 3 #[{ dst:=some 5,op:=.buildSlice T 0 #[],type:=T,pos := "slices.go:362",after:=#[],guard:=none },
 {dst:=some 6,op:=.move (.tmp 0),type:=T,pos := "slices.go:362",after:=#[],guard:=none },
 {dst:=some 7,op:=.call { callee:=.builtin .append,args:=#[.tmp 5,.tmp 6],argTypes:=#[T,T] },type:=T,pos := "slices.go:362",after:=#[{ on:=0,ground:=.data },{ on:=1,ground:=.data }],guard:=none },
 {dst:=some 2,op:=.assign (.tmp 7),type:=T,pos := "slices.go:362",after:=#[{ on:=2,ground:=.data },{ on:=2,ground:=.chain },{ on:=0,ground:=.phase },{ on:=1,ground:=.phase },{ on:=2,ground:=.phase }],guard:=none }] false).seq .ret
def xW (T B:TypeId):Code:=(Dy T).seq (((C8 T B).seq (.cond (.tmp 4) (Em T) .skip)).seq (pz T))
theorem tP {P:Program}{ops:Array Oper}{Q:Exit->Act->World->Prop}{i:Nat}{rest:List Nat}{o:Oper}{a:Act}{w:World}{v:Value}(ho:ops[i]?=some o) (hg:o.guard=none) (h:(execOp a.eval o).run P w=.ok (.value v) w)
  (hn:wpOps P ops Q rest (a.put o.dst v) w):wpOps P ops Q (i::rest) a w:=by
 simp only [wpOps,ho]
 rw [show Region.wanted o (yielded ops a.tmps)=true from by unfold Region.wanted;rw [hg]]
 simp only [if_true];exact .inl (pN h hn)
theorem Bl {P:Program}{T B:TypeId}{w:World}{v0:Value}{b:Bool}{Q:Exit->Act->World->Prop}{a:Act}(h0:a.eval (.tmp 0)=v0) (hsz:a.tmps.size=8)
  (hb:(binOp .eql T v0 (.slice none 0 0)).run P w=.ok (.bool b) w) (hgd:(eqGuard .eql T (.tmp 3) (.const (.slice none 0 0)) v0 (.slice none 0 0)).run P w=.ok () w)
  (ht:b=true->Q .ret ((((a.put (some 2) (.slice none 0 0)).put (some 3) v0).put (some 4) (.bool b)).put (some 2) (.slice none 0 0)) w)
  (hf:b=false->(pz T).wp P Q (((a.put (some 2) (.slice none 0 0)).put (some 3) v0).put (some 4) (.bool b)) w):(xW T B).wp P Q a w:=by
 have e2:∀ (a:Act) (d:Nat) (v:Value) (t:Nat),t < a.tmps.size->(a.put (some d) v).eval (.tmp t)=if d=t then v else a.eval (.tmp t):=by
  intro a d v t ht;simp only [Act.eval,Act.put];by_cases hd:d=t
  ·subst hd;simp [ht]
  ·simp [hd,Array.getElem?_setIfInBounds_ne hd]
 have s2:∀ (a:Act) (d:Nat) (v:Value),(a.put (some d) v).tmps.size=a.tmps.size:=by intro a d v;simp [Act.put]
 refine wp_seq (wp_region (tP (o:=_) (v:=.slice none 0 0) rfl rfl (by rfl) ?_));show Exit.then _ Q .normal _ w;refine wp_seq (wp_seq (wp_region (tP (o:=_) (v:=v0) rfl rfl ?_ ?_)))
 ·have hv0:(a.put (some 2) (.slice none 0 0)).eval (.tmp 0)=v0:=by rw [e2 _ _ _ _ (by omega)];simpa using h0
  exact congrArg (fun v=>Result.ok (Next.value v) w) hv0
 have hv3:((a.put (some 2) (.slice none 0 0)).put (some 3) v0).eval (.tmp 3)=v0:=by rw [e2 _ _ _ _ (by rw [s2];omega)];simp
 have hrun:=ou (E:={ P:=P,specs:=[],ety:=fun _=>none }) (w:=w) (a:=(a.put (some 2) (.slice none 0 0)).put (some 3) v0) (o:={ dst:=some 4,op:=.binOp .eql T (.tmp 3) (.const (.slice none 0 0)) T,type:=B,pos := "slices.go:357",after:=#[{ on:=0,ground:=.data }],guard:=none }) (v:=.bool b) rfl (by rw [hv3];exact hgd) (by rw [hv3];exact hb)
 refine tP (o:=_) (v:=.bool b) rfl rfl hrun ?_;show Exit.then _ _ .normal _ w
 have h4:(((a.put (some 2) (.slice none 0 0)).put (some 3) v0).put (some 4) (.bool b)).eval (.tmp 4)=.bool b:=by
  rw [e2 _ _ _ _ (by rw [s2,s2];omega)];simp
 cases b with
 |true=>exact wp_cond_true h4 (wp_seq (wp_region (tP (o:=_) (v:=.slice none 0 0) rfl rfl (by rfl) (wp_ret (ht rfl)))))
 |false=>exact wp_cond_false h4 (wp_skip (hf rfl))
end Go.Mach

namespace Go.Mach
theorem uL {P:Program}{sp:Spec}{fn:Func}{w w':World}{Z Z' Y S:Nat->Prop}{args:List Value}{vs:List AV}{s:St}{a':Act}{μ1 μ':bZ}{G:qx}{hg:G.holds w/\∀ b,b < G.n->Z b/\b < w.heap.size/\¬ S b}{Ψ:outs (lA sp.rs) (boxes sp.ps)->Prop}
  (hnb:(sp.rs.all fun s=>s.2.oG)=true) (hnb2:(boxes sp.ps).all Sh.oG=true) (hres:fn.results.toList.all (xt P)=true)
  (hZ:∀ b,Z b->b < w.heap.size) (hS:∀ b,S b->b < w.heap.size/\¬ Z b) (e3:ARs w Z μ1 vs args) (hobjc:EA sp.ps vs) (hext':de μ1 μ') (hR':Rel ⟨w,S,Z,Y,G,hg⟩ s a' w' Z' μ') (hs:(fin P fn sp.ps sp.rs vs s).sat Ψ) :
  a'.defers=[]/\∃ v,(results fn a'.tmps).run P w'=.ok v w'/\(∃ y v' kC,∃ Z' S1 S2:Nat->Prop,Ending.returned v=.returned v'/\Ψ y/\yT sp.rs v' kC /\
   lW w' Z' (fun _=>False) sp.rs kC (lb (boxes sp.ps) y) S1/\mb w' Z' (fun _=>False) sp.ps args y S2/\(∀ d,S1 d->S2 d->False) /\
   (∀ b,S1 b\/S2 b->b < w'.heap.size/\¬ Z' b/\(S b\/w.heap.size<=b))/\(∀ b,Z b->Z' b)/\(∀ b,Z' b->b < w'.heap.size/\(Z b\/S b\/w.heap.size<=b)) /\
   w.heap.size<=w'.heap.size/\(∀ b,b < w.heap.size->¬ S b->w'.heap[b]?=w.heap[b]?)/\Io w w'):=by
 unfold fin at hs;obtain ⟨xs,kC,hrun,hxs,hs⟩:=oi hR' fn.results.toList hres hs;split at hs
 case h_2=>exact hs.elim
 rename_i y m1 hgt;split at hs
 case h_2=>exact hs.elim
 rename_i z ho;obtain ⟨Z1,F1,S1,a1,a2,a3,a4,a5,a6,a7⟩:=qK hR'.mem (dG.none ⟨w,S,Z,Y,G,hg⟩ s.mem w' Z' μ') hxs hgt;have hsame:bk Z w w':=fun b hb=>a1.qz b (hZ b hb) fun hS'=>(hS b hS').2 hb;obtain ⟨m2,Z2,F2,S2,b1,b2,b3,b4,b5,b6,b7⟩:=oA (ps:=sp.ps) a1 a2 (e3.mono hsame a1.sQ hext') hobjc ho;obtain ⟨v,hv,hret⟩:=vf (rs:=sp.rs) hrun a7.len;refine ⟨hR'.df,v,hv,z,v,kC,Z2,S1,S2,rfl,hs,hret,?_,b6.noY hnb2,fun d h1 h2=>(b5 d h2).2 (a5 d h1).1,fun b hb=>?_,b1.sQ,fun b hb=>?_,b1.size,b1.qz,b1.io⟩
 ·rw [b7];exact (a7.up b3).noY hnb
 ·have hF:F2 b:=by
   rcases hb with hb|hb
   ·exact b4 b (a5 b hb).1
   ·exact (b5 b hb).1
  obtain ⟨c1,c2,c3⟩:=b2.ok b hF;exact ⟨c2,c1,c3.symm⟩
 ·obtain ⟨c1,c2⟩:=b1.frz b hb;exact ⟨c1,c2.imp id Or.symm⟩
@[reducible] def sf (e:Ty):List Par:=[.val false (.bor (.own (.frz e)))]
@[reducible] def wA (e:Ty):List VSh:=[(false,.own (.frz e))]
def tI (f:FuncId) (e:Ty) (g:List e.den->Bool):Spec:=⟨f,sf e,wA e,fun x=>Res.ai (g x) (Res.ok x)⟩
def yB (n:Nat):List AV:=List.replicate n (.c .undef)
theorem lu {P:Program}{G:qx}{f:FuncId}{fn:Func}{e:Ty}{T B el:TypeId}{g:List e.den->Bool}{ety:TypeId->Option Sh}(hm:P.follows .mixedOrders=true) (hfn:P.funcs[f]?=some fn) (hcode:fn.body=some (xW T B))
  (hname:(fn.name == "runtime.NumGoroutine")=false) (hresE:fn.results=#[.tmp 2]) (hnt:fn.ntmps=8) (hT:P.underlying T=some (.slice el))
  (hcopy:∀ xs:List e.den,exec { P:=P,specs:=[],ety:=ety } (pz T) (List e.den) .none ⟨.c (.ref 0 .full)::yB 7,⟨[.bor (.frz e) xs],0,1⟩,[]⟩ { nrm:=fin P fn (sf e) (wA e) [.c (.ref 0 .full)],ext:=fun _ _=>.stuck,ret:=fin P fn (sf e) (wA e) [.c (.ref 0 .full)] }=Res.ai (g xs) (.ok xs)) :
  kf P G (tI f e g):=by
 refine ⟨⟨fn,hfn,by rw [hcode];rfl,hname⟩,rfl,fun w Z Y S args x Ψ hsat hG hZ hY hS hV=>?_⟩
 have hres:fn.results.toList.all (xt P)=true:=by rw [hresE];rfl
 have hV':=hV;obtain ⟨v0,rfl,us,hus,hlen1,hbr⟩:=hV;have hus:us=[v0]:=hus;subst hus;have hbr:BR w Z (fun b=>Y b\/Z b) (.own (.frz e)) [v0] x:=hbr;simp only [BR] at hbr;obtain ⟨ad,cap,h1,h2,h3,h4⟩:=hbr;simp only [List.cons.injEq,and_true] at h1
 let Bs:gy:=⟨w,S,Z,Y,G,hG.1,fun b hb=>⟨hG.2 b hb,hZ b (hG.2 b hb),fun h=>(hS b h).2 (hG.2 b hb)⟩⟩
 have hE:∀ sp∈({ P:=P,specs:=[],ety:=ety }:Env).specs,kf ({ P:=P,specs:=[],ety:=ety }:Env).P G sp:=fun sp h=>by cases h
 let m0:Mem:=⟨[dJ.dead],0,0⟩
 have hdead:∀ (r:Nat) (y:dJ),m0.roots[r]?=some y->y=dJ.dead:=fun r y hy=>by
  have hy:[dJ.dead][r]?=some y:=hy
  cases r with
  |zero=>simpa using hy.symm
  |succ r=>simp at hy
 have hM0:bh Bs m0 w Z (fun _=>none) :=
  ⟨(fun r y hy hd=>absurd (hdead r y hy) hd),(fun r s y z ℓ ℓ' _ hy _ _ _ hl=>by cases hl),(fun r y ℓ b _ _ hl=>by cases hl),fun b hb=>⟨hZ b hb,.inl hb⟩,fun b hb=>hb,Nat.le_refl _,fun b _ _=>rfl,fun _ _=>rfl,fun b hb=>hY b hb,Io.refl _⟩
 have hL0:dG Bs m0 w Z (fun _=>none) S:=by
  refine ⟨fun b hb=>⟨(hS b hb).2,(hS b hb).1,.inr hb⟩,fun b r hb=>?_⟩;rintro ⟨y,ℓ,_,_,hl,_⟩;cases hl
 have hF0:mj m0 (fun _=>none) (mv ((sf e).map Par.v)):=fun k hk=>⟨rfl,by
  have hk:k < 1:=hk
  have:k=0:=by omega
  subst this;rfl⟩
 obtain ⟨μ1,e1,_,e3,_⟩:=sC hM0 hL0 hF0 hV' (fun _ h=>h);have e1:bh Bs ⟨[.bor (.frz e) x],0,1⟩ w Z μ1:=e1;have e3:ARs w Z μ1 [.c (.ref 0 .full)] [v0]:=e3
 let st:St:=⟨.c (.ref 0 .full)::yB 7,⟨[.bor (.frz e) x],0,1⟩,[]⟩
 have hsz:([v0].toArray++Array.replicate (fn.ntmps-[v0].toArray.size) undef).size=8:=by rw [hnt];rfl
 have hev0:(Act.eval { tmps:=[v0].toArray++Array.replicate (fn.ntmps-[v0].toArray.size) undef,defers:=[] } (.tmp 0))=v0:=by rw [hnt];rfl
 have hR:Rel Bs st { tmps:=[v0].toArray++Array.replicate (fn.ntmps-[v0].toArray.size) undef,defers:=[] } w Z μ1:=by
  refine ⟨e1,fun i z hz=>?_,?_,rfl⟩
  ·have hz:(AV.c (.ref 0 .full)::yB 7)[i]?=some z:=hz
   cases i with
   |zero =>
    simp only [List.getElem?_cons_zero,Option.some.injEq] at hz;subst hz;obtain ⟨v',hv',har⟩:=ARs.at_ e3 0 _ rfl
    have:v'=v0:=by simpa using hv'.symm
    subst this;rw [hnt];exact har
   |succ i =>
    simp only [List.getElem?_cons_succ,yB,List.getElem?_replicate] at hz;split at hz
    ·cases hz;exact AR.undef _
    ·cases hz
  ·rw [hsz];rfl
 have hob:EA (sf e) [.c (.ref 0 .full)]:=trivial;refine calls_of_wp hfn hcode ?_
 have hb:(binOp .eql T v0 (.slice none 0 0)).run P w=.ok (.bool ad.isNone) w:=by
  rw [h1]
  cases ad with
  |none=>exact (nJ (w:=w) (P:=P) (t:=T) (v:=.slice none _ cap) (u:=.slice none 0 0) (b:=true) (by rintro op (rfl|rfl)<;>rfl) ((fun d=>by simp [Op.equalIn,run_underlying hT]:∀ d,(Op.equalIn (d+1) T _ _).run P w=.ok _ w) 9999)).1
  |some p=>exact (nJ (w:=w) (P:=P) (t:=T) (v:=.slice (some p) _ cap) (u:=.slice none 0 0) (b:=false) (by rintro op (rfl|rfl)<;>rfl) ((fun d=>by simp [Op.equalIn,run_underlying hT]:∀ d,(Op.equalIn (d+1) T _ _).run P w=.ok _ w) 9999)).1
 refine Bl (b:=ad.isNone) hev0 hsz hb (by rw [h1];rfl) (fun hn=>?_) (fun hn=>?_)
 ·have hx:x=[]:=by
   rcases h4 with h4|⟨b,o,h4,_⟩
   ·exact h4
   ·rw [h4] at hn;cases hn
  subst hx
  have hΨ:Ψ ([]:List e.den):=by
   have:(Res.ai (g []) (Res.ok ([]:List e.den))).sat Ψ:=hsat;exact (jr this).2
  have hR4:=(((hR.wQ (some 2) (AR.undef (.slice none 0 0))).wQ (some 3) (AR.undef v0)).wQ (some 4) (AR.undef (.bool ad.isNone))).wQ (some 2) (x:=.c .nS) (v:=.slice none 0 0) rfl;refine uL (sp:=tI f e g) (Ψ:=Ψ) (vs:=[.c (.ref 0 .full)]) (args:=[v0]) rfl rfl hres hZ hS e3 hob (de.refl _) hR4 ?_;unfold fin;rw [hresE];exact hΨ
 ·have hR3:=((hR.wQ (some 2) (AR.undef (.slice none 0 0))).wQ (some 3) (AR.undef v0)).wQ (some 4) (AR.undef (.bool ad.isNone));have hR3:Rel Bs st _ w Z μ1:=hR3
  let K:lT (List e.den):={ nrm:=fin P fn (sf e) (wA e) [.c (.ref 0 .full)],ext:=fun _ _=>.stuck,ret:=fin P fn (sf e) (wA e) [.c (.ref 0 .full)] }
  have hx0:(exec { P:=P,specs:=[],ety:=ety } (pz T) (List e.den) .none st K).sat (show List e.den->Prop from Ψ):=(congrArg (fun r:Res (List e.den)=>r.sat (show List e.den->Prop from Ψ)) (hcopy x)).mpr hsat
  refine lF (B:=Bs) (E:={ P:=P,specs:=[],ety:=ety }) hm (.rL hE rfl) (pz T) (List e.den) .none st K Ψ _ st _ _ w w Z Z μ1 μ1 hx0 hR3 hR3 (Ev.refl _) (de.refl _) ?_;intro k s a' w' Z' μ' hs hR' _ hext'
  cases k with
  |nrm=>exact uL (sp:=tI f e g) (Ψ:=Ψ) (vs:=[.c (.ref 0 .full)]) (args:=[v0]) rfl rfl hres hZ hS e3 hob hext' hR' hs
  |ret=>exact uL (sp:=tI f e g) (Ψ:=Ψ) (vs:=[.c (.ref 0 .full)]) (args:=[v0]) rfl rfl hres hZ hS e3 hob hext' hR' hs
  |ext n=>exact hs.elim
end Go.Mach

set_option maxRecDepth 100000
set_option linter.unusedVariables false
namespace Go.Mach
open Go.Proofs
theorem mixed:Tryz.prog.follows .mixedOrders=true:=by kernel_rfl
class Has (sp:Spec):Prop where
 ok:kf Tryz.prog xj sp
class AK (l:List Spec):Prop where
 ok:∀ sp∈l,kf Tryz.prog xj sp
instance:AK []:=⟨fun _ h=>by cases h⟩
instance {s:Spec}{l:List Spec} [a:Has s] [b:AK l]:AK (s::l):=⟨fun sp hm=>by
 rcases List.mem_cons.1 hm with rfl|hm
 ·exact a.ok
 ·exact b.ok sp hm⟩
theorem Has.of {l:List Spec}{sp:Spec}{ann:Ann}(h:Eqn (Q l) sp ann) [b:AK l]:Has sp:=⟨h.Ak mixed (.rL b.ok rfl)⟩
theorem Has.stuck {E:Env}{sp:Spec}{ann:Ann}(h:Eqn E sp ann){run:lA (sp.ps.map Par.v)->Res (outs (lA sp.rs) (boxes sp.ps))}(hP:E.P=Tryz.prog) (h0:∀ x,run x=.stuck):Has ⟨sp.f,sp.ps,sp.rs,run⟩:=⟨hP▸h.stuck h0⟩
theorem Has.inl {E:Env}{j:Inl}{sp:Spec}{ann:Ann}(h:Eqn E sp ann) (hP:E.P=Tryz.prog) (hi:E.inls=[j]) (hj:Cd Tryz.prog xj j) [b:AK E.specs]:Has sp:=⟨by
 obtain ⟨P,specs,ety,dr,sbs,maps,kok,inls⟩:=E;cases hP
 exact h.Ak mixed ⟨b.ok,fun i hm=>by
  rw [hi] at hm;obtain rfl:=List.mem_singleton.1 hm
  exact hj⟩⟩
theorem qX {P:Program}{Gl:qx}{f:FuncId}{e:Ty}{g:List e.den->Bool}(h:kf P Gl (tI f e g)) (hg:∀ xs:List e.den,fk (.frz e) xs.length=true->g xs=true):kf P Gl (jb f e):=by
 refine ⟨h.fn,h.obj,fun w Z Y S args x Ψ hsat hG hZ hY hS hV=>?_⟩;refine h.run w Z Y S args x Ψ ?_ hG hZ hY hS hV
 have hok:fk (.frz e) (List.length (show List e.den from x))=true:=hV.ok
 show (Res.ai (g x) (Res.ok x)).sat Ψ;rw [hg x hok];exact hsat
theorem vG {P:Program}{el:TypeId}{e:Ty}{k:Nat}(hb:P.bytesOf el=k) (he:e.jq=k) (n:Nat) (h:fk (.frz e) n=true):roomFor P el (0+n)=true:=by
 unfold roomFor;rw [Nat.zero_add,hb,<- he];exact h
instance Is:Has (jb 70 (.int .u32)):=⟨qX
 (lu (g:=fun xs=>roomFor Tryz.prog 112 (0+xs.length)) (fn:=Tryz.f70) (T:=24) (B:=4) (el:=112) (ety:=pU Tryz.prog owned) (by kernel_rfl) (by kernel_rfl) (by kernel_rfl) (by kernel_rfl) (by kernel_rfl) (by kernel_rfl) (by kernel_rfl) (fun xs=>by kernel_rfl))
 fun xs h=>vG (k:=4) (by kernel_rfl) rfl xs.length h⟩
instance JA:Has (jb 80 (.int .u16)):=⟨qX
 (lu (g:=fun xs=>roomFor Tryz.prog 128 (0+xs.length)) (fn:=Tryz.f80) (T:=27) (B:=4) (el:=128) (ety:=pU Tryz.prog owned) (by kernel_rfl) (by kernel_rfl) (by kernel_rfl) (by kernel_rfl) (by kernel_rfl) (by kernel_rfl) (by kernel_rfl) (fun xs=>by kernel_rfl))
 fun xs h=>vG (k:=2) (by kernel_rfl) rfl xs.length h⟩
instance Hk:Has (jb 226 (.int .u8)):=⟨qX
 (lu (g:=fun xs=>roomFor Tryz.prog 5 (0+xs.length)) (fn:=Tryz.f226) (T:=111) (B:=4) (el:=5) (ety:=pU Tryz.prog owned) (by kernel_rfl) (by kernel_rfl) (by kernel_rfl) (by kernel_rfl) (by kernel_rfl) (by kernel_rfl) (by kernel_rfl) (fun xs=>by kernel_rfl))
 fun xs h=>vG (k:=1) (by kernel_rfl) rfl xs.length h⟩
instance H7:Has (qG 112 224 bQ) :=
 ⟨lu (g:=fun xs=>decide ((0+xs.length)*112<=2^47)) (fn:=Tryz.f224) (T:=165) (B:=4) (el:=242) (ety:=pU Tryz.prog owned) (by kernel_rfl) (by kernel_rfl) (by kernel_rfl) (by kernel_rfl) (by kernel_rfl) (by kernel_rfl) (by kernel_rfl) (fun xs=>by kernel_rfl)⟩
instance Hn:Has (qG 112 225 bJ) :=
 ⟨lu (g:=fun xs=>decide ((0+xs.length)*112<=2^47)) (fn:=Tryz.f225) (T:=166) (B:=4) (el:=223) (ety:=pU Tryz.prog owned) (by kernel_rfl) (by kernel_rfl) (by kernel_rfl) (by kernel_rfl) (by kernel_rfl) (by kernel_rfl) (by kernel_rfl) (fun xs=>by kernel_rfl)⟩
instance Ia:Has (jb 200 .str):=⟨qX
 (lu (g:=fun xs=>roomFor Tryz.prog 9 (0+xs.length)) (fn:=Tryz.f200) (T:=38) (B:=4) (el:=9) (ety:=pU Tryz.prog owned) (by kernel_rfl) (by kernel_rfl) (by kernel_rfl) (by kernel_rfl) (by kernel_rfl) (by kernel_rfl) (by kernel_rfl) (fun xs=>by kernel_rfl))
 fun xs h=>vG (k:=16) (by kernel_rfl) rfl xs.length h⟩
instance:Has (tz 437):=⟨FR⟩
instance:Has (p7 119):=⟨Ek⟩
end Go.Mach

set_option maxRecDepth 100000
set_option linter.unusedVariables false
namespace Go.Mach
open Go.Proofs
instance fm.ok:Has fm.spec:=.of fm.eq
instance kL.ok:Has kL.spec:=.of kL.eq
instance lS.ok:Has lS.spec:=.of lS.eq
instance lJ.ok:Has lJ.spec:=.of lJ.eq
instance dk.ok:Has dk.spec:=.of dk.eq
instance fl.ok:Has fl.spec:=.of fl.eq
instance gd.ok:Has gd.spec:=.of gd.eq
instance iP.ok:Has iP.spec:=.of iP.eq
instance fS.ok:Has fS.spec:=.of fS.eq
instance ba.ok:Has ba.spec:=.of ba.eq
instance bK.ok:Has bK.spec:=.of bK.eq
instance kD.ok:Has kD.spec:=.of kD.eq
instance fq.ok:Has fq.spec:=.of fq.eq
instance bm.ok:Has bm.spec:=.of bm.eq
instance cL.ok:Has cL.spec:=.of cL.eq
instance dq.ok:Has dq.spec:=.of dq.eq
instance bM.ok:Has bM.spec:=.of bM.eq
instance fD.ok:Has fD.spec:=.of fD.eq
instance cc.ok:Has cc.spec:=.of cc.eq
instance aj.ok:Has aj.spec:=.of aj.eq
instance jS.ok:Has jS.spec:=.of jS.eq
instance gZ.ok:Has gZ.spec:=.of gZ.eq
instance cy.ok:Has cy.spec:=.of cy.eq
instance cW.ok:Has cW.spec:=.of cW.eq
instance iK.ok:Has iK.spec:=.of iK.eq
instance cj.ok:Has cj.spec:=.of cj.eq
instance gn.ok:Has gn.spec:=.of gn.eq
instance gh.ok:Has gh.spec:=.of gh.eq
instance aq.ok:Has aq.spec:=.of aq.eq
instance ak.ok:Has ak.spec:=.of ak.eq
instance jQ.ok:Has jQ.spec:=.of jQ.eq
instance kY.ok:Has kY.spec:=.of kY.eq
instance eP.ok:Has eP.spec:=.of eP.eq
instance eH.ok:Has eH.spec:=.of eH.eq
instance iu.ok:Has iu.spec:=.of iu.eq
instance cP.ok:Has cP.spec:=.of cP.eq
instance fL.ok:Has fL.spec:=.of fL.eq
instance kX.ok:Has kX.spec:=.of kX.eq
instance gP.ok:Has gP.spec:=.of gP.eq
instance ed.ok:Has ed.spec:=.of ed.eq
instance ej.ok:Has ej.spec:=.of ej.eq
instance eT.ok:Has eT.spec:=.of eT.eq
instance lC.ok:Has lC.spec:=.of lC.eq
instance fo.ok:Has fo.spec:=.of fo.eq
instance fQ.ok:Has fQ.spec:=.of fQ.eq
instance kS.ok:Has kS.spec:=.of kS.eq
instance bB.ok:Has bB.spec:=.of bB.eq
instance aR.ok:Has aR.spec:=.of aR.eq
instance gM.ok:Has gM.spec:=.of gM.eq
instance bW.ok:Has bW.spec:=.of bW.eq
instance aM.ok:Has aM.spec:=.of aM.eq
instance ca.ok:Has ca.spec:=.of ca.eq
instance bV.ok:Has bV.spec:=.of bV.eq
instance ah.ok:Has ah.spec:=.of ah.eq
instance bE.ok:Has bE.spec:=.of bE.eq
instance cF.ok:Has cF.spec:=.of cF.eq
instance bD.ok:Has bD.spec:=.of bD.eq
instance fC.ok:Has fC.spec:=.of fC.eq
instance dm.ok:Has dm.spec:=.of dm.eq
instance ga.ok:Has ga.spec:=.of ga.eq
instance bT.ok:Has bT.spec:=.of bT.eq
instance aQ.ok:Has aQ.spec:=.of aQ.eq
instance lp.ok:Has lp.spec:=.of lp.eq
instance gF.ok:Has gF.spec:=.of gF.eq
instance jY.ok:Has jY.spec:=.of jY.eq
class ib (G:b8):Prop where
 parse_parser_item:Has (parse_parser_item.spec G)
 parse_parser_declares:Has (parse_parser_declares.spec G)
 parse_parser_statement:Has (parse_parser_statement.spec G)
 parse_parser_assign:Has (parse_parser_assign.spec G)
 parse_parser_word:Has (parse_parser_word.spec G)
 parse_parser_simple:Has (parse_parser_simple.spec G)
 parse_parser_body:Has (parse_parser_body.spec G)
 parse_parser_cond:Has (parse_parser_cond.spec G)
 parse_parser_either:Has (parse_parser_either.spec G)
 parse_parser_level:Has (parse_parser_level.spec G)
 parse_parser_both:Has (parse_parser_both.spec G)
 parse_parser_unary:Has (parse_parser_unary.spec G)
 parse_parser_calls:Has (parse_parser_calls.spec G)
 parse_parser_head:Has (parse_parser_head.spec G)
 parse_parser_arguments:Has (parse_parser_arguments.spec G)
 parse_parser_member:Has (parse_parser_member.spec G)
 parse_parser_primary:Has (parse_parser_primary.spec G)
 parse_parser_list:Has (parse_parser_list.spec G)
instance {G} [h:ib G]:Has (parse_parser_item.spec G):=h.parse_parser_item
instance {G} [h:ib G]:Has (parse_parser_declares.spec G):=h.parse_parser_declares
instance {G} [h:ib G]:Has (parse_parser_statement.spec G):=h.parse_parser_statement
instance {G} [h:ib G]:Has (parse_parser_assign.spec G):=h.parse_parser_assign
instance {G} [h:ib G]:Has (parse_parser_word.spec G):=h.parse_parser_word
instance {G} [h:ib G]:Has (parse_parser_simple.spec G):=h.parse_parser_simple
instance {G} [h:ib G]:Has (parse_parser_body.spec G):=h.parse_parser_body
instance {G} [h:ib G]:Has (parse_parser_cond.spec G):=h.parse_parser_cond
instance {G} [h:ib G]:Has (parse_parser_either.spec G):=h.parse_parser_either
instance {G} [h:ib G]:Has (parse_parser_level.spec G):=h.parse_parser_level
instance {G} [h:ib G]:Has (parse_parser_both.spec G):=h.parse_parser_both
instance {G} [h:ib G]:Has (parse_parser_unary.spec G):=h.parse_parser_unary
instance {G} [h:ib G]:Has (parse_parser_calls.spec G):=h.parse_parser_calls
instance {G} [h:ib G]:Has (parse_parser_head.spec G):=h.parse_parser_head
instance {G} [h:ib G]:Has (parse_parser_arguments.spec G):=h.parse_parser_arguments
instance {G} [h:ib G]:Has (parse_parser_member.spec G):=h.parse_parser_member
instance {G} [h:ib G]:Has (parse_parser_primary.spec G):=h.parse_parser_primary
instance {G} [h:ib G]:Has (parse_parser_list.spec G):=h.parse_parser_list
instance Dt:∀ n,ib (du n)
 |0=>{ parse_parser_item:=.stuck (parse_parser_item.eq (du 0)) rfl fun _=>rfl,parse_parser_declares:=.stuck (parse_parser_declares.eq (du 0)) rfl fun _=>rfl,parse_parser_statement:=.stuck (parse_parser_statement.eq (du 0)) rfl fun _=>rfl,parse_parser_assign:=.stuck (parse_parser_assign.eq (du 0)) rfl fun _=>rfl,parse_parser_word:=.stuck (parse_parser_word.eq (du 0)) rfl fun _=>rfl,parse_parser_simple:=.stuck (parse_parser_simple.eq (du 0)) rfl fun _=>rfl,parse_parser_body:=.stuck (parse_parser_body.eq (du 0)) rfl fun _=>rfl,parse_parser_cond:=.stuck (parse_parser_cond.eq (du 0)) rfl fun _=>rfl,parse_parser_either:=.stuck (parse_parser_either.eq (du 0)) rfl fun _=>rfl,parse_parser_level:=.stuck (parse_parser_level.eq (du 0)) rfl fun _=>rfl,parse_parser_both:=.stuck (parse_parser_both.eq (du 0)) rfl fun _=>rfl,parse_parser_unary:=.stuck (parse_parser_unary.eq (du 0)) rfl fun _=>rfl,parse_parser_calls:=.stuck (parse_parser_calls.eq (du 0)) rfl fun _=>rfl,parse_parser_head:=.stuck (parse_parser_head.eq (du 0)) rfl fun _=>rfl,parse_parser_arguments:=.stuck (parse_parser_arguments.eq (du 0)) rfl fun _=>rfl,parse_parser_member:=.stuck (parse_parser_member.eq (du 0)) rfl fun _=>rfl,parse_parser_primary:=.stuck (parse_parser_primary.eq (du 0)) rfl fun _=>rfl,parse_parser_list:=.stuck (parse_parser_list.eq (du 0)) rfl fun _=>rfl }
 |n+1=>by
  have:=Dt n;exact { parse_parser_item:=.of (parse_parser_item.eq (du n)),parse_parser_declares:=.of (parse_parser_declares.eq (du n)),parse_parser_statement:=.of (parse_parser_statement.eq (du n)),parse_parser_assign:=.of (parse_parser_assign.eq (du n)),parse_parser_word:=.of (parse_parser_word.eq (du n)),parse_parser_simple:=.of (parse_parser_simple.eq (du n)),parse_parser_body:=.of (parse_parser_body.eq (du n)),parse_parser_cond:=.of (parse_parser_cond.eq (du n)),parse_parser_either:=.of (parse_parser_either.eq (du n)),parse_parser_level:=.of (parse_parser_level.eq (du n)),parse_parser_both:=.of (parse_parser_both.eq (du n)),parse_parser_unary:=.of (parse_parser_unary.eq (du n)),parse_parser_calls:=.of (parse_parser_calls.eq (du n)),parse_parser_head:=.of (parse_parser_head.eq (du n)),parse_parser_arguments:=.of (parse_parser_arguments.eq (du n)),parse_parser_member:=.of (parse_parser_member.eq (du n)),parse_parser_primary:=.of (parse_parser_primary.eq (du n)),parse_parser_list:=.of (parse_parser_list.eq (du n)) }
instance dO.ok:Has dO.spec:=.of dO.eq
instance ig.ok:∀ n,Has (ig.spec n)
 |0=>.stuck (ig.eq 0) rfl fun _=>rfl
 |n+1=>have:=ig.ok n;.of (ig.eq n)
instance kO.ok:Has kO.spec:=.of kO.eq
instance jC.ok:Has jC.spec:=.of jC.eq
instance eG.ok:Has eG.spec:=.of eG.eq
instance jX.ok:Has jX.spec:=.of jX.eq
instance jo.ok:Has jo.spec:=.of jo.eq
instance j6.ok:Has j6.spec:=.of j6.eq
instance kz.ok:Has kz.spec:=.of kz.eq
instance j8.ok:Has j8.spec:=.of j8.eq
instance fU.ok:Has fU.spec:=.inl fU.eq rfl rfl (rV (E:=pZ.env Tryz.prog) mixed (.rL (AK.ok (l:=[])) rfl) (by kernel_rfl) (by kernel_rfl) (by kernel_rfl) (by kernel_rfl))
instance hJ.ok:Has hJ.spec:=.of hJ.eq
instance gj.ok:Has gj.spec:=.of gj.eq
instance jO.ok:Has jO.spec:=.of jO.eq
instance jl.ok:Has jl.spec:=.of jl.eq
instance eU.ok:Has eU.spec:=.of eU.eq
instance lB.ok:Has lB.spec:=.of lB.eq
instance dn.ok:Has dn.spec:=.of dn.eq
instance kn.ok:Has kn.spec:=.of kn.eq
instance iJ.ok:Has iJ.spec:=.of iJ.eq
instance jy.ok:Has jy.spec:=.of jy.eq
instance lV.ok:Has lV.spec:=.of lV.eq
instance gH.ok:Has gH.spec:=.of gH.eq
instance fY.ok:Has fY.spec:=.of fY.eq
instance gi.ok:Has gi.spec:=.of gi.eq
instance eJ.ok:Has eJ.spec:=.of eJ.eq
instance eX.ok:Has eX.spec:=.of eX.eq
instance i7.ok:Has i7.spec:=.of i7.eq
instance gg.ok:Has gg.spec:=.of gg.eq
instance ay.ok:Has ay.spec:=.of ay.eq
instance al.ok:Has al.spec:=.of al.eq
instance i6.ok:Has i6.spec:=.of i6.eq
instance fJ.ok:Has fJ.spec:=.of fJ.eq
instance gx.ok:Has gx.spec:=.of gx.eq
instance bC.ok:Has bC.spec:=.of bC.eq
instance ax.ok:Has ax.spec:=.of ax.eq
instance jM.ok:Has jM.spec:=.of jM.eq
instance fV.ok:Has fV.spec:=.of fV.eq
instance iz.ok:Has iz.spec:=.of iz.eq
instance iy.ok:Has iy.spec:=.of iy.eq
instance gE.ok:Has gE.spec:=.of gE.eq
instance ic.ok:Has ic.spec:=.of ic.eq
instance jc.ok:Has jc.spec:=.of jc.eq
instance lG.ok:Has lG.spec:=.of lG.eq
instance di.ok:Has di.spec:=.of di.eq
instance gR.ok:Has gR.spec:=.of gR.eq
instance eF.ok:Has eF.spec:=.of eF.eq
instance bl.ok:Has bl.spec:=.of bl.eq
instance aT.ok:Has aT.spec:=.of aT.eq
instance bS.ok:Has bS.spec:=.of bS.eq
instance av.ok:Has av.spec:=.of av.eq
instance fR.ok:Has fR.spec:=.of fR.eq
instance aa.ok:Has aa.spec:=.of aa.eq
instance cX.ok:Has cX.spec:=.of cX.eq
instance bA.ok:Has bA.spec:=.of bA.eq
instance ee.ok:Has ee.spec:=.of ee.eq
instance aZ.ok:Has aZ.spec:=.of aZ.eq
instance cm.ok:Has cm.spec:=.of cm.eq
instance bU.ok:Has bU.spec:=.of bU.eq
instance cQ.ok:Has cQ.spec:=.of cQ.eq
instance cG.ok:Has cG.spec:=.of cG.eq
instance bx.ok:Has bx.spec:=.of bx.eq
instance bj.ok:Has bj.spec:=.of bj.eq
instance fF.ok:Has fF.spec:=.of fF.eq
instance fI.ok:Has fI.spec:=.of fI.eq
instance iY.ok:Has iY.spec:=.of iY.eq
instance eB.ok:Has eB.spec:=.of eB.eq
instance dM.ok:Has dM.spec:=.of dM.eq
instance cD.ok:Has cD.spec:=.of cD.eq
instance db.ok:Has db.spec:=.of db.eq
instance b9.ok:Has b9.spec:=.of b9.eq
instance dE.ok:Has dE.spec:=.of dE.eq
instance cY.ok:Has cY.spec:=.of cY.eq
instance aE.ok:Has aE.spec:=.of aE.eq
instance gW.ok:Has gW.spec:=.of gW.eq
instance fe.ok:Has fe.spec:=.of fe.eq
instance fO.ok:Has fO.spec:=.of fO.eq
instance cd.ok:Has cd.spec:=.of cd.eq
instance cZ.ok:Has cZ.spec:=.of cZ.eq
instance iD.ok:Has iD.spec:=.of iD.eq
instance jx.ok:Has jx.spec:=.of jx.eq
instance aK.ok:Has aK.spec:=.of aK.eq
instance dF.ok:Has dF.spec:=.of dF.eq
instance dc.ok:Has dc.spec:=.of dc.eq
instance bF.ok:Has bF.spec:=.of bF.eq
instance iZ.ok:Has iZ.spec:=.of iZ.eq
instance lX.ok:Has lX.spec:=.of lX.eq
instance bt.ok:Has bt.spec:=.of bt.eq
instance eg.ok:Has eg.spec:=.of eg.eq
instance iH.ok:Has iH.spec:=.of iH.eq
instance iN.ok:Has iN.spec:=.of iN.eq
instance fp.ok:Has fp.spec:=.of fp.eq
instance fT.ok:Has fT.spec:=.of fT.eq
instance bR.ok:Has bR.spec:=.of bR.eq
instance j9.ok:Has j9.spec:=.of j9.eq
instance cC.ok:Has cC.spec:=.of cC.eq
instance cn.ok:Has cn.spec:=.of cn.eq
instance fy.ok:Has fy.spec:=.of fy.eq
instance iF.ok:Has iF.spec:=.of iF.eq
instance gA.ok:Has gA.spec:=.of gA.eq
instance dt.ok:Has dt.spec:=.of dt.eq
instance kW.ok:Has kW.spec:=.of kW.eq
instance gX.ok:Has gX.spec:=.of gX.eq
instance jU.ok:Has jU.spec:=.of jU.eq
instance lN.ok:Has lN.spec:=.of lN.eq
instance jT.ok:Has jT.spec:=.of jT.eq
instance bX.ok:Has bX.spec:=.of bX.eq
instance aw.ok:Has aw.spec:=.of aw.eq
instance gJ.ok:Has gJ.spec:=.of gJ.eq
instance iA.ok:Has iA.spec:=.of iA.eq
instance ey.ok:Has ey.spec:=.of ey.eq
instance jB.ok:Has jB.spec:=.of jB.eq
instance lM.ok:Has lM.spec:=.of lM.eq
instance bn.ok:Has bn.spec:=.of bn.eq
instance kE.ok:Has kE.spec:=.of kE.eq
instance cx.ok:Has cx.spec:=.of cx.eq
instance bc.ok:Has bc.spec:=.of bc.eq
instance eZ.ok:Has eZ.spec:=.of eZ.eq
instance fA.ok:Has fA.spec:=.of fA.eq
instance aY.ok:Has aY.spec:=.of aY.eq
instance cA.ok:Has cA.spec:=.of cA.eq
instance dD.ok:Has dD.spec:=.of dD.eq
instance gV.ok:Has gV.spec:=.of gV.eq
instance bG.ok:Has bG.spec:=.of bG.eq
instance eu.ok:Has eu.spec:=.of eu.eq
instance cu.ok:Has cu.spec:=.inl cu.eq rfl rfl (rV (E:=p9.env Tryz.prog) mixed (.rL (AK.ok (l:=[av.spec])) rfl) (by kernel_rfl) (by kernel_rfl) (by kernel_rfl) (by kernel_rfl))
instance bO.ok:Has bO.spec:=.of bO.eq
instance dQ.ok:Has dQ.spec:=.of dQ.eq
instance cf.ok:Has cf.spec:=.of cf.eq
instance gp.ok:Has gp.spec:=.of gp.eq
instance bP.ok:Has bP.spec:=.of bP.eq
instance cB.ok:Has cB.spec:=.inl cB.eq rfl rfl (rV (E:=pk.env Tryz.prog) mixed (.rL (AK.ok (l:=[av.spec])) rfl) (by kernel_rfl) (by kernel_rfl) (by kernel_rfl) (by kernel_rfl))
instance gq.ok:Has gq.spec:=.of gq.eq
instance jG.ok:Has jG.spec:=.of jG.eq
instance fH.ok:Has fH.spec:=.of fH.eq
instance jH.ok:Has jH.spec:=.of jH.eq
instance dH.ok:Has dH.spec:=.of dH.eq
instance cz.ok:Has cz.spec:=.of cz.eq
instance dv.ok:Has dv.spec:=.of dv.eq
instance dW.ok:Has dW.spec:=.of dW.eq
instance dP.ok:Has dP.spec:=.of dP.eq
instance dd.ok:Has dd.spec:=.of dd.eq
instance jt.ok:Has jt.spec:=.of jt.eq
instance lI.ok:Has lI.spec:=.of lI.eq
instance iq.ok:Has iq.spec:=.of iq.eq
instance ki.ok:Has ki.spec:=.of ki.eq
instance jk.ok:Has jk.spec:=.of jk.eq
instance jK.ok:Has jK.spec:=.of jK.eq
instance iR.ok:Has iR.spec:=.of iR.eq
instance kU.ok:Has kU.spec:=.of kU.eq
instance fE.ok:Has fE.spec:=.of fE.eq
instance eM.ok:Has eM.spec:=.of eM.eq
instance mY.ok:Has mY.spec:=.of mY.eq
instance ke.ok:Has ke.spec:=.of ke.eq
instance cg.ok:Has cg.spec:=.of cg.eq
instance kR.ok:Has kR.spec:=.of kR.eq
instance eA.ok:Has eA.spec:=.of eA.eq
instance jF.ok:Has jF.spec:=.of jF.eq
instance kP.ok:Has kP.spec:=.of kP.eq
instance iU.ok:Has iU.spec:=.of iU.eq
instance iv.ok:Has iv.spec:=.of iv.eq
instance jm.ok:Has jm.spec:=.of jm.eq
instance kN.ok:Has kN.spec:=.of kN.eq
instance iI.ok:Has iI.spec:=.of iI.eq
instance iT.ok:Has iT.spec:=.of iT.eq
instance fN.ok:Has fN.spec:=.of fN.eq
instance mL.ok:Has mL.spec:=.of mL.eq
instance kF.ok:Has kF.spec:=.of kF.eq
instance ir.ok:Has ir.spec:=.of ir.eq
instance lD.ok:Has lD.spec:=.of lD.eq
instance fb.ok:Has fb.spec:=.of fb.eq
instance ff.ok:Has ff.spec:=.of ff.eq
instance gv.ok:Has gv.spec:=.of gv.eq
instance iE.ok:Has iE.spec:=.of iE.eq
instance da.ok:Has da.spec:=.of da.eq
instance bo.ok:Has bo.spec:=.of bo.eq
instance fa.ok:Has fa.spec:=.of fa.eq
instance fc.ok:Has fc.spec:=.of fc.eq
instance eR.ok:Has eR.spec:=.of eR.eq
instance gO.ok:Has gO.spec:=.of gO.eq
instance kT.ok:Has kT.spec:=.of kT.eq
instance ez.ok:Has ez.spec:=.of ez.eq
instance mN.ok:Has mN.spec:=.of mN.eq
instance mH.ok:Has mH.spec:=.of mH.eq
instance jI.ok:Has jI.spec:=.of jI.eq
instance iG.ok:Has iG.spec:=.of iG.eq
instance mI.ok:Has mI.spec:=.of mI.eq
instance mG.ok:Has mG.spec:=.of mG.eq
instance kI.ok:Has kI.spec:=.of kI.eq
instance mO.ok:Has mO.spec:=.of mO.eq
instance jA.ok:Has jA.spec:=.of jA.eq
instance ch.ok:Has ch.spec:=.of ch.eq
instance fW.ok:Has fW.spec:=.of fW.eq
instance jL.ok:Has jL.spec:=.of jL.eq
instance gG.ok:Has gG.spec:=.of gG.eq
instance mS.ok:Has mS.spec:=.of mS.eq
instance mQ.ok:Has mQ.spec:=.of mQ.eq
instance mJ.ok:Has mJ.spec:=.of mJ.eq
instance ja.ok:Has ja.spec:=.of ja.eq
instance kM.ok:Has kM.spec:=.of kM.eq
instance eO.ok:Has eO.spec:=.of eO.eq
instance dK.ok:Has dK.spec:=.of dK.eq
instance cV.ok:Has cV.spec:=.of cV.eq
instance kq.ok:Has kq.spec:=.of kq.eq
instance kc.ok:Has kc.spec:=.of kc.eq
instance gl.ok:Has gl.spec:=.of gl.eq
instance js.ok:Has js.spec:=.of js.eq
instance jN.ok:Has jN.spec:=.of jN.eq
instance gz.ok:Has gz.spec:=.of gz.eq
instance dL.ok:Has dL.spec:=.of dL.eq
instance kp.ok:Has kp.spec:=.of kp.eq
instance gS.ok:Has gS.spec:=.of gS.eq
instance jV.ok:Has jV.spec:=.of jV.eq
instance gB.ok:Has gB.spec:=.of gB.eq
instance lL.ok:Has lL.spec:=.of lL.eq
instance jn.ok:Has jn.spec:=.of jn.eq
instance jE.ok:Has jE.spec:=.of jE.eq
instance gT.ok:Has gT.spec:=.of gT.eq
instance bY.ok:Has bY.spec:=.of bY.eq
instance eh.ok:Has eh.spec:=.of eh.eq
instance kH.ok:Has kH.spec:=.of kH.eq
instance cU.ok:Has cU.spec:=.of cU.eq
instance dA.ok:Has dA.spec:=.of dA.eq
instance dI.ok:Has dI.spec:=.of dI.eq
instance c7.ok:Has c7.spec:=.of c7.eq
instance cp.ok:Has cp.spec:=.of cp.eq
instance cT.ok:Has cT.spec:=.of cT.eq
instance dh.ok:Has dh.spec:=.of dh.eq
instance ei.ok:Has ei.spec:=.of ei.eq
instance jP.ok:Has jP.spec:=.of jP.eq
instance er.ok:Has er.spec:=.of er.eq
instance dU.ok:Has dU.spec:=.of dU.eq
instance cM.ok:Has cM.spec:=.of cM.eq
instance aP.ok:Has aP.spec:=.of aP.eq
instance aN.ok:Has aN.spec:=.of aN.eq
instance aW.ok:Has aW.spec:=.of aW.eq
instance aJ.ok:∀ n,Has (aJ.spec n)
 |0=>.stuck (aJ.eq 0) rfl fun _=>rfl
 |n+1=>have:=aJ.ok n;.of (aJ.eq n)
instance aX.ok:Has aX.spec:=.of aX.eq
instance aU.ok:Has aU.spec:=.of aU.eq
instance eC.ok:Has eC.spec:=.of eC.eq
instance ep.ok:Has ep.spec:=.of ep.eq
instance dZ.ok:Has dZ.spec:=.of dZ.eq
instance ev.ok:Has ev.spec:=.of ev.eq
instance eE.ok:Has eE.spec:=.of eE.eq
instance kG.ok:Has kG.spec:=.of kG.eq
instance cr.ok:Has cr.spec:=.of cr.eq
instance dX.ok:Has dX.spec:=.of dX.eq
instance dB.ok:Has dB.spec:=.of dB.eq
instance cK.ok:Has cK.spec:=.of cK.eq
instance cO.ok:Has cO.spec:=.of cO.eq
instance cN.ok:Has cN.spec:=.of cN.eq
instance bw.ok:Has bw.spec:=.of bw.eq
instance gm.ok:Has gm.spec:=.of gm.eq
instance dV.ok:Has dV.spec:=.of dV.eq
instance dz.ok:Has dz.spec:=.of dz.eq
instance eQ.ok:Has eQ.spec:=.of eQ.eq
instance eI.ok:Has eI.spec:=.of eI.eq
instance cq.ok:Has cq.spec:=.of cq.eq
instance gC.ok:Has gC.spec:=.of gC.eq
instance iX.ok:Has iX.spec:=.of iX.eq
instance cw.ok:Has cw.spec:=.of cw.eq
instance gr.ok:Has gr.spec:=.of gr.eq
instance dS.ok:Has dS.spec:=.of dS.eq
class eV (G:au):Prop where
 eval_run_list:Has (eval_run_list.spec G)
 eval_run_statement:Has (eval_run_statement.spec G)
 eval_run_act:Has (eval_run_act.spec G)
 eval_run_expression:Has (eval_run_expression.spec G)
 eval_run_block:Has (eval_run_block.spec G)
 eval_run_decls:Has (eval_run_decls.spec G)
 eval_run_choice:Has (eval_run_choice.spec G)
 eval_run_while:Has (eval_run_while.spec G)
 eval_run_loop:Has (eval_run_loop.spec G)
 eval_run_try:Has (eval_run_try.spec G)
 eval_run_value:Has (eval_run_value.spec G)
 eval_run_asked:Has (eval_run_asked.spec G)
 eval_run_first:Has (eval_run_first.spec G)
 eval_run_catch:Has (eval_run_catch.spec G)
 eval_run_array:Has (eval_run_array.spec G)
 eval_run_object:Has (eval_run_object.spec G)
 eval_run_operation:Has (eval_run_operation.spec G)
 eval_run_unary:Has (eval_run_unary.spec G)
 eval_run_step:Has (eval_run_step.spec G)
 eval_run_binary:Has (eval_run_binary.spec G)
 eval_run_logic:Has (eval_run_logic.spec G)
 eval_run_assign:Has (eval_run_assign.spec G)
 eval_run_callee:Has (eval_run_callee.spec G)
 eval_run_arguments:Has (eval_run_arguments.spec G)
 eval_run_fresh:Has (eval_run_fresh.spec G)
 eval_run_property:Has (eval_run_property.spec G)
 eval_run_parts:Has (eval_run_parts.spec G)
 eval_run_called:Has (eval_run_called.spec G)
 eval_run_call:Has (eval_run_call.spec G)
 eval_run_builds:Has (eval_run_builds.spec G)
 eval_run_apply:Has (eval_run_apply.spec G)
 eval_run_does:Has (eval_run_does.spec G)
 eval_run_host:Has (eval_run_host.spec G)
 eval_run_receives:Has (eval_run_receives.spec G)
instance {G} [h:eV G]:Has (eval_run_list.spec G):=h.eval_run_list
instance {G} [h:eV G]:Has (eval_run_statement.spec G):=h.eval_run_statement
instance {G} [h:eV G]:Has (eval_run_act.spec G):=h.eval_run_act
instance {G} [h:eV G]:Has (eval_run_expression.spec G):=h.eval_run_expression
instance {G} [h:eV G]:Has (eval_run_block.spec G):=h.eval_run_block
instance {G} [h:eV G]:Has (eval_run_decls.spec G):=h.eval_run_decls
instance {G} [h:eV G]:Has (eval_run_choice.spec G):=h.eval_run_choice
instance {G} [h:eV G]:Has (eval_run_while.spec G):=h.eval_run_while
instance {G} [h:eV G]:Has (eval_run_loop.spec G):=h.eval_run_loop
instance {G} [h:eV G]:Has (eval_run_try.spec G):=h.eval_run_try
instance {G} [h:eV G]:Has (eval_run_value.spec G):=h.eval_run_value
instance {G} [h:eV G]:Has (eval_run_asked.spec G):=h.eval_run_asked
instance {G} [h:eV G]:Has (eval_run_first.spec G):=h.eval_run_first
instance {G} [h:eV G]:Has (eval_run_catch.spec G):=h.eval_run_catch
instance {G} [h:eV G]:Has (eval_run_array.spec G):=h.eval_run_array
instance {G} [h:eV G]:Has (eval_run_object.spec G):=h.eval_run_object
instance {G} [h:eV G]:Has (eval_run_operation.spec G):=h.eval_run_operation
instance {G} [h:eV G]:Has (eval_run_unary.spec G):=h.eval_run_unary
instance {G} [h:eV G]:Has (eval_run_step.spec G):=h.eval_run_step
instance {G} [h:eV G]:Has (eval_run_binary.spec G):=h.eval_run_binary
instance {G} [h:eV G]:Has (eval_run_logic.spec G):=h.eval_run_logic
instance {G} [h:eV G]:Has (eval_run_assign.spec G):=h.eval_run_assign
instance {G} [h:eV G]:Has (eval_run_callee.spec G):=h.eval_run_callee
instance {G} [h:eV G]:Has (eval_run_arguments.spec G):=h.eval_run_arguments
instance {G} [h:eV G]:Has (eval_run_fresh.spec G):=h.eval_run_fresh
instance {G} [h:eV G]:Has (eval_run_property.spec G):=h.eval_run_property
instance {G} [h:eV G]:Has (eval_run_parts.spec G):=h.eval_run_parts
instance {G} [h:eV G]:Has (eval_run_called.spec G):=h.eval_run_called
instance {G} [h:eV G]:Has (eval_run_call.spec G):=h.eval_run_call
instance {G} [h:eV G]:Has (eval_run_builds.spec G):=h.eval_run_builds
instance {G} [h:eV G]:Has (eval_run_apply.spec G):=h.eval_run_apply
instance {G} [h:eV G]:Has (eval_run_does.spec G):=h.eval_run_does
instance {G} [h:eV G]:Has (eval_run_host.spec G):=h.eval_run_host
instance {G} [h:eV G]:Has (eval_run_receives.spec G):=h.eval_run_receives
instance GG:∀ n,eV (cI n)
 |0=>{ eval_run_list:=.stuck (eval_run_list.eq (cI 0)) rfl fun _=>rfl,eval_run_statement:=.stuck (eval_run_statement.eq (cI 0)) rfl fun _=>rfl,eval_run_act:=.stuck (eval_run_act.eq (cI 0)) rfl fun _=>rfl,eval_run_expression:=.stuck (eval_run_expression.eq (cI 0)) rfl fun _=>rfl,eval_run_block:=.stuck (eval_run_block.eq (cI 0)) rfl fun _=>rfl,eval_run_decls:=.stuck (eval_run_decls.eq (cI 0)) rfl fun _=>rfl,eval_run_choice:=.stuck (eval_run_choice.eq (cI 0)) rfl fun _=>rfl,eval_run_while:=.stuck (eval_run_while.eq (cI 0)) rfl fun _=>rfl,eval_run_loop:=.stuck (eval_run_loop.eq (cI 0)) rfl fun _=>rfl,eval_run_try:=.stuck (eval_run_try.eq (cI 0)) rfl fun _=>rfl,eval_run_value:=.stuck (eval_run_value.eq (cI 0)) rfl fun _=>rfl,eval_run_asked:=.stuck (eval_run_asked.eq (cI 0)) rfl fun _=>rfl,eval_run_first:=.stuck (eval_run_first.eq (cI 0)) rfl fun _=>rfl,eval_run_catch:=.stuck (eval_run_catch.eq (cI 0)) rfl fun _=>rfl,eval_run_array:=.stuck (eval_run_array.eq (cI 0)) rfl fun _=>rfl,eval_run_object:=.stuck (eval_run_object.eq (cI 0)) rfl fun _=>rfl,eval_run_operation:=.stuck (eval_run_operation.eq (cI 0)) rfl fun _=>rfl,eval_run_unary:=.stuck (eval_run_unary.eq (cI 0)) rfl fun _=>rfl,eval_run_step:=.stuck (eval_run_step.eq (cI 0)) rfl fun _=>rfl,eval_run_binary:=.stuck (eval_run_binary.eq (cI 0)) rfl fun _=>rfl,eval_run_logic:=.stuck (eval_run_logic.eq (cI 0)) rfl fun _=>rfl,eval_run_assign:=.stuck (eval_run_assign.eq (cI 0)) rfl fun _=>rfl,eval_run_callee:=.stuck (eval_run_callee.eq (cI 0)) rfl fun _=>rfl,eval_run_arguments:=.stuck (eval_run_arguments.eq (cI 0)) rfl fun _=>rfl,eval_run_fresh:=.stuck (eval_run_fresh.eq (cI 0)) rfl fun _=>rfl,eval_run_property:=.stuck (eval_run_property.eq (cI 0)) rfl fun _=>rfl,eval_run_parts:=.stuck (eval_run_parts.eq (cI 0)) rfl fun _=>rfl,eval_run_called:=.stuck (eval_run_called.eq (cI 0)) rfl fun _=>rfl,eval_run_call:=.stuck (eval_run_call.eq (cI 0)) rfl fun _=>rfl,eval_run_builds:=.stuck (eval_run_builds.eq (cI 0)) rfl fun _=>rfl,eval_run_apply:=.stuck (eval_run_apply.eq (cI 0)) rfl fun _=>rfl,eval_run_does:=.stuck (eval_run_does.eq (cI 0)) rfl fun _=>rfl,eval_run_host:=.stuck (eval_run_host.eq (cI 0)) rfl fun _=>rfl,eval_run_receives:=.stuck (eval_run_receives.eq (cI 0)) rfl fun _=>rfl }
 |n+1=>by
  have:=GG n;exact { eval_run_list:=.of (eval_run_list.eq (cI n)),eval_run_statement:=.of (eval_run_statement.eq (cI n)),eval_run_act:=.of (eval_run_act.eq (cI n)),eval_run_expression:=.of (eval_run_expression.eq (cI n)),eval_run_block:=.of (eval_run_block.eq (cI n)),eval_run_decls:=.of (eval_run_decls.eq (cI n)),eval_run_choice:=.of (eval_run_choice.eq (cI n)),eval_run_while:=.of (eval_run_while.eq (cI n)),eval_run_loop:=.of (eval_run_loop.eq (cI n)),eval_run_try:=.of (eval_run_try.eq (cI n)),eval_run_value:=.of (eval_run_value.eq (cI n)),eval_run_asked:=.of (eval_run_asked.eq (cI n)),eval_run_first:=.of (eval_run_first.eq (cI n)),eval_run_catch:=.of (eval_run_catch.eq (cI n)),eval_run_array:=.of (eval_run_array.eq (cI n)),eval_run_object:=.of (eval_run_object.eq (cI n)),eval_run_operation:=.of (eval_run_operation.eq (cI n)),eval_run_unary:=.of (eval_run_unary.eq (cI n)),eval_run_step:=.of (eval_run_step.eq (cI n)),eval_run_binary:=.of (eval_run_binary.eq (cI n)),eval_run_logic:=.of (eval_run_logic.eq (cI n)),eval_run_assign:=.of (eval_run_assign.eq (cI n)),eval_run_callee:=.of (eval_run_callee.eq (cI n)),eval_run_arguments:=.of (eval_run_arguments.eq (cI n)),eval_run_fresh:=.of (eval_run_fresh.eq (cI n)),eval_run_property:=.of (eval_run_property.eq (cI n)),eval_run_parts:=.of (eval_run_parts.eq (cI n)),eval_run_called:=.of (eval_run_called.eq (cI n)),eval_run_call:=.of (eval_run_call.eq (cI n)),eval_run_builds:=.of (eval_run_builds.eq (cI n)),eval_run_apply:=.of (eval_run_apply.eq (cI n)),eval_run_does:=.of (eval_run_does.eq (cI n)),eval_run_host:=.of (eval_run_host.eq (cI n)),eval_run_receives:=.of (eval_run_receives.eq (cI n)) }
instance dC.ok:Has dC.spec:=.of dC.eq
instance dY.ok:Has dY.spec:=.of dY.eq
instance gQ.ok:Has gQ.spec:=.of gQ.eq
instance fh.ok:Has fh.spec:=.of fh.eq
instance dx.ok:Has dx.spec:=.of dx.eq
instance ia.ok:Has ia.spec:=.of ia.eq
instance fK.ok:Has fK.spec:=.of fK.eq
instance fj.ok:Has fj.spec:=.of fj.eq
instance eS.ok:Has eS.spec:=.of eS.eq
instance gI.ok:Has gI.spec:=.of gI.eq
instance iw.ok:Has iw.spec:=.of iw.eq
instance iL.ok:Has iL.spec:=.of iL.eq
instance fX.ok:Has fX.spec:=.of fX.eq
instance ef.ok:Has ef.spec:=.of ef.eq
instance eN.ok:Has eN.spec:=.of eN.eq
instance eo.ok:Has eo.spec:=.of eo.eq
instance ji.ok:Has ji.spec:=.of ji.eq
instance eL.ok:Has eL.spec:=.of eL.eq
instance ec.ok:Has ec.spec:=.of ec.eq
end Go.Mach

namespace Go.Mach
def nD (ck:TypeId->Ty->Bool) (cells:TypeId->Nat):List (Nat×TypeId)->Nat->Ty->Bool
 |[],_,.unit=>true
 |[p],o,τ=>p.1 == o && (cells p.2 == τ.cells && ck p.2 τ)
 |p::q::r,o,.pair a b=>p.1 == o && (cells p.2 == a.cells && (ck p.2 a && nD ck cells (q::r) (o+a.cells) b))
 |_,_,_=>false
def qT (P:Program):Nat->TypeId->Ty->Bool
 |0,_,_=>false
 |n+1,t,τ=>match P.underlying t,τ with
  |some (.int k),.int j=>match IntKind.same j k with
   |some _=>true
   |none=>false
  |some .bool,.bool=>true
  |some .string,.str=>true
  |some (.slice e),.list τ=>qT P n e τ && (P.cellsOf e == τ.cells && (!(τ.cells == 0) && decide (τ.jq<=2^20)))
  |some (.struct fs),τ=>P.cellsOf t == τ.cells && nD (qT P n) P.cellsOf (fs.toList.map fun f=>(f.offset,f.type)) 0 τ
  |some (.array k e),τ=>P.cellsOf t == τ.cells && nD (qT P n) P.cellsOf ((List.range k).map fun i=>(i*P.cellsOf e,e)) 0 τ
  |_,_=>false
def Ty.small (n:Nat):(t:Ty)->t.den->Prop
 |.unit,_|.int _,_|.bool,_=>True
 |.str,s=>s.length<=n
 |.list e,xs=>xs.length<=n/\∀ x∈xs,e.small n x
 |.pair a b,x=>a.small n x.1/\b.small n x.2
 |.rose _,_=>False
structure Sm {H:Type}(n:Nat) (sm:DataW H->Prop):Prop where
 str:∀ b,sm (.lit (.string b))->b.length<=n
 sl:∀ es sp,sm (.slice es sp)->es.length<=n/\∀ d∈es,sm d
 agg:∀ l,sm (.agg l)->∀ d∈l,sm d
theorem xL {k:IntKind}{n:Int}(h:(Lit.int k n).wf=true):fG k n=true:=by
 unfold fG
 have h:k.min<=n/\n<=k.max:=by simpa [Lit.wf] using h
 cases k<;>simp [IntKind.wrap,IntKind.min,IntKind.max,IntKind.signed,IntKind.bits] at h ⊢<;>omega
theorem zC {α β:Type}{f:α->Option β}:∀ {l:List α}{ys:List β},l.mapM f=some ys->ys.length=l.length/\∀ i (h:i < l.length) (h':i < ys.length),f l[i]=some ys[i]
 |[],ys,h=>by simp at h;subst h;exact ⟨rfl,fun i h=>by simp at h⟩
 |a::l,ys,h=>by
  rw [List.mapM_cons] at h
  cases ha:f a with
  |none=>rw [ha] at h;cases h
  |some y =>
   cases hl:l.mapM f with
   |none=>rw [ha,hl] at h;cases h
   |some ys' =>
    rw [ha,hl] at h;cases h;obtain ⟨h1,h2⟩:=zC hl;refine ⟨by simp [h1],fun i hi hi'=>?_⟩
    cases i with
    |zero=>simpa using ha
    |succ i=>simpa using h2 i (by simpa using hi) (by simpa using hi')
theorem qQ {α β:Type}{f f':α->Option β}:∀ {l:List α}{ys:List β},l.mapM f=some ys->(∀ a∈l,∀ y∈ys,f a=some y->f' a=some y)->l.mapM f'=some ys
 |[],ys,h,_=>by simpa using h
 |a::l,ys,h,hs=>by
  rw [List.mapM_cons] at h ⊢
  cases ha:f a with
  |none=>rw [ha] at h;cases h
  |some y =>
   cases hl:l.mapM f with
   |none=>rw [ha,hl] at h;cases h
   |some ys' =>
    rw [ha,hl] at h;cases h;rw [hs a (List.mem_cons_self) y (List.mem_cons_self) ha,qQ hl fun b hb z hz=>hs b (List.mem_cons_of_mem _ hb) z (List.mem_cons_of_mem _ hz)];rfl
theorem Ct {α:Type}(p:Nat->α->Prop):∀ (n:Nat),(∀ i,i < n->∃ x,p i x)->∃ xs:List α,xs.length=n/\∀ i (h:i < xs.length),p i xs[i]
 |0,_=>⟨[],rfl,fun i h=>by simp at h⟩
 |n+1,h=>by
  obtain ⟨xs,h1,h2⟩:=Ct p n fun i hi=>h i (by omega);obtain ⟨x,hx⟩:=h n (by omega);refine ⟨xs++[x],by simp [h1],fun i hi=>?_⟩;by_cases he:i < xs.length
  ·rw [List.getElem_append_left he];exact h2 i he
  ·have:i=n:=by simp at hi;omega
   subst this;rw [List.getElem_append_right (by omega)];simpa using hx
section
variable {H:Type}{enc:TypeId×Value->H}{P:Program}{W:World}{N:Nat}{sm:DataW H->Prop}
abbrev Old (W:World) (b:Nat):Prop:=b < W.heap.size
theorem zW {a:Addr}{v:Value}(h:W.cell? a=some v):a.block < W.heap.size/\a.spot=none:=by
 unfold World.cell? at h;split at h
 ·rename_i c T fz hb;split at h
  ·cases h
  ·rename_i hs;refine ⟨(Array.getElem?_eq_some_iff.1 hb).1,?_⟩
   cases hq:a.spot with
   |none=>rfl
   |some _=>rw [hq] at hs;exact absurd rfl hs
 ·cases h
theorem uK {rec:TypeId->List Value->Option (DataW H×List MemPlace)}{ck:TypeId->Ty->Bool}
  (hrec:∀ t τ cs y,rec t cs=some y->ck t τ=true->sm y.1->∃ x,Frz W (Old W) τ cs x/\τ.small N x) (cs:List Value) :
  ∀ (l:List (Nat×TypeId)) (o:Nat) (τ:Ty) (ys:List (DataW H×List MemPlace)),l.mapM (fun p=>rec p.2 ((cs.drop p.1).take (P.cellsOf p.2)))=some ys->nD ck P.cellsOf l o τ=true ->
   (∀ y∈ys,sm y.1)->cs.length=o+τ.cells->∃ x,Frz W (Old W) τ (cs.drop o) x/\τ.small N x
 |[],o,τ,ys,h,hc,hs,hl=>by
  cases τ<;>simp [nD] at hc
  refine ⟨(),?_,trivial⟩;simp only [Frz,List.drop_eq_nil_iff];simp [Ty.cells] at hl;omega
 |[p],o,τ,ys,h,hc,hs,hl=>by
  have hc:(p.1 == o && (P.cellsOf p.2 == τ.cells && ck p.2 τ))=true:=by
   cases τ<;>exact hc
  simp only [Bool.and_eq_true,beq_iff_eq] at hc;obtain ⟨h1,h2,h3⟩:=hc;obtain ⟨h4,h5⟩:=zC h
  match ys,h4 with
  |[y],_ =>
   have h6:=h5 0 (by simp) (by simp);simp only [List.getElem_cons_zero] at h6;obtain ⟨x,hx⟩:=hrec _ _ _ _ h6 h3 (hs y (by simp));refine ⟨x,?_⟩;rw [h1,h2,List.take_of_length_le (by simp;omega)] at hx;exact hx
 |p::q::r,o,τ,ys,h,hc,hs,hl=>by
  cases τ with
  |pair a b =>
   simp only [nD,Bool.and_eq_true,beq_iff_eq] at hc;obtain ⟨h1,h2,h3,h4⟩:=hc;rw [List.mapM_cons] at h
   cases hy:rec p.2 ((cs.drop p.1).take (P.cellsOf p.2)) with
   |none=>rw [hy] at h;cases h
   |some y =>
    cases hl':(q::r).mapM (fun p=>rec p.2 ((cs.drop p.1).take (P.cellsOf p.2))) with
    |none=>rw [hy,hl'] at h;cases h
    |some ys' =>
     rw [hy,hl'] at h;cases h;obtain ⟨x,hx⟩:=hrec _ _ _ _ hy h3 (hs y (by simp));simp only [Ty.cells] at hl;obtain ⟨z,hz⟩:=uK hrec cs (q::r) (o+a.cells) b ys' hl' h4 (fun z hz=>hs z (List.mem_cons_of_mem _ hz)) (by omega);refine ⟨(x,z),?_,hx.2,hz.2⟩;simp only [Frz];refine ⟨_,_,?_,hx.1,hz.1⟩;rw [h1,h2,show cs.drop (o+a.cells)=(cs.drop o).drop a.cells by rw [List.drop_drop],List.take_append_drop]
  |_=>simp [nD] at hc
theorem oJ (S:Sm N sm) (hN:N<=2^20):∀ (fuel:Nat){n:Nat}{t:TypeId}{τ:Ty}{cs:List Value}{y:DataW H×List MemPlace},DataW.trod enc P W 0 (fun _=>true) true fuel t cs=some y ->
  qT P n t τ=true->sm y.1->∃ x,Frz W (Old W) τ cs x/\τ.small N x
 |0,_,_,_,_,_,h,_,_=>by simp [DataW.trod] at h
 |fuel+1,0,_,_,_,_,_,hc,_=>by simp [qT] at hc
 |fuel+1,n+1,t,τ,cs,y,h,hc,hs=>by
  simp only [qT] at hc;split at hc
  ·rename_i k j hu;split at hc
   case h_2=>cases hc
   rename_i hk _;obtain ⟨hk⟩:=hk;subst hk;obtain ⟨m,rfl,rfl,hwf⟩:=DataW.trod_int hu h;exact ⟨m,⟨rfl,xL hwf⟩,trivial⟩
  ·rename_i hu;obtain ⟨b,rfl,rfl⟩:=DataW.trod_bool hu h;exact ⟨b,rfl,trivial⟩
  ·rename_i hu;obtain ⟨s,rfl,rfl,_⟩:=DataW.trod_string hu h;have h3:=S.str _ hs;exact ⟨s.data.toList,⟨rfl,by simp only [lQ,decide_eq_true_eq];omega⟩,h3⟩
  ·rename_i e τ hu;simp only [Bool.and_eq_true,beq_iff_eq,Bool.not_eq_true',beq_eq_false_iff_ne,decide_eq_true_eq] at hc;obtain ⟨h1,h2,h3,h4⟩:=hc;rcases DataW.trod_slice hu h with ⟨rfl,rfl⟩|⟨a,len,cap,elems,rest,m,hm,rfl,rfl,_,hlen,_,hel,hall,_,_⟩
   ·refine ⟨[],?_,by simp [Ty.small]⟩;simp only [Frz];exact ⟨none,0,rfl,Nat.le_refl _,by simp [mF],.inl trivial⟩
   ·obtain ⟨rfl⟩:fuel=m:=by omega
    obtain ⟨s1,s2⟩:=S.sl _ _ hs;simp only [List.length_map] at s1
    have key:∀ i,i < len->∃ x,(∃ us,us.length=τ.cells/\(a.block < W.heap.size/\a.spot=none)/\cb W a.block (a.off+i*τ.cells) us/\Frz W (Old W) τ us x)/\τ.small N x:=by
     intro i hi;have h5:=hall i hi;rw [List.getElem?_eq_getElem (by omega)] at h5;obtain ⟨us,h6,h7⟩:=Option.bind_eq_some_iff.1 h5;obtain ⟨_,h8,h9⟩:=World.cells?_some h6;obtain ⟨x,h10,h11⟩:=oJ S hN fuel h7 h1 (s2 _ (List.mem_map.2 ⟨elems[i],List.getElem_mem _,rfl⟩))
     have hsp:a.block < W.heap.size/\a.spot=none:=by
      have h12:=hall 0 (by omega);rw [List.getElem?_eq_getElem (by omega)] at h12;obtain ⟨us',h13,_⟩:=Option.bind_eq_some_iff.1 h12;obtain ⟨_,h14,h15⟩:=World.cells?_some h13;have h16:=h15 0 (by omega);rw [List.getElem?_eq_getElem (by omega)] at h16;have h17:=zW h16;simpa [Addr.add] using h17
     refine ⟨x,⟨us,by omega,hsp,fun k hk=>?_,h10⟩,h11⟩;have h18:=h9 k (by omega);rw [List.getElem?_eq_getElem hk,h2] at h18;rw [<- h18];congr 1;obtain ⟨ab,ao,asp⟩:=a;obtain ⟨_,rfl⟩:=hsp;unfold Addr.add
     by_cases hz:i*τ.cells=0<;>by_cases hz':k=0<;>simp [hz,hz']
    obtain ⟨xs,g1,g2⟩:=Ct _ len key;refine ⟨xs,?_,by omega,fun x hx=>?_⟩
    ·simp only [Frz];refine ⟨some a,cap,by rw [g1],by omega,?_,?_⟩
     ·have:xs.length*τ.jq<=2^20*2^20:=Nat.mul_le_mul (by omega) h4;simp only [mF,decide_eq_true_eq];omega
     ·by_cases hx:xs=[]
      ·exact .inl hx
      ·have h0:0 < xs.length:=List.length_pos_iff.2 hx;obtain ⟨⟨_,_,hsp,_⟩,_⟩:=g2 0 h0;refine .inr ⟨a.block,a.off,?_,hsp.1,fun i hi=>?_⟩
       ·obtain ⟨ab,ao,asp⟩:=a;obtain ⟨_,rfl⟩:=hsp;rfl
       ·obtain ⟨⟨us,q1,_,q3,q4⟩,_⟩:=g2 i hi;exact ⟨us,q1,q3,q4⟩
    ·obtain ⟨i,hi,rfl⟩:=List.getElem_of_mem hx;exact (g2 i hi).2
  ·rename_i _ _ fs hu;simp only [Bool.and_eq_true,beq_iff_eq] at hc
   have h':(if cs.length=P.cellsOf t then (fs.toList.mapM fun f=>DataW.trod enc P W 0 (fun _=>true) true fuel f.type ((cs.drop f.offset).take (P.cellsOf f.type))).map fun xs=>(DataW.agg (xs.map (·.1)),xs.flatMap (·.2)) else none)=some y:=by
    unfold DataW.trod at h;rw [hu] at h
    split at h<;>simp_all
   split at h'
   case isFalse=>cases h'
   rename_i hlen;obtain ⟨ys,q1,q2⟩:=Option.map_eq_some_iff.1 h';subst q2
   have q3:(fs.toList.map fun f=>(f.offset,f.type)).mapM (fun p=>DataW.trod enc P W 0 (fun _=>true) true fuel p.2 ((cs.drop p.1).take (P.cellsOf p.2)))=some ys:=by
    rw [List.mapM_map];exact q1
   obtain ⟨x,hx⟩:=uK (P:=P) (ck:=qT P n) (fun t τ cs y a b c=>oJ S hN fuel a b c) cs _ 0 _ ys q3 hc.2 (fun y hy=>S.agg _ hs _ (List.mem_map.2 ⟨y,hy,rfl⟩)) (by rw [hlen,hc.1];exact (Nat.zero_add _).symm);exact ⟨x,by simpa using hx⟩
  ·rename_i _ _ k e hu;simp only [Bool.and_eq_true,beq_iff_eq] at hc
   have h':(if cs.length=P.cellsOf t then ((List.range k).mapM fun i=>DataW.trod enc P W 0 (fun _=>true) true fuel e ((cs.drop (i*P.cellsOf e)).take (P.cellsOf e))).map fun xs=>(DataW.agg (xs.map (·.1)),xs.flatMap (·.2)) else none)=some y:=by
    unfold DataW.trod at h;rw [hu] at h
    split at h<;>simp_all
   split at h'
   case isFalse=>cases h'
   rename_i hlen;obtain ⟨ys,q1,q2⟩:=Option.map_eq_some_iff.1 h';subst q2
   have q3:((List.range k).map fun i=>(i*P.cellsOf e,e)).mapM (fun p=>DataW.trod enc P W 0 (fun _=>true) true fuel p.2 ((cs.drop p.1).take (P.cellsOf p.2)))=some ys:=by
    rw [List.mapM_map];exact q1
   obtain ⟨x,hx⟩:=uK (P:=P) (ck:=qT P n) (fun t τ cs y a b c=>oJ S hN fuel a b c) cs _ 0 _ ys q3 hc.2 (fun y hy=>S.agg _ hs _ (List.mem_map.2 ⟨y,hy,rfl⟩)) (by rw [hlen,hc.1];exact (Nat.zero_add _).symm);exact ⟨x,by simpa using hx⟩
  ·cases hc
theorem zU {W':World}(hw:∀ b,b < W.heap.size->W'.heap[b]?=W.heap[b]?){a:Addr}{n:Nat}{us:List Value}(h:W.cells? 0 a n=some us):W'.cells? 0 a n=some us:=by
 unfold World.cells? at h ⊢;simp only [Nat.zero_le,if_true] at h ⊢;refine qQ h fun i _ v _ hv=>?_;have h1:=zW hv;rw [<- hv];simp only [World.cell?,hw _ h1.1]
theorem rT {rec rec':TypeId->List Value->Option (DataW H×List MemPlace)}{ck:TypeId->Ty->Bool}{ok:DataW H×List MemPlace->Prop}
  (hrec:∀ t τ cs y,rec t cs=some y->ck t τ=true->ok y->rec' t cs=some y) (cs:List Value) :
  ∀ (l:List (Nat×TypeId)) (o:Nat) (τ:Ty) (ys:List (DataW H×List MemPlace)),l.mapM (fun p=>rec p.2 ((cs.drop p.1).take (P.cellsOf p.2)))=some ys->nD ck P.cellsOf l o τ=true ->
   (∀ y∈ys,ok y)->l.mapM (fun p=>rec' p.2 ((cs.drop p.1).take (P.cellsOf p.2)))=some ys
 |[],o,τ,ys,h,_,_=>by simpa using h
 |[p],o,τ,ys,h,hc,hs=>by
  have hc:(p.1 == o && (P.cellsOf p.2 == τ.cells && ck p.2 τ))=true:=by
   cases τ<;>exact hc
  simp only [Bool.and_eq_true,beq_iff_eq] at hc;refine qQ h fun q hq y hy hr=>?_;obtain rfl:=List.mem_singleton.1 hq;exact hrec _ _ _ _ hr hc.2.2 (hs y hy)
 |p::q::r,o,τ,ys,h,hc,hs=>by
  cases τ with
  |pair a b =>
   simp only [nD,Bool.and_eq_true,beq_iff_eq] at hc;obtain ⟨h1,h2,h3,h4⟩:=hc;rw [List.mapM_cons] at h ⊢
   cases hy:rec p.2 ((cs.drop p.1).take (P.cellsOf p.2)) with
   |none=>rw [hy] at h;cases h
   |some y =>
    cases hl':(q::r).mapM (fun p=>rec p.2 ((cs.drop p.1).take (P.cellsOf p.2))) with
    |none=>rw [hy,hl'] at h;cases h
    |some ys' =>
     rw [hy,hl'] at h;cases h;rw [hrec _ _ _ _ hy h3 (hs y (by simp)),rT hrec cs (q::r) _ b ys' hl' h4 fun z hz=>hs z (List.mem_cons_of_mem _ hz)];rfl
  |_=>simp [nD] at hc
theorem qh {W':World}{sp:Nat->Bool}(hw:∀ b,b < W.heap.size->W'.heap[b]?=W.heap[b]?):∀ (fuel:Nat){n:Nat}{t:TypeId}{τ:Ty}{cs:List Value}{y:DataW H×List MemPlace},DataW.trod enc P W 0 (fun _=>true) true fuel t cs=some y ->
  qT P n t τ=true->(∀ p∈y.2,sp p.block=true)->DataW.trod enc P W' 0 sp true fuel t cs=some y
 |0,_,_,_,_,_,h,_,_=>by simp [DataW.trod] at h
 |fuel+1,0,_,_,_,_,_,hc,_=>by simp [qT] at hc
 |fuel+1,n+1,t,τ,cs,y,h,hc,hs=>by
  simp only [qT] at hc;split at hc
  ·rename_i k j hu;obtain ⟨m,rfl,rfl,hwf⟩:=DataW.trod_int hu h;unfold DataW.trod at h ⊢;simpa [hu] using h
  ·rename_i hu;obtain ⟨b,rfl,rfl⟩:=DataW.trod_bool hu h;unfold DataW.trod at h ⊢;simpa [hu] using h
  ·rename_i hu;obtain ⟨s,rfl,rfl,_⟩:=DataW.trod_string hu h;unfold DataW.trod at h ⊢;simpa [hu] using h
  ·rename_i e τ hu;simp only [Bool.and_eq_true,beq_iff_eq,Bool.not_eq_true',beq_eq_false_iff_ne,decide_eq_true_eq] at hc;obtain ⟨h1,h2,h3,h4⟩:=hc;have h0:=h;rcases DataW.trod_slice hu h with ⟨rfl,rfl⟩|⟨a,len,cap,elems0,rest0,m,hm,rfl,rfl,_,hlen,_,hel,hall,hsp,_⟩
   ·unfold DataW.trod at h ⊢;simpa [hu] using h
   ·obtain ⟨rfl⟩:fuel=m:=by omega
    have hrl:=(hsp rfl).1
    have hspa:elems0.length+rest0.length≠0->sp a.block=true:=fun hne=>by
     have hpos:0 < (elems0.length+rest0.length)*P.cellsOf e:=Nat.mul_pos (by omega) (by omega);refine hs (.cell a.block (a.off+0)) (List.mem_append_left _ ?_);exact List.mem_map.2 ⟨0,List.mem_range.2 hpos,rfl⟩
    unfold DataW.trod at h ⊢;simp only [hu,Nat.zero_le,true_and] at h ⊢;split at h
    case isFalse=>cases h
    rename_i hb;rw [if_pos hb];simp only [Option.bind_eq_some_iff,Option.map_eq_some_iff] at h;obtain ⟨elems,he,rest,hr,hy⟩:=h;simp only [Prod.mk.injEq,DataW.slice.injEq] at hy
    have hel':∀ (l:List Nat) (ys:List (DataW H×List MemPlace)) (g:Nat->Nat),(∀ z∈ys,∀ p∈z.2,sp p.block=true)->l.mapM (fun i=>(W.cells? 0 (a.add (g i*P.cellsOf e)) (P.cellsOf e)).bind (DataW.trod enc P W 0 (fun _=>true) true fuel e))=some ys ->
      l.mapM (fun i=>(W'.cells? 0 (a.add (g i*P.cellsOf e)) (P.cellsOf e)).bind (DataW.trod enc P W' 0 sp true fuel e))=some ys:=fun l ys g hz h=>by
     refine qQ h fun i _ z hz' hi=>?_;obtain ⟨us,q1,q2⟩:=Option.bind_eq_some_iff.1 hi;rw [zU hw q1];exact qh hw fuel q2 h1 (hz z hz')
    have hplaces:∀ z∈elems++rest,∀ p∈z.2,sp p.block=true:=fun z hz p hp=>hs p (by
     rw [<- hy.2]
     exact List.mem_append_right _ (List.mem_flatMap.2 ⟨z,hz,hp⟩))
    have hr':(List.range (cap-len)).mapM (fun j=>(W.cells? 0 (a.add ((len+j)*P.cellsOf e)) (P.cellsOf e)).bind (DataW.trod enc P W 0 (fun _=>true) true fuel e))=some rest:=by simpa using hr
    rw [hel' _ elems (fun i=>i) (fun z hz=>hplaces z (List.mem_append_left _ hz)) he];have hr2:=hel' _ rest (fun j=>len+j) (fun z hz=>hplaces z (List.mem_append_right _ hz)) hr'
    have hsel:(if sp a.block=true then (List.range (cap-len)).mapM (fun j=>(W'.cells? 0 (a.add ((len+j)*P.cellsOf e)) (P.cellsOf e)).bind (DataW.trod enc P W' 0 sp true fuel e)) else some [])=some rest:=by
     by_cases hq:sp a.block=true
     ·rw [if_pos hq];exact hr2
     ·rw [if_neg hq]
      have:rest=[]:=by
       by_cases hz:elems0.length+rest0.length=0
       ·have h5:cap-len=0:=by omega
        rw [h5] at hr';simpa using hr'.symm
       ·exact absurd (hspa hz) hq
      rw [this]
    simp only [Option.bind_some,hsel,Option.map_some];rw [hy.1.1,hy.1.2,hy.2]
  ·rename_i _ _ fs hu;simp only [Bool.and_eq_true,beq_iff_eq] at hc
   have h':(if cs.length=P.cellsOf t then (fs.toList.mapM fun f=>DataW.trod enc P W 0 (fun _=>true) true fuel f.type ((cs.drop f.offset).take (P.cellsOf f.type))).map fun xs=>(DataW.agg (xs.map (·.1)),xs.flatMap (·.2)) else none)=some y:=by
    unfold DataW.trod at h;rw [hu] at h
    split at h<;>simp_all
   split at h'
   case isFalse=>cases h'
   rename_i hlen;obtain ⟨ys,q1,q2⟩:=Option.map_eq_some_iff.1 h'
   have q3:(fs.toList.map fun f=>(f.offset,f.type)).mapM (fun p=>DataW.trod enc P W 0 (fun _=>true) true fuel p.2 ((cs.drop p.1).take (P.cellsOf p.2)))=some ys:=by
    rw [List.mapM_map];exact q1
   have q4:=rT (P:=P) (ck:=qT P n) (rec':=DataW.trod enc P W' 0 sp true fuel) (ok:=fun y=>∀ p∈y.2,sp p.block=true) (fun t τ cs y a b c=>qh hw fuel a b c) cs _ 0 _ ys q3 hc.2
    (fun y hy p hp=>hs p (by rw [<- q2];exact List.mem_flatMap.2 ⟨y,hy,hp⟩))
   rw [List.mapM_map] at q4;have q5:(fs.toList.mapM fun f=>DataW.trod enc P W' 0 sp true fuel f.type ((cs.drop f.offset).take (P.cellsOf f.type)))=some ys:=q4;unfold DataW.trod;rw [hu];rw [<- q2]
   split<;>simp_all
  ·rename_i _ _ k e hu;simp only [Bool.and_eq_true,beq_iff_eq] at hc
   have h':(if cs.length=P.cellsOf t then ((List.range k).mapM fun i=>DataW.trod enc P W 0 (fun _=>true) true fuel e ((cs.drop (i*P.cellsOf e)).take (P.cellsOf e))).map fun xs=>(DataW.agg (xs.map (·.1)),xs.flatMap (·.2)) else none)=some y:=by
    unfold DataW.trod at h;rw [hu] at h
    split at h<;>simp_all
   split at h'
   case isFalse=>cases h'
   rename_i hlen;obtain ⟨ys,q1,q2⟩:=Option.map_eq_some_iff.1 h'
   have q3:((List.range k).map fun i=>(i*P.cellsOf e,e)).mapM (fun p=>DataW.trod enc P W 0 (fun _=>true) true fuel p.2 ((cs.drop p.1).take (P.cellsOf p.2)))=some ys:=by
    rw [List.mapM_map];exact q1
   have q4:=rT (P:=P) (ck:=qT P n) (rec':=DataW.trod enc P W' 0 sp true fuel) (ok:=fun y=>∀ p∈y.2,sp p.block=true) (fun t τ cs y a b c=>qh hw fuel a b c) cs _ 0 _ ys q3 hc.2
    (fun y hy p hp=>hs p (by rw [<- q2];exact List.mem_flatMap.2 ⟨y,hy,hp⟩))
   rw [List.mapM_map] at q4;have q5:((List.range k).mapM fun i=>DataW.trod enc P W' 0 sp true fuel e ((cs.drop (i*P.cellsOf e)).take (P.cellsOf e)))=some ys:=q4;unfold DataW.trod;rw [hu];rw [<- q2]
   split<;>simp_all
  ·cases hc
end
end Go.Mach

namespace Go.Mach
namespace Res
variable {α β γ:Type}{Q:β->Prop}
theorem aD {Q:α->Prop}{a:α}(h:Q a):(Res.ok a).sat Q:=h
theorem bH {Q Q':α->Prop}{m:Res α}(h:m.sat Q) (hq:∀ a,Q a->Q' a):m.sat Q':=by
 exact wo hq h
theorem fP {m:Res α}{k:α->Res β}(h:m.sat fun a=>(k a).sat Q):(m.bind k).sat Q:=by
 exact te h
theorem aB {m:Res α}{k:α->Res β}{R:α->Prop}(h:m.sat R) (hk:∀ a,R a->(k a).sat Q):(m.bind k).sat Q:=fP (bH h hk)
theorem ae {m:Res α}{k:α->Res β}{a:α}(h:m.sat (·=a)) (hk:(k a).sat Q):(m.bind k).sat Q:=aB h fun _ e=>e▸hk
theorem aA {b:Bool}{k:Res β}(h:b=true->k.sat Q):(given b k).sat Q:=by
 exact h
theorem bI {b:Bool}{k:Res β}(hb:b=true) (h:k.sat Q):(ai b k).sat Q:=by
 subst hb;exact h
theorem aH {b:Bool}{x y:Res β}(h1:b=true->x.sat Q) (h2:b=false->y.sat Q):(br b x y).sat Q:=by
 cases b<;>simp_all [br]
theorem bu {t:Ty}{xs:List t.den}{i:Int}{k:t.den->Res β}(h0:0<=i) (h1:i.toNat < xs.length) (h:∀ x,xs[i.toNat]?=some x->t.ok x=true->(k x).sat Q):(idx t xs i k).sat Q:=by
 unfold idx;rw [decide_eq_true h0,List.getElem?_eq_getElem h1];exact aA fun hk=>h _ (List.getElem?_eq_getElem h1) hk
theorem bN {s:Sh}{xs:List s.den}{i:Int}{k:s.den->Res β}(h0:0<=i) (h1:i.toNat < xs.length) (h:∀ x,xs[i.toNat]?=some x->s.ok x=true->(k x).sat Q):(ct s xs i k).sat Q:=by
 unfold ct;rw [decide_eq_true h0,List.getElem?_eq_getElem h1];exact aA fun hk=>h _ (List.getElem?_eq_getElem h1) hk
theorem nB {f:α->Res (Step α β)}(I:Nat->α->Prop) (h:∀ k a,I k a->(f a).sat fun
   |.next a'=>∃ k',k' < k/\I k' a'
   |.done b=>Q b):∀ (n k:Nat) (a:α),k < n->I k a->(loop f n a).sat Q
 |0,_,_,hk,_=>by omega
 |n+1,k,a,hk,hI=>by
  unfold loop;refine aB (h k a hI) fun s hs=>?_
  cases s with
  |next a' =>
   obtain ⟨k',h1,h2⟩:=hs;exact nB I h n k' a' (by omega) h2
  |done b=>exact hs
theorem tN {f:α->Res (Step α β)}(ix:α->Int) (n:Nat) (hn:n < 2^69) (I:α->Prop){a:α}(ha:I a) (hix:∀ a,I a->0<=ix a/\ix a<=n)
  (h:∀ a,I a->(f a).sat fun
   |.next a'=>ix a'=ix a+1/\I a'
   |.done b=>Q b):(loop f fuel a).sat Q:=by
 refine nB (fun k a=>I a/\k=n-(ix a).toNat) (fun k a ⟨hI,hk⟩=>?_) _ (n-(ix a).toNat) a (Nat.lt_of_le_of_lt (Nat.sub_le _ _) (Nat.lt_trans hn (by decide))) ⟨ha,rfl⟩;refine bH (h a hI) fun s hs=>?_
 cases s with
 |next a' =>
  obtain ⟨h1,h2⟩:=hs;have h3:=hix a hI;have h4:=hix a' h2;exact ⟨_,by omega,h2,rfl⟩
 |done b=>exact hs
end Res
theorem wrap64 {n:Int}(h:-9223372036854775808<=n/\n < 9223372036854775808):w6 n=n:=by
 unfold w6;simp [IntKind.wrap,IntKind.signed,IntKind.bits];omega
theorem gu {a b:Int}:(ilt a b=true)=(a < b):=by simp [ilt]
theorem lv {a b:Int}:(ile a b=true)=(a<=b):=by simp [ile]
theorem ly {a b:Int}:(ilt a b=false)=(b<=a):=by simp [ilt]
theorem nO {a b:Int}:(ile a b=false)=(b < a):=by simp [ile]
theorem gf (x y:Int):kv x y=min x y:=by unfold kv;split<;>omega
theorem jv (x y:Int):pH x y=max x y:=by unfold pH;split<;>omega
theorem idx0 (i:Int):((0:Int)+(i.toNat:Int)).toNat=i.toNat:=by omega
theorem IL {n:Int}:(fG .i64 n=true)=(-9223372036854775808<=n/\n < 9223372036854775808):=by
 simp [fG,IntKind.wrap,IntKind.signed,IntKind.bits];omega
theorem oF {α:Type}{xs:List α}{i:Nat}{x:α}(h:xs[i]?=some x):xs.set i x=xs:=by
 apply List.ext_getElem?;intro j;rw [List.getElem?_set];split
 ·subst_vars;split
  ·exact h.symm
  ·rename_i hl;rw [List.getElem?_eq_none (by omega)]
 ·rfl
end Go.Mach
namespace Go.Mach
namespace Res
variable {α β:Type}{Q:β->Prop}
theorem jh {b:Bool}{x y:Res β}(h:b=true) (hx:x.sat Q):(br b x y).sat Q:=by subst h;exact hx
theorem ik {b:Bool}{x y:Res β}(h:b=false) (hx:y.sat Q):(br b x y).sat Q:=by subst h;exact hx
theorem je {γ δ:Type}{a:γ}{f:γ->Res β}{g:δ->Res β}(h:(f a).sat Q):(sum (.inl a) f g).sat Q:=h
theorem jf {γ δ:Type}{a:δ}{f:γ->Res β}{g:δ->Res β}(h:(g a).sat Q):(sum (.inr a) f g).sat Q:=h
end Res
namespace Res
end Res
end Go.Mach

namespace Go.Mach
open Res
class Safe {α:Type}(m:Res α):Prop where
 ok:m.sat fun _=>True
namespace Safe
variable {α β γ:Type}
instance {a:α}:Safe (Res.ok a):=⟨trivial⟩
theorem g' {b:Bool}{k:Res α}(h:Safe k):Safe (given b k):=⟨fun _=>h.ok⟩
theorem bd' {m:Res α}{k:α->Res β}(h:Safe m) (h2:∀ a,Safe (k a)):Safe (m.bind k):=⟨aB h.ok fun a _=>(h2 a).ok⟩
theorem br' {b:Bool}{x y:Res α}(h1:Safe x) (h2:Safe y):Safe (Res.br b x y):=⟨aH (fun _=>h1.ok) fun _=>h2.ok⟩
theorem sm' {x:α ⊕ β}{f:α->Res γ}{g:β->Res γ}(h1:∀ a,Safe (f a)) (h2:∀ a,Safe (g a)):Safe (sum x f g):=by
 cases x
 ·exact h1 _
 ·exact h2 _
end Safe
class zJ {α:Type}(m:Res α) (v:outParam α):Prop where
 ok:m.sat (·=v)
instance (priority:=low){α:Type}{m:Res α}{v:α} [h:zJ m v]:Safe m:=⟨Res.bH h.ok fun _ _=>trivial⟩
class mD {α:Type}(m:Res α) (P:outParam (α->Prop)):Prop where
 ok:m.sat P
instance (priority:=low){α:Type}{m:Res α}{P:α->Prop} [h:mD m P]:Safe m:=⟨Res.bH h.ok fun _ _=>trivial⟩
namespace Res
variable {α β:Type}{Q:β->Prop}
theorem q_e {m:Res α}{v:α} [h:zJ m v] {k:α->Res β}(hk:(k v).sat Q):(m.bind k).sat Q:=ae h.ok hk
theorem pX {a:α}{k:α->Res β}(h:(k a).sat Q):((Res.ok a).bind k).sat Q:=h
theorem yu {a b:Bool}{x y:Res β}(h:(br a x (br b x y)).sat Q):(br (a || b) x y).sat Q:=by cases a<;>exact h
theorem tY {a b:Bool}{x y:Res β}(h:(br a (br b x y) y).sat Q):(br (a && b) x y).sat Q:=by cases a<;>exact h
theorem q_p {m:Res α}{P:α->Prop} [h:mD m P] {k:α->Res β}(hk:∀ a,P a->(k a).sat Q):(m.bind k).sat Q:=aB h.ok hk
theorem safe {m:Res α} [h:Safe m]:m.sat fun _=>True:=h.ok
theorem q_b {m:Res α} [h:Safe m] {k:α->Res β}(hk:∀ a,(k a).sat Q):(m.bind k).sat Q:=aB h.ok fun a _=>hk a
theorem fZ {a b:Int}{x y:Res β}(h1:a < b->x.sat Q) (h2:b<=a->y.sat Q):(br (ilt a b) x y).sat Q:=aH (fun h=>h1 (of_decide_eq_true h)) fun h=>h2 (Int.not_lt.1 (of_decide_eq_false h))
theorem lg {a b:Int}{x y:Res β}(h1:a<=b->x.sat Q) (h2:b < a->y.sat Q):(br (ile a b) x y).sat Q:=aH (fun h=>h1 (of_decide_eq_true h)) fun h=>h2 (Int.not_le.1 (of_decide_eq_false h))
theorem bL {a b:Int}{x y:Res β}(h1:a=b->x.sat Q) (h2:a≠b->y.sat Q):(br (a == b) x y).sat Q:=aH (fun h=>h1 (eq_of_beq h)) fun h=>h2 (ne_of_beq_false h)
theorem eD {b:Bool}{x y:Res β}(h:(br b y x).sat Q):(br (!b) x y).sat Q:=by cases b<;>exact h
theorem gL {a b:Bool}{k:Res β}(h:(ai a (ai b k)).sat Q):(ai (a && b) k).sat Q:=by cases a<;>cases b<;>exact h
theorem iM {a b:Int}{k:Res β}(h:a<=b) (hk:k.sat Q):(ai (ile a b) k).sat Q:=bI (decide_eq_true h) hk
theorem nr {a b:Int}{k:Res β}(h:a < b) (hk:k.sat Q):(ai (ilt a b) k).sat Q:=bI (decide_eq_true h) hk
theorem n_d {p:Prop} [Decidable p] {k:Res β}(h:p) (hk:k.sat Q):(ai (decide p) k).sat Q:=bI (decide_eq_true h) hk
theorem sZ {a b:Int}{k:Res β}(h:a≠b) (hk:k.sat Q):(ai (!(a == b)) k).sat Q:=bI (by simpa using h) hk
theorem tD {γ δ:Type}{x:γ ⊕ δ}{f:γ->Res β}{g:δ->Res β}(h1:∀ a,(f a).sat Q) (h2:∀ a,(g a).sat Q):(sum x f g).sat Q:=by
 cases x
 ·exact h1 _
 ·exact h2 _
def Nx {α β:Type}(ix:α->Int) (n:Nat) (I:α->Prop) (P:β->Prop) (a:α):Step α β->Prop
 |.next a'=>ix a'=w6 (ix a+1)/\ix a < n/\I a'
 |.done b=>P b
theorem iC {f:α->Res (Step α β)}{a:α}(ix:α->Int) (n:Nat) (hn:n<=2^60) (I:α->Prop) (h0:0<=ix a) (h1:ix a<=n) (hI:I a) (h:∀ a,0<=ix a->ix a<=n->I a->(f a).sat (Nx ix n I Q a)):(loop f fuel a).sat Q:=by
 refine tN ix n (by omega) (fun a=>0<=ix a/\ix a<=n/\I a) ⟨h0,h1,hI⟩ (fun a h=>⟨h.1,h.2.1⟩) fun a ⟨i0,i1,i2⟩=>?_;refine bH (h a i0 i1 i2) fun s hs=>?_
 cases s with
 |next a' =>
  obtain ⟨e,hl,hI'⟩:=hs;rw [wrap64 (by omega)] at e;exact ⟨e,by omega,by omega,hI'⟩
 |done b=>exact hs
def Dn {α β:Type}(mz:α->Nat) (I:α->Prop) (P:β->Prop) (a:α):Step α β->Prop
 |.next a'=>mz a' < mz a/\I a'
 |.done b=>P b
theorem ko {f:α->Res (Step α β)}{a:α}(mz:α->Nat) (hn:mz a<=2^60) (I:α->Prop) (hI:I a) (h:∀ a,I a->(f a).sat (Dn mz I Q a)):(loop f fuel a).sat Q:=by
 refine nB (fun k a=>I a/\k=mz a) (fun k a ⟨hI,hk⟩=>?_) _ (mz a) a (Nat.lt_of_le_of_lt hn (by decide)) ⟨hI,rfl⟩;refine bH (h a hI) fun s hs=>?_
 cases s with
 |next a'=>exact ⟨_,hk▸hs.1,hs.2,rfl⟩
 |done b=>exact hs
theorem mR {f:α->Res (Step α β)}{a:α}(ix:α->Int) (n:Nat) (hn:n<=2^60) (h0:0<=ix a) (h1:ix a<=n) (h:∀ a,0<=ix a->ix a<=n->(f a).sat (Nx ix n (fun _=>True) (fun _=>True) a)):Safe (loop f fuel a):=⟨iC ix n hn (fun _=>True) h0 h1 trivial fun a i0 i1 _=>h a i0 i1⟩
end Res
theorem lj {s:Sh}{n:Nat}(h:fk s n=true) (hs:0 < s.jq:=by decide):n<=2^47:=Nat.le_trans (Nat.le_mul_of_pos_right n hs) (of_decide_eq_true h)
theorem yM {e:Ty}{n:Nat}(h:mF e n=true) (hs:0 < e.jq:=by decide):n<=2^47:=Nat.le_trans (Nat.le_mul_of_pos_right n hs) (of_decide_eq_true h)
theorem wrap_u32 (n:Int):0<=IntKind.wrap .u32 n/\IntKind.wrap .u32 n < 4294967296:=by
 simp [w6,IntKind.wrap,IntKind.signed,IntKind.bits];omega
theorem uE {s:Sh}{n:Nat}(h:fk s n=true):n*s.jq<=2^47:=of_decide_eq_true h
theorem ny {n:Nat}(h:lQ n=true):n<=2^47:=of_decide_eq_true h
end Go.Mach

namespace Go.Mach
open Go.ChangeShapes Go.RowKit
def Sh.rC:Sh->Bool
 |.frz _=>true
 |.own s=>s.rC
 |.seq a b=>a.rC && b.rC
 |_=>false
def rp (P:Program) (t:TypeId):Par->Bool
 |.val g (.frz τ)=>(g == np P t) && qT P 20 t τ
 |.val g (.bor s)=>(g == np P t) && (s.rC && qT P 20 t s.ty)
 |_=>false
def qm (P:Program):List TypeId->List Par->Bool
 |[],[]=>true
 |t::ts,p::ps=>rp P t p && qm P ts ps
 |_,_=>false
def smalls (n:Nat):(ps:List VSh)->lA ps->Prop
 |[],_=>True
 |[a],x=>a.2.ty.small n x
 |a::b::r,x=>a.2.ty.small n x.1/\smalls n (b::r) x.2
section
variable {W:World}{Z V:Nat->Prop}
theorem qI:∀ {s:Sh},s.rC=true->s.cells=s.ty.cells
 |.frz _,_=>rfl
 |.own _,_=>rfl
 |.seq a b,h=>by
  simp only [Sh.rC,Bool.and_eq_true] at h;simp only [Sh.cells,Sh.ty,Ty.cells,qI h.1,qI h.2]
theorem uO:∀ {s:Sh},s.rC=true->s.jq=s.ty.jq
 |.frz _,_=>rfl
 |.own _,_=>rfl
 |.seq a b,h=>by
  simp only [Sh.rC,Bool.and_eq_true] at h;simp only [Sh.jq,Sh.ty,Ty.jq,uO h.1,uO h.2]
theorem pM (hz:∀ b,Z b->V b):∀ {s:Sh}{us:List Value}{x:s.den},s.rC=true->Frz W Z s.ty us x->BR W Z V s us x
 |.frz _,_,_,_,h=>h
 |.own s,us,xs,hl,h=>by
  simp only [Sh.ty,Frz] at h;simp only [BR];obtain ⟨a,cap,h1,h2,h3,h4⟩:=h;refine ⟨a,cap,h1,h2,?_,h4.imp id ?_⟩
  ·simpa [fk,mF,uO (s:=s) hl] using h3
  ·rintro ⟨b,o,h5,h6,h7⟩;refine ⟨b,o,h5,hz b h6,fun i hi=>?_⟩;obtain ⟨us,h8,h9,h10⟩:=h7 i hi;rw [qI (s:=s) hl];exact ⟨us,h8,h9,pM hz (s:=s) hl h10⟩
 |.seq a b,us,x,hl,h=>by
  simp only [Sh.rC,Bool.and_eq_true] at hl;simp only [Sh.ty,Frz] at h;simp only [BR];obtain ⟨u1,u2,h1,h2,h3⟩:=h;exact ⟨u1,u2,h1,pM hz hl.1 h2,pM hz hl.2 h3⟩
end
section
variable {H:Type}{enc:TypeId×Value->H}{P:Program}{W:World}{N:Nat}{sm:DataW H->Prop}
theorem vU {r:Reach}{b0:Nat}{t:TypeId}{τ:Ty}{v:Value}(hc:qT P 20 t τ=true) (h:Value.okWide P W r b0 t v):tE (np P t) v.cells.toList v:=by
 unfold np;unfold Value.okWide at h;have hc:qT P (19+1) t τ=true:=hc;unfold qT at hc
 cases hu:P.underlying t with
 |none=>simp [hu] at hc
 |some D =>
  rw [hu] at hc h
  have one:∀ {w:Value},Cell.okWide P W r b0 t w->(∀ cs,w≠.agg cs)->tE false w.cells.toList w:=fun {w} _ hw=>by
   cases w<;>simp [tE,Value.cells] at hw ⊢
  have noagg:∀ {cs:Array Value},(D=.bool\/D=.string\/(∃ k,D=.int k)\/∃ e,D=.slice e)->¬ Cell.okWide P W r b0 t (.agg cs):=fun {cs} hd h=>by
   unfold Cell.okWide Cell.ok at h;rw [hu] at h
   rcases hd with rfl|rfl|⟨k,rfl⟩|⟨e,rfl⟩<;>simp at h
  cases D with
  |bool=>exact one h fun cs he=>noagg (.inl rfl) (he▸h)
  |string=>exact one h fun cs he=>noagg (.inr (.inl rfl)) (he▸h)
  |int k=>exact one h fun cs he=>noagg (.inr (.inr (.inl ⟨k,rfl⟩))) (he▸h)
  |slice e=>exact one h fun cs he=>noagg (.inr (.inr (.inr ⟨e,rfl⟩))) (he▸h)
  |struct fs=>obtain ⟨cs,rfl,_⟩:=h;simp [tE,Value.cells]
  |array n e=>obtain ⟨cs,rfl,_⟩:=h;simp [tE,Value.cells]
  |_=>cases τ<;>cases hc
theorem Ab (S:Sm N sm) (hN:N<=2^20){r:Reach}{b0:Nat}{t:TypeId}{v:Value}{d:DataW H}{ps:List MemPlace}{p:Par}(h:DataW.Trod enc P W 0 (fun _=>true) true t v d ps) (hv:Value.okWide P W r b0 t v)
  (hc:rp P t p=true) (hs:sm d) (T:Nat->Prop):∃ x:p.v.2.den,sP W (Old W) (fun _=>False) p.v v x T/\p.v.2.ty.small N x:=by
 obtain ⟨fuel,h⟩:=h
 match p with
 |.obj _=>simp [rp] at hc
 |.val g s =>
  cases s with
  |frz τ =>
   simp only [rp,Bool.and_eq_true,beq_iff_eq] at hc;obtain ⟨rfl,hc⟩:=hc;obtain ⟨x,h1,h2⟩:=oJ S hN fuel h hc hs;exact ⟨x,⟨_,vU hc hv,h1.length,h1⟩,h2⟩
  |bor s =>
   simp only [rp,Bool.and_eq_true,beq_iff_eq] at hc;obtain ⟨rfl,hl,hc⟩:=hc;obtain ⟨x,h1,h2⟩:=oJ S hN fuel h hc hs;refine ⟨x,⟨_,vU hc hv,?_,?_⟩,h2⟩
   ·exact h1.length.trans (qI hl).symm
   ·exact pM (fun b hb=>.inr hb) hl h1
  |_=>simp [rp] at hc
theorem tH (S:Sm N sm) (hN:N<=2^20){r:Reach}{b0:Nat}:∀ {ts:List TypeId}{vs:List Value}{ds:List (DataW H)}{q:List MemPlace}{ps:List Par},DataW.TrodAll enc P W 0 (fun _=>true) true ts vs ds q ->
  (∀ (j:Nat) t v,ts[j]?=some t->vs[j]?=some v->Value.okWide P W r b0 t v)->qm P ts ps=true->(∀ d∈ds,sm d) ->
  ∃ x:lA (ps.map Par.v),lW W (Old W) (fun _=>False) (ps.map Par.v) vs x (fun _=>False)/\smalls N (ps.map Par.v) x
 |[],vs,ds,q,ps,h,hv,hc,hs=>by
  obtain ⟨rfl,rfl,rfl⟩:=trodAll_nil h
  match ps,hc with
  |[],_=>exact ⟨(),rfl,trivial⟩
 |t::ts,vs,ds,q,ps,h,hv,hc,hs=>by
  obtain ⟨v,vs',d,ds',p1,p2,rfl,rfl,rfl,h1,h2⟩:=trodAll_cons h
  match ps,hc with
  |p::ps,hc =>
   simp only [qm,Bool.and_eq_true] at hc;obtain ⟨x,g1,g2⟩:=Ab S hN h1 (hv 0 t v rfl rfl) hc.1 (hs d (by simp)) (fun _=>False);obtain ⟨y,g3,g4⟩:=tH S hN h2 (fun j t v ht hv'=>hv (j+1) t v (by simpa using ht) (by simpa using hv')) hc.2 (fun d hd=>hs d (List.mem_cons_of_mem _ hd))
   match ps,y,g3,g4 with
   |[],y,g3,g4 =>
    obtain rfl:vs'=[]:=g3;exact ⟨x,⟨v,rfl,g1⟩,g2⟩
   |p'::r,y,g3,g4=>exact ⟨(x,y),⟨v,vs',fun _=>False,fun _=>False,rfl,fun _ h=>h,fun _ h=>h,fun _ h _=>h,g1,g3⟩,g2,g4⟩
theorem sX {W':World}{sp:Nat->Bool}(hw:∀ b,b < W.heap.size->W'.heap[b]?=W.heap[b]?):∀ {ts:List TypeId}{vs:List Value}{ds:List (DataW H)}{q:List MemPlace}{ps:List Par},DataW.TrodAll enc P W 0 (fun _=>true) true ts vs ds q ->
  qm P ts ps=true->(∀ p∈q,sp p.block=true)->DataW.TrodAll enc P W' 0 sp true ts vs ds q
 |[],vs,ds,q,ps,h,hc,hs=>by
  obtain ⟨rfl,rfl,rfl⟩:=trodAll_nil h;exact trodAll_mk0
 |t::ts,vs,ds,q,ps,h,hc,hs=>by
  obtain ⟨v,vs',d,ds',p1,p2,rfl,rfl,rfl,⟨fuel,h1⟩,h2⟩:=trodAll_cons h
  match ps,hc with
  |p::ps,hc =>
   simp only [qm,Bool.and_eq_true] at hc
   have hck:∃ τ,qT P 20 t τ=true:=by
    match p,hc.1 with
    |.val g (.frz τ),hc=>simp only [rp,Bool.and_eq_true] at hc;exact ⟨_,hc.2⟩
    |.val g (.bor s),hc=>simp only [rp,Bool.and_eq_true] at hc;exact ⟨_,hc.2.2⟩
   obtain ⟨τ,hck⟩:=hck;exact ⟨p1,p2,⟨fuel,qh hw fuel h1 hck fun p hp=>hs p (List.mem_append_left _ hp)⟩,sX hw h2 hc.2 fun p hp=>hs p (List.mem_append_right _ hp),rfl⟩
theorem ua {f:Func}{s:ChangeSpec}{apart fresh handsOn again:Bool}{W W':World}{args:Array Value}{v:Value}{ds gs:List (DataW H)}{before pa pv:List MemPlace}
  (hW:DataW.Whole enc P f.params.toList s.vars apart W args.toList ds gs before)
  (hres:∀ (b:Nat) (sp:Nat->Bool) (hd:Bool),DataW.TrodAll enc P W' b sp hd f.resultTypes.toList (v.resultList f.resultTypes.size) (s.fn H (ds++gs)).results [])
  (hargs:∀ sp:Nat->Bool,(∀ p∈before,sp p.block=true)->DataW.TrodAll enc P W' 0 sp true f.params.toList args.toList (s.fn H (ds++gs)).args pa)
  (hvars:∀ sp:Nat->Bool,(∀ p∈before,sp p.block=true)->DataW.TrodVars enc P W' sp s.vars (s.fn H (ds++gs)).vars pv)
  (hps:before=pa++pv) (hk:W.keptBut W' (·∈before)) (hfz:∀ a,a.block < W.heap.size->W'.frozen? a=W.frozen? a)
  (hok:∀ (j:Nat) (t:TypeId) (r:Value),f.resultTypes[j]?=some t->(v.resultList f.resultTypes.size)[j]?=some r->Value.okWide P W' .any 0 t r) :
  s.post enc P f apart fresh handsOn again W args v W':=by
 have hold:∀ p∈before,(fun b=>decide (b < W.heap.size)) p.block=true:=fun p hp=>by simpa using hW.lt p hp
 have hlt:=hW.lt;refine ⟨ds,gs,before,[],pa,pv,hW,hres _ _ _,hargs _ hold,hvars _ hold,World.keptBut_mono (fun p hp=>⟨hp,?_⟩) hk,fun _=>?_⟩
 ·rw [hps,List.mem_append] at hp;exact Or.inr hp
 ·obtain ⟨_,_,_,_,_,hz,hn⟩:=hW;refine ⟨hok,_,_,([]++pa)++pv,⟨[]++pa,pv,trodAll_append (hargs _ (fun _ _=>rfl)) (hres _ _ _),hvars _ (fun _ _=>rfl),rfl,?_,?_⟩,?_⟩
  ·intro b off hp
   have hp':MemPlace.cell b off∈before:=by rw [hps];simpa using hp
   rw [hfz _ (hlt _ hp')];exact hz b off hp'
  ·intro ha;have:=hn ha;rw [hps] at this;simpa using this
  ·intro p hp _;rw [hps];simpa using hp
theorem zr {W':World}{a:Addr}(hw:W'.heap[a.block]?=W.heap[a.block]?):W'.frozen? a=W.frozen? a:=by
 simp only [World.frozen?,hw]
theorem E5 {f:FuncId}{fn:Func}{ps:List Par}{run:lA (ps.map Par.v)->Res (outs Bool (boxes ps))}{s:ChangeSpec}{apart fresh handsOn again:Bool}{tb:TypeId}
  {G:qx}(hct:kf P G ⟨f,ps,[(false,.frz .bool)],run⟩) (hck:qm P fn.params.toList ps=true) (hN:N<=2^20) (hvars:s.vars=[]) (hrt:fn.resultTypes=#[tb]) (htb:P.underlying tb=some .bool)
  (hspec:∀ ds:List (DataW H),ds.length=fn.params.toList.length->s.fn H ds={ results:=[.lit (.bool true)],args:=ds })
  (hlaw:∀ x,smalls N (ps.map Par.v) x->(run x).sat fun y=>lb (boxes ps) y=true)
  (S:Sm N sm) (hG:G.At W (Old W)){base:Nat}{args:Array Value}{ds gs:List (DataW H)}{before:List MemPlace}
  (hval:∀ (j:Nat) t v,fn.params[j]?=some t->args[j]?=some v->Value.okWide P W .any base t v)
  (hW:DataW.Whole enc P fn.params.toList s.vars apart W args.toList ds gs before) (hsm:∀ d∈ds,sm d) :
  Calls P f args W fun e W'=>∃ v,e=.returned v/\s.post enc P fn apart fresh handsOn again W args v W':=by
 have hW':=hW;obtain ⟨p,q,hA,hV,hpq,_,_⟩:=hW;rw [hvars] at hV;obtain ⟨hgs,hq⟩:=trodVars_none hV;obtain ⟨x,hx,hxs⟩:=tH S hN hA (fun j t v ht hv=>hval j t v (by simpa using ht) (by simpa using hv)) hck hsm
 have hlen:ds.length=fn.params.toList.length:=by
  have:∀ {ts:List TypeId}{vs:List Value}{ds:List (DataW H)}{ps:List MemPlace},DataW.TrodAll enc P W 0 (fun _=>true) true ts vs ds ps->ds.length=ts.length:=by
   intro ts
   induction ts with
   |nil=>intro vs ds ps h;obtain ⟨_,rfl,_⟩:=trodAll_nil h;rfl
   |cons t ts ih=>intro vs ds ps h;obtain ⟨_,_,_,_,_,_,_,rfl,_,_,h2⟩:=trodAll_cons h;simp [ih h2]
  exact this hA
 have hsp:=hspec ds hlen;have hcall:=hct.run W (Old W) (fun _=>False) (fun _=>False) args.toList x _ (hlaw x hxs) hG (fun _ h=>h) (fun _ h=>h.elim) (fun _ h=>h.elim) hx
 have harr:args.toList.toArray=args:=by simp
 rw [harr] at hcall;refine hcall.mono ?_;rintro e W' ⟨y,v,kC,Z',S1,S2,rfl,hy,hret,hv1,_,_,_,_,_,hsz,hkeep,hio⟩;have hkeep':∀ b,b < W.heap.size->W'.heap[b]?=W.heap[b]?:=fun b hb=>hkeep b hb fun h=>h
 have hvb:v=.bool true:=by
  obtain ⟨v',rfl,us,hf,_,hsr⟩:=hv1;have hret:[v']=[v]:=hret;cases hret;have hf:us=[v]:=hf;have hsr:us=[.bool (lb (boxes ps) y)]:=hsr;rw [hf,hy] at hsr;simpa using hsr
 subst hvb;refine ⟨_,rfl,ua (pa:=p) (pv:=q) hW' ?_ ?_ ?_ hpq ⟨hio.1,hio.2.1,fun i hi=>?_⟩ (fun a ha=>zr (hkeep' _ ha)) (ok_one hrt rfl (okWide_bool_mk htb _))⟩
 ·intro b sp hd;rw [hgs,List.append_nil,hsp,hrt];exact trodAll_mk1 (shut_bool htb _)
 ·intro sp hsp';rw [hgs,List.append_nil,hsp];exact sX hkeep' hA hck fun p hp=>hsp' p (by rw [hpq];exact List.mem_append_left _ hp)
 ·intro sp _;rw [hgs,List.append_nil,hsp,hvars,hq];rfl
 ·rw [hkeep' i hi]
  split<;>simp_all
theorem EB {f:FuncId}{fn:Func}{ps:List Par}{run:lA (ps.map Par.v)->Res (outs Bool (boxes ps))}{s:ChangeSpec}{apart fresh handsOn again:Bool}{tb:TypeId}
  {G:qx}(hct:kf P G ⟨f,ps,[(false,.frz .bool)],run⟩) (hck:qm P fn.params.toList ps=true) (hN:N<=2^20) (hvars:s.vars=[]) (hrt:fn.resultTypes=#[tb]) (htb:P.underlying tb=some .bool)
  (hspec:∀ ds:List (DataW H),ds.length=fn.params.toList.length->s.fn H ds={ results:=[.lit (.bool true)],args:=ds })
  (hlaw:∀ x,smalls N (ps.map Par.v) x->mD (run x) fun y=>lb (boxes ps) y=true)
  (S:Sm N sm) (hG:G.At W (Old W)){base:Nat}{args:Array Value}{ds gs:List (DataW H)}{before:List MemPlace}
  (hval:∀ (j:Nat) t v,fn.params[j]?=some t->args[j]?=some v->Value.okWide P W .any base t v)
  (hW:DataW.Whole enc P fn.params.toList s.vars apart W args.toList ds gs before) (hsm:∀ d∈ds,sm d) :
  Calls P f args W fun e W'=>∃ v,e=.returned v/\s.post enc P fn apart fresh handsOn again W args v W' :=
 E5 hct hck hN hvars hrt htb hspec (fun x hx=>(hlaw x hx).ok) S hG hval hW hsm
end
end Go.Mach

