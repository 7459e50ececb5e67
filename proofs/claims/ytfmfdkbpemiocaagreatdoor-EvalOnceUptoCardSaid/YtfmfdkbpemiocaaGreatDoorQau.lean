/-
  Proved here: the law renlaw12.EvalOnce returns true for every input of the stated bulk and leaves its arguments as they were; no further condition.
  By an AI agent; no person has read it.
-/
import Derived.Test.YtfmfdkbpemiocaaGreatDoorQac
import Derived.Test.YtfmfdkbpemiocaaGreatDoorQaf
import Derived.Test.YtfmfdkbpemiocaaGreatDoorQat
import Derived.KernelRfl
import Derived.Test.YtfmfdkbpemiocaaGreatDoorProg
set_option linter.all false
set_option linter.deprecated false
set_option maxRecDepth 100000
set_option linter.unusedVariables false
namespace Go.Mach
open Go.Proofs
theorem mixed:Tryz.prog.follows .mixedOrders=true:=by kernel_rfl
class Has (sp:Spec):Prop where
 ok:j9 Tryz.prog yb sp
class kQ (l:List Spec):Prop where
 ok:∀ sp∈l,j9 Tryz.prog yb sp
instance:kQ []:=⟨λ_ h=>by cases h⟩
instance {s:Spec}{l:List Spec} [a:Has s] [b:kQ l]:kQ (s::l):=⟨λsp hm=>by
 rcases List.mem_cons.1 hm with rfl|hm
 ·exact a.ok
 ·exact b.ok sp hm⟩
theorem Has.of{l:List Spec}{sp:Spec}{ann:Ann}(h:Eqn (Q l) sp ann)[b:kQ l]:Has sp:=⟨h.BE mixed (.sE b.ok rfl)⟩
theorem Has.stuck{E:Env}{sp:Spec}{ann:Ann}(h:Eqn E sp ann){run:kO (sp.ps.map Par.v)->Res (outs (kO sp.rs) (boxes sp.ps))}(hP:E.P=Tryz.prog)(h0:∀ x,run x=.stuck):Has ⟨sp.f,sp.ps,sp.rs,run⟩:=⟨hP▸h.stuck h0⟩
theorem Has.inl{E:Env}{j:Inl}{sp:Spec}{ann:Ann}(h:Eqn E sp ann)(hP:E.P=Tryz.prog)(hi:E.inls=[j])(hj:Dq Tryz.prog yb j)[b:kQ E.specs]:Has sp:=⟨by
 obtain ⟨P,specs,ety,dr,sbs,maps,kok,inls⟩:=E;cases hP
 exact h.BE mixed ⟨b.ok,λi hm=>by
  rw [hi] at hm;obtain rfl:=List.mem_singleton.1 hm
  exact hj⟩⟩
theorem qn{P:Program}{Gl:rV}{f:FuncId}{e:Ty}{g:List e.den->Bool}(h:j9 P Gl (uX f e g))(hg:∀ xs:List e.den,fS (.frz e) xs.length=true->g xs=true):j9 P Gl (kW f e):=by
 refine ⟨h.fn,h.obj,λw Z Y S args x Ψ hsat hG hZ hY hS hV=>?_⟩;refine h.run w Z Y S args x Ψ ?_ hG hZ hY hS hV
 have hok:fS (.frz e) (List.length (show List e.den from x))=true:=hV.ok
 show (Res.aZ (g x) (Res.ok x)).sat Ψ;rw [hg x hok];exact hsat
theorem vy{P:Program}{el:TypeId}{e:Ty}{k:Nat}(hb:P.bytesOf el=k)(he:e.jN=k)(n:Nat)(h:fS (.frz e) n=true):roomFor P el (0+n)=true:=by
 unfold roomFor;rw [Nat.zero_add,hb,<- he];exact h
instance Kt:Has (kW 32 (.int .u16)):=⟨qn
 (lr (g:=λxs=>roomFor Tryz.prog 72 (0+xs.length)) (fn:=Tryz.f32) (T:=35) (B:=4) (el:=72) (ety:=pj Tryz.prog owned) (by kernel_rfl) (by kernel_rfl) (by kernel_rfl) (by kernel_rfl) (by kernel_rfl) (by kernel_rfl) (by kernel_rfl) (λxs=>by kernel_rfl))
 λxs h=>vy (k:=2) (by kernel_rfl) rfl xs.length h⟩
instance Kg:Has (kW 46 (.int .u32)):=⟨qn
 (lr (g:=λxs=>roomFor Tryz.prog 101 (0+xs.length)) (fn:=Tryz.f46) (T:=77) (B:=4) (el:=101) (ety:=pj Tryz.prog owned) (by kernel_rfl) (by kernel_rfl) (by kernel_rfl) (by kernel_rfl) (by kernel_rfl) (by kernel_rfl) (by kernel_rfl) (λxs=>by kernel_rfl))
 λxs h=>vy (k:=4) (by kernel_rfl) rfl xs.length h⟩
instance KG:Has (kW 185 (.int .u8)):=⟨qn
 (lr (g:=λxs=>roomFor Tryz.prog 5 (0+xs.length)) (fn:=Tryz.f185) (T:=67) (B:=4) (el:=5) (ety:=pj Tryz.prog owned) (by kernel_rfl) (by kernel_rfl) (by kernel_rfl) (by kernel_rfl) (by kernel_rfl) (by kernel_rfl) (by kernel_rfl) (λxs=>by kernel_rfl))
 λxs h=>vy (k:=1) (by kernel_rfl) rfl xs.length h⟩
instance J9:Has (oI 112 183 bO) :=
 ⟨lr (g:=λxs=>decide ((0+xs.length)*112<=2^47)) (fn:=Tryz.f183) (T:=128) (B:=4) (el:=210) (ety:=pj Tryz.prog owned) (by kernel_rfl) (by kernel_rfl) (by kernel_rfl) (by kernel_rfl) (by kernel_rfl) (by kernel_rfl) (by kernel_rfl) (λxs=>by kernel_rfl)⟩
instance JG:Has (oI 112 184 bH) :=
 ⟨lr (g:=λxs=>decide ((0+xs.length)*112<=2^47)) (fn:=Tryz.f184) (T:=129) (B:=4) (el:=185) (ety:=pj Tryz.prog owned) (by kernel_rfl) (by kernel_rfl) (by kernel_rfl) (by kernel_rfl) (by kernel_rfl) (by kernel_rfl) (by kernel_rfl) (λxs=>by kernel_rfl)⟩
instance J5:Has (kW 158 .str):=⟨qn
 (lr (g:=λxs=>roomFor Tryz.prog 9 (0+xs.length)) (fn:=Tryz.f158) (T:=108) (B:=4) (el:=9) (ety:=pj Tryz.prog owned) (by kernel_rfl) (by kernel_rfl) (by kernel_rfl) (by kernel_rfl) (by kernel_rfl) (by kernel_rfl) (by kernel_rfl) (λxs=>by kernel_rfl))
 λxs h=>vy (k:=16) (by kernel_rfl) rfl xs.length h⟩
instance:Has (s7 431):=⟨GZ⟩
instance:Has (sy 122):=⟨HQ⟩
end Go.Mach

