/-
  Shared texts of the proofs of the laws renlaw13.AgentRefuses, renlaw13.AgentIs and renlaw13.AgentApart: each returns true for every input of the stated bulk and leaves its arguments as they were; no further condition.
  By an AI agent; no person has read it.
-/
import Derived.Test.YtfmfdkbpemiocaaGreatDoorPac
import Derived.Test.YtfmfdkbpemiocaaGreatDoorPaf
import Derived.Test.YtfmfdkbpemiocaaGreatDoorPat
import Derived.KernelRfl
import Derived.Test.YtfmfdkbpemiocaaGreatDoorProg
set_option linter.all false
set_option linter.deprecated false
set_option maxRecDepth 100000
set_option linter.unusedVariables false
namespace Go.Mach
open Go.Proofs
theorem mixed:Tryz.prog.follows .mixedOrders=true:=by kernel_rfl
class Has (sp:Spec):Prop where
 ok:kD Tryz.prog yb sp
class kU (l:List Spec):Prop where
 ok:∀ sp∈l,kD Tryz.prog yb sp
instance:kU []:=⟨λ_ h=>by cases h⟩
instance {s:Spec}{l:List Spec} [a:Has s] [b:kU l]:kU (s::l):=⟨λsp hm=>by
 rcases List.mem_cons.1 hm with rfl|hm
 ·exact a.ok
 ·exact b.ok sp hm⟩
theorem Has.of{l:List Spec}{sp:Spec}{ann:Ann}(h:Eqn (Q l) sp ann)[b:kU l]:Has sp:=⟨h.AY mixed (.nr b.ok rfl)⟩
theorem Has.stuck{E:Env}{sp:Spec}{ann:Ann}(h:Eqn E sp ann){run:j8 (sp.ps.map Par.v)->Res (outs (j8 sp.rs) (boxes sp.ps))}(hP:E.P=Tryz.prog)(h0:∀ x,run x=.stuck):Has ⟨sp.f,sp.ps,sp.rs,run⟩:=⟨hP▸h.stuck h0⟩
theorem Has.inl{E:Env}{j:Inl}{sp:Spec}{ann:Ann}(h:Eqn E sp ann)(hP:E.P=Tryz.prog)(hi:E.inls=[j])(hj:Ck Tryz.prog yb j)[b:kU E.specs]:Has sp:=⟨by
 obtain ⟨P,specs,ety,dr,sbs,maps,kok,inls⟩:=E;cases hP
 exact h.AY mixed ⟨b.ok,λi hm=>by
  rw [hi] at hm;obtain rfl:=List.mem_singleton.1 hm
  exact hj⟩⟩
theorem oG{P:Program}{Gl:rJ}{f:FuncId}{e:Ty}{g:List e.den->Bool}(h:kD P Gl (uM f e g))(hg:∀ xs:List e.den,eP (.frz e) xs.length=true->g xs=true):kD P Gl (iC f e):=by
 refine ⟨h.fn,h.obj,λw Z Y S args x Ψ hsat hG hZ hY hS hV=>?_⟩;refine h.run w Z Y S args x Ψ ?_ hG hZ hY hS hV
 have hok:eP (.frz e) (List.length (show List e.den from x))=true:=hV.ok
 show (Res.aa (g x) (Res.ok x)).sat Ψ;rw [hg x hok];exact hsat
theorem sI{P:Program}{el:TypeId}{e:Ty}{k:Nat}(hb:P.bytesOf el=k)(he:e.jH=k)(n:Nat)(h:eP (.frz e) n=true):roomFor P el (0+n)=true:=by
 unfold roomFor;rw [Nat.zero_add,hb,<- he];exact h
instance Hf:Has (iC 32 (.int .u16)):=⟨oG
 (jM (g:=λxs=>roomFor Tryz.prog 72 (0+xs.length)) (fn:=Tryz.f32) (T:=35) (B:=4) (el:=72) (ety:=mP Tryz.prog owned) (by kernel_rfl) (by kernel_rfl) (by kernel_rfl) (by kernel_rfl) (by kernel_rfl) (by kernel_rfl) (by kernel_rfl) (λxs=>by kernel_rfl))
 λxs h=>sI (k:=2) (by kernel_rfl) rfl xs.length h⟩
instance Hz:Has (iC 46 (.int .u32)):=⟨oG
 (jM (g:=λxs=>roomFor Tryz.prog 101 (0+xs.length)) (fn:=Tryz.f46) (T:=77) (B:=4) (el:=101) (ety:=mP Tryz.prog owned) (by kernel_rfl) (by kernel_rfl) (by kernel_rfl) (by kernel_rfl) (by kernel_rfl) (by kernel_rfl) (by kernel_rfl) (λxs=>by kernel_rfl))
 λxs h=>sI (k:=4) (by kernel_rfl) rfl xs.length h⟩
instance Hn:Has (iC 47 (.int .i64)):=⟨oG
 (jM (g:=λxs=>roomFor Tryz.prog 3 (0+xs.length)) (fn:=Tryz.f47) (T:=80) (B:=4) (el:=3) (ety:=mP Tryz.prog owned) (by kernel_rfl) (by kernel_rfl) (by kernel_rfl) (by kernel_rfl) (by kernel_rfl) (by kernel_rfl) (by kernel_rfl) (λxs=>by kernel_rfl))
 λxs h=>sI (k:=8) (by kernel_rfl) rfl xs.length h⟩
instance Hi:Has (mI 120 45 aE) :=
 ⟨jM (g:=λxs=>decide ((0+xs.length)*120<=2^47)) (fn:=Tryz.f45) (T:=22) (B:=4) (el:=82) (ety:=mP Tryz.prog owned) (by kernel_rfl) (by kernel_rfl) (by kernel_rfl) (by kernel_rfl) (by kernel_rfl) (by kernel_rfl) (by kernel_rfl) (λxs=>by kernel_rfl)⟩
instance Gx:Has (iC 185 (.int .u8)):=⟨oG
 (jM (g:=λxs=>roomFor Tryz.prog 5 (0+xs.length)) (fn:=Tryz.f185) (T:=67) (B:=4) (el:=5) (ety:=mP Tryz.prog owned) (by kernel_rfl) (by kernel_rfl) (by kernel_rfl) (by kernel_rfl) (by kernel_rfl) (by kernel_rfl) (by kernel_rfl) (λxs=>by kernel_rfl))
 λxs h=>sI (k:=1) (by kernel_rfl) rfl xs.length h⟩
instance HF:Has (mI 112 183 bR) :=
 ⟨jM (g:=λxs=>decide ((0+xs.length)*112<=2^47)) (fn:=Tryz.f183) (T:=128) (B:=4) (el:=210) (ety:=mP Tryz.prog owned) (by kernel_rfl) (by kernel_rfl) (by kernel_rfl) (by kernel_rfl) (by kernel_rfl) (by kernel_rfl) (by kernel_rfl) (λxs=>by kernel_rfl)⟩
instance HA:Has (mI 112 184 bK) :=
 ⟨jM (g:=λxs=>decide ((0+xs.length)*112<=2^47)) (fn:=Tryz.f184) (T:=129) (B:=4) (el:=185) (ety:=mP Tryz.prog owned) (by kernel_rfl) (by kernel_rfl) (by kernel_rfl) (by kernel_rfl) (by kernel_rfl) (by kernel_rfl) (by kernel_rfl) (λxs=>by kernel_rfl)⟩
instance HU:Has (iC 158 .str):=⟨oG
 (jM (g:=λxs=>roomFor Tryz.prog 9 (0+xs.length)) (fn:=Tryz.f158) (T:=108) (B:=4) (el:=9) (ety:=mP Tryz.prog owned) (by kernel_rfl) (by kernel_rfl) (by kernel_rfl) (by kernel_rfl) (by kernel_rfl) (by kernel_rfl) (by kernel_rfl) (λxs=>by kernel_rfl))
 λxs h=>sI (k:=16) (by kernel_rfl) rfl xs.length h⟩
instance Ht:Has (iC 48 aS):=⟨oG
 (jM (g:=λxs=>roomFor Tryz.prog 51 (0+xs.length)) (fn:=Tryz.f48) (T:=27) (B:=4) (el:=51) (ety:=mP Tryz.prog owned) (by kernel_rfl) (by kernel_rfl) (by kernel_rfl) (by kernel_rfl) (by kernel_rfl) (by kernel_rfl) (by kernel_rfl) (λxs=>by kernel_rfl))
 λxs h=>sI (k:=56) (by kernel_rfl) rfl xs.length h⟩
instance:Has (sG 431):=⟨FT⟩
instance:Has (sK 122):=⟨FE⟩
end Go.Mach

