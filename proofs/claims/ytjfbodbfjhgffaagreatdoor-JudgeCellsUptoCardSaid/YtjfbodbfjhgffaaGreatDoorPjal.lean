/-
  A part of the proofs of renlaw25.JudgeErases and renlaw25.JudgeCells: each law returns true for every input of the stated bulk and leaves its arguments as they were; no further condition.
  By an AI agent; no person has read it.
-/
import Derived.Test.YtjfbodbfjhgffaaGreatDoorPjac
import Derived.Test.YtjfbodbfjhgffaaGreatDoorPjai
import Derived.Test.YtjfbodbfjhgffaaGreatDoorPjak
import Derived.KernelRfl
import Derived.Test.YtjfbodbfjhgffaaGreatDoorProg
set_option linter.all false
set_option linter.deprecated false
set_option maxRecDepth 100000
set_option linter.unusedVariables false
namespace Go.Mach
open Go.Proofs
theorem mixed:Tryz.prog.follows .mixedOrders=true:=by kernel_rfl
class Has (sp:Spec):Prop where
 ok:Contract Tryz.prog globs sp
class HasL (l:List Spec):Prop where
 ok:∀ sp∈l,Contract Tryz.prog globs sp
instance:HasL []:=⟨λ_ h=>by cases h⟩
instance {s:Spec}{l:List Spec} [a:Has s] [b:HasL l]:HasL (s::l):=⟨λsp hm=>by
 rcases List.mem_cons.1 hm with rfl|hm
 ·exact a.ok
 ·exact b.ok sp hm⟩
theorem Has.of{l:List Spec}{sp:Spec}{ann:Ann}(h:Eqn (Q l) sp ann)[b:HasL l]:Has sp:=⟨h.contract mixed (.of_specs b.ok rfl)⟩
theorem Has.env{E:Env}{sp:Spec}{ann:Ann}(h:Eqn E sp ann)(hP:E.P=Tryz.prog)(hi:E.inls=[])[b:HasL E.specs]:Has sp:=⟨by
 obtain ⟨P,specs,ety,dr,sbs,maps,kok,inls⟩:=E;cases hP
 exact h.contract mixed (.of_specs b.ok hi)⟩
theorem Has.stuck{E:Env}{sp:Spec}{ann:Ann}(h:Eqn E sp ann){run:dens (sp.ps.map Par.v)->Res (outs (dens sp.rs) (boxes sp.ps))}(hP:E.P=Tryz.prog)(h0:∀ x,run x=.stuck):Has ⟨sp.f,sp.ps,sp.rs,run⟩:=⟨hP▸h.stuck h0⟩
theorem Has.inl{E:Env}{j:Inl}{sp:Spec}{ann:Ann}(h:Eqn E sp ann)(hP:E.P=Tryz.prog)(hi:E.inls=[j])(hj:InlOk Tryz.prog globs j)[b:HasL E.specs]:Has sp:=⟨by
 obtain ⟨P,specs,ety,dr,sbs,maps,kok,inls⟩:=E;cases hP
 exact h.contract mixed ⟨b.ok,λi hm=>by
  rw [hi] at hm;obtain rfl:=List.mem_singleton.1 hm
  exact hj⟩⟩
theorem clone_room{P:Program}{Gl:Glob}{f:FuncId}{e:Ty}{g:List e.den->Bool}(h:Contract P Gl (cloneSp f e g))(hg:∀ xs:List e.den,lenOkS (.frz e) xs.length=true->g xs=true):Contract P Gl (cloneSpec f e):=by
 refine ⟨h.fn,h.obj,λw Z Y S args x Ψ hsat hG hZ hY hS hV=>?_⟩;refine h.run w Z Y S args x Ψ ?_ hG hZ hY hS hV
 have hok:lenOkS (.frz e) (List.length (show List e.den from x))=true:=hV.ok
 show (Res.need (g x) (Res.ok x)).sat Ψ;rw [hg x hok];exact hsat
theorem room_of{P:Program}{el:TypeId}{e:Ty}{k:Nat}(hb:P.bytesOf el=k)(he:e.minB=k)(n:Nat)(h:lenOkS (.frz e) n=true):roomFor P el (0+n)=true:=by
 unfold roomFor;rw [Nat.zero_add,hb,<- he];exact h
instance clone_ok_160:Has (cloneSpec 160 (.int .u16)):=⟨clone_room
 (clone_contract (g:=λxs=>roomFor Tryz.prog 140 (0+xs.length)) (fn:=Tryz.f160) (T:=132) (B:=4) (el:=140) (ety:=etyOf Tryz.prog owned) (by kernel_rfl) (by kernel_rfl) (by kernel_rfl) (by kernel_rfl) (by kernel_rfl) (by kernel_rfl) (by kernel_rfl) (λxs=>by kernel_rfl))
 λxs h=>room_of (k:=2) (by kernel_rfl) rfl xs.length h⟩
instance clone_ok_161:Has (cloneSpec 161 (.int .u32)):=⟨clone_room
 (clone_contract (g:=λxs=>roomFor Tryz.prog 159 (0+xs.length)) (fn:=Tryz.f161) (T:=217) (B:=4) (el:=159) (ety:=etyOf Tryz.prog owned) (by kernel_rfl) (by kernel_rfl) (by kernel_rfl) (by kernel_rfl) (by kernel_rfl) (by kernel_rfl) (by kernel_rfl) (λxs=>by kernel_rfl))
 λxs h=>room_of (k:=4) (by kernel_rfl) rfl xs.length h⟩
instance clone_ok_162:Has (cloneSpec 162 (.int .i64)):=⟨clone_room
 (clone_contract (g:=λxs=>roomFor Tryz.prog 3 (0+xs.length)) (fn:=Tryz.f162) (T:=57) (B:=4) (el:=3) (ety:=etyOf Tryz.prog owned) (by kernel_rfl) (by kernel_rfl) (by kernel_rfl) (by kernel_rfl) (by kernel_rfl) (by kernel_rfl) (by kernel_rfl) (λxs=>by kernel_rfl))
 λxs h=>room_of (k:=8) (by kernel_rfl) rfl xs.length h⟩
instance clone_ok_159:Has (cloneSpecN 120 159 T_api_Node) :=
 ⟨clone_contract (g:=λxs=>decide ((0+xs.length)*120<=2^47)) (fn:=Tryz.f159) (T:=96) (B:=4) (el:=221) (ety:=etyOf Tryz.prog owned) (by kernel_rfl) (by kernel_rfl) (by kernel_rfl) (by kernel_rfl) (by kernel_rfl) (by kernel_rfl) (by kernel_rfl) (λxs=>by kernel_rfl)⟩
instance clone_ok_443:Has (cloneSpec 443 (.int .u8)):=⟨clone_room
 (clone_contract (g:=λxs=>roomFor Tryz.prog 5 (0+xs.length)) (fn:=Tryz.f443) (T:=56) (B:=4) (el:=5) (ety:=etyOf Tryz.prog owned) (by kernel_rfl) (by kernel_rfl) (by kernel_rfl) (by kernel_rfl) (by kernel_rfl) (by kernel_rfl) (by kernel_rfl) (λxs=>by kernel_rfl))
 λxs h=>room_of (k:=1) (by kernel_rfl) rfl xs.length h⟩
instance clone_ok_441:Has (cloneSpecN 112 441 T_heap_Prop) :=
 ⟨clone_contract (g:=λxs=>decide ((0+xs.length)*112<=2^47)) (fn:=Tryz.f441) (T:=395) (B:=4) (el:=487) (ety:=etyOf Tryz.prog owned) (by kernel_rfl) (by kernel_rfl) (by kernel_rfl) (by kernel_rfl) (by kernel_rfl) (by kernel_rfl) (by kernel_rfl) (λxs=>by kernel_rfl)⟩
instance clone_ok_442:Has (cloneSpecN 112 442 T_heap_Slot) :=
 ⟨clone_contract (g:=λxs=>decide ((0+xs.length)*112<=2^47)) (fn:=Tryz.f442) (T:=396) (B:=4) (el:=464) (ety:=etyOf Tryz.prog owned) (by kernel_rfl) (by kernel_rfl) (by kernel_rfl) (by kernel_rfl) (by kernel_rfl) (by kernel_rfl) (by kernel_rfl) (λxs=>by kernel_rfl)⟩
instance clone_ok_431:Has (cloneSpec 431 .str):=⟨clone_room
 (clone_contract (g:=λxs=>roomFor Tryz.prog 9 (0+xs.length)) (fn:=Tryz.f431) (T:=107) (B:=4) (el:=9) (ety:=etyOf Tryz.prog owned) (by kernel_rfl) (by kernel_rfl) (by kernel_rfl) (by kernel_rfl) (by kernel_rfl) (by kernel_rfl) (by kernel_rfl) (λxs=>by kernel_rfl))
 λxs h=>room_of (k:=16) (by kernel_rfl) rfl xs.length h⟩
instance clone_ok_197:Has (cloneSpec 197 T_eval_Ans):=⟨clone_room
 (clone_contract (g:=λxs=>roomFor Tryz.prog 147 (0+xs.length)) (fn:=Tryz.f197) (T:=144) (B:=4) (el:=147) (ety:=etyOf Tryz.prog owned) (by kernel_rfl) (by kernel_rfl) (by kernel_rfl) (by kernel_rfl) (by kernel_rfl) (by kernel_rfl) (by kernel_rfl) (λxs=>by kernel_rfl))
 λxs h=>room_of (k:=56) (by kernel_rfl) rfl xs.length h⟩
end Go.Mach

