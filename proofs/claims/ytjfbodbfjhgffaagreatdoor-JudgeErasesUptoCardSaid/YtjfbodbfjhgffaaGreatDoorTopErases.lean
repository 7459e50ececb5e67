/-
  Proved here: the law renlaw25.JudgeErases returns true for every input of the stated bulk and leaves its arguments as they were; no further condition.
  By an AI agent; no person has read it.
-/
import Derived.Test.YtjfbodbfjhgffaaGreatDoorPjac
import Derived.Test.YtjfbodbfjhgffaaGreatDoorPjbk
import Derived.Test.YtjfbodbfjhgffaaGreatDoorPjbl
set_option linter.all false
set_option linter.deprecated false
set_option maxRecDepth 100000
namespace Go.Proofs.YtjfbodbfjhgffaaGreatDoor.judgeErases
open Go.Mach Go.ChangeShapes Go.WideShapes Go.ChangeAt Go.RowKit
theorem goes:false=Rows.judgeErasesUptoRow.goesBy Tryz.prog:=goes_false noGoes rfl
theorem reads(os:Os){H:Type}(enc:TypeId×Value->H):∃ places,DataW.whole enc Tryz.prog ((laidWorld os).forCall (λ_ _=>0) ⟨#[],#[.slice none 0 0],[]⟩).memory Tryz.f3.params.toList Rows.judgeErasesSpec.vars false (#[.slice none 0 0]:Array Value).toList 8=some ([.nil],[],places) :=
 ⟨[],by kernel_rfl⟩
theorem lifted(os:Os)(started:os.Started)(H:Type)(enc:TypeId×Value->H)(F:Stop.Interp) :
  ReturnsInHanded {} Tryz.checked os 3 .any ((Rows.OpenSpec.upto Rows.judgeErasesSpec).preRow enc Tryz.prog Tryz.f3 Rows.judgeErasesUptoRow.domain false Rows.judgeErasesUptoRow.laid) (((Rows.OpenSpec.upto Rows.judgeErasesSpec).at F).post enc Tryz.prog Tryz.f3 false true false false):=by
 obtain ⟨places,hx⟩:=reads os enc
 refine returnsInHanded_of_row (C:=Tryz.checked) (s:=Rows.OpenSpec.upto Rows.judgeErasesSpec) own_knob started (by kernel_rfl) Tryz.func3
  (witness_row_at (enc:=enc) (C:=Tryz.checked) false (laidWorld os) #[.slice none 0 0] rfl (by kernel_rfl) (by kernel_rfl) (by kernel_rfl)
   (OpenSpec.preRow_of_cond 8 hx (by kernel_rfl) (λk hk=>by cases hk;kernel_rfl) (by kernel_rfl) (laid_met os _))) ?_
 intro W base args ds gs before hval hW _ hk _ hL hS _
 exact law_post' (s:=Rows.judgeErasesSpec) (tb:=4) renlaw25_JudgeErases.ok.ok (by kernel_rfl) (by decide) rfl (by kernel_rfl) bool_type
  (λds h=>by match ds,h with|[_],_=>rfl) (λx hx=>JudgeErases_law x) sm_of (globs_at hL hS) hval hW (sm_all (hk _ rfl))
theorem over:Rows.JudgeErasesUptoSaid :=
 OpenClaim.holds_of_cond 3 Tryz.f3 rfl rfl rfl rfl rfl rfl rfl ⟨rfl,rfl,rfl,rfl,rfl⟩ rfl rfl rfl rfl rfl (by kernel_rfl) Tryz.func3 closed
  (of_decide_eq_true (by kernel_rfl)) (by unfold Func.isWrapper;first|(rw [if_pos (by decide +kernel)];kernel_rfl)|(rw [if_neg (by decide +kernel)];exact ⟨rfl,rfl⟩))
  (λos started H enc _ F=>by rw [OpenClaim.pre_eq_preRow];exact lifted os started H enc F)
theorem pn:Tryz.prog.funcNamed "rendezvous/renlaw25.JudgeErases"=some 3:=by kernel_rfl
theorem pl:true=Tryz.pinned.checked.prog.looks []:=by kernel_rfl
theorem pw22:Tryz.prog.wantsStandIn 22=false:=by kernel_rfl
theorem plain(f:FuncId)(fn:Func)(hf:Tryz.pinned.checked.prog.funcNamed "rendezvous/renlaw25.JudgeErases"=some f)(hfn:Tryz.pinned.checked.prog.funcs[f]?=some fn) :
  true=Tryz.pinned.checked.prog.looks []/\∀ (j:Nat) t,fn.params[j]?=some t->Tryz.pinned.checked.prog.wantsStandIn t=false:=by
 obtain rfl:f=3:=Option.some.inj (pn.symm.trans hf) |>.symm;obtain rfl:fn=Tryz.f3:=(Option.some.inj (Tryz.func3.symm.trans hfn)).symm;refine ⟨pl,λj t ht=>?_⟩;rw [Tryz.params3] at ht
 have h:t=22:=by simpa using Array.mem_of_getElem? ht
 rcases h with rfl
 ·exact pw22
theorem proved:Rows.JudgeErasesUptoCardSaid :=
 Claim7.holds_tied_plain_at .later [] _ _ _ _ over (λ_ h=>by cases h) (by kernel_rfl) (λ_ h=>by cases h) judgeErasesUpto_row_tie rfl ⟨rfl,rfl⟩ (by kernel_rfl) rfl plain goes
end Go.Proofs.YtjfbodbfjhgffaaGreatDoor.judgeErases

