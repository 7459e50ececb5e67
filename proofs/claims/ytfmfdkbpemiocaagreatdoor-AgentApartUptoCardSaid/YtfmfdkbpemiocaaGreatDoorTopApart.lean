/-
  Proved here: the law renlaw13.AgentApart returns true for every input of the stated bulk and leaves its arguments as they were; no further condition.
  By an AI agent; no person has read it.
-/
import Derived.Test.YtfmfdkbpemiocaaGreatDoorPac
import Derived.Test.YtfmfdkbpemiocaaGreatDoorPbg
import Derived.Test.YtfmfdkbpemiocaaGreatDoorPbh
set_option linter.all false
set_option linter.deprecated false
set_option maxRecDepth 100000
namespace Go.Proofs.YtfmfdkbpemiocaaGreatDoor.agentApart
open Go.Mach Go.ChangeShapes Go.WideShapes Go.ChangeAt Go.RowKit
theorem goes:false=Rows.agentApartUptoRow.goesBy Tryz.prog:=tG v8 rfl
theorem reads(os:Os){H:Type}(enc:TypeId×Value->H):∃ places,DataW.whole enc Tryz.prog ((oF os).forCall (λ_ _=>0) ⟨#[],#[.agg #[.slice none 0 0],.agg #[.int .i64 0,.int .i64 0,.int .i64 0],.slice none 0 0,.int .i64 0],[]⟩).memory Tryz.f6.params.toList Rows.agentApartSpec.vars false (#[.agg #[.slice none 0 0],.agg #[.int .i64 0,.int .i64 0,.int .i64 0],.slice none 0 0,.int .i64 0]:Array Value).toList 8=some ([.agg [.nil],.agg [.lit (.int .i64 0),.lit (.int .i64 0),.lit (.int .i64 0)],.nil,.lit (.int .i64 0)],[],places) :=
 ⟨[],by kernel_rfl⟩
theorem lifted(os:Os)(started:os.Started)(H:Type)(enc:TypeId×Value->H)(F:Stop.Interp) :
  ReturnsInHanded {} Tryz.checked os 6 .any ((Rows.OpenSpec.upto Rows.agentApartSpec).preRow enc Tryz.prog Tryz.f6 Rows.agentApartUptoRow.domain false Rows.agentApartUptoRow.laid) (((Rows.OpenSpec.upto Rows.agentApartSpec).at F).post enc Tryz.prog Tryz.f6 false true false false):=by
 obtain ⟨places,hx⟩:=reads os enc
 refine returnsInHanded_of_row (C:=Tryz.checked) (s:=Rows.OpenSpec.upto Rows.agentApartSpec) w3 started (by kernel_rfl) Tryz.func6
  (witness_row_at (enc:=enc) (C:=Tryz.checked) false (oF os) #[.agg #[.slice none 0 0],.agg #[.int .i64 0,.int .i64 0,.int .i64 0],.slice none 0 0,.int .i64 0] rfl (by kernel_rfl) (by kernel_rfl) (by kernel_rfl)
   (OpenSpec.preRow_of_cond 8 hx (by kernel_rfl) (λk hk=>by cases hk;kernel_rfl) (by kernel_rfl) (xC os _))) ?_
 intro W base args ds gs before hval hW _ hk _ hL hS _
 exact uu (s:=Rows.agentApartSpec) (tb:=4) cn.ok.ok (by kernel_rfl) (by decide) rfl (by kernel_rfl) uz
  (λds h=>by match ds,h with|[_,_,_,_],_=>rfl) (λx hx=>wO x.1 x.2.1 x.2.2.1 x.2.2.2) El (wW hL hS) hval hW (BB (hk _ rfl))
theorem over:Rows.AgentApartUptoSaid :=
 OpenClaim.holds_of_cond 6 Tryz.f6 rfl rfl rfl rfl rfl rfl rfl ⟨rfl,rfl,rfl,rfl,rfl⟩ rfl rfl rfl rfl rfl (by kernel_rfl) Tryz.func6 closed
  (of_decide_eq_true (by kernel_rfl)) (by unfold Func.isWrapper;first|(rw [if_pos (by decide +kernel)];kernel_rfl)|(rw [if_neg (by decide +kernel)];exact ⟨rfl,rfl⟩))
  (λos started H enc _ F=>by rw [OpenClaim.pre_eq_preRow];exact lifted os started H enc F)
theorem plain(f:FuncId)(fn:Func)(hf:Tryz.pinned.checked.prog.funcNamed "rendezvous/renlaw13.AgentApart"=some f)(hfn:Tryz.pinned.checked.prog.funcs[f]?=some fn) :
  true=Tryz.pinned.checked.prog.looks []/\∀ (j:Nat) t,fn.params[j]?=some t->Tryz.pinned.checked.prog.wantsStandIn t=false:=by
 obtain rfl:f=6:=Option.some.inj ((show Tryz.prog.funcNamed "rendezvous/renlaw13.AgentApart"=some 6 by kernel_rfl).symm.trans hf) |>.symm
 obtain rfl:fn=Tryz.f6:=(Option.some.inj (Tryz.func6.symm.trans hfn)).symm;refine ⟨by kernel_rfl,λj t ht=>?_⟩;rw [Tryz.params6] at ht
 have h:t=24\/t=26\/t=27\/t=3:=by simpa using Array.mem_of_getElem? ht
 rcases h with rfl|rfl|rfl|rfl<;>(show Tryz.prog.wantsStandIn _=false;kernel_rfl)
theorem proved:Rows.AgentApartUptoCardSaid :=
 Claim7.holds_tied_plain_at .later [] _ _ _ _ over (λ_ h=>by cases h) (by kernel_rfl) (λ_ h=>by cases h) agentApartUpto_row_tie rfl ⟨rfl,rfl⟩ (by kernel_rfl) rfl plain goes
end Go.Proofs.YtfmfdkbpemiocaaGreatDoor.agentApart

