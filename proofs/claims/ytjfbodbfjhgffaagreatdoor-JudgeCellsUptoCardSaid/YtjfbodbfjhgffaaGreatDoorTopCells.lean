/-
  Proved here: the law renlaw25.JudgeCells returns true for every input of the stated bulk and leaves its arguments as they were; no further condition.
  By an AI agent; no person has read it.
-/
import Derived.Test.YtjfbodbfjhgffaaGreatDoorPjac
import Derived.Test.YtjfbodbfjhgffaaGreatDoorPjbp
import Derived.Test.YtjfbodbfjhgffaaGreatDoorPjbq
set_option linter.all false
set_option linter.deprecated false
set_option maxRecDepth 100000
namespace Go.Proofs.YtjfbodbfjhgffaaGreatDoor.judgeCells
open Go.Mach Go.ChangeShapes Go.WideShapes Go.ChangeAt Go.RowKit
theorem goes:false=Rows.judgeCellsUptoRow.goesBy Tryz.prog:=goes_false noGoes rfl
theorem reads(os:Os){H:Type}(enc:TypeId×Value->H):∃ places,DataW.whole enc Tryz.prog ((laidWorld os).forCall (λ_ _=>0) ⟨#[],#[.agg #[.slice none 0 0,.slice none 0 0]],[]⟩).memory Tryz.f4.params.toList Rows.judgeCellsSpec.vars false (#[.agg #[.slice none 0 0,.slice none 0 0]]:Array Value).toList 8=some ([.agg [.nil,.nil]],[],places) :=
 ⟨[],by kernel_rfl⟩
theorem lifted(os:Os)(started:os.Started)(H:Type)(enc:TypeId×Value->H)(F:Stop.Interp) :
  ReturnsInHanded {} Tryz.checked os 4 .any ((Rows.OpenSpec.upto Rows.judgeCellsSpec).preRow enc Tryz.prog Tryz.f4 Rows.judgeCellsUptoRow.domain false Rows.judgeCellsUptoRow.laid) (((Rows.OpenSpec.upto Rows.judgeCellsSpec).at F).post enc Tryz.prog Tryz.f4 false true false false):=by
 obtain ⟨places,hx⟩:=reads os enc
 refine returnsInHanded_of_row (C:=Tryz.checked) (s:=Rows.OpenSpec.upto Rows.judgeCellsSpec) own_knob started (by kernel_rfl) Tryz.func4
  (witness_row_at (enc:=enc) (C:=Tryz.checked) false (laidWorld os) #[.agg #[.slice none 0 0,.slice none 0 0]] rfl (by kernel_rfl) (by kernel_rfl) (by kernel_rfl)
   (OpenSpec.preRow_of_cond 8 hx (by kernel_rfl) (λk hk=>by cases hk;kernel_rfl) (by kernel_rfl) (laid_met os _))) ?_
 intro W base args ds gs before hval hW _ hk _ hL hS _
 exact law_post' (s:=Rows.judgeCellsSpec) (tb:=4) renlaw25_JudgeCells.ok.ok (by kernel_rfl) (by decide) rfl (by kernel_rfl) bool_type
  (λds h=>by match ds,h with|[_],_=>rfl) (λx hx=>JudgeCells_law x) sm_of (globs_at hL hS) hval hW (sm_all (hk _ rfl))
theorem over:Rows.JudgeCellsUptoSaid :=
 OpenClaim.holds_of_cond 4 Tryz.f4 rfl rfl rfl rfl rfl rfl rfl ⟨rfl,rfl,rfl,rfl,rfl⟩ rfl rfl rfl rfl rfl (by kernel_rfl) Tryz.func4 closed
  (of_decide_eq_true (by kernel_rfl)) (by unfold Func.isWrapper;first|(rw [if_pos (by decide +kernel)];kernel_rfl)|(rw [if_neg (by decide +kernel)];exact ⟨rfl,rfl⟩))
  (λos started H enc _ F=>by rw [OpenClaim.pre_eq_preRow];exact lifted os started H enc F)
theorem pn:Tryz.prog.funcNamed "rendezvous/renlaw25.JudgeCells"=some 4:=by kernel_rfl
theorem pl:true=Tryz.pinned.checked.prog.looks []:=by kernel_rfl
theorem pw35:Tryz.prog.wantsStandIn 35=false:=by kernel_rfl
theorem plain(f:FuncId)(fn:Func)(hf:Tryz.pinned.checked.prog.funcNamed "rendezvous/renlaw25.JudgeCells"=some f)(hfn:Tryz.pinned.checked.prog.funcs[f]?=some fn) :
  true=Tryz.pinned.checked.prog.looks []/\∀ (j:Nat) t,fn.params[j]?=some t->Tryz.pinned.checked.prog.wantsStandIn t=false:=by
 obtain rfl:f=4:=Option.some.inj (pn.symm.trans hf) |>.symm;obtain rfl:fn=Tryz.f4:=(Option.some.inj (Tryz.func4.symm.trans hfn)).symm;refine ⟨pl,λj t ht=>?_⟩;rw [Tryz.params4] at ht
 have h:t=35:=by simpa using Array.mem_of_getElem? ht
 rcases h with rfl
 ·exact pw35
theorem proved:Rows.JudgeCellsUptoCardSaid :=
 Claim7.holds_tied_plain_at .later [] _ _ _ _ over (λ_ h=>by cases h) (by kernel_rfl) (λ_ h=>by cases h) judgeCellsUpto_row_tie rfl ⟨rfl,rfl⟩ (by kernel_rfl) rfl plain goes
end Go.Proofs.YtjfbodbfjhgffaaGreatDoor.judgeCells

