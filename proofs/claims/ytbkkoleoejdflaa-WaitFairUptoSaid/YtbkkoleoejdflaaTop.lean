/-
  Proved here: the law WaitFair of chapter 22 (who came first to a place is woken first) returns true for every input of at most 1048576 values and letters.
  Part Top of the texts. By an AI agent; no person has read it.
-/
import Derived.Test.YtbkkoleoejdflaaLaw
set_option linter.all false
set_option linter.deprecated false
set_option maxRecDepth 100000
namespace Go.Proofs.Ytbkkoleoejdflaa.waitFair
open Go.Mach Go.ChangeShapes Go.WideShapes Go.ChangeAt Go.RowKit

theorem lifted (os : Os) (started : os.Started) (H : Type) (enc : TypeId × Value → H) (F : Stop.Interp) :
    ReturnsInHanded {} Try.checked os 3 .any ((Rows.OpenSpec.upto Rows.waitFairSpec).pre6 enc Try.prog Try.f3 Rows.waitFairUptoRow.domain false) (((Rows.OpenSpec.upto Rows.waitFairSpec).at F).post enc Try.prog Try.f3 false true false false) := by
  refine returnsInHanded_of_cond (C := Try.checked) (s := Rows.OpenSpec.upto Rows.waitFairSpec) (k := Rows.uptoSmall) rfl own_knob started (by kernel_rfl) Try.func3
    (OpenSpec.witness (enc := enc) (C := Try.checked) (s := Rows.OpenSpec.upto Rows.waitFairSpec) (k := Rows.uptoSmall) rfl false ⟨#[], #[.slice none 0 0, .slice none 0 0, .int .i64 0], []⟩ 8 (by kernel_rfl) (by kernel_rfl) (by kernel_rfl)
      (x := ([.nil, .nil, .lit (.int .i64 0)], [], [])) (by kernel_rfl) rfl (by kernel_rfl)) ?_
  intro W base args ds gs before hval hW _ hk _
  exact law_post (s := Rows.waitFairSpec) (tb := 4) renlaw22_WaitFair.ok (by kernel_rfl) (by decide) rfl (by kernel_rfl) bool_type
    (fun ds h => by match ds, h with | [_, _, _], _ => rfl) (fun x hx => fair_law x.1 x.2.1 x.2.2) sm_of hval hW (sm_all hk)

theorem over : Rows.waitFairUptoRow.holds Try.pinned (Rows.OpenSpec.upto Rows.waitFairSpec) :=
  OpenClaim.holds_of_cond 3 Try.f3 rfl rfl rfl rfl rfl rfl rfl ⟨rfl, rfl, rfl, rfl, rfl⟩ rfl rfl rfl rfl rfl (by kernel_rfl) Try.func3 (by kernel_rfl)
    (of_decide_eq_true (by kernel_rfl)) (by unfold Func.isWrapper; first | (rw [if_pos (by decide +kernel)]; kernel_rfl) | (rw [if_neg (by decide +kernel)]; exact ⟨rfl, rfl⟩))
    (fun os started H enc _ F => lifted os started H enc F)

theorem proved : Rows.WaitFairUptoSaid := over
end Go.Proofs.Ytbkkoleoejdflaa.waitFair
