/-
  Proved here: the law WaitTimes of chapter 22 (behind an expiry nobody waits whose time has come; a later one takes no one twice) returns true for every input of at most 1048576 values and letters.
  Part Top of the texts. By an AI agent; no person has read it.
-/
import Derived.Test.YtbkkoleoejdflaaLaw
set_option linter.all false
set_option linter.deprecated false
set_option maxRecDepth 100000
namespace Go.Proofs.Ytbkkoleoejdflaa.waitTimes
open Go.Mach Go.ChangeShapes Go.WideShapes Go.ChangeAt Go.RowKit

theorem lifted (os : Os) (started : os.Started) (H : Type) (enc : TypeId × Value → H) (F : Stop.Interp) :
    ReturnsInHanded {} Try.checked os 5 .any ((Rows.OpenSpec.upto Rows.waitTimesSpec).pre6 enc Try.prog Try.f5 Rows.waitTimesUptoRow.domain false) (((Rows.OpenSpec.upto Rows.waitTimesSpec).at F).post enc Try.prog Try.f5 false true false false) := by
  refine returnsInHanded_of_cond (C := Try.checked) (s := Rows.OpenSpec.upto Rows.waitTimesSpec) (k := Rows.uptoSmall) rfl own_knob started (by kernel_rfl) Try.func5
    (OpenSpec.witness (enc := enc) (C := Try.checked) (s := Rows.OpenSpec.upto Rows.waitTimesSpec) (k := Rows.uptoSmall) rfl false ⟨#[], #[.slice none 0 0, .int .i64 0, .int .i64 0], []⟩ 8 (by kernel_rfl) (by kernel_rfl) (by kernel_rfl)
      (x := ([.nil, .lit (.int .i64 0), .lit (.int .i64 0)], [], [])) (by kernel_rfl) rfl (by kernel_rfl)) ?_
  intro W base args ds gs before hval hW _ hk _
  exact law_post (s := Rows.waitTimesSpec) (tb := 4) renlaw22_WaitTimes.ok (by kernel_rfl) (by decide) rfl (by kernel_rfl) bool_type
    (fun ds h => by match ds, h with | [_, _, _], _ => rfl) (fun x hx => times_law x.1 x.2.1 x.2.2) sm_of hval hW (sm_all hk)

theorem over : Rows.waitTimesUptoRow.holds Try.pinned (Rows.OpenSpec.upto Rows.waitTimesSpec) :=
  OpenClaim.holds_of_cond 5 Try.f5 rfl rfl rfl rfl rfl rfl rfl ⟨rfl, rfl, rfl, rfl, rfl⟩ rfl rfl rfl rfl rfl (by kernel_rfl) Try.func5 (by kernel_rfl)
    (of_decide_eq_true (by kernel_rfl)) (by unfold Func.isWrapper; first | (rw [if_pos (by decide +kernel)]; kernel_rfl) | (rw [if_neg (by decide +kernel)]; exact ⟨rfl, rfl⟩))
    (fun os started H enc _ F => lifted os started H enc F)

theorem proved : Rows.WaitTimesUptoSaid := over
end Go.Proofs.Ytbkkoleoejdflaa.waitTimes
