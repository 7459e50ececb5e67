/-
  HeapPlaysUptoSaid: any series of up to 300 heap operations answers as the reference heap does
  Part Top of the texts. By an AI agent; no person has read it.
-/
import Derived.Test.YtcmodlcodhblcaaLaw
set_option linter.all false
set_option linter.deprecated false
set_option maxRecDepth 100000
namespace Go.Proofs.Ytcmodlcodhblcaa.heapPlays
open Go.Mach Go.ChangeShapes Go.WideShapes Go.ChangeAt Go.RowKit

theorem lifted (os : Os) (started : os.Started) (H : Type) (enc : TypeId × Value → H) (F : Stop.Interp) :
    ReturnsInHanded {} Try.checked os 9 .any ((Rows.OpenSpec.upto Rows.heapPlaysSpec).pre6 enc Try.prog Try.f9 Rows.heapPlaysUptoRow.domain false) (((Rows.OpenSpec.upto Rows.heapPlaysSpec).at F).post enc Try.prog Try.f9 false true false false) := by
  refine returnsInHanded_of_cond (C := Try.checked) (s := Rows.OpenSpec.upto Rows.heapPlaysSpec) (k := Rows.uptoSmall) rfl own_knob started (by kernel_rfl) Try.func9
    (OpenSpec.witness (enc := enc) (C := Try.checked) (s := Rows.OpenSpec.upto Rows.heapPlaysSpec) (k := Rows.uptoSmall) rfl false ⟨#[], #[.int .i64 0, .slice none 0 0], []⟩ 8 (by kernel_rfl) (by kernel_rfl) (by kernel_rfl)
      (x := ([.lit (.int .i64 0), .nil], [], [])) (by kernel_rfl) rfl (by kernel_rfl)) ?_
  intro W base args ds gs before hval hW _ hk _
  exact law_post (s := Rows.heapPlaysSpec) (tb := 4) renlaw9_HeapPlays.ok (by kernel_rfl) (by decide) rfl (by kernel_rfl) bool_type
    (fun ds h => by match ds, h with | [_, _], _ => rfl) (fun x hx => plays_law x.1 x.2) sm_of hval hW (sm_all hk)

theorem over : Rows.heapPlaysUptoRow.holds Try.pinned (Rows.OpenSpec.upto Rows.heapPlaysSpec) :=
  OpenClaim.holds_of_cond 9 Try.f9 rfl rfl rfl rfl rfl rfl rfl ⟨rfl, rfl, rfl, rfl, rfl⟩ rfl rfl rfl rfl rfl (by kernel_rfl) Try.func9 (by kernel_rfl)
    (of_decide_eq_true (by kernel_rfl)) (by unfold Func.isWrapper; first | (rw [if_pos (by decide +kernel)]; kernel_rfl) | (rw [if_neg (by decide +kernel)]; exact ⟨rfl, rfl⟩))
    (fun os started H enc _ F => lifted os started H enc F)

theorem proved : Rows.HeapPlaysUptoSaid := over
end Go.Proofs.Ytcmodlcodhblcaa.heapPlays
