/-
  HeapBytesUptoSaid: renlaw9.HeapBytes answers true for every input of the given bulk, and leaves its arguments as they were.
  Part Law of the texts. By an AI agent; no person has read it.
-/
import Derived.Test.YtcmodlcodhblcaaOks
import Derived.KernelRfl
import Derived.Test.YtcmodlcodhblcaaRows
import Derived.WalkKit
import Derived.ProofKit
import Derived.OpenShut
import Derived.JoinedCond
set_option linter.all false
set_option linter.deprecated false
set_option maxRecDepth 100000
namespace Go.Mach
open Res

abbrev ValT := Int × (Int × Int) × (Bool × List Int) × List Int × Int
abbrev PropT := List Int × ValT
abbrev SlotT := List UInt8 × ValT × Bool × Bool
abbrev CellT := Int × Int × List PropT × List SlotT × List UInt8 × Int × Int × ValT × Int × Int × Int × Int × List Int
abbrev HeapT := Int × List CellT

theorem first_ok : R.renlaw9_first = .ok true := by kernel_rfl

theorem first_sat : R.renlaw9_first.sat (· = true) := by rw [first_ok]; exact rfl

theorem own_ok (v : ValT) : (R.heap_own v).sat (· = v) := by
  unfold R.heap_own
  simp only [law_given_iff, law_bind_iff, law_ok_iff]
  intros
  trivial

/-- Its lists may be copied. -/
def copyOk (c : CellT) : Prop := c.2.2.1.length * 112 ≤ 2 ^ 47 ∧ c.2.2.2.1.length * 112 ≤ 2 ^ 47

theorem copied_ok (c : CellT) (hc : copyOk c) : (R.heap_copied c).sat (· = c) := by
  unfold R.heap_copied
  simp only [law_given_iff, law_bind_iff, law_need_iff, law_ok_iff, decide_eq_true_eq]
  obtain ⟨h1, h2⟩ := hc
  intro _
  refine ⟨by omega, fun _ => ⟨by omega, fun _ _ => ?_⟩⟩
  refine law_call (own_ok _) fun _ => ?_
  refine law_mono (law_for (fun x : Int × List PropT => x.1) c.2.2.1.length (by omega) (fun x => x.2 = c.2.2.1 ∧ 0 ≤ x.1 ∧ x.1 ≤ c.2.2.1.length) (Q := fun y => y = c.2.2.1) ⟨rfl, by simp, by simp⟩ (fun a h => h.2) ?_) ?_
  · rintro ⟨i, xs⟩ ⟨rfl, h3, h4⟩
    simp only [law_br_iff, law_need_iff, law_idx_iff, law_bind_iff, law_given_iff, law_ok_iff, ilt_true, ilt_false, Bool.and_eq_true, ile_true] at h3 h4 ⊢
    refine ⟨fun h5 => ⟨⟨h3, h5⟩, by omega, ?_⟩, fun h5 => trivial⟩
    have h6 : i.toNat < c.2.2.1.length := by omega
    refine ⟨_, by rw [idx0]; exact List.getElem?_eq_getElem h6, fun _ _ => ?_⟩
    refine law_call (own_ok _) fun _ => ⟨⟨h3, h5⟩, by omega, _, by rw [idx0]; exact List.getElem?_eq_getElem h6, fun _ => ⟨?_, ?_, ?_, ?_⟩⟩
    · exact wrap64 (by omega)
    · rw [Nat.zero_add]
      exact set_self (List.getElem?_eq_getElem h6)
    · rw [wrap64 (by omega)]; omega
    · rw [wrap64 (by omega)]; omega
  · rintro _ rfl
    refine law_mono (law_for (fun x : Int × List SlotT => x.1) c.2.2.2.1.length (by omega) (fun x => x.2 = c.2.2.2.1 ∧ 0 ≤ x.1 ∧ x.1 ≤ c.2.2.2.1.length) (Q := fun y => y = c.2.2.2.1) ⟨rfl, by simp, by simp⟩ (fun a h => h.2) ?_) ?_
    · rintro ⟨i, xs⟩ ⟨rfl, h3, h4⟩
      simp only [law_br_iff, law_need_iff, law_idx_iff, law_bind_iff, law_given_iff, law_ok_iff, ilt_true, ilt_false, Bool.and_eq_true, ile_true] at h3 h4 ⊢
      refine ⟨fun h5 => ⟨⟨h3, h5⟩, by omega, ?_⟩, fun h5 => trivial⟩
      have h6 : i.toNat < c.2.2.2.1.length := by omega
      refine ⟨_, by rw [idx0]; exact List.getElem?_eq_getElem h6, fun _ => ?_⟩
      refine law_call (own_ok _) fun _ => ⟨⟨h3, h5⟩, by omega, _, by rw [idx0]; exact List.getElem?_eq_getElem h6, fun _ => ⟨?_, ?_, ?_, ?_⟩⟩
      · exact wrap64 (by omega)
      · rw [Nat.zero_add]
        exact set_self (List.getElem?_eq_getElem h6)
      · rw [wrap64 (by omega)]; omega
      · rw [wrap64 (by omega)]; omega
    · rintro _ rfl
      rfl

theorem new_ok (n : Int) : (R.heap_New n).sat (· = (min (max n 0) 4096, [])) := by
  unfold R.heap_New
  simp only [law_given_iff, law_ok_iff]
  intro _
  rw [minI_eq, maxI_eq]

theorem has_ok (h : HeapT) (r : Int) : (R.heap_Heap_has h r).sat (· = (decide (0 ≤ r) && decide (r < h.2.length))) := by
  unfold R.heap_Heap_has
  simp only [law_given_iff, law_ok_iff, law_br_iff, ile, ilt]
  intro _
  exact ⟨fun h => by rw [h]; rfl, fun h => by rw [h]; rfl⟩

/-- Make. -/
def makeF (h : HeapT) (c : CellT) : (Int × Bool) × HeapT :=
  if h.1 ≤ h.2.length then ((0, false), h) else ((h.2.length, true), (h.1, h.2 ++ [c]))
theorem make_ok (h : HeapT) (c : CellT) (hc : copyOk c) (hl : h.2.length ≤ 10000) : (R.heap_Heap_Make h c).sat (· = makeF h c) := by
  unfold R.heap_Heap_Make makeF
  simp only [law_given_iff, law_br_iff, law_ok_iff, law_bind_iff, ile_true, ile_false]
  intro _
  refine ⟨fun h1 => by rw [if_pos h1], fun h1 => ?_⟩
  rw [if_neg (by omega)]
  refine law_call (copied_ok c hc) fun _ => ?_
  simp only [law_need_iff, decide_eq_true_eq, law_ok_iff, List.length_append, List.length_cons, List.length_nil]
  refine ⟨by omega, ?_⟩
  rw [wrap64 (by omega)]
  simp

theorem cell_ok (h : HeapT) (r : Int) (hc : ∀ c ∈ h.2, copyOk c) : (R.heap_Heap_Cell h r).sat fun y => ((0 ≤ r ∧ r < h.2.length) → ∃ c, h.2[r.toNat]? = some c ∧ y = (c, true)) ∧ (¬ (0 ≤ r ∧ r < h.2.length) → y.2 = false) := by
  unfold R.heap_Heap_Cell
  simp only [law_given_iff, law_bind_iff]
  intro _
  refine law_call (has_ok h r) ?_
  simp only [law_br_iff, law_idxS_iff, law_ok_iff, law_bind_iff, law_given_iff]
  refine ⟨fun h1 => ⟨fun h2 => ?_, fun _ => trivial⟩, fun h1 => ?_⟩
  · simp [h2.1, h2.2] at h1
  · simp at h1
    have h6 : r.toNat < h.2.length := by omega
    refine ⟨h1.1, _, List.getElem?_eq_getElem h6, fun _ => ?_⟩
    refine law_call (copied_ok _ (hc _ (List.getElem_mem h6))) fun _ => ?_
    exact ⟨fun _ => ⟨_, List.getElem?_eq_getElem h6, rfl⟩, fun h => absurd h1 h⟩
end Go.Mach

set_option maxRecDepth 100000
namespace Go.Mach
open Res

abbrev CellT.bytes (c : CellT) : List Int := c.2.2.2.2.2.2.2.2.2.2.2.2
def CellT.withBytes (c : CellT) (b : List Int) : CellT := (c.1, c.2.1, c.2.2.1, c.2.2.2.1, c.2.2.2.2.1, c.2.2.2.2.2.1, c.2.2.2.2.2.2.1, c.2.2.2.2.2.2.2.1, c.2.2.2.2.2.2.2.2.1, c.2.2.2.2.2.2.2.2.2.1, c.2.2.2.2.2.2.2.2.2.2.1, c.2.2.2.2.2.2.2.2.2.2.2.1, b)

/-- Write. -/
def writeIn (c : CellT) (at_ : Int) (b : List Int) : Prop := 0 ≤ at_ ∧ at_ + b.length ≤ c.bytes.length
instance (c : CellT) (at_ : Int) (b : List Int) : Decidable (writeIn c at_ b) := by unfold writeIn; infer_instance
def writeF (h : HeapT) (r : Int) (at_ : Int) (b : List Int) : Bool × HeapT :=
  if 0 ≤ r then match h.2[r.toNat]? with
    | none => (false, h)
    | some c => if writeIn c at_ b then (true, (h.1, h.2.set r.toNat (c.withBytes (c.bytes.take at_.toNat ++ (b ++ c.bytes.drop (at_.toNat + b.length)))))) else (false, h)
  else (false, h)

theorem write_ok (h : HeapT) (r at_ : Int) (b : List Int) (hb : ∀ c ∈ h.2, c.bytes.length ≤ 2 ^ 40) : (R.heap_Heap_Write h r at_ b).sat (· = writeF h r at_ b) := by
  unfold R.heap_Heap_Write writeF
  simp only [law_given_iff, law_bind_iff]
  intro _
  refine law_call (has_ok h r) ?_
  simp only [law_br_iff, law_idxS_iff, law_ok_iff, law_bind_iff, law_given_iff, law_need_iff, ilt_true, ilt_false, ile_true, ile_false, Bool.and_eq_true, beq_self_eq_true, true_and]
  refine ⟨fun h1 => ?_, fun h1 => ?_⟩
  · simp at h1
    by_cases h0 : 0 ≤ r
    · rw [if_pos h0, List.getElem?_eq_none (by omega)]
    · rw [if_neg h0]
  · simp at h1
    obtain ⟨h0, h1⟩ := h1
    have h6 : r.toNat < h.2.length := by omega
    have hx := List.getElem?_eq_getElem h6
    have hc := hb _ (List.getElem_mem h6)
    rw [if_pos h0]
    generalize h.2[r.toNat] = c at hx hc
    rw [hx]
    have hset : h.2.set r.toNat c = h.2 := set_self hx
    refine ⟨h0, c, rfl, fun _ => ?_⟩
    simp only [hset, true_and]
    simp only [CellT.bytes] at hc
    have hin : writeIn c at_ b ↔ 0 ≤ at_ ∧ at_ + b.length ≤ c.2.2.2.2.2.2.2.2.2.2.2.2.length := Iff.rfl
    refine ⟨fun h2 => ?_, fun h2 => ⟨fun h3 => ?_, fun h3 => ?_⟩⟩
    · refine ⟨fun _ => ?_, fun h => by cases h⟩
      rw [if_neg (by rw [hin]; omega)]
    · refine ⟨fun _ => ?_, fun h => by cases h⟩
      rw [if_neg (by rw [hin]; omega)]
    · rw [wrap64 (by omega)]
      refine ⟨fun h4 => ?_, fun h4 => ⟨⟨h2, h3⟩, ?_⟩⟩
      · rw [if_neg (by rw [hin]; omega)]
      · rw [if_pos (by rw [hin]; omega)]
        have hmin : min b.length (c.2.2.2.2.2.2.2.2.2.2.2.2.length - at_.toNat) = b.length := by omega
        simp only [hmin, List.take_length, Nat.zero_add]
        rfl

theorem bytes_law (b x : List Int) (at_ : Int) : (R.renlaw9_HeapBytes b x at_).sat (· = true) := by
  unfold R.renlaw9_HeapBytes
  refine law_given fun hok => law_bind_eq first_sat (law_f rfl ?_)
  refine law_bind_eq (new_ok 2) (law_given fun _ => ?_)
  by_cases hsm : b.length ≤ 4000 ∧ x.length ≤ 4000
  case neg =>
    refine law_bind_eq (a := true) ?_ (law_t rfl (law_bind_eq first_sat rfl))
    simp only [law_br_iff, law_ok_iff, ilt_true, ilt_false]
    exact ⟨fun _ => trivial, fun h => by omega⟩
  obtain ⟨hb, hx⟩ := hsm
  refine law_bind_eq (a := false) ?_ (law_f rfl ?_)
  · simp only [law_br_iff, law_ok_iff, ilt_true, ilt_false]
    exact ⟨fun h => by omega, fun h => by omega⟩
  let c0 : CellT := (5, 0, [], [], [], 0, 0, (0, (0, 0), (false, []), [], 0), 0, 0, 0, 0, b)
  have hc0 : copyOk c0 := by simp [copyOk, c0]
  rw [show ((min (max 2 0) 4096 : Int), ([] : List CellT)) = (2, []) from rfl]
  have hm : makeF (2, []) c0 = ((0, true), (2, [c0])) := by simp [makeF]
  refine law_bind_eq (a := ((0, true), (2, [c0]))) (by rw [← hm]; exact make_ok (2, []) c0 hc0 (by simp)) (law_given fun _ => ?_)
  have hcb : ∀ c ∈ [c0], c.bytes.length ≤ 2 ^ 40 := by simp [c0, CellT.bytes]; omega
  let bs : List Int := if 0 ≤ at_ ∧ at_ + x.length ≤ b.length then b.take at_.toNat ++ (x ++ b.drop (at_.toNat + x.length)) else b
  let c1 : CellT := (5, 0, [], [], [], 0, 0, (0, (0, 0), (false, []), [], 0), 0, 0, 0, 0, bs)
  have hw : writeF (2, [c0]) 0 at_ x = (decide (0 ≤ at_ ∧ at_ + x.length ≤ b.length), (2, [c1])) := by
    simp only [writeF, writeIn, CellT.bytes, c0, c1, bs, CellT.withBytes]
    by_cases h : 0 ≤ at_ ∧ at_ + x.length ≤ b.length <;> simp [h]
  refine law_bind_eq (a := (decide (0 ≤ at_ ∧ at_ + x.length ≤ b.length), (2, [c1]))) (by rw [← hw]; exact write_ok (2, [c0]) 0 at_ x hcb) (law_given fun _ => ?_)
  have hc1 : copyOk c1 := by simp [copyOk, c1]
  refine law_bind_eq (a := (c1, true)) (law_mono (cell_ok (2, [c1]) 0 (by simpa using hc1)) fun y hy => ?_) (law_given fun _ => ?_)
  · obtain ⟨c, h1, h2⟩ := hy.1 (by simp)
    simp at h1
    rw [h2, ← h1]
  have hlen : bs.length = b.length := by
    simp only [bs]
    split
    · simp; omega
    · rfl
  refine law_bind_eq (a := decide (0 ≤ at_ ∧ at_ + x.length ≤ b.length)) ?_ ?_
  · simp only [law_br_iff, law_ok_iff, ile_true, ile_false]
    refine ⟨fun h1 => ⟨fun h2 => ?_, fun h2 => by simp; omega⟩, fun h1 => by simp; omega⟩
    rw [wrap64 (by omega)]
    simp only [ile]
    congr 1
    apply propext
    omega
  generalize hin : decide (0 ≤ at_ ∧ at_ + x.length ≤ b.length) = inn
  refine law_bind_eq (a := false) ?_ (law_f rfl ?_)
  · simp only [law_br_iff, law_ok_iff]
    simp [c1, hlen]
  refine law_bind' (R := fun y => y = Sum.inl ()) (law_for (fun i => i) b.length (by omega) (fun i => 0 ≤ i ∧ i ≤ b.length) (by simp) (fun a h => h) ?_) ?_
  · rintro i ⟨h1, h2⟩
    refine law_br (fun h3 => ?_) fun h3 => ?_
    · rw [ilt_true] at h3
      refine law_idxS h1 (by omega) fun e he hek => ?_
      refine law_bind' (R := fun w => bs[i.toNat]? = some w) ?_ ?_
      · refine law_bind' (R := fun y => y = (inn && (decide (at_ ≤ i) && decide (i - at_ < x.length)))) ?_ ?_
        · refine law_br (fun h4 => ?_) fun h4 => ?_
          · subst h4
            simp only [decide_eq_true_eq] at hin
            refine law_br (fun h5 => ?_) fun h5 => ?_
            · rw [ile_true] at h5
              rw [wrap64 (by omega)]
              exact law_ok (by simp [h5, ilt])
            · rw [ile_false] at h5
              exact law_ok (by simp; omega)
          · exact law_ok (by simp [h4])
        · rintro _ rfl
          cases inn with
          | false =>
            have hbs : bs = b := by simp only [bs]; rw [if_neg (by simpa using hin)]
            exact law_f rfl (law_ok (by rw [hbs]; exact he))
          | true =>
            have hin' := of_decide_eq_true hin
            have hbs : bs = b.take at_.toNat ++ (x ++ b.drop (at_.toNat + x.length)) := by simp only [bs]; rw [if_pos hin']
            by_cases hc : at_ ≤ i ∧ i - at_ < x.length
            · refine law_t (by simp [hc.1, hc.2]) ?_
              rw [wrap64 (by omega)]
              refine law_idxS (by omega) (by omega) fun z hz _ => law_ok ?_
              rw [hbs, List.getElem?_append_right (by simp; omega), List.getElem?_append_left (by simp; omega)]
              rw [← hz]
              congr 1
              simp; omega
            · refine law_f (by simp; omega) (law_ok ?_)
              rw [hbs]
              by_cases hd : i < at_
              · rw [List.getElem?_append_left (by simp; omega), List.getElem?_take_of_lt (by omega)]
                exact he
              · rw [List.getElem?_append_right (by simp; omega), List.getElem?_append_right (by simp; omega), List.getElem?_drop]
                rw [← he]
                congr 1
                simp; omega
      · intro w hw
        refine law_idx h1 (by show i.toNat < bs.length; omega) fun e' he' _ => ?_
        have he' : bs[i.toNat]? = some e' := he'
        rw [hw] at he'
        cases he'
        refine law_f (by simp) (law_ok ⟨wrap64 (by omega), ?_, ?_⟩)
        · rw [wrap64 (by omega)]; omega
        · rw [wrap64 (by omega)]; omega
    · exact law_ok rfl
  · rintro _ rfl
    refine law_inl (law_bind_eq first_sat (law_t rfl ?_))
    have hw2 : writeF (2, [c1]) 1 0 [] = (false, (2, [c1])) := by simp [writeF]
    refine law_bind_eq (a := (false, (2, [c1]))) (by rw [← hw2]; exact write_ok (2, [c1]) 1 0 [] (by simp [c1, CellT.bytes]; omega)) (law_given fun _ => rfl)
end Go.Mach

set_option maxRecDepth 100000
namespace Go.Proofs.Ytcmodlcodhblcaa
open Go.Mach Go.ChangeShapes Go.WideShapes Go.ChangeAt Go.RowKit

theorem bulk_part {H : Type} {d : DataW H} {l : List (DataW H)} (h : d ∈ l) : Rows.uptoBulk d ≤ Rows.uptoBulkAll l := by
  induction l with
  | nil => cases h
  | cons x r ih =>
    simp only [Rows.uptoBulkAll]
    cases List.mem_cons.1 h with
    | inl e => subst e; omega
    | inr e => have := ih e; omega
theorem bulk_one {H : Type} (d : DataW H) : 1 ≤ Rows.uptoBulk d := by
  cases d with
  | lit l => cases l <;> simp [Rows.uptoBulk]
  | _ => simp [Rows.uptoBulk]
theorem bulk_len {H : Type} (l : List (DataW H)) : l.length ≤ Rows.uptoBulkAll l := by
  induction l with
  | nil => simp [Rows.uptoBulkAll]
  | cons x r ih => have := bulk_one x; simp only [Rows.uptoBulkAll, List.length_cons]; omega
theorem sm_of {H : Type} : Sm (H := H) 1048576 fun d => Rows.uptoBulk d ≤ 1048576 where
  str b h := by simp only [Rows.uptoBulk] at h; omega
  sl es sp h := by
    simp only [Rows.uptoBulk] at h
    have h1 := bulk_len es
    exact ⟨by omega, fun d hd => by have := bulk_part hd; omega⟩
  agg l h := by
    simp only [Rows.uptoBulk] at h
    exact fun d hd => by have := bulk_part hd; omega
theorem sm_all {H : Type} {ds : List (DataW H)} {gs : List (DataW H)} (h : Rows.uptoSmall H (ds ++ gs) = true) : ∀ d ∈ ds, Rows.uptoBulk d ≤ 1048576 := fun d hd => by
  have h := of_decide_eq_true h
  have := bulk_part (List.mem_append_left gs hd)
  omega

theorem own_knob : ownKnob Try.prog.godebug = none := by kernel_rfl
theorem bool_type : Try.prog.underlying 4 = some .bool := by kernel_rfl
end Go.Proofs.Ytcmodlcodhblcaa
