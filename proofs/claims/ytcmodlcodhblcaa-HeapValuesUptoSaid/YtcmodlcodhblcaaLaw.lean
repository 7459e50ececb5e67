/-
  HeapValuesUptoSaid: renlaw9.HeapValues answers true for every input of the given bulk, and leaves its arguments as they were.
  Part Law of the texts. By an AI agent; no person has read it.
-/
import Derived.Test.YtcmodlcodhblcaaOks
import Derived.KernelRfl
import Derived.Test.YtcmodlcodhblcaaRows
import Derived.WalkKit
import Derived.ProofKit
import Derived.OpenShut
import Derived.JoinedCond
set_option linter.all false
set_option linter.deprecated false
set_option maxRecDepth 100000
namespace Go.Mach
open Res

abbrev ValT := Int × (Int × Int) × (Bool × List Int) × List Int × Int
abbrev PropT := List Int × ValT
abbrev SlotT := List UInt8 × ValT × Bool × Bool
abbrev CellT := Int × Int × List PropT × List SlotT × List UInt8 × Int × Int × ValT × Int × Int × Int × Int × List Int
abbrev HeapT := Int × List CellT

theorem first_ok : R.renlaw9_first = .ok true := by kernel_rfl

theorem first_sat : R.renlaw9_first.sat (· = true) := by rw [first_ok]; exact rfl

theorem own_ok (v : ValT) : (R.heap_own v).sat (· = v) := by
  unfold R.heap_own
  simp only [law_given_iff, law_bind_iff, law_ok_iff]
  intros
  trivial

/-- Its lists may be copied. -/
def copyOk (c : CellT) : Prop := c.2.2.1.length * 112 ≤ 2 ^ 47 ∧ c.2.2.2.1.length * 112 ≤ 2 ^ 47

theorem copied_ok (c : CellT) (hc : copyOk c) : (R.heap_copied c).sat (· = c) := by
  unfold R.heap_copied
  simp only [law_given_iff, law_bind_iff, law_need_iff, law_ok_iff, decide_eq_true_eq]
  obtain ⟨h1, h2⟩ := hc
  intro _
  refine ⟨by omega, fun _ => ⟨by omega, fun _ _ => ?_⟩⟩
  refine law_call (own_ok _) fun _ => ?_
  refine law_mono (law_for (fun x : Int × List PropT => x.1) c.2.2.1.length (by omega) (fun x => x.2 = c.2.2.1 ∧ 0 ≤ x.1 ∧ x.1 ≤ c.2.2.1.length) (Q := fun y => y = c.2.2.1) ⟨rfl, by simp, by simp⟩ (fun a h => h.2) ?_) ?_
  · rintro ⟨i, xs⟩ ⟨rfl, h3, h4⟩
    simp only [law_br_iff, law_need_iff, law_idx_iff, law_bind_iff, law_given_iff, law_ok_iff, ilt_true, ilt_false, Bool.and_eq_true, ile_true] at h3 h4 ⊢
    refine ⟨fun h5 => ⟨⟨h3, h5⟩, by omega, ?_⟩, fun h5 => trivial⟩
    have h6 : i.toNat < c.2.2.1.length := by omega
    refine ⟨_, by rw [idx0]; exact List.getElem?_eq_getElem h6, fun _ _ => ?_⟩
    refine law_call (own_ok _) fun _ => ⟨⟨h3, h5⟩, by omega, _, by rw [idx0]; exact List.getElem?_eq_getElem h6, fun _ => ⟨?_, ?_, ?_, ?_⟩⟩
    · exact wrap64 (by omega)
    · rw [Nat.zero_add]
      exact set_self (List.getElem?_eq_getElem h6)
    · rw [wrap64 (by omega)]; omega
    · rw [wrap64 (by omega)]; omega
  · rintro _ rfl
    refine law_mono (law_for (fun x : Int × List SlotT => x.1) c.2.2.2.1.length (by omega) (fun x => x.2 = c.2.2.2.1 ∧ 0 ≤ x.1 ∧ x.1 ≤ c.2.2.2.1.length) (Q := fun y => y = c.2.2.2.1) ⟨rfl, by simp, by simp⟩ (fun a h => h.2) ?_) ?_
    · rintro ⟨i, xs⟩ ⟨rfl, h3, h4⟩
      simp only [law_br_iff, law_need_iff, law_idx_iff, law_bind_iff, law_given_iff, law_ok_iff, ilt_true, ilt_false, Bool.and_eq_true, ile_true] at h3 h4 ⊢
      refine ⟨fun h5 => ⟨⟨h3, h5⟩, by omega, ?_⟩, fun h5 => trivial⟩
      have h6 : i.toNat < c.2.2.2.1.length := by omega
      refine ⟨_, by rw [idx0]; exact List.getElem?_eq_getElem h6, fun _ => ?_⟩
      refine law_call (own_ok _) fun _ => ⟨⟨h3, h5⟩, by omega, _, by rw [idx0]; exact List.getElem?_eq_getElem h6, fun _ => ⟨?_, ?_, ?_, ?_⟩⟩
      · exact wrap64 (by omega)
      · rw [Nat.zero_add]
        exact set_self (List.getElem?_eq_getElem h6)
      · rw [wrap64 (by omega)]; omega
      · rw [wrap64 (by omega)]; omega
    · rintro _ rfl
      rfl

theorem new_ok (n : Int) : (R.heap_New n).sat (· = (min (max n 0) 4096, [])) := by
  unfold R.heap_New
  simp only [law_given_iff, law_ok_iff]
  intro _
  rw [minI_eq, maxI_eq]

theorem has_ok (h : HeapT) (r : Int) : (R.heap_Heap_has h r).sat (· = (decide (0 ≤ r) && decide (r < h.2.length))) := by
  unfold R.heap_Heap_has
  simp only [law_given_iff, law_ok_iff, law_br_iff, ile, ilt]
  intro _
  exact ⟨fun h => by rw [h]; rfl, fun h => by rw [h]; rfl⟩

/-- Make. -/
def makeF (h : HeapT) (c : CellT) : (Int × Bool) × HeapT :=
  if h.1 ≤ h.2.length then ((0, false), h) else ((h.2.length, true), (h.1, h.2 ++ [c]))
theorem make_ok (h : HeapT) (c : CellT) (hc : copyOk c) (hl : h.2.length ≤ 10000) : (R.heap_Heap_Make h c).sat (· = makeF h c) := by
  unfold R.heap_Heap_Make makeF
  simp only [law_given_iff, law_br_iff, law_ok_iff, law_bind_iff, ile_true, ile_false]
  intro _
  refine ⟨fun h1 => by rw [if_pos h1], fun h1 => ?_⟩
  rw [if_neg (by omega)]
  refine law_call (copied_ok c hc) fun _ => ?_
  simp only [law_need_iff, decide_eq_true_eq, law_ok_iff, List.length_append, List.length_cons, List.length_nil]
  refine ⟨by omega, ?_⟩
  rw [wrap64 (by omega)]
  simp

theorem cell_ok (h : HeapT) (r : Int) (hc : ∀ c ∈ h.2, copyOk c) : (R.heap_Heap_Cell h r).sat fun y => ((0 ≤ r ∧ r < h.2.length) → ∃ c, h.2[r.toNat]? = some c ∧ y = (c, true)) ∧ (¬ (0 ≤ r ∧ r < h.2.length) → y.2 = false) := by
  unfold R.heap_Heap_Cell
  simp only [law_given_iff, law_bind_iff]
  intro _
  refine law_call (has_ok h r) ?_
  simp only [law_br_iff, law_idxS_iff, law_ok_iff, law_bind_iff, law_given_iff]
  refine ⟨fun h1 => ⟨fun h2 => ?_, fun _ => trivial⟩, fun h1 => ?_⟩
  · simp [h2.1, h2.2] at h1
  · simp at h1
    have h6 : r.toNat < h.2.length := by omega
    refine ⟨h1.1, _, List.getElem?_eq_getElem h6, fun _ => ?_⟩
    refine law_call (copied_ok _ (hc _ (List.getElem_mem h6))) fun _ => ?_
    exact ⟨fun _ => ⟨_, List.getElem?_eq_getElem h6, rfl⟩, fun h => absurd h1 h⟩
end Go.Mach

set_option maxRecDepth 100000
namespace Go.Mach
open Res

theorem beqDec (a b : Int) : (a == b) = decide (a = b) := by by_cases h : a = b <;> simp [h]

theorem eqLoop (k : IntKind) (a b : List Int) (hl : a.length = b.length) (ha : a.length < 2 ^ 62) : (Res.loop (α := Int) (β := (Unit ⊕ Bool)) (fun i1 => Res.br (ilt i1 (a.length : Int)) (Res.idxS (.frz (.int k)) a i1 fun e2 => Res.idxS (.frz (.int k)) b i1 fun e3 => Res.br (!(e2 == e3)) (Res.ok (.done (.inr false))) (Res.ok (.next (IntKind.wrap .i64 (i1 + 1))))) (Res.ok (.done (.inl ())))) fuel 0).sat fun y => y = if a = b then .inl () else .inr false := by
  refine law_for (fun i => i) a.length (by omega) (fun i => (0 ≤ i ∧ i ≤ a.length) ∧ ∀ j, j < i.toNat → a[j]? = b[j]?) ⟨⟨by omega, by omega⟩, fun j hj => by simp at hj⟩ (fun i h => h.1) ?_
  rintro i ⟨⟨h1, h2⟩, h3⟩
  refine law_br (fun h4 => ?_) fun h4 => ?_
  · rw [ilt_true] at h4
    refine law_idxS h1 (by show i.toNat < a.length; omega) fun e2 he2 _ => law_idxS h1 (by show i.toNat < b.length; omega) fun e3 he3 _ => ?_
    have he2 : a[i.toNat]? = some e2 := he2
    have he3 : b[i.toNat]? = some e3 := he3
    refine law_br (fun h5 => law_ok ?_) fun h5 => law_ok ⟨wrap64 (by omega), ?_⟩
    · rw [if_neg]
      rintro rfl
      rw [he2] at he3
      cases he3
      simp at h5
    · rw [wrap64 (by omega)]
      refine ⟨⟨by omega, by omega⟩, fun j hj => ?_⟩
      by_cases hj' : j < i.toNat
      · exact h3 j hj'
      · have : j = i.toNat := by omega
        subst this
        have h5 : e2 = e3 := by simpa using h5
        rw [he2, he3, h5]
  · rw [ilt_false] at h4
    refine law_ok ?_
    rw [if_pos]
    apply List.ext_getElem?
    intro j
    by_cases hj : j < a.length
    · exact h3 j (by omega)
    · rw [List.getElem?_eq_none (by omega), List.getElem?_eq_none (by omega)]

theorem lenOkS_lt {k : IntKind} {n : Nat} (h : lenOkS (.frz (.int k)) n = true) : n < 2 ^ 62 := by
  have h := of_decide_eq_true h
  cases k <;> simp [Sh.minB, Ty.minB, IntKind.minB] at h <;> omega

theorem units_ok (a b : List Int) : (R.renref_Units a b).sat (· = decide (a = b)) := by
  unfold R.renref_Units
  refine law_given fun h => ?_
  have hl : lenOkS (.frz (.int .u16)) a.length = true := by
    simp only [oks, List.map, Par.v, Sh.ok, Bool.and_eq_true] at h
    exact h.1
  have ha := lenOkS_lt hl
  by_cases hlen : a.length = b.length
  · refine law_f (by simp [hlen]) (law_bind_eq (eqLoop .u16 a b hlen ha) ?_)
    by_cases hab : a = b
    · rw [if_pos hab]; exact law_inl (law_ok (by simp [hab]))
    · rw [if_neg hab]; exact law_inr (law_ok (by simp [hab]))
  · refine law_t (by simp; omega) (law_ok ?_)
    have : a ≠ b := fun h => hlen (by rw [h])
    simp [this]
theorem limbs_ok (a b : List Int) : (R.renref_Limbs a b).sat (· = decide (a = b)) := by
  unfold R.renref_Limbs
  refine law_given fun h => ?_
  have hl : lenOkS (.frz (.int .u32)) a.length = true := by
    simp only [oks, List.map, Par.v, Sh.ok, Bool.and_eq_true] at h
    exact h.1
  have ha := lenOkS_lt hl
  by_cases hlen : a.length = b.length
  · refine law_f (by simp [hlen]) (law_bind_eq (eqLoop .u32 a b hlen ha) ?_)
    by_cases hab : a = b
    · rw [if_pos hab]; exact law_inl (law_ok (by simp [hab]))
    · rw [if_neg hab]; exact law_inr (law_ok (by simp [hab]))
  · refine law_t (by simp; omega) (law_ok ?_)
    have : a ≠ b := fun h => hlen (by rw [h])
    simp [this]
theorem equal16_ok (a b : List Int) : (R.slices_Equal_uint16 a b).sat (· = decide (a = b)) := by
  unfold R.slices_Equal_uint16
  refine law_given fun h => ?_
  have hl : lenOkS (.frz (.int .u16)) a.length = true := by
    simp only [oks, List.map, Par.v, Sh.ok, Bool.and_eq_true] at h
    exact h.1
  have ha := lenOkS_lt hl
  by_cases hlen : a.length = b.length
  · refine law_f (by simp [hlen]) (law_bind_eq (eqLoop .u16 a b hlen ha) ?_)
    by_cases hab : a = b
    · rw [if_pos hab]; exact law_inl (law_ok (by simp [hab]))
    · rw [if_neg hab]; exact law_inr (law_ok (by simp [hab]))
  · refine law_t (by simp; omega) (law_ok ?_)
    have : a ≠ b := fun h => hlen (by rw [h])
    simp [this]
theorem equal32_ok (a b : List Int) : (R.slices_Equal_uint32 a b).sat (· = decide (a = b)) := by
  unfold R.slices_Equal_uint32
  refine law_given fun h => ?_
  have hl : lenOkS (.frz (.int .u32)) a.length = true := by
    simp only [oks, List.map, Par.v, Sh.ok, Bool.and_eq_true] at h
    exact h.1
  have ha := lenOkS_lt hl
  by_cases hlen : a.length = b.length
  · refine law_f (by simp [hlen]) (law_bind_eq (eqLoop .u32 a b hlen ha) ?_)
    by_cases hab : a = b
    · rw [if_pos hab]; exact law_inl (law_ok (by simp [hab]))
    · rw [if_neg hab]; exact law_inr (law_ok (by simp [hab]))
  · refine law_t (by simp; omega) (law_ok ?_)
    have : a ≠ b := fun h => hlen (by rw [h])
    simp [this]
theorem textSame_ok (a b : List Int) : (R.text_Same a b).sat (· = decide (a = b)) := by
  unfold R.text_Same
  exact law_given fun _ => law_bind_eq (equal16_ok a b) (law_ok rfl)

/-- Same. -/
theorem same_ok (a b : ValT) : (R.heap_Same a b).sat (· = decide (a = b)) := by
  unfold R.heap_Same
  obtain ⟨k, ⟨n1, n2⟩, ⟨g, m⟩, s, r⟩ := a
  obtain ⟨k', ⟨n1', n2'⟩, ⟨g', m'⟩, s', r'⟩ := b
  refine law_given fun _ => ?_
  simp only [Prod.mk.injEq]
  refine law_br (fun h1 => ?_) fun h1 => law_ok (by simp at h1; simp [h1])
  have h1 : k = k' := by simpa using h1
  refine law_br (fun h2 => ?_) fun h2 => law_ok (by simp at h2; simp; intros; simp_all)
  have h2 : n1 = n1' ∧ n2 = n2' := by simpa using h2
  refine law_br (fun h3 => ?_) fun h3 => law_ok (by simp at h3; simp [h3])
  have h3 : g = g' := by simpa using h3
  refine law_bind_eq (equal32_ok m m') (law_br (fun h4 => ?_) fun h4 => law_ok (by simp at h4; simp [h4]))
  have h4 : m = m' := by simpa using h4
  refine law_bind_eq (equal16_ok s s') (law_br (fun h5 => ?_) fun h5 => law_ok (by simp at h5; simp [h5]))
  have h5 : s = s' := by simpa using h5
  exact law_ok (by simp [h1, h2, h3, h4, h5, beqDec])

theorem refSame_ok (a b : ValT) : (R.renref9_Same a b).sat (· = decide (a = b)) := by
  unfold R.renref9_Same
  obtain ⟨k, ⟨n1, n2⟩, ⟨g, m⟩, s, r⟩ := a
  obtain ⟨k', ⟨n1', n2'⟩, ⟨g', m'⟩, s', r'⟩ := b
  refine law_given fun _ => ?_
  simp only [Prod.mk.injEq]
  refine law_br (fun h1 => ?_) fun h1 => law_ok (by simp at h1; simp [h1])
  have h1 : k = k' := by simpa using h1
  have hnum : (R.renref_Num (n1, n2) (n1', n2')).sat (· = decide (n1 = n1' ∧ n2 = n2')) := by
    unfold R.renref_Num
    refine law_given fun _ => law_br (fun h => ?_) fun h => law_ok (by simp at h; simp [h])
    have h : n1 = n1' := by simpa using h
    exact law_ok (by simp [h, beqDec])
  have hbig : (R.renref_Big (g, m) (g', m')).sat (· = decide (g = g' ∧ m = m')) := by
    unfold R.renref_Big
    refine law_given fun _ => law_br (fun h => ?_) fun h => law_ok (by simp at h; simp [h])
    have h : g = g' := by simpa using h
    exact law_bind_eq (limbs_ok m m') (law_ok (by simp [h]))
  refine law_bind_eq hnum (law_br (fun h2 => ?_) fun h2 => law_ok (by simp at h2; simp; omega))
  have h2 : n1 = n1' ∧ n2 = n2' := by simpa using h2
  refine law_bind_eq hbig (law_br (fun h3 => ?_) fun h3 => law_ok (by simp at h3; simp; intros; simp_all))
  have h3 : g = g' ∧ m = m' := by simpa using h3
  refine law_bind_eq (units_ok s s') (law_br (fun h5 => ?_) fun h5 => law_ok (by simp at h5; simp [h5]))
  have h5 : s = s' := by simpa using h5
  exact law_ok (by simp [h1, h2, h3, h5, beqDec])

theorem plain_ok (a : ValT) : (R.renlaw9_Plain a).sat (· = a) := by
  unfold R.renlaw9_Plain
  exact law_given fun _ => law_ok rfl
end Go.Mach

set_option maxRecDepth 100000
namespace Go.Mach
open Res

theorem notT {b : Bool} (h : (!b) = true) : b = false := by cases b <;> simp_all
theorem notF {b : Bool} (h : (!b) = false) : b = true := by cases b <;> simp_all

theorem idxLoop {s : Sh} (xs : List s.den) (q : s.den → Bool) (f : s.den → Res Bool) (hf : ∀ x ∈ xs, (f x).sat (· = q x)) (hl : xs.length < 2 ^ 62) :
    (Res.loop (α := Int) (β := (Unit ⊕ Int)) (fun x1 => Res.br (ilt x1 (xs.length : Int)) (Res.idxS s xs x1 fun e2 => Res.bind (f e2) fun r3 => Res.br r3 (Res.ok (.done (.inr x1))) (Res.ok (.next (IntKind.wrap .i64 (x1 + 1))))) (Res.ok (.done (.inl ())))) fuel 0).sat fun y => y = match xs.findIdx? q with
      | none => .inl ()
      | some i => .inr (i : Int) := by
  refine law_for (fun i => i) xs.length (by omega) (fun i => (0 ≤ i ∧ i ≤ xs.length) ∧ ∀ j (h : j < xs.length), j < i.toNat → q xs[j] = false) ⟨⟨by omega, by omega⟩, fun j _ hj => by simp at hj⟩ (fun i h => h.1) ?_
  rintro i ⟨⟨h1, h2⟩, h3⟩
  refine law_br (fun h4 => ?_) fun h4 => ?_
  · rw [ilt_true] at h4
    have hi : i.toNat < xs.length := by omega
    refine law_idxS h1 hi fun e he _ => ?_
    rw [List.getElem?_eq_getElem hi] at he
    cases he
    refine law_bind_eq (hf _ (List.getElem_mem hi)) (law_br (fun h5 => law_ok ?_) fun h5 => law_ok ⟨wrap64 (by omega), ?_⟩)
    · have : xs.findIdx? q = some i.toNat := List.findIdx?_eq_some_iff_getElem.2 ⟨hi, h5, fun j hj => by rw [h3 j (by omega) hj]; simp⟩
      rw [this]
      show Sum.inr i = Sum.inr ((i.toNat : Nat) : Int)
      rw [Int.toNat_of_nonneg h1]
    · rw [wrap64 (by omega)]
      refine ⟨⟨by omega, by omega⟩, fun j hj hj' => ?_⟩
      by_cases hj'' : j < i.toNat
      · exact h3 j hj hj''
      · have : j = i.toNat := by omega
        subst this
        exact h5
  · rw [ilt_false] at h4
    refine law_ok ?_
    have : xs.findIdx? q = none := List.findIdx?_eq_none_iff.2 fun x hx => by
      obtain ⟨j, hj, rfl⟩ := List.getElem_of_mem hx
      exact h3 j hj (by omega)
    rw [this]

/-! ### Properties -/

abbrev CellT.props (c : CellT) : List PropT := c.2.2.1
def CellT.withProps (c : CellT) (ps : List PropT) : CellT := (c.1, c.2.1, ps, c.2.2.2)
def keyAt (ps : List PropT) (key : List Int) : Option Nat := ps.findIdx? fun p => decide (p.1 = key)
def getK : List PropT → List Int → Option ValT
  | [], _ => none
  | p :: r, k => if p.1 = k then some p.2 else getK r k
def zeroV : ValT := (0, (0, 0), (false, []), [], 0)

theorem keyAt_some {ps : List PropT} {key : List Int} {i : Nat} (h : keyAt ps key = some i) : ∃ v, ps[i]? = some (key, v) ∧ getK ps key = some v := by
  induction ps generalizing i with
  | nil => simp [keyAt] at h
  | cons p r ih =>
    unfold keyAt at h
    rw [List.findIdx?_cons] at h
    by_cases hp : p.1 = key
    · simp only [hp, decide_true, if_true, Option.some.injEq] at h
      subst h
      refine ⟨p.2, ?_, by simp [getK, hp]⟩
      obtain ⟨p1, p2⟩ := p
      simp only at hp
      simp [hp]
    · simp only [hp, decide_false, Bool.false_eq_true, if_false, Option.map_eq_some_iff] at h
      obtain ⟨j, hj, rfl⟩ := h
      obtain ⟨v, h1, h2⟩ := ih (show keyAt r key = some j from hj)
      exact ⟨v, by simpa using h1, by simp [getK, hp, h2]⟩
theorem keyAt_none {ps : List PropT} {key : List Int} (h : keyAt ps key = none) : getK ps key = none := by
  induction ps with
  | nil => rfl
  | cons p r ih =>
    unfold keyAt at h
    rw [List.findIdx?_cons] at h
    by_cases hp : p.1 = key
    · simp [hp] at h
    · simp only [hp, decide_false, Bool.false_eq_true, if_false, Option.map_eq_none_iff] at h
      simp only [getK, if_neg hp]
      exact ih h

/-- Where a property stands: as a number. -/
def posOf : Option Nat → Int
  | none => -1
  | some i => i

theorem index_ok (ps : List PropT) (key : List Int) (hl : ps.length < 2 ^ 62) : (R.slices_IndexFunc_heapProp__heap_Heap_place_1 ps key).sat (· = posOf (keyAt ps key)) := by
  unfold R.slices_IndexFunc_heapProp__heap_Heap_place_1
  refine law_given fun _ => law_bind_eq (idxLoop (s := .frz T_heap_Prop) ps (fun p => decide (p.1 = key)) _ (fun x _ => ?_) hl) ?_
  · unfold R.heap_Heap_place_1
    exact law_given fun _ => law_bind_eq (textSame_ok x.1 key) (law_ok rfl)
  · unfold keyAt
    cases h : ps.findIdx? (fun p => decide (p.1 = key)) with
    | none => exact law_inl (law_ok rfl)
    | some i => exact law_inr (law_ok rfl)

theorem place_ok (h : HeapT) (r : Int) (key : List Int) {c : CellT} (h0 : 0 ≤ r) (hc : h.2[r.toNat]? = some c) (hl : c.props.length < 2 ^ 62) : (R.heap_Heap_place h r key).sat (· = posOf (keyAt c.props key)) := by
  unfold R.heap_Heap_place
  refine law_given fun _ => law_idxS h0 (List.getElem?_eq_some_iff.1 hc).1 fun x hx _ => ?_
  rw [hc] at hx
  cases hx
  exact law_bind_eq (index_ok _ key hl) (law_given fun _ => law_ok rfl)

def putP (ps : List PropT) (key : List Int) (v : ValT) : List PropT :=
  match keyAt ps key with
  | some i => ps.set i (key, v)
  | none => ps ++ [(key, v)]
/-- Put. -/
def putF (h : HeapT) (r : Int) (key : List Int) (v : ValT) : Bool × HeapT :=
  if 0 ≤ r then match h.2[r.toNat]? with
    | none => (false, h)
    | some c => (true, (h.1, h.2.set r.toNat (c.withProps (putP c.props key v))))
  else (false, h)

theorem has_false {h : HeapT} {r : Int} (hf : (decide (0 ≤ r) && decide (r < h.2.length)) = false) : 0 ≤ r → h.2[r.toNat]? = none := fun h0 => by
  simp only [h0, decide_true, Bool.true_and, decide_eq_false_iff_not] at hf
  exact List.getElem?_eq_none (by omega)
theorem has_true {h : HeapT} {r : Int} (hf : (decide (0 ≤ r) && decide (r < h.2.length)) = true) : 0 ≤ r ∧ ∃ c, h.2[r.toNat]? = some c := by
  simp only [Bool.and_eq_true, decide_eq_true_eq] at hf
  exact ⟨hf.1, _, List.getElem?_eq_getElem (by omega)⟩

theorem put_ok (h : HeapT) (r : Int) (key : List Int) (v : ValT) (hl : ∀ c ∈ h.2, c.props.length ≤ 2 ^ 30) : (R.heap_Heap_Put h r key v).sat (· = putF h r key v) := by
  unfold R.heap_Heap_Put
  refine law_given fun _ => law_bind_eq (has_ok h r) (law_br (fun h1 => ?_) fun h1 => ?_)
  · have h1 := has_false (notT h1)
    refine law_ok ?_
    unfold putF
    by_cases h0 : 0 ≤ r
    · rw [if_pos h0, h1 h0]
    · rw [if_neg h0]
  · obtain ⟨h0, c, hc⟩ := has_true (h := h) (r := r) (notF h1)
    have hput : putF h r key v = (true, (h.1, h.2.set r.toNat (c.withProps (putP c.props key v)))) := by
      unfold putF
      rw [if_pos h0, hc]
    rw [hput]
    have hlen := hl c (List.mem_of_getElem? hc)
    refine law_idxS h0 (List.getElem?_eq_some_iff.1 hc).1 fun x hx _ => ?_
    rw [hc] at hx
    cases hx
    have hset : (List.set h.2 r.toNat c) = h.2 := set_self hc
    refine law_bind_eq (a := posOf (keyAt c.props key)) ?_ (law_given fun _ => ?_)
    · show (R.heap_Heap_place (h.1, List.set h.2 r.toNat c) r key).sat _
      rw [hset]
      exact place_ok (h.1, h.2) r key h0 hc (by omega)
    have hb : (r.toNat == r.toNat) = true := by simp
    cases hk : keyAt c.props key with
    | some i =>
      have hpp : putP c.props key v = c.props.set i (key, v) := by unfold putP; rw [hk]
      rw [hpp]
      obtain ⟨w, h2, h3⟩ := keyAt_some hk
      have hi : i < c.props.length := (List.getElem?_eq_some_iff.1 h2).1
      have hile : ile 0 (posOf (some i)) = true := by simp [ile, posOf]
      refine law_t hile (law_need hb (law_bind_eq (own_ok v) (law_given fun _ => law_need ?_ ?_)))
      · rw [Bool.and_eq_true, ilt_true]
        exact ⟨hile, Int.ofNat_lt.2 hi⟩
      · have hidx : ((0 : Int) + ((posOf (some i)).toNat : Int)).toNat = i := by simp [posOf]
        refine law_idx (by simp [posOf]) (by rw [hidx]; exact hi) fun e he _ => law_ok ?_
        rw [hidx] at he
        have he : c.props[i]? = some e := he
        rw [h2] at he
        cases he
        simp only [posOf, Int.toNat_natCast, Nat.zero_add]
        rfl
    | none =>
      have hpp : putP c.props key v = c.props ++ [(key, v)] := by unfold putP; rw [hk]
      rw [hpp]
      refine law_f (by simp [ile, posOf]) (law_need hb (law_bind_eq (a := key) (law_ok rfl) (law_given fun _ => law_bind_eq (own_ok v) (law_given fun _ => law_need ?_ (law_need hb (law_ok rfl))))))
      simp only [decide_eq_true_eq, List.length_singleton]
      have : c.2.2.1.length ≤ 2 ^ 30 := hlen
      omega

/-- Own. -/
def ownF (cells : List CellT) (r : Int) (key : List Int) : Option ValT :=
  if 0 ≤ r then match cells[r.toNat]? with
    | none => none
    | some c => getK c.props key
  else none
theorem ownOp_ok (h : HeapT) (r : Int) (key : List Int) (hl : ∀ c ∈ h.2, c.props.length ≤ 2 ^ 30) : (R.heap_Heap_Own h r key).sat (· = match ownF h.2 r key with | none => (zeroV, false) | some v => (v, true)) := by
  unfold R.heap_Heap_Own ownF
  refine law_given fun _ => law_bind_eq (has_ok h r) (law_br (fun h1 => ?_) fun h1 => ?_)
  · have h1 := has_false (notT h1)
    refine law_ok ?_
    by_cases h0 : 0 ≤ r
    · rw [if_pos h0, h1 h0]; rfl
    · rw [if_neg h0]; rfl
  · obtain ⟨h0, c, hc⟩ := has_true (h := h) (r := r) (notF h1)
    rw [if_pos h0, hc]
    have hlen := hl c (List.mem_of_getElem? hc)
    refine law_bind_eq (place_ok h r key h0 hc (by omega)) (law_given fun _ => ?_)
    cases hk : keyAt c.props key with
    | none =>
      refine law_t (by simp [ilt, posOf]) (law_ok ?_)
      simp only [keyAt_none hk]
      rfl
    | some i =>
      obtain ⟨w, h2, h3⟩ := keyAt_some hk
      have hi : i < c.props.length := (List.getElem?_eq_some_iff.1 h2).1
      refine law_f (by rw [ilt_false]; simp [posOf]) (law_idxS h0 (List.getElem?_eq_some_iff.1 hc).1 fun x hx _ => ?_)
      rw [hc] at hx
      cases hx
      refine law_idxS (by simp [posOf]) (by simpa [posOf] using hi) fun e he _ => ?_
      have he : c.props[i]? = some e := by simpa [posOf] using he
      rw [h2] at he
      cases he
      refine law_bind_eq (own_ok w) (law_given fun _ => law_ok ?_)
      simp only [h3]

/-- Find. -/
def findF (cells : List CellT) (key : List Int) : Nat → Int → ValT × Int × Bool
  | 0, _ => (zeroV, -2, false)
  | n + 1, r => match ownF cells r key with
    | some v => (v, 0, true)
    | none => if 0 ≤ r then match cells[r.toNat]? with
        | none => (zeroV, -2, false)
        | some c => if c.2.1 < 0 then (zeroV, c.2.1, false) else findF cells key n c.2.1
      else (zeroV, -2, false)

theorem find_ok (h : HeapT) (r : Int) (key : List Int) (hl : ∀ c ∈ h.2, c.props.length ≤ 2 ^ 30) (hn : h.2.length ≤ 10000) : (R.heap_Heap_Find h r key).sat (· = findF h.2 key h.2.length r) := by
  unfold R.heap_Heap_Find
  refine law_given fun _ => law_bind' (R := fun y => match y with
      | .inl _ => findF h.2 key h.2.length r = (zeroV, -2, false)
      | .inr z => findF h.2 key h.2.length r = ((z.2.2.1, (z.2.2.2.1, z.2.2.2.2.1), (z.2.2.2.2.2.1, z.2.2.2.2.2.2.1), z.2.2.2.2.2.2.2), z.1, z.2.1)) (law_for (fun x : Int × Int => x.2) h.2.length (by omega) (fun x => (0 ≤ x.2 ∧ x.2 ≤ h.2.length) ∧ findF h.2 key (h.2.length - x.2.toNat) x.1 = findF h.2 key h.2.length r) ⟨⟨by simp, by simp⟩, by simp⟩ (fun x hx => hx.1) ?_) ?_
  · rintro ⟨q, i⟩ ⟨⟨h1, h2⟩, h3⟩
    simp only at h1 h2 h3
    refine law_br (fun h4 => ?_) fun h4 => ?_
    · rw [ilt_true] at h4
      obtain ⟨m, hm⟩ : ∃ m, h.2.length - i.toNat = m + 1 := ⟨h.2.length - i.toNat - 1, by simp only at h4; omega⟩
      rw [hm] at h3
      generalize findF h.2 key h.2.length r = G at h3 ⊢
      unfold findF at h3
      refine law_bind_eq (ownOp_ok h q key hl) (law_given fun _ => ?_)
      cases ho : ownF h.2 q key with
      | some v =>
        simp only [ho] at h3
        refine law_t rfl (law_ok ?_)
        show G = _
        rw [← h3]
      | none =>
        simp only [ho] at h3
        refine law_f rfl (law_bind_eq (has_ok h q) (law_br (fun h5 => ?_) fun h5 => ?_))
        · have h5 := has_false (notT h5)
          refine law_ok ?_
          show G = _
          rw [← h3]
          by_cases h0 : 0 ≤ q
          · rw [if_pos h0, h5 h0]; rfl
          · rw [if_neg h0]; rfl
        · obtain ⟨h0, c, hc⟩ := has_true (h := h) (r := q) (notF h5)
          rw [if_pos h0, hc] at h3
          refine law_idxS h0 (List.getElem?_eq_some_iff.1 hc).1 fun x hx _ => ?_
          rw [hc] at hx
          cases hx
          refine law_br (fun h6 => law_ok ?_) fun h6 => law_ok ⟨wrap64 (by simp only at h4; omega), ?_⟩
          · rw [ilt_true] at h6
            show G = _
            rw [← h3]
            simp only [if_pos h6]
            rfl
          · rw [ilt_false] at h6
            have h6 : ¬ c.2.1 < 0 := Int.not_lt.2 h6
            simp only [if_neg h6] at h3
            simp only at h4
            rw [wrap64 (by omega)]
            refine ⟨⟨by omega, by omega⟩, ?_⟩
            rw [show h.2.length - (i + 1).toNat = m by omega]
            exact h3
    · rw [ilt_false] at h4
      simp only at h4
      refine law_ok ?_
      show findF h.2 key h.2.length r = _
      rw [← h3, show h.2.length - i.toNat = 0 by omega]
      rfl
  · intro y hy
    cases y with
    | inl u => exact law_inl (law_ok hy.symm)
    | inr z => exact law_inr (law_ok hy.symm)

/-- Drop. -/
theorem count_ok (h : HeapT) (r : Int) : (R.heap_Heap_Count h r).sat (· = if 0 ≤ r then match h.2[r.toNat]? with | none => 0 | some c => (c.props.length : Int) else 0) := by
  unfold R.heap_Heap_Count
  refine law_given fun _ => law_bind_eq (has_ok h r) (law_br (fun h1 => ?_) fun h1 => ?_)
  · have h1 := has_false (notT h1)
    refine law_ok ?_
    by_cases h0 : 0 ≤ r
    · rw [if_pos h0, h1 h0]
    · rw [if_neg h0]
  · obtain ⟨h0, c, hc⟩ := has_true (h := h) (r := r) (notF h1)
    rw [if_pos h0, hc]
    refine law_idxS h0 (List.getElem?_eq_some_iff.1 hc).1 fun x hx _ => ?_
    rw [hc] at hx
    cases hx
    exact law_ok rfl
def dropF (h : HeapT) (r : Int) : (ValT × Bool) × HeapT :=
  if 0 ≤ r then match h.2[r.toNat]? with
    | none => ((zeroV, false), h)
    | some c => match c.props.getLast? with
      | none => ((zeroV, false), h)
      | some p => ((p.2, true), (h.1, h.2.set r.toNat (c.withProps c.props.dropLast)))
  else ((zeroV, false), h)
theorem drop_ok (h : HeapT) (r : Int) (hl : ∀ c ∈ h.2, c.props.length ≤ 2 ^ 30) : (R.heap_Heap_Drop h r).sat (· = dropF h r) := by
  unfold R.heap_Heap_Drop
  refine law_given fun _ => law_bind_eq (count_ok h r) (law_given fun _ => ?_)
  by_cases h0 : 0 ≤ r
  case neg =>
    simp only [dropF, if_neg h0]
    exact law_t rfl (law_ok rfl)
  simp only [if_pos h0]
  cases hc : h.2[r.toNat]? with
  | none =>
    simp only [dropF, if_pos h0, hc]
    exact law_t rfl (law_ok rfl)
  | some c =>
    have hlen := hl c (List.mem_of_getElem? hc)
    have hd : dropF h r = match c.props.getLast? with
        | none => ((zeroV, false), h)
        | some p => ((p.2, true), (h.1, h.2.set r.toNat (c.withProps c.props.dropLast))) := by
      unfold dropF
      rw [if_pos h0, hc]
    rw [hd]
    refine law_br (fun h1 => ?_) fun h1 => ?_
    · have : c.props = [] := by simpa using h1
      rw [this]
      exact law_ok rfl
    · have hne : c.props ≠ [] := by intro he; simp [he] at h1
      have hpos : 0 < c.props.length := List.length_pos_iff.2 hne
      obtain ⟨pl, hpl0⟩ : ∃ p, c.props[c.props.length - 1]? = some p := ⟨_, List.getElem?_eq_getElem (by omega)⟩
      rw [List.getLast?_eq_getElem?, hpl0]
      have hpl : c.2.2.1.length = c.props.length := rfl
      have hb : (r.toNat == r.toNat) = true := by simp
      refine law_idxS h0 (List.getElem?_eq_some_iff.1 hc).1 fun x hx _ => ?_
      rw [hc] at hx
      cases hx
      rw [hpl, wrap64 (by omega)]
      refine law_need hb (law_need hb (law_need (by rw [Bool.and_eq_true, ile_true, ilt_true]; omega) ?_))
      have hidx : ((0 : Int) + (((c.props.length : Int) - 1).toNat : Int)).toNat = c.props.length - 1 := by omega
      refine law_idx (by omega) (by rw [hidx]; show c.props.length - 1 < c.props.length; omega) fun e he _ => ?_
      rw [hidx] at he
      have he : c.props[c.props.length - 1]? = some e := he
      rw [hpl0] at he
      refine law_need hb (law_need (by rw [Bool.and_eq_true, ile_true, ile_true]; omega) (law_need hb (law_bind_eq (own_ok e.2) (law_given fun _ => law_ok ?_))))
      rw [show ((c.props.length : Int) - 1).toNat = c.props.length - 1 by omega, List.drop_zero, List.dropLast_eq_take]
      cases he
      rfl
end Go.Mach

set_option maxRecDepth 100000
namespace Go.Mach
open Res

def mkC (i : Nat) (ps : List PropT) : CellT := (1, (i : Int) - 1, ps, [], [], 0, 0, zeroV, 0, 0, 0, 0, [])
def tbl (n : Nat) (pr : Nat → List PropT) : List CellT := (List.range n).map fun i => mkC i (pr i)
theorem tbl_len (n : Nat) (pr : Nat → List PropT) : (tbl n pr).length = n := by simp [tbl]
theorem tbl_get {n i : Nat} {pr : Nat → List PropT} (h : i < n) : (tbl n pr)[i]? = some (mkC i (pr i)) := by
  simp [tbl, h]
theorem tbl_mem {n : Nat} {pr : Nat → List PropT} {c : CellT} (h : c ∈ tbl n pr) : ∃ i, i < n ∧ c = mkC i (pr i) := by
  simp only [tbl, List.mem_map, List.mem_range] at h
  obtain ⟨i, h1, h2⟩ := h
  exact ⟨i, h1, h2.symm⟩
theorem tbl_set {n r : Nat} {pr : Nat → List PropT} (ps : List PropT) : (tbl n pr).set r (mkC r ps) = tbl n fun i => if i = r then ps else pr i := by
  apply List.ext_getElem?
  intro j
  rw [List.getElem?_set]
  by_cases hj : j < n
  · rw [tbl_get hj, tbl_get hj]
    by_cases hr : r = j
    · subst hr; simp [tbl_len, hj]
    · rw [if_neg hr, if_neg (Ne.symm hr)]
  · have h1 : (tbl n pr)[j]? = none := List.getElem?_eq_none (by rw [tbl_len]; omega)
    have h2 : (tbl n fun i => if i = r then ps else pr i)[j]? = none := List.getElem?_eq_none (by rw [tbl_len]; omega)
    rw [h1, h2, tbl_len]
    by_cases hr : r = j
    · subst hr; simp [hj]
    · rw [if_neg hr]

def chain (pr : Nat → List PropT) (key : List Int) : Nat → ValT × Int × Bool
  | 0 => match getK (pr 0) key with
    | some v => (v, 0, true)
    | none => (zeroV, -1, false)
  | i + 1 => match getK (pr (i + 1)) key with
    | some v => (v, 0, true)
    | none => chain pr key i

theorem find_tbl {n : Nat} {pr : Nat → List PropT} {key : List Int} : ∀ (i m : Nat), i < n → i < m → findF (tbl n pr) key m (i : Int) = chain pr key i
  | i, 0, _, h => by omega
  | 0, m + 1, hn, _ => by
    unfold findF chain ownF
    simp only [show (0 : Int) ≤ ((0 : Nat) : Int) by omega, if_true, Int.toNat_natCast, tbl_get hn]
    show (match getK (pr 0) key with | some v => (v, 0, true) | none => if ((0 : Nat) : Int) - 1 < 0 then (zeroV, ((0 : Nat) : Int) - 1, false) else findF (tbl n pr) key m (((0 : Nat) : Int) - 1)) = _
    cases getK (pr 0) key <;> rfl
  | i + 1, m + 1, hn, hm => by
    unfold findF chain ownF
    simp only [show (0 : Int) ≤ ((i + 1 : Nat) : Int) by omega, if_true, Int.toNat_natCast, tbl_get hn]
    show (match getK (pr (i + 1)) key with | some v => (v, 0, true) | none => if ((i + 1 : Nat) : Int) - 1 < 0 then (zeroV, ((i + 1 : Nat) : Int) - 1, false) else findF (tbl n pr) key m (((i + 1 : Nat) : Int) - 1)) = _
    cases getK (pr (i + 1)) key with
    | some v => rfl
    | none =>
      show (if ((i + 1 : Nat) : Int) - 1 < 0 then (zeroV, ((i + 1 : Nat) : Int) - 1, false) else findF (tbl n pr) key m (((i + 1 : Nat) : Int) - 1)) = chain pr key i
      rw [if_neg (by omega), show ((i + 1 : Nat) : Int) - 1 = (i : Int) by omega]
      exact find_tbl i m (by omega) (by omega)

/-- Where nothing, v from a on, w from b on. -/
theorem chain_two {key : List Int} {a b : Nat} {v w : ValT} (hab : a < b) : ∀ i, chain (fun j => if j = b then [(key, w)] else if j = a then [(key, v)] else []) key i = if i < a then (zeroV, -1, false) else if i < b then (v, 0, true) else (w, 0, true)
  | 0 => by
    unfold chain
    by_cases h1 : 0 = b
    · omega
    · rw [if_neg h1]
      by_cases h2 : 0 = a
      · rw [if_pos h2, if_neg (by omega), if_pos (by omega)]; simp [getK]
      · rw [if_neg h2, if_pos (by omega)]; simp [getK]
  | i + 1 => by
    unfold chain
    have ih := chain_two (key := key) (v := v) (w := w) hab i
    by_cases h1 : i + 1 = b
    · rw [if_pos h1, if_neg (by omega), if_neg (by omega)]; simp [getK]
    · rw [if_neg h1]
      by_cases h2 : i + 1 = a
      · rw [if_pos h2, if_neg (by omega), if_pos (by omega)]; simp [getK]
      · rw [if_neg h2]
        show chain _ key i = _
        rw [ih]
        by_cases h3 : i < a
        · rw [if_pos h3, if_pos (show i + 1 < a by omega)]
        · rw [if_neg h3, if_neg (show ¬ i + 1 < a by omega)]
          by_cases h4 : i < b
          · rw [if_pos h4, if_pos (show i + 1 < b by omega)]
          · rw [if_neg h4, if_neg (show ¬ i + 1 < b by omega)]
theorem chain_one {key : List Int} {a : Nat} {v : ValT} : ∀ i, a ≤ i → chain (fun j => if j = a then [(key, v)] else []) key i = (v, 0, true)
  | 0, h => by
    unfold chain
    rw [if_pos (by omega)]; simp [getK]
  | i + 1, h => by
    unfold chain
    by_cases h2 : i + 1 = a
    · rw [if_pos h2]; simp [getK]
    · rw [if_neg h2]
      exact chain_one i (by omega)

theorem put_tbl {room : Int} {n r : Nat} {pr : Nat → List PropT} {key : List Int} {v : ValT} (hr : r < n) (hp : pr r = []) : putF (room, tbl n pr) (r : Int) key v = (true, (room, tbl n fun i => if i = r then [(key, v)] else pr i)) := by
  unfold putF
  rw [if_pos (by omega)]
  simp only [Int.toNat_natCast, tbl_get hr]
  have : putP (mkC r (pr r)).props key v = [(key, v)] := by
    show putP (pr r) key v = _
    rw [hp]; rfl
  rw [this]
  have h2 : (mkC r (pr r)).withProps [(key, v)] = mkC r [(key, v)] := rfl
  rw [h2, tbl_set]

theorem few_ok (v : ValT) : (R.renlaw9_Few v).sat (· = (decide (v.2.2.2.1.length ≤ 20000) && decide (v.2.2.1.2.length ≤ 40))) := by
  unfold R.renlaw9_Few
  refine law_given fun _ => law_br (fun h => ?_) fun h => ?_
  · rw [ile_true] at h
    have h : v.2.2.2.1.length ≤ 20000 := by omega
    refine law_ok ?_
    simp [h, ile]; omega
  · rw [ile_false] at h
    have h : ¬ v.2.2.2.1.length ≤ 20000 := by omega
    exact law_ok (by simp [h])

theorem chains_law (n : Int) (key : List Int) (a b : Int) (v w : ValT) : (R.renlaw9_HeapChains n key a b v w).sat (· = true) := by
  unfold R.renlaw9_HeapChains
  refine law_given fun hok => law_bind_eq first_sat (law_f rfl ?_)
  refine law_bind_eq (new_ok 100) (law_given fun _ => ?_)
  rw [show ((min (max 100 0) 4096 : Int), ([] : List CellT)) = (100, []) from rfl]
  refine law_bind' (R := fun x => x = false → 1 ≤ n ∧ n ≤ 100 ∧ 0 ≤ a ∧ a < b ∧ b < n) ?_ ?_
  · refine law_br (fun _ => law_ok fun h => by cases h) fun h1 => ?_
    refine law_br (fun _ => law_ok fun h => by cases h) fun h2 => ?_
    refine law_br (fun _ => law_ok fun h => by cases h) fun h3 => ?_
    refine law_bind_eq (few_ok v) (law_br (fun _ => law_ok fun h => by cases h) fun h4 => ?_)
    refine law_bind_eq (few_ok w) (law_br (fun _ => law_ok fun h => by cases h) fun h5 => ?_)
    refine law_br (fun _ => law_ok fun h => by cases h) fun h6 => ?_
    refine law_br (fun _ => law_ok fun h => by cases h) fun h7 => ?_
    refine law_ok fun h8 => ?_
    rw [ilt_false] at h1 h2 h6
    rw [ile_false] at h7 h8
    omega
  intro x hx
  refine law_br (fun _ => law_bind_eq first_sat (law_ok rfl)) fun hxf => ?_
  obtain ⟨hn1, hn2, ha, hab, hbn⟩ := hx hxf
  obtain ⟨N, rfl⟩ : ∃ N : Nat, n = N := ⟨n.toNat, by omega⟩
  obtain ⟨A, rfl⟩ : ∃ A : Nat, a = A := ⟨a.toNat, by omega⟩
  obtain ⟨B, rfl⟩ : ∃ B : Nat, b = B := ⟨b.toNat, by omega⟩
  -- the cells are made
  refine law_bind_eq (a := ((100, tbl N fun _ => []) : HeapT)) (law_for (fun x : Int × HeapT => x.1) N (by omega) (fun x => (0 ≤ x.1 ∧ x.1 ≤ N) ∧ x.2 = (100, tbl x.1.toNat fun _ => [])) ⟨⟨by simp, by simp⟩, rfl⟩ (fun x h => h.1) ?_) ?_
  · rintro ⟨i, h⟩ ⟨⟨h1, h2⟩, hh⟩
    simp only at h1 h2 hh
    subst hh
    obtain ⟨I, rfl⟩ : ∃ I : Nat, i = I := ⟨i.toNat, by omega⟩
    simp only [Int.toNat_natCast]
    refine law_br (fun h3 => ?_) fun h3 => ?_
    · rw [ilt_true] at h3
      have hw : IntKind.wrap .i64 ((I : Int) - 1) = (I : Int) - 1 := wrap64 (by omega)
      rw [hw]
      have hm : makeF (100, tbl I fun _ => []) (mkC I []) = (((I : Int), true), (100, tbl (I + 1) fun _ => [])) := by
        unfold makeF
        rw [if_neg (by simp only [tbl_len]; omega)]
        simp only [tbl_len]
        simp [tbl, List.range_succ]
      refine law_bind_eq (a := (((I : Int), true), (100, tbl (I + 1) fun _ => []))) (by rw [← hm]; exact make_ok (100, tbl I fun _ => []) (mkC I []) (by simp [copyOk, mkC]) (by simp only [tbl_len]; omega)) (law_given fun _ => law_ok ⟨wrap64 (by omega), ?_⟩)
      simp only
      rw [wrap64 (by omega)]
      refine ⟨⟨by omega, by omega⟩, ?_⟩
      rw [show ((I : Int) + 1).toNat = I + 1 by omega]
    · rw [ilt_false] at h3
      have : I = N := by omega
      subst this
      exact law_ok rfl
  have hlen : ∀ {pr : Nat → List PropT}, (∀ i, (pr i).length ≤ 1) → ∀ c ∈ tbl N pr, c.props.length ≤ 2 ^ 30 := fun hp c hc => by
    obtain ⟨i, _, rfl⟩ := tbl_mem hc
    have := hp i
    show (_ : List PropT).length ≤ _
    simp only [CellT.props, mkC]
    omega
  let pr1 : Nat → List PropT := fun i => if i = A then [(key, v)] else []
  let pr2 : Nat → List PropT := fun i => if i = B then [(key, w)] else pr1 i
  have hp1 : ∀ i, (pr1 i).length ≤ 1 := fun i => by simp only [pr1]; split <;> simp
  have hp2 : ∀ i, (pr2 i).length ≤ 1 := fun i => by simp only [pr2]; split <;> simp [hp1]
  have hA : A < N := by omega
  have hB : B < N := by omega
  refine law_bind_eq (a := (true, (100, tbl N pr1))) (by rw [← put_tbl (pr := fun _ => []) hA rfl]; exact put_ok (100, tbl N fun _ => []) A key v (hlen fun _ => by simp)) (law_given fun _ => ?_)
  refine law_bind_eq (a := (true, (100, tbl N pr2))) (by rw [← put_tbl (pr := pr1) hB (by simp only [pr1]; rw [if_neg (by omega)])]; exact put_ok (100, tbl N pr1) B key w (hlen hp1)) (law_given fun _ => ?_)
  have hfind : ∀ i : Nat, i < N → (R.heap_Heap_Find (100, tbl N pr2) (i : Int) key).sat (· = if i < A then (zeroV, -1, false) else if i < B then (v, 0, true) else (w, 0, true)) := fun i hi => by
    have h1 := find_ok (100, tbl N pr2) (i : Int) key (hlen hp2) (by simp only [tbl_len]; omega)
    have h2 : findF (tbl N pr2) key (tbl N pr2).length (i : Int) = if i < A then (zeroV, -1, false) else if i < B then (v, 0, true) else (w, 0, true) := by
      rw [tbl_len]
      exact (find_tbl i N hi hi).trans (chain_two (by omega) i)
    exact h2 ▸ h1
  refine law_bind_eq (a := Sum.inl ()) (law_for (fun i : Int => i) N (by omega) (fun i => 0 ≤ i ∧ i ≤ N) (by simp) (fun i h => h) ?_) ?_
  · rintro i ⟨h1, h2⟩
    obtain ⟨I, rfl⟩ : ∃ I : Nat, i = I := ⟨i.toNat, by omega⟩
    refine law_br (fun h3 => ?_) fun h3 => law_ok rfl
    rw [ilt_true] at h3
    refine law_bind_eq (hfind I (by omega)) (law_given fun _ => law_bind_eq (a := false) ?_ (law_f rfl (law_ok ⟨wrap64 (by omega), by rw [wrap64 (by omega)]; omega⟩)))
    by_cases hi1 : I < A
    · simp only [if_pos hi1]
      refine law_f (by simp [ile]; omega) (law_t rfl (law_f rfl (law_f rfl (law_f rfl (law_ok rfl)))))
    · simp only [if_neg hi1]
      by_cases hi2 : I < B
      · simp only [if_pos hi2]
        refine law_f (by simp [ile]; omega) (law_f rfl (law_t rfl (law_t (by rw [ilt_true]; omega) ?_)))
        exact law_bind_eq (same_ok v v) (law_f (by simp) (law_t rfl (law_f (by rw [ile_false]; omega) (law_ok rfl))))
      · simp only [if_neg hi2]
        refine law_f (by simp [ile]; omega) (law_f rfl (law_t rfl (law_f (by rw [ilt_false]; omega) (law_t rfl (law_t (by rw [ile_true]; omega) ?_)))))
        exact law_bind_eq (same_ok w w) (law_ok (by simp))
  have hdrop : dropF (100, tbl N pr2) (B : Int) = ((w, true), (100, tbl N fun i => if i = B then [] else pr2 i)) := by
    unfold dropF
    rw [if_pos (by omega)]
    simp only [Int.toNat_natCast, tbl_get hB]
    have : (mkC B (pr2 B)).props = [(key, w)] := by show pr2 B = _; simp [pr2]
    rw [this]
    show ((w, true), _) = _
    have h2 : (mkC B (pr2 B)).withProps ([(key, w)] : List PropT).dropLast = mkC B [] := rfl
    rw [h2, tbl_set]
  have hpr : (fun i => if i = B then [] else pr2 i) = pr1 := by
    funext i
    by_cases hi : i = B
    · rw [if_pos hi]; simp only [pr1]; rw [if_neg (by omega)]
    · rw [if_neg hi]; simp only [pr2]; rw [if_neg hi]
  rw [hpr] at hdrop
  refine law_inl (law_bind_eq (a := ((w, true), (100, tbl N pr1))) (by rw [← hdrop]; exact drop_ok (100, tbl N pr2) B (hlen hp2)) (law_given fun _ => ?_))
  have hw : IntKind.wrap .i64 ((N : Int) - 1) = ((N - 1 : Nat) : Int) := by rw [wrap64 (by omega)]; omega
  rw [hw]
  have hfind2 : (R.heap_Heap_Find (100, tbl N pr1) ((N - 1 : Nat) : Int) key).sat (· = (v, 0, true)) := by
    have h1 := find_ok (100, tbl N pr1) ((N - 1 : Nat) : Int) key (hlen hp1) (by simp only [tbl_len]; omega)
    have h2 : findF (tbl N pr1) key (tbl N pr1).length ((N - 1 : Nat) : Int) = (v, 0, true) := by
      rw [tbl_len]
      exact (find_tbl (N - 1) N (by omega) (by omega)).trans (chain_one (N - 1) (by omega))
    exact h2 ▸ h1
  refine law_bind_eq hfind2 (law_given fun _ => law_bind_eq first_sat (law_t rfl (law_t rfl (law_bind_eq (same_ok w w) (law_t (by simp) (law_t rfl (law_bind_eq (same_ok v v) (law_ok (by simp)))))))))
end Go.Mach

set_option maxRecDepth 100000
namespace Go.Mach
open Res

theorem zero_ok (v : ValT) : (R.heap_zero v).sat (· = decide (v = (v.1, (0, 0), (false, []), [], 0))) := by
  unfold R.heap_zero
  obtain ⟨k, ⟨n1, n2⟩, ⟨g, m⟩, s, r⟩ := v
  refine law_given fun _ => ?_
  simp only [Prod.mk.injEq, true_and]
  refine law_br (fun h1 => ?_) fun h1 => law_ok (by simp at h1; simp; intros; simp_all)
  have h1 : n1 = 0 ∧ n2 = 0 := by simpa using h1
  refine law_br (fun h2 => ?_) fun h2 => law_ok (by simp at h2; simp [h2])
  have h2 : g = false := by simpa using h2
  refine law_br (fun h3 => ?_) fun h3 => law_ok (by simp at h3; simp [h3])
  have h3 : m = [] := by simpa using h3
  refine law_br (fun h4 => ?_) fun h4 => law_ok (by simp at h4; simp [h4])
  have h4 : s = [] := by simpa using h4
  exact law_ok (by simp [h1, h2, h3, h4, beqDec])

/-- May it be a number? -/
def numMayF (a : Int × Int) : Bool := if a.1 = 0 then decide (-9007199254740991 ≤ a.2 ∧ a.2 ≤ 9007199254740991) else decide (1 ≤ a.1 ∧ a.1 ≤ 4 ∧ a.2 = 0)
theorem numMay_ok (a : Int × Int) : (R.num_May a).sat (· = numMayF a) := by
  unfold R.num_May numMayF
  obtain ⟨k, n⟩ := a
  refine law_given fun _ => law_br (fun h1 => ?_) fun h1 => ?_
  · have h1 : k = 0 := by simpa using h1
    simp only [h1, if_true]
    refine law_br (fun h2 => law_ok ?_) fun h2 => law_ok ?_
    · rw [ile_true] at h2; simp [h2, ile]
    · rw [ile_false] at h2; simp; omega
  · have h1 : ¬ k = 0 := by simpa using h1
    simp only [if_neg h1]
    refine law_bind_eq (a := decide (1 ≤ k ∧ k ≤ 4)) ?_ ?_
    · refine law_br (fun h2 => law_ok ?_) fun h2 => ?_
      · have h2' : k = 1 := by simpa using h2
        rw [h2]; simp [h2']
      refine law_br (fun h3 => law_ok ?_) fun h3 => ?_
      · have h3' : k = 2 := by simpa using h3
        rw [h3]; simp [h3']
      refine law_br (fun h4 => law_ok ?_) fun h4 => law_ok ?_
      · have h4' : k = 3 := by simpa using h4
        rw [h4]; simp [h4']
      · rw [beqDec]
        have h2 : ¬ k = 1 := by simpa using h2
        have h3 : ¬ k = 2 := by simpa using h3
        have h4 : ¬ k = 3 := by simpa using h4
        exact decide_eq_decide.2 ⟨fun h => by omega, fun h => by omega⟩
    · refine law_br (fun h2 => law_ok ?_) fun h2 => law_ok ?_
      · have h2 : 1 ≤ k ∧ k ≤ 4 := by simpa using h2
        rw [beqDec]; simp [h2]
      · simp at h2
        simp; omega
theorem refNumMay_ok (a : Int × Int) : (R.renref1_May a).sat (· = numMayF a) := by
  unfold R.renref1_May numMayF
  obtain ⟨k, n⟩ := a
  refine law_given fun _ => law_br (fun h1 => ?_) fun h1 => ?_
  · have h1 : k = 0 := by simpa using h1
    simp only [h1, if_true]
    refine law_br (fun h2 => law_ok ?_) fun h2 => law_ok ?_
    · rw [ile_true] at h2; simp [h2, ile]
    · rw [ile_false] at h2; simp; omega
  · have h1 : ¬ k = 0 := by simpa using h1
    simp only [if_neg h1]
    refine law_br (fun h2 => ?_) fun h2 => law_ok ?_
    · rw [ile_true] at h2
      refine law_br (fun h3 => law_ok ?_) fun h3 => law_ok ?_
      · rw [ile_true] at h3
        rw [beqDec]; simp [h2, h3]
      · rw [ile_false] at h3
        simp; omega
    · rw [ile_false] at h2
      simp; omega

/-- May it be a BigInt? Both ask the same. -/
def bigMayF (a : Bool × List Int) : Bool := decide (a.2.length ≤ 8) && (if a.2 = [] then !a.1 else !(a.2.getLastD 0 == 0))
theorem last_at {a : Bool × List Int} {Q : Bool → Prop} (h8 : a.2.length ≤ 8) (hne : a.2 ≠ []) (h : Q (!(a.2.getLastD 0 == 0))) : (Res.idxS (.frz (.int .u32)) a.2 (IntKind.wrap .i64 ((a.2.length : Int) - 1)) fun e1 => Res.ok ((!(e1 == 0)))).sat Q := by
  have hpos : 0 < a.2.length := List.length_pos_iff.2 hne
  rw [wrap64 (by omega)]
  have hi : ((a.2.length : Int) - 1).toNat = a.2.length - 1 := by omega
  refine law_idxS (by omega) (by rw [hi]; show a.2.length - 1 < a.2.length; omega) fun x hx _ => law_ok ?_
  rw [hi] at hx
  have hx : a.2[a.2.length - 1]? = some x := hx
  rw [← List.getLast?_eq_getElem?] at hx
  rw [List.getLastD_eq_getLast?, hx] at h
  exact h
theorem bigMay_ok (a : Bool × List Int) : (R.big_May a).sat (· = bigMayF a) := by
  unfold R.big_May bigMayF
  refine law_given fun _ => law_br (fun h1 => ?_) fun h1 => law_ok (by rw [ile_false] at h1; simp; omega)
  rw [ile_true] at h1
  have h8 : a.2.length ≤ 8 := by have : (a.2.length : Int) ≤ 8 := h1; omega
  simp only [h8, decide_true, Bool.true_and]
  refine law_br (fun h2 => ?_) fun h2 => ?_
  · have h2 : a.2 = [] := by simpa using h2
    rw [if_pos h2]
    refine law_br (fun h3 => law_ok h3.symm) fun h3 => law_f (by simp [h2, ilt]) (law_ok h3.symm)
  · have h2 : a.2 ≠ [] := by simpa using h2
    have hpos : 0 < a.2.length := List.length_pos_iff.2 h2
    rw [if_neg h2]
    exact law_t (by rw [ilt_true]; omega) (last_at h8 h2 rfl)
theorem refBigMay_ok (a : Bool × List Int) : (R.renref2_May a).sat (· = bigMayF a) := by
  unfold R.renref2_May bigMayF
  refine law_given fun _ => law_br (fun h1 => ?_) fun h1 => law_ok (by rw [ile_false] at h1; simp; omega)
  rw [ile_true] at h1
  have h8 : a.2.length ≤ 8 := by have : (a.2.length : Int) ≤ 8 := h1; omega
  simp only [h8, decide_true, Bool.true_and]
  refine law_br (fun h2 => ?_) fun h2 => ?_
  · have h2 : a.2 = [] := by simpa using h2
    rw [if_pos h2]
    refine law_br (fun h3 => law_ok h3.symm) fun h3 => law_f (by simp [h2, ilt]) (law_ok h3.symm)
  · have h2 : a.2 ≠ [] := by simpa using h2
    have hpos : 0 < a.2.length := List.length_pos_iff.2 h2
    rw [if_neg h2]
    exact law_t (by rw [ilt_true]; omega) (last_at h8 h2 rfl)

/-- May it be a value? -/
def mayF (v : ValT) : Bool :=
  if v.1 = 0 ∨ v.1 = 1 then decide (v = (v.1, (0, 0), (false, []), [], 0))
  else if v.1 = 2 then decide ((v.2.2.2.2 = 0 ∨ v.2.2.2.2 = 1) ∧ v = (v.1, (0, 0), (false, []), [], v.2.2.2.2))
  else if v.1 = 3 then numMayF v.2.1 && decide (v = (v.1, v.2.1, (false, []), [], 0))
  else if v.1 = 4 then bigMayF v.2.2.1 && decide (v = (v.1, (0, 0), v.2.2.1, [], 0))
  else if v.1 = 5 then decide (v.2.2.2.1.length ≤ 4096 ∧ v = (v.1, (0, 0), (false, []), v.2.2.2.1, 0))
  else if v.1 = 6 then decide (0 ≤ v.2.2.2.2 ∧ v = (v.1, (0, 0), (false, []), [], v.2.2.2.2))
  else false

theorem may_ok (v : ValT) : (R.heap_May v).sat (· = mayF v) := by
  unfold R.heap_May mayF
  obtain ⟨k, n, b, s, r⟩ := v
  refine law_given fun _ => law_bind_eq (a := decide (k = 0 ∨ k = 1)) ?_ ?_
  · refine law_br (fun h => law_ok ?_) fun h => law_ok ?_
    · have h' : k = 0 := by simpa using h
      rw [h]; simp [h']
    · have h' : ¬ k = 0 := by simpa using h
      rw [beqDec]; simp [h']
  refine law_br (fun h => ?_) fun h => ?_
  · have h : k = 0 ∨ k = 1 := by simpa using h
    simp only [if_pos h]
    exact law_bind_eq (zero_ok _) (law_ok rfl)
  have h : ¬ (k = 0 ∨ k = 1) := by simpa using h
  simp only [if_neg h]
  refine law_br (fun h => ?_) fun h => ?_
  · have h : k = 2 := by simpa using h
    simp only [if_pos h]
    refine law_bind_eq (zero_ok _) (law_br (fun h1 => ?_) fun h1 => law_ok ?_)
    · simp at h1
      refine law_br (fun h2 => law_ok ?_) fun h2 => law_ok ?_
      · have h2 : r = 0 := by simpa using h2
        simp [h1, h2]
      · have h2 : ¬ r = 0 := by simpa using h2
        rw [beqDec]; simp [h1, h2]
    · simp at h1
      simp
      intro _ h3 h4 h5
      exact h1 h3 h4 h5
  have h : ¬ k = 2 := by simpa using h
  simp only [if_neg h]
  refine law_br (fun h => ?_) fun h => ?_
  · have h : k = 3 := by simpa using h
    simp only [if_pos h]
    refine law_bind_eq (zero_ok _) (law_br (fun h1 => ?_) fun h1 => law_ok ?_)
    · simp at h1
      refine law_bind_eq (numMay_ok _) (law_ok ?_)
      simp [h1]
    · simp at h1
      cases numMayF n <;> simp
      intro h3 h4
      exact h1 h3 h4
  have h : ¬ k = 3 := by simpa using h
  simp only [if_neg h]
  refine law_br (fun h => ?_) fun h => ?_
  · have h : k = 4 := by simpa using h
    simp only [if_pos h]
    refine law_bind_eq (zero_ok _) (law_br (fun h1 => ?_) fun h1 => law_ok ?_)
    · simp at h1
      refine law_bind_eq (bigMay_ok _) (law_ok ?_)
      simp [h1]
    · simp at h1
      cases bigMayF b <;> simp
      intro h3 h4
      exact h1 h3 h4
  have h : ¬ k = 4 := by simpa using h
  simp only [if_neg h]
  refine law_br (fun h => ?_) fun h => ?_
  · have h : k = 5 := by simpa using h
    simp only [if_pos h]
    refine law_bind_eq (zero_ok _) (law_br (fun h1 => law_ok ?_) fun h1 => law_ok ?_)
    · simp at h1
      simp [h1, ile]; omega
    · simp at h1
      simp
      intro _ h3 h4
      exact h1 h3 h4
  have h : ¬ k = 5 := by simpa using h
  simp only [if_neg h]
  refine law_br (fun h => ?_) fun h => ?_
  · have h : k = 6 := by simpa using h
    simp only [if_pos h]
    refine law_bind_eq (zero_ok _) (law_br (fun h1 => law_ok ?_) fun h1 => law_ok ?_)
    · simp at h1
      simp [h1, ile]
    · simp at h1
      simp
      intro _ h3 h4
      exact h1 h3 h4
  have h : ¬ k = 6 := by simpa using h
  simp only [if_neg h]
  exact law_ok rfl

theorem refMay_ok (v : ValT) : (R.renref9_May v).sat (· = mayF v) := by
  unfold R.renref9_May mayF
  obtain ⟨k, n, b, s, r⟩ := v
  refine law_given fun _ => law_bind_eq (a := decide (k = 0 ∨ k = 1)) ?_ ?_
  · refine law_br (fun h => law_ok ?_) fun h => law_ok ?_
    · have h' : k = 0 := by simpa using h
      rw [h]; simp [h']
    · have h' : ¬ k = 0 := by simpa using h
      rw [beqDec]; simp [h']
  refine law_br (fun h => ?_) fun h => ?_
  · have h : k = 0 ∨ k = 1 := by simpa using h
    simp only [if_pos h]
    exact law_bind_eq (refSame_ok _ _) (law_ok rfl)
  have h : ¬ (k = 0 ∨ k = 1) := by simpa using h
  simp only [if_neg h]
  refine law_br (fun h => ?_) fun h => ?_
  · have h : k = 2 := by simpa using h
    simp only [if_pos h]
    refine law_bind_eq (a := !decide (r = 0 ∨ r = 1)) ?_ (law_br (fun h1 => law_ok ?_) fun h1 => law_bind_eq (refSame_ok _ _) (law_ok ?_))
    · refine law_br (fun h1 => law_ok ?_) fun h1 => law_ok ?_
      · have h1 : ¬ r = 0 := by simpa using h1
        rw [beqDec]; simp [h1]
      · have h1 : r = 0 := by simpa using h1
        simp [h1]
    · have h1 : ¬ (r = 0 ∨ r = 1) := by simpa using h1
      simp [h1]
    · have h1 : r = 0 ∨ r = 1 := by
        cases hd : decide (r = 0 ∨ r = 1) with
        | true => exact of_decide_eq_true hd
        | false => rw [hd] at h1; cases h1
      simp [h1]
  have h : ¬ k = 2 := by simpa using h
  simp only [if_neg h]
  refine law_br (fun h => ?_) fun h => ?_
  · have h : k = 3 := by simpa using h
    simp only [if_pos h]
    refine law_bind_eq (refNumMay_ok _) (law_br (fun h1 => law_ok ?_) fun h1 => law_bind_eq (refSame_ok _ _) (law_ok ?_))
    · simp [notT h1]
    · simp [notF h1]
  have h : ¬ k = 3 := by simpa using h
  simp only [if_neg h]
  refine law_br (fun h => ?_) fun h => ?_
  · have h : k = 4 := by simpa using h
    simp only [if_pos h]
    refine law_bind_eq (refBigMay_ok _) (law_br (fun h1 => law_ok ?_) fun h1 => law_bind_eq (refSame_ok _ _) (law_ok ?_))
    · simp [notT h1]
    · simp [notF h1]
  have h : ¬ k = 4 := by simpa using h
  simp only [if_neg h]
  refine law_br (fun h => ?_) fun h => ?_
  · have h : k = 5 := by simpa using h
    simp only [if_pos h]
    refine law_br (fun h1 => law_ok ?_) fun h1 => law_bind_eq (refSame_ok _ _) (law_ok ?_)
    · rw [ilt_true] at h1
      simp; omega
    · rw [ilt_false] at h1
      have h1 : s.length ≤ 4096 := by have : (s.length : Int) ≤ 4096 := h1; omega
      simp [h1]
  have h : ¬ k = 5 := by simpa using h
  simp only [if_neg h]
  refine law_br (fun h => ?_) fun h => ?_
  · have h : k = 6 := by simpa using h
    simp only [if_pos h]
    refine law_br (fun h1 => law_ok ?_) fun h1 => law_bind_eq (refSame_ok _ _) (law_ok ?_)
    · rw [ilt_true] at h1
      have h1 : ¬ 0 ≤ r := Int.not_le.2 h1
      simp [h1]
    · rw [ilt_false] at h1
      have h1 : 0 ≤ r := h1
      simp [h1]
  have h : ¬ k = 6 := by simpa using h
  simp only [if_neg h]
  exact law_ok rfl

theorem values_law (a b : ValT) : (R.renlaw9_HeapValues a b).sat (· = true) := by
  unfold R.renlaw9_HeapValues
  refine law_given fun _ => law_bind_eq first_sat (law_f rfl ?_)
  refine law_bind' (R := fun _ => True) ?_ fun x _ => law_br (fun _ => law_bind_eq first_sat (law_ok rfl)) fun _ => ?_
  · refine law_bind_eq (few_ok a) (law_br (fun _ => law_ok trivial) fun _ => ?_)
    exact law_bind_eq (few_ok b) (law_ok trivial)
  refine law_bind_eq first_sat (law_t rfl (law_bind_eq (may_ok a) (law_bind_eq (plain_ok a) (law_given fun _ => law_bind_eq (refMay_ok a) (law_t (by simp) ?_)))))
  refine law_bind_eq (same_ok a b) (law_bind_eq (plain_ok a) (law_given fun _ => law_bind_eq (plain_ok b) (law_given fun _ => law_bind_eq (refSame_ok a b) (law_t (by simp) ?_))))
  exact law_bind_eq (same_ok a a) (law_ok (by simp))
end Go.Mach

set_option maxRecDepth 100000
namespace Go.Proofs.Ytcmodlcodhblcaa
open Go.Mach Go.ChangeShapes Go.WideShapes Go.ChangeAt Go.RowKit

theorem bulk_part {H : Type} {d : DataW H} {l : List (DataW H)} (h : d ∈ l) : Rows.uptoBulk d ≤ Rows.uptoBulkAll l := by
  induction l with
  | nil => cases h
  | cons x r ih =>
    simp only [Rows.uptoBulkAll]
    cases List.mem_cons.1 h with
    | inl e => subst e; omega
    | inr e => have := ih e; omega
theorem bulk_one {H : Type} (d : DataW H) : 1 ≤ Rows.uptoBulk d := by
  cases d with
  | lit l => cases l <;> simp [Rows.uptoBulk]
  | _ => simp [Rows.uptoBulk]
theorem bulk_len {H : Type} (l : List (DataW H)) : l.length ≤ Rows.uptoBulkAll l := by
  induction l with
  | nil => simp [Rows.uptoBulkAll]
  | cons x r ih => have := bulk_one x; simp only [Rows.uptoBulkAll, List.length_cons]; omega
theorem sm_of {H : Type} : Sm (H := H) 1048576 fun d => Rows.uptoBulk d ≤ 1048576 where
  str b h := by simp only [Rows.uptoBulk] at h; omega
  sl es sp h := by
    simp only [Rows.uptoBulk] at h
    have h1 := bulk_len es
    exact ⟨by omega, fun d hd => by have := bulk_part hd; omega⟩
  agg l h := by
    simp only [Rows.uptoBulk] at h
    exact fun d hd => by have := bulk_part hd; omega
theorem sm_all {H : Type} {ds : List (DataW H)} {gs : List (DataW H)} (h : Rows.uptoSmall H (ds ++ gs) = true) : ∀ d ∈ ds, Rows.uptoBulk d ≤ 1048576 := fun d hd => by
  have h := of_decide_eq_true h
  have := bulk_part (List.mem_append_left gs hd)
  omega

theorem own_knob : ownKnob Try.prog.godebug = none := by kernel_rfl
theorem bool_type : Try.prog.underlying 4 = some .bool := by kernel_rfl
end Go.Proofs.Ytcmodlcodhblcaa
