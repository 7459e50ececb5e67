/-
  HeapPlaysUptoSaid: any series of up to 300 heap operations answers as the reference heap does
  Part Law of the texts. By an AI agent; no person has read it.
-/
import Derived.Test.YtcmodlcodhblcaaOks
import Derived.KernelRfl
import Derived.Test.YtcmodlcodhblcaaRows
import Derived.WalkKit
import Derived.ProofKit
import Derived.OpenShut
import Derived.JoinedCond
set_option linter.all false
set_option linter.deprecated false
set_option maxRecDepth 100000
namespace Go.Mach
open Res

abbrev ValT := Int × (Int × Int) × (Bool × List Int) × List Int × Int
abbrev PropT := List Int × ValT
abbrev SlotT := List UInt8 × ValT × Bool × Bool
abbrev CellT := Int × Int × List PropT × List SlotT × List UInt8 × Int × Int × ValT × Int × Int × Int × Int × List Int
abbrev HeapT := Int × List CellT

theorem first_ok : R.renlaw9_first = .ok true := by kernel_rfl

theorem first_sat : R.renlaw9_first.sat (· = true) := by rw [first_ok]; exact rfl

theorem own_ok (v : ValT) : (R.heap_own v).sat (· = v) := by
  unfold R.heap_own
  simp only [law_given_iff, law_bind_iff, law_ok_iff]
  intros
  trivial

/-- Its lists may be copied. -/
def copyOk (c : CellT) : Prop := c.2.2.1.length * 112 ≤ 2 ^ 47 ∧ c.2.2.2.1.length * 112 ≤ 2 ^ 47

theorem copied_ok (c : CellT) (hc : copyOk c) : (R.heap_copied c).sat (· = c) := by
  unfold R.heap_copied
  simp only [law_given_iff, law_bind_iff, law_need_iff, law_ok_iff, decide_eq_true_eq]
  obtain ⟨h1, h2⟩ := hc
  intro _
  refine ⟨by omega, fun _ => ⟨by omega, fun _ _ => ?_⟩⟩
  refine law_call (own_ok _) fun _ => ?_
  refine law_mono (law_for (fun x : Int × List PropT => x.1) c.2.2.1.length (by omega) (fun x => x.2 = c.2.2.1 ∧ 0 ≤ x.1 ∧ x.1 ≤ c.2.2.1.length) (Q := fun y => y = c.2.2.1) ⟨rfl, by simp, by simp⟩ (fun a h => h.2) ?_) ?_
  · rintro ⟨i, xs⟩ ⟨rfl, h3, h4⟩
    simp only [law_br_iff, law_need_iff, law_idx_iff, law_bind_iff, law_given_iff, law_ok_iff, ilt_true, ilt_false, Bool.and_eq_true, ile_true] at h3 h4 ⊢
    refine ⟨fun h5 => ⟨⟨h3, h5⟩, by omega, ?_⟩, fun h5 => trivial⟩
    have h6 : i.toNat < c.2.2.1.length := by omega
    refine ⟨_, by rw [idx0]; exact List.getElem?_eq_getElem h6, fun _ _ => ?_⟩
    refine law_call (own_ok _) fun _ => ⟨⟨h3, h5⟩, by omega, _, by rw [idx0]; exact List.getElem?_eq_getElem h6, fun _ => ⟨?_, ?_, ?_, ?_⟩⟩
    · exact wrap64 (by omega)
    · rw [Nat.zero_add]
      exact set_self (List.getElem?_eq_getElem h6)
    · rw [wrap64 (by omega)]; omega
    · rw [wrap64 (by omega)]; omega
  · rintro _ rfl
    refine law_mono (law_for (fun x : Int × List SlotT => x.1) c.2.2.2.1.length (by omega) (fun x => x.2 = c.2.2.2.1 ∧ 0 ≤ x.1 ∧ x.1 ≤ c.2.2.2.1.length) (Q := fun y => y = c.2.2.2.1) ⟨rfl, by simp, by simp⟩ (fun a h => h.2) ?_) ?_
    · rintro ⟨i, xs⟩ ⟨rfl, h3, h4⟩
      simp only [law_br_iff, law_need_iff, law_idx_iff, law_bind_iff, law_given_iff, law_ok_iff, ilt_true, ilt_false, Bool.and_eq_true, ile_true] at h3 h4 ⊢
      refine ⟨fun h5 => ⟨⟨h3, h5⟩, by omega, ?_⟩, fun h5 => trivial⟩
      have h6 : i.toNat < c.2.2.2.1.length := by omega
      refine ⟨_, by rw [idx0]; exact List.getElem?_eq_getElem h6, fun _ => ?_⟩
      refine law_call (own_ok _) fun _ => ⟨⟨h3, h5⟩, by omega, _, by rw [idx0]; exact List.getElem?_eq_getElem h6, fun _ => ⟨?_, ?_, ?_, ?_⟩⟩
      · exact wrap64 (by omega)
      · rw [Nat.zero_add]
        exact set_self (List.getElem?_eq_getElem h6)
      · rw [wrap64 (by omega)]; omega
      · rw [wrap64 (by omega)]; omega
    · rintro _ rfl
      rfl

theorem new_ok (n : Int) : (R.heap_New n).sat (· = (min (max n 0) 4096, [])) := by
  unfold R.heap_New
  simp only [law_given_iff, law_ok_iff]
  intro _
  rw [minI_eq, maxI_eq]

theorem has_ok (h : HeapT) (r : Int) : (R.heap_Heap_has h r).sat (· = (decide (0 ≤ r) && decide (r < h.2.length))) := by
  unfold R.heap_Heap_has
  simp only [law_given_iff, law_ok_iff, law_br_iff, ile, ilt]
  intro _
  exact ⟨fun h => by rw [h]; rfl, fun h => by rw [h]; rfl⟩

/-- Make. -/
def makeF (h : HeapT) (c : CellT) : (Int × Bool) × HeapT :=
  if h.1 ≤ h.2.length then ((0, false), h) else ((h.2.length, true), (h.1, h.2 ++ [c]))
theorem make_ok (h : HeapT) (c : CellT) (hc : copyOk c) (hl : h.2.length ≤ 10000) : (R.heap_Heap_Make h c).sat (· = makeF h c) := by
  unfold R.heap_Heap_Make makeF
  simp only [law_given_iff, law_br_iff, law_ok_iff, law_bind_iff, ile_true, ile_false]
  intro _
  refine ⟨fun h1 => by rw [if_pos h1], fun h1 => ?_⟩
  rw [if_neg (by omega)]
  refine law_call (copied_ok c hc) fun _ => ?_
  simp only [law_need_iff, decide_eq_true_eq, law_ok_iff, List.length_append, List.length_cons, List.length_nil]
  refine ⟨by omega, ?_⟩
  rw [wrap64 (by omega)]
  simp

theorem cell_ok (h : HeapT) (r : Int) (hc : ∀ c ∈ h.2, copyOk c) : (R.heap_Heap_Cell h r).sat fun y => ((0 ≤ r ∧ r < h.2.length) → ∃ c, h.2[r.toNat]? = some c ∧ y = (c, true)) ∧ (¬ (0 ≤ r ∧ r < h.2.length) → y.2 = false) := by
  unfold R.heap_Heap_Cell
  simp only [law_given_iff, law_bind_iff]
  intro _
  refine law_call (has_ok h r) ?_
  simp only [law_br_iff, law_idxS_iff, law_ok_iff, law_bind_iff, law_given_iff]
  refine ⟨fun h1 => ⟨fun h2 => ?_, fun _ => trivial⟩, fun h1 => ?_⟩
  · simp [h2.1, h2.2] at h1
  · simp at h1
    have h6 : r.toNat < h.2.length := by omega
    refine ⟨h1.1, _, List.getElem?_eq_getElem h6, fun _ => ?_⟩
    refine law_call (copied_ok _ (hc _ (List.getElem_mem h6))) fun _ => ?_
    exact ⟨fun _ => ⟨_, List.getElem?_eq_getElem h6, rfl⟩, fun h => absurd h1 h⟩
end Go.Mach

set_option maxRecDepth 100000
namespace Go.Mach
open Res

theorem beqDec (a b : Int) : (a == b) = decide (a = b) := by by_cases h : a = b <;> simp [h]

theorem eqLoop (k : IntKind) (a b : List Int) (hl : a.length = b.length) (ha : a.length < 2 ^ 62) : (Res.loop (α := Int) (β := (Unit ⊕ Bool)) (fun i1 => Res.br (ilt i1 (a.length : Int)) (Res.idxS (.frz (.int k)) a i1 fun e2 => Res.idxS (.frz (.int k)) b i1 fun e3 => Res.br (!(e2 == e3)) (Res.ok (.done (.inr false))) (Res.ok (.next (IntKind.wrap .i64 (i1 + 1))))) (Res.ok (.done (.inl ())))) fuel 0).sat fun y => y = if a = b then .inl () else .inr false := by
  refine law_for (fun i => i) a.length (by omega) (fun i => (0 ≤ i ∧ i ≤ a.length) ∧ ∀ j, j < i.toNat → a[j]? = b[j]?) ⟨⟨by omega, by omega⟩, fun j hj => by simp at hj⟩ (fun i h => h.1) ?_
  rintro i ⟨⟨h1, h2⟩, h3⟩
  refine law_br (fun h4 => ?_) fun h4 => ?_
  · rw [ilt_true] at h4
    refine law_idxS h1 (by show i.toNat < a.length; omega) fun e2 he2 _ => law_idxS h1 (by show i.toNat < b.length; omega) fun e3 he3 _ => ?_
    have he2 : a[i.toNat]? = some e2 := he2
    have he3 : b[i.toNat]? = some e3 := he3
    refine law_br (fun h5 => law_ok ?_) fun h5 => law_ok ⟨wrap64 (by omega), ?_⟩
    · rw [if_neg]
      rintro rfl
      rw [he2] at he3
      cases he3
      simp at h5
    · rw [wrap64 (by omega)]
      refine ⟨⟨by omega, by omega⟩, fun j hj => ?_⟩
      by_cases hj' : j < i.toNat
      · exact h3 j hj'
      · have : j = i.toNat := by omega
        subst this
        have h5 : e2 = e3 := by simpa using h5
        rw [he2, he3, h5]
  · rw [ilt_false] at h4
    refine law_ok ?_
    rw [if_pos]
    apply List.ext_getElem?
    intro j
    by_cases hj : j < a.length
    · exact h3 j (by omega)
    · rw [List.getElem?_eq_none (by omega), List.getElem?_eq_none (by omega)]

theorem lenOkS_lt {k : IntKind} {n : Nat} (h : lenOkS (.frz (.int k)) n = true) : n < 2 ^ 62 := by
  have h := of_decide_eq_true h
  cases k <;> simp [Sh.minB, Ty.minB, IntKind.minB] at h <;> omega

theorem units_ok (a b : List Int) : (R.renref_Units a b).sat (· = decide (a = b)) := by
  unfold R.renref_Units
  refine law_given fun h => ?_
  have hl : lenOkS (.frz (.int .u16)) a.length = true := by
    simp only [oks, List.map, Par.v, Sh.ok, Bool.and_eq_true] at h
    exact h.1
  have ha := lenOkS_lt hl
  by_cases hlen : a.length = b.length
  · refine law_f (by simp [hlen]) (law_bind_eq (eqLoop .u16 a b hlen ha) ?_)
    by_cases hab : a = b
    · rw [if_pos hab]; exact law_inl (law_ok (by simp [hab]))
    · rw [if_neg hab]; exact law_inr (law_ok (by simp [hab]))
  · refine law_t (by simp; omega) (law_ok ?_)
    have : a ≠ b := fun h => hlen (by rw [h])
    simp [this]
theorem limbs_ok (a b : List Int) : (R.renref_Limbs a b).sat (· = decide (a = b)) := by
  unfold R.renref_Limbs
  refine law_given fun h => ?_
  have hl : lenOkS (.frz (.int .u32)) a.length = true := by
    simp only [oks, List.map, Par.v, Sh.ok, Bool.and_eq_true] at h
    exact h.1
  have ha := lenOkS_lt hl
  by_cases hlen : a.length = b.length
  · refine law_f (by simp [hlen]) (law_bind_eq (eqLoop .u32 a b hlen ha) ?_)
    by_cases hab : a = b
    · rw [if_pos hab]; exact law_inl (law_ok (by simp [hab]))
    · rw [if_neg hab]; exact law_inr (law_ok (by simp [hab]))
  · refine law_t (by simp; omega) (law_ok ?_)
    have : a ≠ b := fun h => hlen (by rw [h])
    simp [this]
theorem equal16_ok (a b : List Int) : (R.slices_Equal_uint16 a b).sat (· = decide (a = b)) := by
  unfold R.slices_Equal_uint16
  refine law_given fun h => ?_
  have hl : lenOkS (.frz (.int .u16)) a.length = true := by
    simp only [oks, List.map, Par.v, Sh.ok, Bool.and_eq_true] at h
    exact h.1
  have ha := lenOkS_lt hl
  by_cases hlen : a.length = b.length
  · refine law_f (by simp [hlen]) (law_bind_eq (eqLoop .u16 a b hlen ha) ?_)
    by_cases hab : a = b
    · rw [if_pos hab]; exact law_inl (law_ok (by simp [hab]))
    · rw [if_neg hab]; exact law_inr (law_ok (by simp [hab]))
  · refine law_t (by simp; omega) (law_ok ?_)
    have : a ≠ b := fun h => hlen (by rw [h])
    simp [this]
theorem equal32_ok (a b : List Int) : (R.slices_Equal_uint32 a b).sat (· = decide (a = b)) := by
  unfold R.slices_Equal_uint32
  refine law_given fun h => ?_
  have hl : lenOkS (.frz (.int .u32)) a.length = true := by
    simp only [oks, List.map, Par.v, Sh.ok, Bool.and_eq_true] at h
    exact h.1
  have ha := lenOkS_lt hl
  by_cases hlen : a.length = b.length
  · refine law_f (by simp [hlen]) (law_bind_eq (eqLoop .u32 a b hlen ha) ?_)
    by_cases hab : a = b
    · rw [if_pos hab]; exact law_inl (law_ok (by simp [hab]))
    · rw [if_neg hab]; exact law_inr (law_ok (by simp [hab]))
  · refine law_t (by simp; omega) (law_ok ?_)
    have : a ≠ b := fun h => hlen (by rw [h])
    simp [this]
theorem textSame_ok (a b : List Int) : (R.text_Same a b).sat (· = decide (a = b)) := by
  unfold R.text_Same
  exact law_given fun _ => law_bind_eq (equal16_ok a b) (law_ok rfl)

/-- Same. -/
theorem same_ok (a b : ValT) : (R.heap_Same a b).sat (· = decide (a = b)) := by
  unfold R.heap_Same
  obtain ⟨k, ⟨n1, n2⟩, ⟨g, m⟩, s, r⟩ := a
  obtain ⟨k', ⟨n1', n2'⟩, ⟨g', m'⟩, s', r'⟩ := b
  refine law_given fun _ => ?_
  simp only [Prod.mk.injEq]
  refine law_br (fun h1 => ?_) fun h1 => law_ok (by simp at h1; simp [h1])
  have h1 : k = k' := by simpa using h1
  refine law_br (fun h2 => ?_) fun h2 => law_ok (by simp at h2; simp; intros; simp_all)
  have h2 : n1 = n1' ∧ n2 = n2' := by simpa using h2
  refine law_br (fun h3 => ?_) fun h3 => law_ok (by simp at h3; simp [h3])
  have h3 : g = g' := by simpa using h3
  refine law_bind_eq (equal32_ok m m') (law_br (fun h4 => ?_) fun h4 => law_ok (by simp at h4; simp [h4]))
  have h4 : m = m' := by simpa using h4
  refine law_bind_eq (equal16_ok s s') (law_br (fun h5 => ?_) fun h5 => law_ok (by simp at h5; simp [h5]))
  have h5 : s = s' := by simpa using h5
  exact law_ok (by simp [h1, h2, h3, h4, h5, beqDec])

theorem refSame_ok (a b : ValT) : (R.renref9_Same a b).sat (· = decide (a = b)) := by
  unfold R.renref9_Same
  obtain ⟨k, ⟨n1, n2⟩, ⟨g, m⟩, s, r⟩ := a
  obtain ⟨k', ⟨n1', n2'⟩, ⟨g', m'⟩, s', r'⟩ := b
  refine law_given fun _ => ?_
  simp only [Prod.mk.injEq]
  refine law_br (fun h1 => ?_) fun h1 => law_ok (by simp at h1; simp [h1])
  have h1 : k = k' := by simpa using h1
  have hnum : (R.renref_Num (n1, n2) (n1', n2')).sat (· = decide (n1 = n1' ∧ n2 = n2')) := by
    unfold R.renref_Num
    refine law_given fun _ => law_br (fun h => ?_) fun h => law_ok (by simp at h; simp [h])
    have h : n1 = n1' := by simpa using h
    exact law_ok (by simp [h, beqDec])
  have hbig : (R.renref_Big (g, m) (g', m')).sat (· = decide (g = g' ∧ m = m')) := by
    unfold R.renref_Big
    refine law_given fun _ => law_br (fun h => ?_) fun h => law_ok (by simp at h; simp [h])
    have h : g = g' := by simpa using h
    exact law_bind_eq (limbs_ok m m') (law_ok (by simp [h]))
  refine law_bind_eq hnum (law_br (fun h2 => ?_) fun h2 => law_ok (by simp at h2; simp; omega))
  have h2 : n1 = n1' ∧ n2 = n2' := by simpa using h2
  refine law_bind_eq hbig (law_br (fun h3 => ?_) fun h3 => law_ok (by simp at h3; simp; intros; simp_all))
  have h3 : g = g' ∧ m = m' := by simpa using h3
  refine law_bind_eq (units_ok s s') (law_br (fun h5 => ?_) fun h5 => law_ok (by simp at h5; simp [h5]))
  have h5 : s = s' := by simpa using h5
  exact law_ok (by simp [h1, h2, h3, h5, beqDec])

theorem plain_ok (a : ValT) : (R.renlaw9_Plain a).sat (· = a) := by
  unfold R.renlaw9_Plain
  exact law_given fun _ => law_ok rfl
end Go.Mach

set_option maxRecDepth 100000
namespace Go.Mach
open Res

theorem notT {b : Bool} (h : (!b) = true) : b = false := by cases b <;> simp_all
theorem notF {b : Bool} (h : (!b) = false) : b = true := by cases b <;> simp_all

theorem idxLoop {s : Sh} (xs : List s.den) (q : s.den → Bool) (f : s.den → Res Bool) (hf : ∀ x ∈ xs, (f x).sat (· = q x)) (hl : xs.length < 2 ^ 62) :
    (Res.loop (α := Int) (β := (Unit ⊕ Int)) (fun x1 => Res.br (ilt x1 (xs.length : Int)) (Res.idxS s xs x1 fun e2 => Res.bind (f e2) fun r3 => Res.br r3 (Res.ok (.done (.inr x1))) (Res.ok (.next (IntKind.wrap .i64 (x1 + 1))))) (Res.ok (.done (.inl ())))) fuel 0).sat fun y => y = match xs.findIdx? q with
      | none => .inl ()
      | some i => .inr (i : Int) := by
  refine law_for (fun i => i) xs.length (by omega) (fun i => (0 ≤ i ∧ i ≤ xs.length) ∧ ∀ j (h : j < xs.length), j < i.toNat → q xs[j] = false) ⟨⟨by omega, by omega⟩, fun j _ hj => by simp at hj⟩ (fun i h => h.1) ?_
  rintro i ⟨⟨h1, h2⟩, h3⟩
  refine law_br (fun h4 => ?_) fun h4 => ?_
  · rw [ilt_true] at h4
    have hi : i.toNat < xs.length := by omega
    refine law_idxS h1 hi fun e he _ => ?_
    rw [List.getElem?_eq_getElem hi] at he
    cases he
    refine law_bind_eq (hf _ (List.getElem_mem hi)) (law_br (fun h5 => law_ok ?_) fun h5 => law_ok ⟨wrap64 (by omega), ?_⟩)
    · have : xs.findIdx? q = some i.toNat := List.findIdx?_eq_some_iff_getElem.2 ⟨hi, h5, fun j hj => by rw [h3 j (by omega) hj]; simp⟩
      rw [this]
      show Sum.inr i = Sum.inr ((i.toNat : Nat) : Int)
      rw [Int.toNat_of_nonneg h1]
    · rw [wrap64 (by omega)]
      refine ⟨⟨by omega, by omega⟩, fun j hj hj' => ?_⟩
      by_cases hj'' : j < i.toNat
      · exact h3 j hj hj''
      · have : j = i.toNat := by omega
        subst this
        exact h5
  · rw [ilt_false] at h4
    refine law_ok ?_
    have : xs.findIdx? q = none := List.findIdx?_eq_none_iff.2 fun x hx => by
      obtain ⟨j, hj, rfl⟩ := List.getElem_of_mem hx
      exact h3 j hj (by omega)
    rw [this]

/-! ### Properties -/

abbrev CellT.props (c : CellT) : List PropT := c.2.2.1
def CellT.withProps (c : CellT) (ps : List PropT) : CellT := (c.1, c.2.1, ps, c.2.2.2)
def keyAt (ps : List PropT) (key : List Int) : Option Nat := ps.findIdx? fun p => decide (p.1 = key)
def getK : List PropT → List Int → Option ValT
  | [], _ => none
  | p :: r, k => if p.1 = k then some p.2 else getK r k
def zeroV : ValT := (0, (0, 0), (false, []), [], 0)

theorem keyAt_some {ps : List PropT} {key : List Int} {i : Nat} (h : keyAt ps key = some i) : ∃ v, ps[i]? = some (key, v) ∧ getK ps key = some v := by
  induction ps generalizing i with
  | nil => simp [keyAt] at h
  | cons p r ih =>
    unfold keyAt at h
    rw [List.findIdx?_cons] at h
    by_cases hp : p.1 = key
    · simp only [hp, decide_true, if_true, Option.some.injEq] at h
      subst h
      refine ⟨p.2, ?_, by simp [getK, hp]⟩
      obtain ⟨p1, p2⟩ := p
      simp only at hp
      simp [hp]
    · simp only [hp, decide_false, Bool.false_eq_true, if_false, Option.map_eq_some_iff] at h
      obtain ⟨j, hj, rfl⟩ := h
      obtain ⟨v, h1, h2⟩ := ih (show keyAt r key = some j from hj)
      exact ⟨v, by simpa using h1, by simp [getK, hp, h2]⟩
theorem keyAt_none {ps : List PropT} {key : List Int} (h : keyAt ps key = none) : getK ps key = none := by
  induction ps with
  | nil => rfl
  | cons p r ih =>
    unfold keyAt at h
    rw [List.findIdx?_cons] at h
    by_cases hp : p.1 = key
    · simp [hp] at h
    · simp only [hp, decide_false, Bool.false_eq_true, if_false, Option.map_eq_none_iff] at h
      simp only [getK, if_neg hp]
      exact ih h

/-- Where a property stands: as a number. -/
def posOf : Option Nat → Int
  | none => -1
  | some i => i

theorem index_ok (ps : List PropT) (key : List Int) (hl : ps.length < 2 ^ 62) : (R.slices_IndexFunc_heapProp__heap_Heap_place_1 ps key).sat (· = posOf (keyAt ps key)) := by
  unfold R.slices_IndexFunc_heapProp__heap_Heap_place_1
  refine law_given fun _ => law_bind_eq (idxLoop (s := .frz T_heap_Prop) ps (fun p => decide (p.1 = key)) _ (fun x _ => ?_) hl) ?_
  · unfold R.heap_Heap_place_1
    exact law_given fun _ => law_bind_eq (textSame_ok x.1 key) (law_ok rfl)
  · unfold keyAt
    cases h : ps.findIdx? (fun p => decide (p.1 = key)) with
    | none => exact law_inl (law_ok rfl)
    | some i => exact law_inr (law_ok rfl)

theorem place_ok (h : HeapT) (r : Int) (key : List Int) {c : CellT} (h0 : 0 ≤ r) (hc : h.2[r.toNat]? = some c) (hl : c.props.length < 2 ^ 62) : (R.heap_Heap_place h r key).sat (· = posOf (keyAt c.props key)) := by
  unfold R.heap_Heap_place
  refine law_given fun _ => law_idxS h0 (List.getElem?_eq_some_iff.1 hc).1 fun x hx _ => ?_
  rw [hc] at hx
  cases hx
  exact law_bind_eq (index_ok _ key hl) (law_given fun _ => law_ok rfl)

def putP (ps : List PropT) (key : List Int) (v : ValT) : List PropT :=
  match keyAt ps key with
  | some i => ps.set i (key, v)
  | none => ps ++ [(key, v)]
/-- Put. -/
def putF (h : HeapT) (r : Int) (key : List Int) (v : ValT) : Bool × HeapT :=
  if 0 ≤ r then match h.2[r.toNat]? with
    | none => (false, h)
    | some c => (true, (h.1, h.2.set r.toNat (c.withProps (putP c.props key v))))
  else (false, h)

theorem has_false {h : HeapT} {r : Int} (hf : (decide (0 ≤ r) && decide (r < h.2.length)) = false) : 0 ≤ r → h.2[r.toNat]? = none := fun h0 => by
  simp only [h0, decide_true, Bool.true_and, decide_eq_false_iff_not] at hf
  exact List.getElem?_eq_none (by omega)
theorem has_true {h : HeapT} {r : Int} (hf : (decide (0 ≤ r) && decide (r < h.2.length)) = true) : 0 ≤ r ∧ ∃ c, h.2[r.toNat]? = some c := by
  simp only [Bool.and_eq_true, decide_eq_true_eq] at hf
  exact ⟨hf.1, _, List.getElem?_eq_getElem (by omega)⟩

theorem put_ok (h : HeapT) (r : Int) (key : List Int) (v : ValT) (hl : ∀ c ∈ h.2, c.props.length ≤ 2 ^ 30) : (R.heap_Heap_Put h r key v).sat (· = putF h r key v) := by
  unfold R.heap_Heap_Put
  refine law_given fun _ => law_bind_eq (has_ok h r) (law_br (fun h1 => ?_) fun h1 => ?_)
  · have h1 := has_false (notT h1)
    refine law_ok ?_
    unfold putF
    by_cases h0 : 0 ≤ r
    · rw [if_pos h0, h1 h0]
    · rw [if_neg h0]
  · obtain ⟨h0, c, hc⟩ := has_true (h := h) (r := r) (notF h1)
    have hput : putF h r key v = (true, (h.1, h.2.set r.toNat (c.withProps (putP c.props key v)))) := by
      unfold putF
      rw [if_pos h0, hc]
    rw [hput]
    have hlen := hl c (List.mem_of_getElem? hc)
    refine law_idxS h0 (List.getElem?_eq_some_iff.1 hc).1 fun x hx _ => ?_
    rw [hc] at hx
    cases hx
    have hset : (List.set h.2 r.toNat c) = h.2 := set_self hc
    refine law_bind_eq (a := posOf (keyAt c.props key)) ?_ (law_given fun _ => ?_)
    · show (R.heap_Heap_place (h.1, List.set h.2 r.toNat c) r key).sat _
      rw [hset]
      exact place_ok (h.1, h.2) r key h0 hc (by omega)
    have hb : (r.toNat == r.toNat) = true := by simp
    cases hk : keyAt c.props key with
    | some i =>
      have hpp : putP c.props key v = c.props.set i (key, v) := by unfold putP; rw [hk]
      rw [hpp]
      obtain ⟨w, h2, h3⟩ := keyAt_some hk
      have hi : i < c.props.length := (List.getElem?_eq_some_iff.1 h2).1
      have hile : ile 0 (posOf (some i)) = true := by simp [ile, posOf]
      refine law_t hile (law_need hb (law_bind_eq (own_ok v) (law_given fun _ => law_need ?_ ?_)))
      · rw [Bool.and_eq_true, ilt_true]
        exact ⟨hile, Int.ofNat_lt.2 hi⟩
      · have hidx : ((0 : Int) + ((posOf (some i)).toNat : Int)).toNat = i := by simp [posOf]
        refine law_idx (by simp [posOf]) (by rw [hidx]; exact hi) fun e he _ => law_ok ?_
        rw [hidx] at he
        have he : c.props[i]? = some e := he
        rw [h2] at he
        cases he
        simp only [posOf, Int.toNat_natCast, Nat.zero_add]
        rfl
    | none =>
      have hpp : putP c.props key v = c.props ++ [(key, v)] := by unfold putP; rw [hk]
      rw [hpp]
      refine law_f (by simp [ile, posOf]) (law_need hb (law_bind_eq (a := key) (law_ok rfl) (law_given fun _ => law_bind_eq (own_ok v) (law_given fun _ => law_need ?_ (law_need hb (law_ok rfl))))))
      simp only [decide_eq_true_eq, List.length_singleton]
      have : c.2.2.1.length ≤ 2 ^ 30 := hlen
      omega

/-- Own. -/
def ownF (cells : List CellT) (r : Int) (key : List Int) : Option ValT :=
  if 0 ≤ r then match cells[r.toNat]? with
    | none => none
    | some c => getK c.props key
  else none
theorem ownOp_ok (h : HeapT) (r : Int) (key : List Int) (hl : ∀ c ∈ h.2, c.props.length ≤ 2 ^ 30) : (R.heap_Heap_Own h r key).sat (· = match ownF h.2 r key with | none => (zeroV, false) | some v => (v, true)) := by
  unfold R.heap_Heap_Own ownF
  refine law_given fun _ => law_bind_eq (has_ok h r) (law_br (fun h1 => ?_) fun h1 => ?_)
  · have h1 := has_false (notT h1)
    refine law_ok ?_
    by_cases h0 : 0 ≤ r
    · rw [if_pos h0, h1 h0]; rfl
    · rw [if_neg h0]; rfl
  · obtain ⟨h0, c, hc⟩ := has_true (h := h) (r := r) (notF h1)
    rw [if_pos h0, hc]
    have hlen := hl c (List.mem_of_getElem? hc)
    refine law_bind_eq (place_ok h r key h0 hc (by omega)) (law_given fun _ => ?_)
    cases hk : keyAt c.props key with
    | none =>
      refine law_t (by simp [ilt, posOf]) (law_ok ?_)
      simp only [keyAt_none hk]
      rfl
    | some i =>
      obtain ⟨w, h2, h3⟩ := keyAt_some hk
      have hi : i < c.props.length := (List.getElem?_eq_some_iff.1 h2).1
      refine law_f (by rw [ilt_false]; simp [posOf]) (law_idxS h0 (List.getElem?_eq_some_iff.1 hc).1 fun x hx _ => ?_)
      rw [hc] at hx
      cases hx
      refine law_idxS (by simp [posOf]) (by simpa [posOf] using hi) fun e he _ => ?_
      have he : c.props[i]? = some e := by simpa [posOf] using he
      rw [h2] at he
      cases he
      refine law_bind_eq (own_ok w) (law_given fun _ => law_ok ?_)
      simp only [h3]

/-- Find. -/
def findF (cells : List CellT) (key : List Int) : Nat → Int → ValT × Int × Bool
  | 0, _ => (zeroV, -2, false)
  | n + 1, r => match ownF cells r key with
    | some v => (v, 0, true)
    | none => if 0 ≤ r then match cells[r.toNat]? with
        | none => (zeroV, -2, false)
        | some c => if c.2.1 < 0 then (zeroV, c.2.1, false) else findF cells key n c.2.1
      else (zeroV, -2, false)

theorem find_ok (h : HeapT) (r : Int) (key : List Int) (hl : ∀ c ∈ h.2, c.props.length ≤ 2 ^ 30) (hn : h.2.length ≤ 10000) : (R.heap_Heap_Find h r key).sat (· = findF h.2 key h.2.length r) := by
  unfold R.heap_Heap_Find
  refine law_given fun _ => law_bind' (R := fun y => match y with
      | .inl _ => findF h.2 key h.2.length r = (zeroV, -2, false)
      | .inr z => findF h.2 key h.2.length r = ((z.2.2.1, (z.2.2.2.1, z.2.2.2.2.1), (z.2.2.2.2.2.1, z.2.2.2.2.2.2.1), z.2.2.2.2.2.2.2), z.1, z.2.1)) (law_for (fun x : Int × Int => x.2) h.2.length (by omega) (fun x => (0 ≤ x.2 ∧ x.2 ≤ h.2.length) ∧ findF h.2 key (h.2.length - x.2.toNat) x.1 = findF h.2 key h.2.length r) ⟨⟨by simp, by simp⟩, by simp⟩ (fun x hx => hx.1) ?_) ?_
  · rintro ⟨q, i⟩ ⟨⟨h1, h2⟩, h3⟩
    simp only at h1 h2 h3
    refine law_br (fun h4 => ?_) fun h4 => ?_
    · rw [ilt_true] at h4
      obtain ⟨m, hm⟩ : ∃ m, h.2.length - i.toNat = m + 1 := ⟨h.2.length - i.toNat - 1, by simp only at h4; omega⟩
      rw [hm] at h3
      generalize findF h.2 key h.2.length r = G at h3 ⊢
      unfold findF at h3
      refine law_bind_eq (ownOp_ok h q key hl) (law_given fun _ => ?_)
      cases ho : ownF h.2 q key with
      | some v =>
        simp only [ho] at h3
        refine law_t rfl (law_ok ?_)
        show G = _
        rw [← h3]
      | none =>
        simp only [ho] at h3
        refine law_f rfl (law_bind_eq (has_ok h q) (law_br (fun h5 => ?_) fun h5 => ?_))
        · have h5 := has_false (notT h5)
          refine law_ok ?_
          show G = _
          rw [← h3]
          by_cases h0 : 0 ≤ q
          · rw [if_pos h0, h5 h0]; rfl
          · rw [if_neg h0]; rfl
        · obtain ⟨h0, c, hc⟩ := has_true (h := h) (r := q) (notF h5)
          rw [if_pos h0, hc] at h3
          refine law_idxS h0 (List.getElem?_eq_some_iff.1 hc).1 fun x hx _ => ?_
          rw [hc] at hx
          cases hx
          refine law_br (fun h6 => law_ok ?_) fun h6 => law_ok ⟨wrap64 (by simp only at h4; omega), ?_⟩
          · rw [ilt_true] at h6
            show G = _
            rw [← h3]
            simp only [if_pos h6]
            rfl
          · rw [ilt_false] at h6
            have h6 : ¬ c.2.1 < 0 := Int.not_lt.2 h6
            simp only [if_neg h6] at h3
            simp only at h4
            rw [wrap64 (by omega)]
            refine ⟨⟨by omega, by omega⟩, ?_⟩
            rw [show h.2.length - (i + 1).toNat = m by omega]
            exact h3
    · rw [ilt_false] at h4
      simp only at h4
      refine law_ok ?_
      show findF h.2 key h.2.length r = _
      rw [← h3, show h.2.length - i.toNat = 0 by omega]
      rfl
  · intro y hy
    cases y with
    | inl u => exact law_inl (law_ok hy.symm)
    | inr z => exact law_inr (law_ok hy.symm)

/-- Drop. -/
theorem count_ok (h : HeapT) (r : Int) : (R.heap_Heap_Count h r).sat (· = if 0 ≤ r then match h.2[r.toNat]? with | none => 0 | some c => (c.props.length : Int) else 0) := by
  unfold R.heap_Heap_Count
  refine law_given fun _ => law_bind_eq (has_ok h r) (law_br (fun h1 => ?_) fun h1 => ?_)
  · have h1 := has_false (notT h1)
    refine law_ok ?_
    by_cases h0 : 0 ≤ r
    · rw [if_pos h0, h1 h0]
    · rw [if_neg h0]
  · obtain ⟨h0, c, hc⟩ := has_true (h := h) (r := r) (notF h1)
    rw [if_pos h0, hc]
    refine law_idxS h0 (List.getElem?_eq_some_iff.1 hc).1 fun x hx _ => ?_
    rw [hc] at hx
    cases hx
    exact law_ok rfl
def dropF (h : HeapT) (r : Int) : (ValT × Bool) × HeapT :=
  if 0 ≤ r then match h.2[r.toNat]? with
    | none => ((zeroV, false), h)
    | some c => match c.props.getLast? with
      | none => ((zeroV, false), h)
      | some p => ((p.2, true), (h.1, h.2.set r.toNat (c.withProps c.props.dropLast)))
  else ((zeroV, false), h)
theorem drop_ok (h : HeapT) (r : Int) (hl : ∀ c ∈ h.2, c.props.length ≤ 2 ^ 30) : (R.heap_Heap_Drop h r).sat (· = dropF h r) := by
  unfold R.heap_Heap_Drop
  refine law_given fun _ => law_bind_eq (count_ok h r) (law_given fun _ => ?_)
  by_cases h0 : 0 ≤ r
  case neg =>
    simp only [dropF, if_neg h0]
    exact law_t rfl (law_ok rfl)
  simp only [if_pos h0]
  cases hc : h.2[r.toNat]? with
  | none =>
    simp only [dropF, if_pos h0, hc]
    exact law_t rfl (law_ok rfl)
  | some c =>
    have hlen := hl c (List.mem_of_getElem? hc)
    have hd : dropF h r = match c.props.getLast? with
        | none => ((zeroV, false), h)
        | some p => ((p.2, true), (h.1, h.2.set r.toNat (c.withProps c.props.dropLast))) := by
      unfold dropF
      rw [if_pos h0, hc]
    rw [hd]
    refine law_br (fun h1 => ?_) fun h1 => ?_
    · have : c.props = [] := by simpa using h1
      rw [this]
      exact law_ok rfl
    · have hne : c.props ≠ [] := by intro he; simp [he] at h1
      have hpos : 0 < c.props.length := List.length_pos_iff.2 hne
      obtain ⟨pl, hpl0⟩ : ∃ p, c.props[c.props.length - 1]? = some p := ⟨_, List.getElem?_eq_getElem (by omega)⟩
      rw [List.getLast?_eq_getElem?, hpl0]
      have hpl : c.2.2.1.length = c.props.length := rfl
      have hb : (r.toNat == r.toNat) = true := by simp
      refine law_idxS h0 (List.getElem?_eq_some_iff.1 hc).1 fun x hx _ => ?_
      rw [hc] at hx
      cases hx
      rw [hpl, wrap64 (by omega)]
      refine law_need hb (law_need hb (law_need (by rw [Bool.and_eq_true, ile_true, ilt_true]; omega) ?_))
      have hidx : ((0 : Int) + (((c.props.length : Int) - 1).toNat : Int)).toNat = c.props.length - 1 := by omega
      refine law_idx (by omega) (by rw [hidx]; show c.props.length - 1 < c.props.length; omega) fun e he _ => ?_
      rw [hidx] at he
      have he : c.props[c.props.length - 1]? = some e := he
      rw [hpl0] at he
      refine law_need hb (law_need (by rw [Bool.and_eq_true, ile_true, ile_true]; omega) (law_need hb (law_bind_eq (own_ok e.2) (law_given fun _ => law_ok ?_))))
      rw [show ((c.props.length : Int) - 1).toNat = c.props.length - 1 by omega, List.drop_zero, List.dropLast_eq_take]
      cases he
      rfl
end Go.Mach

set_option maxRecDepth 100000
namespace Go.Mach
open Res

abbrev CellT.bytes (c : CellT) : List Int := c.2.2.2.2.2.2.2.2.2.2.2.2
def CellT.withBytes (c : CellT) (b : List Int) : CellT := (c.1, c.2.1, c.2.2.1, c.2.2.2.1, c.2.2.2.2.1, c.2.2.2.2.2.1, c.2.2.2.2.2.2.1, c.2.2.2.2.2.2.2.1, c.2.2.2.2.2.2.2.2.1, c.2.2.2.2.2.2.2.2.2.1, c.2.2.2.2.2.2.2.2.2.2.1, c.2.2.2.2.2.2.2.2.2.2.2.1, b)

/-- Write. -/
def writeIn (c : CellT) (at_ : Int) (b : List Int) : Prop := 0 ≤ at_ ∧ at_ + b.length ≤ c.bytes.length
instance (c : CellT) (at_ : Int) (b : List Int) : Decidable (writeIn c at_ b) := by unfold writeIn; infer_instance
def writeF (h : HeapT) (r : Int) (at_ : Int) (b : List Int) : Bool × HeapT :=
  if 0 ≤ r then match h.2[r.toNat]? with
    | none => (false, h)
    | some c => if writeIn c at_ b then (true, (h.1, h.2.set r.toNat (c.withBytes (c.bytes.take at_.toNat ++ (b ++ c.bytes.drop (at_.toNat + b.length)))))) else (false, h)
  else (false, h)

theorem write_ok (h : HeapT) (r at_ : Int) (b : List Int) (hb : ∀ c ∈ h.2, c.bytes.length ≤ 2 ^ 40) : (R.heap_Heap_Write h r at_ b).sat (· = writeF h r at_ b) := by
  unfold R.heap_Heap_Write writeF
  simp only [law_given_iff, law_bind_iff]
  intro _
  refine law_call (has_ok h r) ?_
  simp only [law_br_iff, law_idxS_iff, law_ok_iff, law_bind_iff, law_given_iff, law_need_iff, ilt_true, ilt_false, ile_true, ile_false, Bool.and_eq_true, beq_self_eq_true, true_and]
  refine ⟨fun h1 => ?_, fun h1 => ?_⟩
  · simp at h1
    by_cases h0 : 0 ≤ r
    · rw [if_pos h0, List.getElem?_eq_none (by omega)]
    · rw [if_neg h0]
  · simp at h1
    obtain ⟨h0, h1⟩ := h1
    have h6 : r.toNat < h.2.length := by omega
    have hx := List.getElem?_eq_getElem h6
    have hc := hb _ (List.getElem_mem h6)
    rw [if_pos h0]
    generalize h.2[r.toNat] = c at hx hc
    rw [hx]
    have hset : h.2.set r.toNat c = h.2 := set_self hx
    refine ⟨h0, c, rfl, fun _ => ?_⟩
    simp only [hset, true_and]
    simp only [CellT.bytes] at hc
    have hin : writeIn c at_ b ↔ 0 ≤ at_ ∧ at_ + b.length ≤ c.2.2.2.2.2.2.2.2.2.2.2.2.length := Iff.rfl
    refine ⟨fun h2 => ?_, fun h2 => ⟨fun h3 => ?_, fun h3 => ?_⟩⟩
    · refine ⟨fun _ => ?_, fun h => by cases h⟩
      rw [if_neg (by rw [hin]; omega)]
    · refine ⟨fun _ => ?_, fun h => by cases h⟩
      rw [if_neg (by rw [hin]; omega)]
    · rw [wrap64 (by omega)]
      refine ⟨fun h4 => ?_, fun h4 => ⟨⟨h2, h3⟩, ?_⟩⟩
      · rw [if_neg (by rw [hin]; omega)]
      · rw [if_pos (by rw [hin]; omega)]
        have hmin : min b.length (c.2.2.2.2.2.2.2.2.2.2.2.2.length - at_.toNat) = b.length := by omega
        simp only [hmin, List.take_length, Nat.zero_add]
        rfl

theorem bytes_law (b x : List Int) (at_ : Int) : (R.renlaw9_HeapBytes b x at_).sat (· = true) := by
  unfold R.renlaw9_HeapBytes
  refine law_given fun hok => law_bind_eq first_sat (law_f rfl ?_)
  refine law_bind_eq (new_ok 2) (law_given fun _ => ?_)
  by_cases hsm : b.length ≤ 4000 ∧ x.length ≤ 4000
  case neg =>
    refine law_bind_eq (a := true) ?_ (law_t rfl (law_bind_eq first_sat rfl))
    simp only [law_br_iff, law_ok_iff, ilt_true, ilt_false]
    exact ⟨fun _ => trivial, fun h => by omega⟩
  obtain ⟨hb, hx⟩ := hsm
  refine law_bind_eq (a := false) ?_ (law_f rfl ?_)
  · simp only [law_br_iff, law_ok_iff, ilt_true, ilt_false]
    exact ⟨fun h => by omega, fun h => by omega⟩
  let c0 : CellT := (5, 0, [], [], [], 0, 0, (0, (0, 0), (false, []), [], 0), 0, 0, 0, 0, b)
  have hc0 : copyOk c0 := by simp [copyOk, c0]
  rw [show ((min (max 2 0) 4096 : Int), ([] : List CellT)) = (2, []) from rfl]
  have hm : makeF (2, []) c0 = ((0, true), (2, [c0])) := by simp [makeF]
  refine law_bind_eq (a := ((0, true), (2, [c0]))) (by rw [← hm]; exact make_ok (2, []) c0 hc0 (by simp)) (law_given fun _ => ?_)
  have hcb : ∀ c ∈ [c0], c.bytes.length ≤ 2 ^ 40 := by simp [c0, CellT.bytes]; omega
  let bs : List Int := if 0 ≤ at_ ∧ at_ + x.length ≤ b.length then b.take at_.toNat ++ (x ++ b.drop (at_.toNat + x.length)) else b
  let c1 : CellT := (5, 0, [], [], [], 0, 0, (0, (0, 0), (false, []), [], 0), 0, 0, 0, 0, bs)
  have hw : writeF (2, [c0]) 0 at_ x = (decide (0 ≤ at_ ∧ at_ + x.length ≤ b.length), (2, [c1])) := by
    simp only [writeF, writeIn, CellT.bytes, c0, c1, bs, CellT.withBytes]
    by_cases h : 0 ≤ at_ ∧ at_ + x.length ≤ b.length <;> simp [h]
  refine law_bind_eq (a := (decide (0 ≤ at_ ∧ at_ + x.length ≤ b.length), (2, [c1]))) (by rw [← hw]; exact write_ok (2, [c0]) 0 at_ x hcb) (law_given fun _ => ?_)
  have hc1 : copyOk c1 := by simp [copyOk, c1]
  refine law_bind_eq (a := (c1, true)) (law_mono (cell_ok (2, [c1]) 0 (by simpa using hc1)) fun y hy => ?_) (law_given fun _ => ?_)
  · obtain ⟨c, h1, h2⟩ := hy.1 (by simp)
    simp at h1
    rw [h2, ← h1]
  have hlen : bs.length = b.length := by
    simp only [bs]
    split
    · simp; omega
    · rfl
  refine law_bind_eq (a := decide (0 ≤ at_ ∧ at_ + x.length ≤ b.length)) ?_ ?_
  · simp only [law_br_iff, law_ok_iff, ile_true, ile_false]
    refine ⟨fun h1 => ⟨fun h2 => ?_, fun h2 => by simp; omega⟩, fun h1 => by simp; omega⟩
    rw [wrap64 (by omega)]
    simp only [ile]
    congr 1
    apply propext
    omega
  generalize hin : decide (0 ≤ at_ ∧ at_ + x.length ≤ b.length) = inn
  refine law_bind_eq (a := false) ?_ (law_f rfl ?_)
  · simp only [law_br_iff, law_ok_iff]
    simp [c1, hlen]
  refine law_bind' (R := fun y => y = Sum.inl ()) (law_for (fun i => i) b.length (by omega) (fun i => 0 ≤ i ∧ i ≤ b.length) (by simp) (fun a h => h) ?_) ?_
  · rintro i ⟨h1, h2⟩
    refine law_br (fun h3 => ?_) fun h3 => ?_
    · rw [ilt_true] at h3
      refine law_idxS h1 (by omega) fun e he hek => ?_
      refine law_bind' (R := fun w => bs[i.toNat]? = some w) ?_ ?_
      · refine law_bind' (R := fun y => y = (inn && (decide (at_ ≤ i) && decide (i - at_ < x.length)))) ?_ ?_
        · refine law_br (fun h4 => ?_) fun h4 => ?_
          · subst h4
            simp only [decide_eq_true_eq] at hin
            refine law_br (fun h5 => ?_) fun h5 => ?_
            · rw [ile_true] at h5
              rw [wrap64 (by omega)]
              exact law_ok (by simp [h5, ilt])
            · rw [ile_false] at h5
              exact law_ok (by simp; omega)
          · exact law_ok (by simp [h4])
        · rintro _ rfl
          cases inn with
          | false =>
            have hbs : bs = b := by simp only [bs]; rw [if_neg (by simpa using hin)]
            exact law_f rfl (law_ok (by rw [hbs]; exact he))
          | true =>
            have hin' := of_decide_eq_true hin
            have hbs : bs = b.take at_.toNat ++ (x ++ b.drop (at_.toNat + x.length)) := by simp only [bs]; rw [if_pos hin']
            by_cases hc : at_ ≤ i ∧ i - at_ < x.length
            · refine law_t (by simp [hc.1, hc.2]) ?_
              rw [wrap64 (by omega)]
              refine law_idxS (by omega) (by omega) fun z hz _ => law_ok ?_
              rw [hbs, List.getElem?_append_right (by simp; omega), List.getElem?_append_left (by simp; omega)]
              rw [← hz]
              congr 1
              simp; omega
            · refine law_f (by simp; omega) (law_ok ?_)
              rw [hbs]
              by_cases hd : i < at_
              · rw [List.getElem?_append_left (by simp; omega), List.getElem?_take_of_lt (by omega)]
                exact he
              · rw [List.getElem?_append_right (by simp; omega), List.getElem?_append_right (by simp; omega), List.getElem?_drop]
                rw [← he]
                congr 1
                simp; omega
      · intro w hw
        refine law_idx h1 (by show i.toNat < bs.length; omega) fun e' he' _ => ?_
        have he' : bs[i.toNat]? = some e' := he'
        rw [hw] at he'
        cases he'
        refine law_f (by simp) (law_ok ⟨wrap64 (by omega), ?_, ?_⟩)
        · rw [wrap64 (by omega)]; omega
        · rw [wrap64 (by omega)]; omega
    · exact law_ok rfl
  · rintro _ rfl
    refine law_inl (law_bind_eq first_sat (law_t rfl ?_))
    have hw2 : writeF (2, [c1]) 1 0 [] = (false, (2, [c1])) := by simp [writeF]
    refine law_bind_eq (a := (false, (2, [c1]))) (by rw [← hw2]; exact write_ok (2, [c1]) 1 0 [] (by simp [c1, CellT.bytes]; omega)) (law_given fun _ => rfl)
end Go.Mach

set_option maxRecDepth 100000
namespace Go.Mach
open Res

def mkC (i : Nat) (ps : List PropT) : CellT := (1, (i : Int) - 1, ps, [], [], 0, 0, zeroV, 0, 0, 0, 0, [])
def tbl (n : Nat) (pr : Nat → List PropT) : List CellT := (List.range n).map fun i => mkC i (pr i)
theorem tbl_len (n : Nat) (pr : Nat → List PropT) : (tbl n pr).length = n := by simp [tbl]
theorem tbl_get {n i : Nat} {pr : Nat → List PropT} (h : i < n) : (tbl n pr)[i]? = some (mkC i (pr i)) := by
  simp [tbl, h]
theorem tbl_mem {n : Nat} {pr : Nat → List PropT} {c : CellT} (h : c ∈ tbl n pr) : ∃ i, i < n ∧ c = mkC i (pr i) := by
  simp only [tbl, List.mem_map, List.mem_range] at h
  obtain ⟨i, h1, h2⟩ := h
  exact ⟨i, h1, h2.symm⟩
theorem tbl_set {n r : Nat} {pr : Nat → List PropT} (ps : List PropT) : (tbl n pr).set r (mkC r ps) = tbl n fun i => if i = r then ps else pr i := by
  apply List.ext_getElem?
  intro j
  rw [List.getElem?_set]
  by_cases hj : j < n
  · rw [tbl_get hj, tbl_get hj]
    by_cases hr : r = j
    · subst hr; simp [tbl_len, hj]
    · rw [if_neg hr, if_neg (Ne.symm hr)]
  · have h1 : (tbl n pr)[j]? = none := List.getElem?_eq_none (by rw [tbl_len]; omega)
    have h2 : (tbl n fun i => if i = r then ps else pr i)[j]? = none := List.getElem?_eq_none (by rw [tbl_len]; omega)
    rw [h1, h2, tbl_len]
    by_cases hr : r = j
    · subst hr; simp [hj]
    · rw [if_neg hr]

def chain (pr : Nat → List PropT) (key : List Int) : Nat → ValT × Int × Bool
  | 0 => match getK (pr 0) key with
    | some v => (v, 0, true)
    | none => (zeroV, -1, false)
  | i + 1 => match getK (pr (i + 1)) key with
    | some v => (v, 0, true)
    | none => chain pr key i

theorem find_tbl {n : Nat} {pr : Nat → List PropT} {key : List Int} : ∀ (i m : Nat), i < n → i < m → findF (tbl n pr) key m (i : Int) = chain pr key i
  | i, 0, _, h => by omega
  | 0, m + 1, hn, _ => by
    unfold findF chain ownF
    simp only [show (0 : Int) ≤ ((0 : Nat) : Int) by omega, if_true, Int.toNat_natCast, tbl_get hn]
    show (match getK (pr 0) key with | some v => (v, 0, true) | none => if ((0 : Nat) : Int) - 1 < 0 then (zeroV, ((0 : Nat) : Int) - 1, false) else findF (tbl n pr) key m (((0 : Nat) : Int) - 1)) = _
    cases getK (pr 0) key <;> rfl
  | i + 1, m + 1, hn, hm => by
    unfold findF chain ownF
    simp only [show (0 : Int) ≤ ((i + 1 : Nat) : Int) by omega, if_true, Int.toNat_natCast, tbl_get hn]
    show (match getK (pr (i + 1)) key with | some v => (v, 0, true) | none => if ((i + 1 : Nat) : Int) - 1 < 0 then (zeroV, ((i + 1 : Nat) : Int) - 1, false) else findF (tbl n pr) key m (((i + 1 : Nat) : Int) - 1)) = _
    cases getK (pr (i + 1)) key with
    | some v => rfl
    | none =>
      show (if ((i + 1 : Nat) : Int) - 1 < 0 then (zeroV, ((i + 1 : Nat) : Int) - 1, false) else findF (tbl n pr) key m (((i + 1 : Nat) : Int) - 1)) = chain pr key i
      rw [if_neg (by omega), show ((i + 1 : Nat) : Int) - 1 = (i : Int) by omega]
      exact find_tbl i m (by omega) (by omega)

/-- Where nothing, v from a on, w from b on. -/
theorem chain_two {key : List Int} {a b : Nat} {v w : ValT} (hab : a < b) : ∀ i, chain (fun j => if j = b then [(key, w)] else if j = a then [(key, v)] else []) key i = if i < a then (zeroV, -1, false) else if i < b then (v, 0, true) else (w, 0, true)
  | 0 => by
    unfold chain
    by_cases h1 : 0 = b
    · omega
    · rw [if_neg h1]
      by_cases h2 : 0 = a
      · rw [if_pos h2, if_neg (by omega), if_pos (by omega)]; simp [getK]
      · rw [if_neg h2, if_pos (by omega)]; simp [getK]
  | i + 1 => by
    unfold chain
    have ih := chain_two (key := key) (v := v) (w := w) hab i
    by_cases h1 : i + 1 = b
    · rw [if_pos h1, if_neg (by omega), if_neg (by omega)]; simp [getK]
    · rw [if_neg h1]
      by_cases h2 : i + 1 = a
      · rw [if_pos h2, if_neg (by omega), if_pos (by omega)]; simp [getK]
      · rw [if_neg h2]
        show chain _ key i = _
        rw [ih]
        by_cases h3 : i < a
        · rw [if_pos h3, if_pos (show i + 1 < a by omega)]
        · rw [if_neg h3, if_neg (show ¬ i + 1 < a by omega)]
          by_cases h4 : i < b
          · rw [if_pos h4, if_pos (show i + 1 < b by omega)]
          · rw [if_neg h4, if_neg (show ¬ i + 1 < b by omega)]
theorem chain_one {key : List Int} {a : Nat} {v : ValT} : ∀ i, a ≤ i → chain (fun j => if j = a then [(key, v)] else []) key i = (v, 0, true)
  | 0, h => by
    unfold chain
    rw [if_pos (by omega)]; simp [getK]
  | i + 1, h => by
    unfold chain
    by_cases h2 : i + 1 = a
    · rw [if_pos h2]; simp [getK]
    · rw [if_neg h2]
      exact chain_one i (by omega)

theorem put_tbl {room : Int} {n r : Nat} {pr : Nat → List PropT} {key : List Int} {v : ValT} (hr : r < n) (hp : pr r = []) : putF (room, tbl n pr) (r : Int) key v = (true, (room, tbl n fun i => if i = r then [(key, v)] else pr i)) := by
  unfold putF
  rw [if_pos (by omega)]
  simp only [Int.toNat_natCast, tbl_get hr]
  have : putP (mkC r (pr r)).props key v = [(key, v)] := by
    show putP (pr r) key v = _
    rw [hp]; rfl
  rw [this]
  have h2 : (mkC r (pr r)).withProps [(key, v)] = mkC r [(key, v)] := rfl
  rw [h2, tbl_set]

theorem few_ok (v : ValT) : (R.renlaw9_Few v).sat (· = (decide (v.2.2.2.1.length ≤ 20000) && decide (v.2.2.1.2.length ≤ 40))) := by
  unfold R.renlaw9_Few
  refine law_given fun _ => law_br (fun h => ?_) fun h => ?_
  · rw [ile_true] at h
    have h : v.2.2.2.1.length ≤ 20000 := by omega
    refine law_ok ?_
    simp [h, ile]; omega
  · rw [ile_false] at h
    have h : ¬ v.2.2.2.1.length ≤ 20000 := by omega
    exact law_ok (by simp [h])

theorem chains_law (n : Int) (key : List Int) (a b : Int) (v w : ValT) : (R.renlaw9_HeapChains n key a b v w).sat (· = true) := by
  unfold R.renlaw9_HeapChains
  refine law_given fun hok => law_bind_eq first_sat (law_f rfl ?_)
  refine law_bind_eq (new_ok 100) (law_given fun _ => ?_)
  rw [show ((min (max 100 0) 4096 : Int), ([] : List CellT)) = (100, []) from rfl]
  refine law_bind' (R := fun x => x = false → 1 ≤ n ∧ n ≤ 100 ∧ 0 ≤ a ∧ a < b ∧ b < n) ?_ ?_
  · refine law_br (fun _ => law_ok fun h => by cases h) fun h1 => ?_
    refine law_br (fun _ => law_ok fun h => by cases h) fun h2 => ?_
    refine law_br (fun _ => law_ok fun h => by cases h) fun h3 => ?_
    refine law_bind_eq (few_ok v) (law_br (fun _ => law_ok fun h => by cases h) fun h4 => ?_)
    refine law_bind_eq (few_ok w) (law_br (fun _ => law_ok fun h => by cases h) fun h5 => ?_)
    refine law_br (fun _ => law_ok fun h => by cases h) fun h6 => ?_
    refine law_br (fun _ => law_ok fun h => by cases h) fun h7 => ?_
    refine law_ok fun h8 => ?_
    rw [ilt_false] at h1 h2 h6
    rw [ile_false] at h7 h8
    omega
  intro x hx
  refine law_br (fun _ => law_bind_eq first_sat (law_ok rfl)) fun hxf => ?_
  obtain ⟨hn1, hn2, ha, hab, hbn⟩ := hx hxf
  obtain ⟨N, rfl⟩ : ∃ N : Nat, n = N := ⟨n.toNat, by omega⟩
  obtain ⟨A, rfl⟩ : ∃ A : Nat, a = A := ⟨a.toNat, by omega⟩
  obtain ⟨B, rfl⟩ : ∃ B : Nat, b = B := ⟨b.toNat, by omega⟩
  -- the cells are made
  refine law_bind_eq (a := ((100, tbl N fun _ => []) : HeapT)) (law_for (fun x : Int × HeapT => x.1) N (by omega) (fun x => (0 ≤ x.1 ∧ x.1 ≤ N) ∧ x.2 = (100, tbl x.1.toNat fun _ => [])) ⟨⟨by simp, by simp⟩, rfl⟩ (fun x h => h.1) ?_) ?_
  · rintro ⟨i, h⟩ ⟨⟨h1, h2⟩, hh⟩
    simp only at h1 h2 hh
    subst hh
    obtain ⟨I, rfl⟩ : ∃ I : Nat, i = I := ⟨i.toNat, by omega⟩
    simp only [Int.toNat_natCast]
    refine law_br (fun h3 => ?_) fun h3 => ?_
    · rw [ilt_true] at h3
      have hw : IntKind.wrap .i64 ((I : Int) - 1) = (I : Int) - 1 := wrap64 (by omega)
      rw [hw]
      have hm : makeF (100, tbl I fun _ => []) (mkC I []) = (((I : Int), true), (100, tbl (I + 1) fun _ => [])) := by
        unfold makeF
        rw [if_neg (by simp only [tbl_len]; omega)]
        simp only [tbl_len]
        simp [tbl, List.range_succ]
      refine law_bind_eq (a := (((I : Int), true), (100, tbl (I + 1) fun _ => []))) (by rw [← hm]; exact make_ok (100, tbl I fun _ => []) (mkC I []) (by simp [copyOk, mkC]) (by simp only [tbl_len]; omega)) (law_given fun _ => law_ok ⟨wrap64 (by omega), ?_⟩)
      simp only
      rw [wrap64 (by omega)]
      refine ⟨⟨by omega, by omega⟩, ?_⟩
      rw [show ((I : Int) + 1).toNat = I + 1 by omega]
    · rw [ilt_false] at h3
      have : I = N := by omega
      subst this
      exact law_ok rfl
  have hlen : ∀ {pr : Nat → List PropT}, (∀ i, (pr i).length ≤ 1) → ∀ c ∈ tbl N pr, c.props.length ≤ 2 ^ 30 := fun hp c hc => by
    obtain ⟨i, _, rfl⟩ := tbl_mem hc
    have := hp i
    show (_ : List PropT).length ≤ _
    simp only [CellT.props, mkC]
    omega
  let pr1 : Nat → List PropT := fun i => if i = A then [(key, v)] else []
  let pr2 : Nat → List PropT := fun i => if i = B then [(key, w)] else pr1 i
  have hp1 : ∀ i, (pr1 i).length ≤ 1 := fun i => by simp only [pr1]; split <;> simp
  have hp2 : ∀ i, (pr2 i).length ≤ 1 := fun i => by simp only [pr2]; split <;> simp [hp1]
  have hA : A < N := by omega
  have hB : B < N := by omega
  refine law_bind_eq (a := (true, (100, tbl N pr1))) (by rw [← put_tbl (pr := fun _ => []) hA rfl]; exact put_ok (100, tbl N fun _ => []) A key v (hlen fun _ => by simp)) (law_given fun _ => ?_)
  refine law_bind_eq (a := (true, (100, tbl N pr2))) (by rw [← put_tbl (pr := pr1) hB (by simp only [pr1]; rw [if_neg (by omega)])]; exact put_ok (100, tbl N pr1) B key w (hlen hp1)) (law_given fun _ => ?_)
  have hfind : ∀ i : Nat, i < N → (R.heap_Heap_Find (100, tbl N pr2) (i : Int) key).sat (· = if i < A then (zeroV, -1, false) else if i < B then (v, 0, true) else (w, 0, true)) := fun i hi => by
    have h1 := find_ok (100, tbl N pr2) (i : Int) key (hlen hp2) (by simp only [tbl_len]; omega)
    have h2 : findF (tbl N pr2) key (tbl N pr2).length (i : Int) = if i < A then (zeroV, -1, false) else if i < B then (v, 0, true) else (w, 0, true) := by
      rw [tbl_len]
      exact (find_tbl i N hi hi).trans (chain_two (by omega) i)
    exact h2 ▸ h1
  refine law_bind_eq (a := Sum.inl ()) (law_for (fun i : Int => i) N (by omega) (fun i => 0 ≤ i ∧ i ≤ N) (by simp) (fun i h => h) ?_) ?_
  · rintro i ⟨h1, h2⟩
    obtain ⟨I, rfl⟩ : ∃ I : Nat, i = I := ⟨i.toNat, by omega⟩
    refine law_br (fun h3 => ?_) fun h3 => law_ok rfl
    rw [ilt_true] at h3
    refine law_bind_eq (hfind I (by omega)) (law_given fun _ => law_bind_eq (a := false) ?_ (law_f rfl (law_ok ⟨wrap64 (by omega), by rw [wrap64 (by omega)]; omega⟩)))
    by_cases hi1 : I < A
    · simp only [if_pos hi1]
      refine law_f (by simp [ile]; omega) (law_t rfl (law_f rfl (law_f rfl (law_f rfl (law_ok rfl)))))
    · simp only [if_neg hi1]
      by_cases hi2 : I < B
      · simp only [if_pos hi2]
        refine law_f (by simp [ile]; omega) (law_f rfl (law_t rfl (law_t (by rw [ilt_true]; omega) ?_)))
        exact law_bind_eq (same_ok v v) (law_f (by simp) (law_t rfl (law_f (by rw [ile_false]; omega) (law_ok rfl))))
      · simp only [if_neg hi2]
        refine law_f (by simp [ile]; omega) (law_f rfl (law_t rfl (law_f (by rw [ilt_false]; omega) (law_t rfl (law_t (by rw [ile_true]; omega) ?_)))))
        exact law_bind_eq (same_ok w w) (law_ok (by simp))
  have hdrop : dropF (100, tbl N pr2) (B : Int) = ((w, true), (100, tbl N fun i => if i = B then [] else pr2 i)) := by
    unfold dropF
    rw [if_pos (by omega)]
    simp only [Int.toNat_natCast, tbl_get hB]
    have : (mkC B (pr2 B)).props = [(key, w)] := by show pr2 B = _; simp [pr2]
    rw [this]
    show ((w, true), _) = _
    have h2 : (mkC B (pr2 B)).withProps ([(key, w)] : List PropT).dropLast = mkC B [] := rfl
    rw [h2, tbl_set]
  have hpr : (fun i => if i = B then [] else pr2 i) = pr1 := by
    funext i
    by_cases hi : i = B
    · rw [if_pos hi]; simp only [pr1]; rw [if_neg (by omega)]
    · rw [if_neg hi]; simp only [pr2]; rw [if_neg hi]
  rw [hpr] at hdrop
  refine law_inl (law_bind_eq (a := ((w, true), (100, tbl N pr1))) (by rw [← hdrop]; exact drop_ok (100, tbl N pr2) B (hlen hp2)) (law_given fun _ => ?_))
  have hw : IntKind.wrap .i64 ((N : Int) - 1) = ((N - 1 : Nat) : Int) := by rw [wrap64 (by omega)]; omega
  rw [hw]
  have hfind2 : (R.heap_Heap_Find (100, tbl N pr1) ((N - 1 : Nat) : Int) key).sat (· = (v, 0, true)) := by
    have h1 := find_ok (100, tbl N pr1) ((N - 1 : Nat) : Int) key (hlen hp1) (by simp only [tbl_len]; omega)
    have h2 : findF (tbl N pr1) key (tbl N pr1).length ((N - 1 : Nat) : Int) = (v, 0, true) := by
      rw [tbl_len]
      exact (find_tbl (N - 1) N (by omega) (by omega)).trans (chain_one (N - 1) (by omega))
    exact h2 ▸ h1
  refine law_bind_eq hfind2 (law_given fun _ => law_bind_eq first_sat (law_t rfl (law_t rfl (law_bind_eq (same_ok w w) (law_t (by simp) (law_t rfl (law_bind_eq (same_ok v v) (law_ok (by simp)))))))))
end Go.Mach

set_option maxRecDepth 100000
namespace Go.Mach
open Res

/-! ### Scopes -/

abbrev CellT.slots (c : CellT) : List SlotT := c.2.2.2.1
def CellT.withSlots (c : CellT) (ss : List SlotT) : CellT := (c.1, c.2.1, c.2.2.1, ss, c.2.2.2.2)
def nameAt (ss : List SlotT) (name : List UInt8) : Option Nat := ss.findIdx? fun s => decide (s.1 = name)

theorem slotIndex_ok (ss : List SlotT) (name : List UInt8) (hl : ss.length < 2 ^ 62) : (R.slices_IndexFunc_heapSlot__heap_Heap_slot_1 ss name).sat (· = posOf (nameAt ss name)) := by
  unfold R.slices_IndexFunc_heapSlot__heap_Heap_slot_1
  refine law_given fun _ => law_bind_eq (idxLoop (s := .frz T_heap_Slot) ss (fun s => decide (s.1 = name)) _ (fun x _ => ?_) hl) ?_
  · unfold R.heap_Heap_slot_1
    refine law_given fun _ => law_ok ?_
    by_cases h : x.1 = name <;> simp [h]
  · unfold nameAt
    cases h : ss.findIdx? (fun s => decide (s.1 = name)) with
    | none => exact law_inl (law_ok rfl)
    | some i => exact law_inr (law_ok rfl)

theorem slot_ok (h : HeapT) (r : Int) (name : List UInt8) {c : CellT} (h0 : 0 ≤ r) (hc : h.2[r.toNat]? = some c) (hl : c.slots.length < 2 ^ 62) : (R.heap_Heap_slot h r name).sat (· = posOf (nameAt c.slots name)) := by
  unfold R.heap_Heap_slot
  refine law_given fun _ => law_idxS h0 (List.getElem?_eq_some_iff.1 hc).1 fun x hx _ => ?_
  rw [hc] at hx
  cases hx
  exact law_bind_eq (slotIndex_ok _ name hl) (law_given fun _ => law_ok rfl)

/-- Declare. -/
def declF (h : HeapT) (r : Int) (name : List UInt8) (v : ValT) (ready fixed : Bool) : Bool × HeapT :=
  if 0 ≤ r then match h.2[r.toNat]? with
    | none => (false, h)
    | some c => match nameAt c.slots name with
      | some _ => (false, h)
      | none => (true, (h.1, h.2.set r.toNat (c.withSlots (c.slots ++ [(name, v, ready, fixed)]))))
  else (false, h)
theorem posOf_le {o : Option Nat} : ile 0 (posOf o) = o.isSome := by cases o <;> simp [posOf, ile]

theorem decl_ok (h : HeapT) (r : Int) (name : List UInt8) (v : ValT) (ready fixed : Bool) (hl : ∀ c ∈ h.2, c.slots.length ≤ 2 ^ 30) : (R.heap_Heap_Declare h r name v ready fixed).sat (· = declF h r name v ready fixed) := by
  unfold R.heap_Heap_Declare
  refine law_given fun _ => ?_
  by_cases h0 : 0 ≤ r ∧ r < h.2.length
  case neg =>
    have hn : (decide (0 ≤ r) && decide (r < h.2.length)) = false := by
      cases h : (decide (0 ≤ r) && decide (r < h.2.length)) with
      | false => rfl
      | true => simp at h; exact absurd h h0
    have h1 := has_false hn
    refine law_bind_eq (a := true) (law_bind_eq (has_ok h r) (law_t (by rw [hn]; rfl) (law_ok rfl))) (law_t rfl (law_ok ?_))
    unfold declF
    by_cases h0 : 0 ≤ r
    · rw [if_pos h0, h1 h0]
    · rw [if_neg h0]
  have ht : (decide (0 ≤ r) && decide (r < h.2.length)) = true := by simp [h0.1, h0.2]
  obtain ⟨h0, c, hc⟩ := has_true ht
  have hlen := hl c (List.mem_of_getElem? hc)
  refine law_bind_eq (a := (nameAt c.slots name).isSome) (law_bind_eq (has_ok h r) (law_f (by rw [ht]; rfl) (law_bind_eq (slot_ok h r name h0 hc (by omega)) (law_given fun _ => law_ok posOf_le)))) ?_
  have hd : declF h r name v ready fixed = match nameAt c.slots name with
      | some _ => (false, h)
      | none => (true, (h.1, h.2.set r.toNat (c.withSlots (c.slots ++ [(name, v, ready, fixed)])))) := by
    unfold declF
    rw [if_pos h0, hc]
  rw [hd]
  cases hk : nameAt c.slots name with
  | some i => exact law_t rfl (law_ok rfl)
  | none =>
    have hb : (r.toNat == r.toNat) = true := by simp
    refine law_f rfl (law_idxS h0 (List.getElem?_eq_some_iff.1 hc).1 fun x hx _ => ?_)
    rw [hc] at hx
    cases hx
    refine law_need hb (law_bind_eq (own_ok v) (law_given fun _ => law_need ?_ (law_need hb (law_ok rfl))))
    simp only [decide_eq_true_eq, List.length_singleton]
    have : c.2.2.2.1.length ≤ 2 ^ 30 := hlen
    omega

/-- Look. -/
abbrev CellT.scope (c : CellT) : Int := c.2.2.2.2.2.2.1
def zeroS : SlotT := ([], zeroV, false, false)
def lookF (cells : List CellT) (name : List UInt8) : Nat → Int → SlotT × Int × Bool
  | 0, _ => (zeroS, -1, false)
  | n + 1, r => if 0 ≤ r then match cells[r.toNat]? with
      | none => (zeroS, -1, false)
      | some c => match (nameAt c.slots name).bind fun i => c.slots[i]? with
        | some s => (s, r, true)
        | none => lookF cells name n c.scope
    else (zeroS, -1, false)

theorem look_ok (h : HeapT) (r : Int) (name : List UInt8) (hl : ∀ c ∈ h.2, c.slots.length ≤ 2 ^ 30) (hn : h.2.length ≤ 10000) : (R.heap_Heap_Look h r name).sat (· = lookF h.2 name h.2.length r) := by
  unfold R.heap_Heap_Look
  refine law_given fun _ => law_bind' (R := fun y => match y with
      | .inl _ => lookF h.2 name h.2.length r = (zeroS, -1, false)
      | .inr z => lookF h.2 name h.2.length r = ((z.2.2.1, (z.2.2.2.1, (z.2.2.2.2.1, z.2.2.2.2.2.1), (z.2.2.2.2.2.2.1, z.2.2.2.2.2.2.2.1), z.2.2.2.2.2.2.2.2.1, z.2.2.2.2.2.2.2.2.2.1), z.2.2.2.2.2.2.2.2.2.2), z.1, z.2.1)) (law_for (fun x : Int × Int => x.2) h.2.length (by omega) (fun x => (0 ≤ x.2 ∧ x.2 ≤ h.2.length) ∧ lookF h.2 name (h.2.length - x.2.toNat) x.1 = lookF h.2 name h.2.length r) ⟨⟨by simp, by simp⟩, by simp⟩ (fun x hx => hx.1) ?_) ?_
  · rintro ⟨q, i⟩ ⟨⟨h1, h2⟩, h3⟩
    simp only at h1 h2 h3
    refine law_br (fun h4 => ?_) fun h4 => ?_
    · rw [ilt_true] at h4
      obtain ⟨m, hm⟩ : ∃ m, h.2.length - i.toNat = m + 1 := ⟨h.2.length - i.toNat - 1, by simp only at h4; omega⟩
      rw [hm] at h3
      generalize lookF h.2 name h.2.length r = G at h3 ⊢
      unfold lookF at h3
      refine law_bind_eq (has_ok h q) (law_br (fun h5 => ?_) fun h5 => ?_)
      · have h5 := has_false (notT h5)
        refine law_ok ?_
        show G = _
        rw [← h3]
        by_cases h0 : 0 ≤ q
        · rw [if_pos h0, h5 h0]
        · rw [if_neg h0]
      · obtain ⟨h0, c, hc⟩ := has_true (h := h) (r := q) (notF h5)
        rw [if_pos h0, hc] at h3
        have hlen := hl c (List.mem_of_getElem? hc)
        simp only at h3
        refine law_bind_eq (slot_ok h q name h0 hc (by omega)) (law_given fun _ => ?_)
        cases hk : nameAt c.slots name with
        | some j =>
          have hj : j < c.slots.length := by
            have := List.findIdx?_eq_some_iff_getElem.1 hk
            exact this.1
          rw [hk] at h3
          simp only [Option.bind_some, List.getElem?_eq_getElem hj] at h3
          refine law_t posOf_le (law_idxS h0 (List.getElem?_eq_some_iff.1 hc).1 fun x hx _ => ?_)
          rw [hc] at hx
          cases hx
          refine law_idxS (by simp [posOf]) (by simpa [posOf] using hj) fun e he _ => ?_
          have he : c.slots[j]? = some e := by simpa [posOf] using he
          rw [List.getElem?_eq_getElem hj] at he
          cases he
          refine law_bind_eq (own_ok _) (law_given fun _ => law_ok ?_)
          show G = _
          rw [← h3]
        | none =>
          rw [hk] at h3
          simp only [Option.bind_none] at h3
          refine law_f posOf_le (law_idxS h0 (List.getElem?_eq_some_iff.1 hc).1 fun x hx _ => ?_)
          rw [hc] at hx
          cases hx
          simp only at h4
          refine law_ok ⟨wrap64 (by simp only; omega), ?_⟩
          simp only
          rw [wrap64 (by omega)]
          refine ⟨⟨by omega, by omega⟩, ?_⟩
          rw [show h.2.length - (i + 1).toNat = m by omega]
          exact h3
    · rw [ilt_false] at h4
      simp only at h4
      refine law_ok ?_
      show lookF h.2 name h.2.length r = _
      rw [← h3, show h.2.length - i.toNat = 0 by omega]
      rfl
  · intro y hy
    cases y with
    | inl u => exact law_inl (law_ok hy.symm)
    | inr z => exact law_inr (law_ok hy.symm)
end Go.Mach

set_option maxRecDepth 100000
namespace Go.Mach
open Res

theorem minI_range (n : Nat) : 0 ≤ minI (n : Int) 20001 ∧ minI (n : Int) 20001 ≤ 20001 := by
  rw [minI_eq]; omega

theorem weight_ok (c : CellT) : (R.renlaw9_weight c).sat fun y => (c.props.length ≤ y ∨ 20000 < y) ∧ (c.slots.length ≤ y ∨ 20000 < y) := by
  unfold R.renlaw9_weight
  refine law_given fun hok => ?_
  have hlens : c.props.length < 2 ^ 60 ∧ c.slots.length < 2 ^ 60 := by
    simp only [oks, List.map, Par.v, Sh.ok, Bool.and_eq_true] at hok
    have h1 := of_decide_eq_true hok.2.2.1
    have h2 := of_decide_eq_true hok.2.2.2.1
    have e1 : (Sh.frz T_heap_Prop).minB = 105 := rfl
    have e2 : (Sh.frz T_heap_Slot).minB = 99 := rfl
    rw [e1] at h1
    rw [e2] at h2
    have h1 : c.props.length * 105 ≤ 2 ^ 47 := h1
    have h2 : c.slots.length * 99 ≤ 2 ^ 47 := h2
    omega
  obtain ⟨hp, hs⟩ := hlens
  have m1 := minI_range c.2.2.2.2.2.2.2.2.2.2.2.2.length
  have m2 := minI_range c.2.2.2.2.1.length
  have m3 := minI_range c.2.2.2.2.2.2.2.1.2.2.2.1.length
  have m4 := minI_range c.2.2.2.2.2.2.2.1.2.2.1.2.length
  generalize minI (c.2.2.2.2.2.2.2.2.2.2.2.2.length : Int) 20001 = q1 at m1 ⊢
  generalize minI (c.2.2.2.2.1.length : Int) 20001 = q2 at m2 ⊢
  generalize minI (c.2.2.2.2.2.2.2.1.2.2.2.1.length : Int) 20001 = q3 at m3 ⊢
  generalize minI (c.2.2.2.2.2.2.2.1.2.2.1.2.length : Int) 20001 = q4 at m4 ⊢
  rw [wrap64 (n := q1 + q2) (by omega), wrap64 (n := q1 + q2 + q3) (by omega), wrap64 (n := q1 + q2 + q3 + q4) (by omega)]
  refine law_bind' (R := fun n => (0 ≤ n ∧ n ≤ 200000) ∧ (c.props.length ≤ n ∨ 20000 < n)) (law_for (fun x : Int × Int => x.2) c.props.length (by omega) (fun x => (0 ≤ x.2 ∧ x.2 ≤ c.props.length) ∧ x.2 ≤ x.1 ∧ x.1 ≤ 200000) ⟨⟨by simp, by simp⟩, by simp only; omega, by simp only; omega⟩ (fun x h => h.1) ?_) ?_
  · rintro ⟨n, i⟩ ⟨⟨h1, h2⟩, h3, h4⟩
    simp only at h1 h2 h3 h4
    refine law_bind' (R := fun b => (b = true → i < c.props.length ∧ n ≤ 20000) ∧ (b = false → c.props.length ≤ i ∨ 20000 < n)) ?_ ?_
    · refine law_br (fun h5 => ?_) fun h5 => ?_
      · rw [ilt_true] at h5
        refine law_ok ⟨fun h6 => ?_, fun h6 => ?_⟩
        · rw [ile_true] at h6; exact ⟨h5, h6⟩
        · rw [ile_false] at h6; exact .inr h6
      · rw [ilt_false] at h5
        exact law_ok ⟨(fun h => by cases h), fun _ => .inl h5⟩
    · intro b hb
      refine law_br (fun h5 => ?_) fun h5 => ?_
      · obtain ⟨h6, h7⟩ := hb.1 h5
        have hi : i.toNat < c.props.length := by omega
        refine law_idxS h1 hi fun e3 _ _ => law_idxS h1 hi fun e4 _ _ => law_idxS h1 hi fun e5 _ _ => law_ok ⟨wrap64 (by omega), ?_⟩
        have k1 := minI_range e3.1.length
        have k2 := minI_range e4.2.2.2.2.1.length
        have k3 := minI_range e5.2.2.2.1.2.length
        generalize minI (e3.1.length : Int) 20001 = p1 at k1 ⊢
        generalize minI (e4.2.2.2.2.1.length : Int) 20001 = p2 at k2 ⊢
        generalize minI (e5.2.2.2.1.2.length : Int) 20001 = p3 at k3 ⊢
        simp only
        rw [wrap64 (n := n + 1) (by omega), wrap64 (n := n + 1 + p1) (by omega), wrap64 (n := n + 1 + p1 + p2) (by omega), wrap64 (n := n + 1 + p1 + p2 + p3) (by omega), wrap64 (n := i + 1) (by omega)]
        exact ⟨⟨by omega, by omega⟩, by omega, by omega⟩
      · refine law_ok ⟨⟨by omega, by omega⟩, ?_⟩
        rcases hb.2 h5 with h6 | h6
        · left; simp only; omega
        · exact .inr h6
  · rintro n ⟨⟨hn0, hn1⟩, hnp⟩
    refine law_bind' (R := fun m => n ≤ m ∧ (c.slots.length ≤ m ∨ 20000 < m)) (law_for (fun x : Int × Int => x.2) c.slots.length (by omega) (fun x => (0 ≤ x.2 ∧ x.2 ≤ c.slots.length) ∧ x.2 ≤ x.1 ∧ x.1 ≤ 300000 ∧ n ≤ x.1) ⟨⟨by simp, by simp⟩, by simp only; omega, by simp only; omega, by simp only; omega⟩ (fun x h => h.1) ?_) ?_
    · rintro ⟨m, i⟩ ⟨⟨h1, h2⟩, h3, h4, h4'⟩
      simp only at h1 h2 h3 h4 h4'
      refine law_bind' (R := fun b => (b = true → i < c.slots.length ∧ m ≤ 20000) ∧ (b = false → c.slots.length ≤ i ∨ 20000 < m)) ?_ ?_
      · refine law_br (fun h5 => ?_) fun h5 => ?_
        · rw [ilt_true] at h5
          refine law_ok ⟨fun h6 => ?_, fun h6 => ?_⟩
          · rw [ile_true] at h6; exact ⟨h5, h6⟩
          · rw [ile_false] at h6; exact .inr h6
        · rw [ilt_false] at h5
          exact law_ok ⟨(fun h => by cases h), fun _ => .inl h5⟩
      · intro b hb
        refine law_br (fun h5 => ?_) fun h5 => ?_
        · obtain ⟨h6, h7⟩ := hb.1 h5
          have hi : i.toNat < c.slots.length := by omega
          refine law_idxS h1 hi fun e3 _ _ => law_idxS h1 hi fun e4 _ _ => law_idxS h1 hi fun e5 _ _ => law_ok ⟨wrap64 (by omega), ?_⟩
          have k1 := minI_range e3.1.length
          have k2 := minI_range e4.2.1.2.2.2.1.length
          have k3 := minI_range e5.2.1.2.2.1.2.length
          generalize minI (e3.1.length : Int) 20001 = p1 at k1 ⊢
          generalize minI (e4.2.1.2.2.2.1.length : Int) 20001 = p2 at k2 ⊢
          generalize minI (e5.2.1.2.2.1.2.length : Int) 20001 = p3 at k3 ⊢
          simp only
          rw [wrap64 (n := m + 1) (by omega), wrap64 (n := m + 1 + p1) (by omega), wrap64 (n := m + 1 + p1 + p2) (by omega), wrap64 (n := m + 1 + p1 + p2 + p3) (by omega), wrap64 (n := i + 1) (by omega)]
          exact ⟨⟨by omega, by omega⟩, by omega, by omega, by omega⟩
        · refine law_ok ⟨by omega, ?_⟩
          rcases hb.2 h5 with h6 | h6
          · left; simp only; omega
          · exact .inr h6
    · rintro m ⟨hm1, hm2⟩
      refine law_ok ⟨?_, hm2⟩
      rcases hnp with h | h
      · left; omega
      · right; omega

abbrev FlatT := Int × Int × List PropT × List SlotT × List UInt8 × Int × Int × Int × Int × Int × Bool × List Int × List Int × Int × Int × Int × Int × Int × List Int
/-- A cell, for the document: the same. -/
theorem law_cellOf (c : CellT) (hp : c.props.length ≤ 2 ^ 30) (hs : c.slots.length ≤ 2 ^ 30) : (R.renlaw9_cell c).sat (· = c) := by
  unfold R.renlaw9_cell
  have hp : c.2.2.1.length ≤ 2 ^ 30 := hp
  have hs : c.2.2.2.1.length ≤ 2 ^ 30 := hs
  refine law_given fun hok => law_bind_eq (plain_ok _) (law_given fun _ => ?_)
  obtain ⟨kind, proto, props, slots, name, node, scope, ⟨tk, ⟨tn1, tn2⟩, ⟨tg, tm⟩, ts, tr⟩, el, buf, fr, ln, bytes⟩ := c
  simp only at hp hs ⊢
  refine law_bind_eq (a := (kind, proto, props, [], name, node, scope, tk, tn1, tn2, tg, tm, ts, tr, el, buf, fr, ln, bytes)) (law_for (fun x : Int × FlatT => x.1) props.length (by omega) (fun x => (0 ≤ x.1 ∧ x.1 ≤ props.length) ∧ x.2 = (kind, proto, props.take x.1.toNat, [], name, node, scope, tk, tn1, tn2, tg, tm, ts, tr, el, buf, fr, ln, bytes)) ⟨⟨by simp, by simp⟩, by simp⟩ (fun x h => h.1) ?_) ?_
  · rintro ⟨i, st⟩ ⟨⟨h1, h2⟩, h3⟩
    simp only at h1 h2 h3
    subst h3
    refine law_br (fun h4 => ?_) fun h4 => ?_
    · rw [ilt_true] at h4
      simp only at h4
      have hi : i.toNat < props.length := by omega
      refine law_idx h1 hi fun e he _ => law_idx h1 hi fun e' he' _ => law_bind_eq (plain_ok _) (law_given fun _ => ?_)
      have he : props[i.toNat]? = some e := he
      have he' : props[i.toNat]? = some e' := he'
      rw [he] at he'
      cases he'
      have hei : props[i.toNat] = e := by rw [List.getElem?_eq_getElem hi] at he; cases he; rfl
      refine law_need ?_ (law_ok ⟨wrap64 (by omega), ?_⟩)
      · simp only [decide_eq_true_eq, List.length_take, List.length_singleton]
        omega
      · simp only
        rw [wrap64 (by omega)]
        refine ⟨⟨by omega, by omega⟩, ?_⟩
        rw [show (i + 1).toNat = i.toNat + 1 by omega, List.take_succ_eq_append_getElem hi, hei]
    · rw [ilt_false] at h4
      simp only at h4
      refine law_ok ?_
      simp only
      rw [List.take_of_length_le (by omega)]
  refine law_bind_eq (a := (kind, proto, props, slots, name, node, scope, tk, tn1, tn2, tg, tm, ts, tr, el, buf, fr, ln, bytes)) (law_for (fun x : Int × FlatT => x.1) slots.length (by omega) (fun x => (0 ≤ x.1 ∧ x.1 ≤ slots.length) ∧ x.2 = (kind, proto, props, slots.take x.1.toNat, name, node, scope, tk, tn1, tn2, tg, tm, ts, tr, el, buf, fr, ln, bytes)) ⟨⟨by simp, by simp⟩, by simp⟩ (fun x h => h.1) ?_) (law_ok rfl)
  rintro ⟨i, st⟩ ⟨⟨h1, h2⟩, h3⟩
  simp only at h1 h2 h3
  subst h3
  refine law_br (fun h4 => ?_) fun h4 => ?_
  · rw [ilt_true] at h4
    simp only at h4
    have hi : i.toNat < slots.length := by omega
    refine law_idx h1 hi fun e he _ => law_idx h1 hi fun e1 he1 _ => law_bind_eq (plain_ok _) (law_given fun _ => law_idx h1 hi fun e2 he2 _ => law_idx h1 hi fun e3 he3 _ => ?_)
    have he : slots[i.toNat]? = some e := he
    have he1 : slots[i.toNat]? = some e1 := he1
    have he2 : slots[i.toNat]? = some e2 := he2
    have he3 : slots[i.toNat]? = some e3 := he3
    rw [he] at he1 he2 he3
    cases he1; cases he2; cases he3
    have hei : slots[i.toNat] = e := by rw [List.getElem?_eq_getElem hi] at he; cases he; rfl
    refine law_need ?_ (law_ok ⟨wrap64 (by omega), ?_⟩)
    · simp only [decide_eq_true_eq, List.length_take, List.length_singleton]
      omega
    · simp only
      rw [wrap64 (by omega)]
      refine ⟨⟨by omega, by omega⟩, ?_⟩
      rw [show (i + 1).toNat = i.toNat + 1 by omega, List.take_succ_eq_append_getElem hi, hei]
  · rw [ilt_false] at h4
    simp only at h4
    refine law_ok ?_
    simp only
    rw [List.take_of_length_le (by omega)]

/-- A cell is like itself. -/
theorem sameCell_ok (c : CellT) (hp : c.props.length ≤ 2 ^ 30) (hs : c.slots.length ≤ 2 ^ 30) : (R.renlaw9_sameCell c c).sat (· = true) := by
  unfold R.renlaw9_sameCell
  have hp : c.2.2.1.length ≤ 2 ^ 30 := hp
  have hs : c.2.2.2.1.length ≤ 2 ^ 30 := hs
  refine law_given fun _ => law_bind_eq (a := false) (law_f (by simp) (law_ok (by simp))) (law_f rfl ?_)
  refine law_bind_eq (a := Sum.inl ()) (law_for (fun i => i) c.2.2.1.length (by omega) (fun i => 0 ≤ i ∧ i ≤ c.2.2.1.length) (by simp) (fun i h => h) ?_) (law_inl ?_)
  · rintro i ⟨h1, h2⟩
    refine law_br (fun h3 => ?_) fun h3 => law_ok rfl
    rw [ilt_true] at h3
    have hi : i.toNat < c.2.2.1.length := by omega
    refine law_bind_eq (a := false) ?_ (law_f rfl (law_ok ⟨wrap64 (by omega), by rw [wrap64 (by omega)]; omega⟩))
    refine law_idxS h1 hi fun e3 he3 _ => law_idxS h1 hi fun e4 he4 _ => ?_
    rw [he3] at he4
    cases he4
    refine law_bind_eq (units_ok _ _) (law_f (by simp) (law_idxS h1 hi fun e6 he6 _ => law_idxS h1 hi fun e7 he7 _ => ?_))
    rw [he6] at he7
    cases he7
    exact law_bind_eq (refSame_ok _ _) (law_ok (by simp))
  refine law_bind_eq (a := Sum.inl ()) (law_for (fun i => i) c.2.2.2.1.length (by omega) (fun i => 0 ≤ i ∧ i ≤ c.2.2.2.1.length) (by simp) (fun i h => h) ?_) (law_inl ?_)
  · rintro i ⟨h1, h2⟩
    refine law_br (fun h3 => ?_) fun h3 => law_ok rfl
    rw [ilt_true] at h3
    have hi : i.toNat < c.2.2.2.1.length := by omega
    refine law_idxS h1 hi fun e3 he3 _ => law_idxS h1 hi fun e4 he4 _ => ?_
    rw [he3] at he4
    cases he4
    refine law_bind_eq (a := false) ?_ (law_f rfl (law_ok ⟨wrap64 (by omega), by rw [wrap64 (by omega)]; omega⟩))
    exact law_f (by simp) (law_f (by simp) (law_f (by simp) (law_bind_eq (refSame_ok _ _) (law_ok (by simp)))))
  refine law_t (by simp) (law_t (by simp) (law_t (by simp) (law_t (by simp) (law_t (by simp) (law_bind_eq (refSame_ok _ _) (law_t (by simp) (law_t (by simp) (law_t (by simp) (law_t (by simp) (law_t (by simp) ?_))))))))))
  refine law_bind_eq (a := true) ?_ (law_ok rfl)
  unfold R.renref_Bytes
  exact law_given fun _ => law_ok (by simp)
end Go.Mach

set_option maxRecDepth 100000
namespace Go.Mach
open Res

/-! ### Keys that are numbers -/

def isDig (x : Int) : Bool := decide (48 ≤ x) && decide (x ≤ 57)
def digVal (u : List Int) : Int := u.foldl (fun n x => 10 * n + (x - 48)) 0
/-- Key. -/
def keyF (u : List Int) : Int × Bool :=
  if u = [] ∨ 10 < u.length ∨ (u.head? = some 48 ∧ 1 < u.length) then (0, false)
  else if u.all isDig then (if 4294967294 < digVal u then (0, false) else (digVal u, true)) else (0, false)

theorem digVal_bound : ∀ (u : List Int) (n : Int), (∀ x ∈ u, 48 ≤ x ∧ x ≤ 57) → 0 ≤ n → 0 ≤ u.foldl (fun n x => 10 * n + (x - 48)) n ∧ u.foldl (fun n x => 10 * n + (x - 48)) n + 1 ≤ (n + 1) * 10 ^ u.length
  | [], n, _, h => by simp; omega
  | x :: u, n, h, h0 => by
    have hx := h x (by simp)
    have ih := digVal_bound u (10 * n + (x - 48)) (fun y hy => h y (List.mem_cons_of_mem _ hy)) (by omega)
    refine ⟨ih.1, ?_⟩
    simp only [List.foldl_cons, List.length_cons]
    have h1 : (10 * n + (x - 48) + 1) * 10 ^ u.length ≤ ((n + 1) * 10) * 10 ^ u.length := Int.mul_le_mul_of_nonneg_right (by omega) (Int.pow_nonneg (by omega))
    have h2 : (n + 1) * 10 ^ (u.length + 1) = ((n + 1) * 10) * 10 ^ u.length := by rw [Int.pow_succ, Int.mul_assoc, Int.mul_comm 10]
    omega

theorem wrapU16 {n : Int} (h : 0 ≤ n ∧ n < 65536) : IntKind.wrap .u16 n = n := by
  simp [IntKind.wrap, IntKind.signed, IntKind.bits]
  omega

theorem digit_ok (x : Int) : (R.text_digit x).sat (· = isDig x) := by
  unfold R.text_digit isDig
  refine law_given fun _ => law_br (fun h => law_ok ?_) fun h => law_ok ?_
  · rw [ile_true] at h; simp [h, ile]
  · rw [ile_false] at h; simp; omega

theorem key_ok (u : List Int) : (R.text_Key u).sat (· = keyF u) := by
  unfold R.text_Key
  refine law_given fun _ => law_bind_eq (a := decide (u = [] ∨ 10 < u.length ∨ (u.head? = some 48 ∧ 1 < u.length))) ?_ ?_
  · refine law_br (fun h => law_ok ?_) fun h => ?_
    · have h : u = [] := by simpa using h
      simp [h]
    have h : u ≠ [] := by simpa using h
    have hpos : 0 < u.length := List.length_pos_iff.2 h
    refine law_br (fun h1 => law_ok ?_) fun h1 => ?_
    · rw [ilt_true] at h1
      have h1 : 10 < u.length := by omega
      simp [h1]
    rw [ilt_false] at h1
    have h1 : ¬ 10 < u.length := by omega
    refine law_idxS (by omega) (by show (0 : Int).toNat < u.length; simpa using hpos) fun e he _ => ?_
    have he : u[0]? = some e := he
    have hhd : u.head? = some e := by rw [← he]; cases u <;> rfl
    refine law_br (fun h2 => law_ok ?_) fun h2 => law_ok ?_
    · have h2 : e = 48 := by simpa using h2
      simp only [h, h1, hhd, h2, false_or, ilt, true_and]
      congr 1
      apply propext
      omega
    · have h2 : ¬ e = 48 := by simpa using h2
      simp [h, h1, hhd, h2]
  by_cases hb : u = [] ∨ 10 < u.length ∨ (u.head? = some 48 ∧ 1 < u.length)
  · refine law_t (decide_eq_true hb) (law_ok ?_)
    unfold keyF
    rw [if_pos hb]
  refine law_f (decide_eq_false hb) ?_
  have hk : keyF u = if u.all isDig then (if 4294967294 < digVal u then (0, false) else (digVal u, true)) else (0, false) := by
    unfold keyF
    rw [if_neg hb]
  rw [hk]
  have hlen : u.length ≤ 10 := by
    apply Nat.le_of_not_lt
    exact fun h => hb (.inr (.inl h))
  refine law_bind' (R := fun y => match y with
      | .inl n => u.all isDig = true ∧ n = digVal u
      | .inr z => u.all isDig = false ∧ z = (0, false)) (law_for (fun x : Int × Int => x.2) u.length (by omega) (fun x => (0 ≤ x.2 ∧ x.2 ≤ u.length) ∧ (u.take x.2.toNat).all isDig = true ∧ x.1 = digVal (u.take x.2.toNat)) ⟨⟨by simp, by simp⟩, by simp, rfl⟩ (fun x h => h.1) ?_) ?_
  · rintro ⟨n, i⟩ ⟨⟨h1, h2⟩, h3, h4⟩
    simp only at h1 h2 h3 h4
    refine law_br (fun h5 => ?_) fun h5 => ?_
    · rw [ilt_true] at h5
      simp only at h5
      have hi : i.toNat < u.length := by omega
      refine law_idxS h1 hi fun (e : Int) he hrange => ?_
      have he : u[i.toNat]? = some e := he
      have hei : u[i.toNat] = e := by rw [List.getElem?_eq_getElem hi] at he; cases he; rfl
      have htk : u.take (i + 1).toNat = u.take i.toNat ++ [e] := by
        rw [show (i + 1).toNat = i.toNat + 1 by omega, List.take_succ_eq_append_getElem hi, hei]
      refine law_bind_eq (digit_ok e) (law_br (fun h6 => law_ok ?_) fun h6 => law_ok ?_)
      · refine ⟨?_, rfl⟩
        have h6 := notT h6
        rw [List.all_eq_false]
        exact ⟨e, List.mem_of_getElem? he, by simp [h6]⟩
      · have h6 := notF h6
        have hd : 48 ≤ e ∧ e ≤ 57 := by simpa [isDig] using h6
        have hall : ∀ x ∈ u.take i.toNat, 48 ≤ x ∧ x ≤ 57 := fun x hx => by
          have := List.all_eq_true.1 h3 x hx
          simpa [isDig] using this
        have hbd := digVal_bound (u.take i.toNat) 0 hall (by omega)
        have hn : n = (u.take i.toNat).foldl (fun n x => 10 * n + (x - 48)) 0 := h4
        rw [← hn] at hbd
        have hp : (10 : Int) ^ (u.take i.toNat).length ≤ 10 ^ 10 := by
          have : (u.take i.toNat).length ≤ 10 := by simp; omega
          exact_mod_cast Nat.pow_le_pow_right (by omega) this
        refine ⟨wrap64 (by omega), ?_⟩
        simp only
        rw [wrapU16 (by omega), wrap64 (n := e - 48) (by omega), wrap64 (n := 10 * n) (by omega), wrap64 (n := 10 * n + (e - 48)) (by omega), wrap64 (n := i + 1) (by omega), htk]
        refine ⟨⟨by omega, by omega⟩, by simp [h3, h6], ?_⟩
        rw [h4]
        simp [digVal]
    · rw [ilt_false] at h5
      simp only at h5
      have : u.take i.toNat = u := List.take_of_length_le (by omega)
      rw [this] at h3 h4
      exact law_ok ⟨h3, h4⟩
  · intro y hy
    cases y with
    | inl n =>
      obtain ⟨h1, rfl⟩ := hy
      rw [if_pos h1]
      refine law_inl (law_br (fun h2 => law_ok ?_) fun h2 => law_ok ?_)
      · rw [ilt_true] at h2; rw [if_pos h2]
      · rw [ilt_false] at h2; rw [if_neg (by omega)]
    | inr z =>
      obtain ⟨h1, rfl⟩ := hy
      rw [h1]
      exact law_inr (law_ok rfl)

/-- The number of a key. -/
def numK (u : List Int) : Int := (keyF u).1
theorem numK_range (u : List Int) : 0 ≤ numK u ∧ numK u ≤ 4294967294 := by
  unfold numK keyF
  split
  · simp
  · split
    · rename_i h
      have hall : ∀ x ∈ u, 48 ≤ x ∧ x ≤ 57 := fun x hx => by
        have := List.all_eq_true.1 h x hx
        simpa [isDig] using this
      have := (digVal_bound u 0 hall (by omega)).1
      split
      · simp
      · show 0 ≤ digVal u ∧ digVal u ≤ 4294967294
        have h0 : 0 ≤ digVal u := this
        omega
    · simp
theorem cmp_ok (a b : List Int) : (R.heap_Heap_Keys_1 a b).sat (· = numK a - numK b) := by
  unfold R.heap_Heap_Keys_1
  have ha := numK_range a
  have hb := numK_range b
  refine law_given fun _ => law_bind_eq (key_ok a) (law_given fun _ => law_bind_eq (key_ok b) (law_given fun _ => law_ok ?_))
  show IntKind.wrap .i64 (numK a - numK b) = _
  exact wrap64 (by omega)
end Go.Mach

set_option maxRecDepth 100000
namespace Go.Mach
open Res

/-- An element read, its place asked for first. -/
theorem law_at {β : Type} {Q : β → Prop} (xs : List (List Int)) (i : Int) {k : List Int → Res β} (h0 : 0 ≤ i) (h1 : i < xs.length) (h : ∀ x : List Int, xs[i.toNat]? = some x → (k x).sat Q) :
    (Res.need (ile 0 i && ilt i xs.length) (Res.idx (.list (.int .u16)) xs (0 + (i.toNat : Int)) k)).sat Q := by
  refine law_need (by rw [Bool.and_eq_true, ile_true, ilt_true]; exact ⟨h0, h1⟩) ?_
  have hi : ((0 : Int) + (i.toNat : Int)).toNat = i.toNat := idx0 i
  refine law_idx (by omega) (by rw [hi]; show i.toNat < xs.length; omega) fun x hx _ => h x (by rw [← hi]; exact hx)

abbrev Keys := List (List Int)

theorem swap_perm {d : Keys} {i j : Nat} {x y : List Int} (hx : d[i]? = some x) (hy : d[j]? = some y) : ((d.set i y).set j x).Perm d := by
  obtain ⟨hi, hx⟩ := List.getElem?_eq_some_iff.1 hx
  obtain ⟨hj, hy⟩ := List.getElem?_eq_some_iff.1 hy
  subst hx hy
  exact List.set_set_perm hi hj

/-- A swap of two places, as the code does it. -/
theorem swap_law {β : Type} {Q : β → Prop} {d : Keys} {i j : Int} {k : Keys → Res β} (hi : 0 ≤ i ∧ i < d.length) (hj : 0 ≤ j ∧ j < d.length) (h : ∀ x y, d[i.toNat]? = some x → d[j.toNat]? = some y → (k ((d.set i.toNat y).set j.toNat x)).sat Q) :
    (Res.need (ile 0 j && ilt j d.length) (Res.idx (.list (.int .u16)) d (0 + Int.toNat j) fun e7 => Res.need (ile 0 i && ilt i d.length) (Res.idx (.list (.int .u16)) d (0 + Int.toNat i) fun e8 => Res.need (ile 0 i && ilt i d.length) (Res.idx (.list (.int .u16)) d (0 + Int.toNat i) fun e9 => Res.need (ile 0 j && ilt j (List.set d (0 + Int.toNat i) e7).length) (Res.idx (.list (.int .u16)) (List.set d (0 + Int.toNat i) e7) (0 + Int.toNat j) fun e10 => k (List.set (List.set d (0 + Int.toNat i) e7) (0 + Int.toNat j) e8)))))).sat Q := by
  refine law_at d j hj.1 hj.2 fun y hy => ?_
  refine law_at d i hi.1 hi.2 fun x hx => ?_
  refine law_at d i hi.1 hi.2 fun x' hx' => ?_
  refine law_at (List.set d (0 + Int.toNat i) y) j hj.1 (by rw [List.length_set]; exact hj.2) fun y' hy' => ?_
  rw [Nat.zero_add, Nat.zero_add]
  exact h x y hx hy

theorem insertion_ok (d : Keys) (a b : Int) (ha : 0 ≤ a) (hb : b ≤ d.length) (hab : a ≤ d.length) (hl : d.length < 2 ^ 60) : (R.slices_insertionSortCmpFunc_suint16__heap_Heap_Keys_1 d a b ()).sat fun y => y.2.Perm d := by
  unfold R.slices_insertionSortCmpFunc_suint16__heap_Heap_Keys_1
  have hw : IntKind.wrap .i64 (a + 1) = a + 1 := wrap64 (by omega)
  rw [hw]
  refine law_given fun _ => law_bind' (R := fun d' => d'.Perm d) (law_for (fun x : Int × Keys => x.1) (d.length + 1) (by omega) (fun x => (a + 1 ≤ x.1 ∧ x.1 ≤ d.length + 1) ∧ x.2.Perm d) ⟨⟨by simp, by simp only; omega⟩, List.Perm.refl _⟩ (fun x h => by omega) ?_) fun d' h => law_ok h
  rintro ⟨i, d1⟩ ⟨⟨h1, h2⟩, hp⟩
  simp only at h1 h2 hp
  have hlen := hp.length_eq
  refine law_br (fun h3 => ?_) fun h3 => law_ok hp
  rw [ilt_true] at h3
  simp only at h3
  refine law_bind' (R := fun d' => d'.Perm d) (law_loop (fun k (x : Int × Keys) => k = (x.1 - a).toNat ∧ (a ≤ x.1 ∧ x.1 ≤ i) ∧ x.2.Perm d) ?_ _ (i - a).toNat _ (by have : fuel = 2 ^ 70 := rfl; omega) ⟨rfl, ⟨by simp only; omega, Int.le_refl _⟩, hp⟩) fun d' h => law_ok ⟨wrap64 (by omega), by simp only; rw [wrap64 (by omega)]; omega, h⟩
  rintro k ⟨j, d2⟩ ⟨hk, ⟨h4, h5⟩, hp2⟩
  simp only at hk h4 h5 hp2
  have hlen2 := hp2.length_eq
  refine law_bind' (R := fun b => b = true → a < j) ?_ ?_
  · refine law_br (fun h6 => ?_) fun h6 => law_ok fun h => by cases h
    rw [ilt_true] at h6
    simp only at h6
    rw [wrap64 (n := j - 1) (by omega)]
    refine law_at d2 j (by omega) (by omega) fun e3 _ => ?_
    refine law_at d2 (j - 1) (by omega) (by omega) fun e4 _ => ?_
    exact law_bind_eq (cmp_ok e3 e4) (law_given fun _ => law_ok fun _ => h6)
  · intro x hx
    refine law_br (fun h6 => ?_) fun _ => law_ok hp2
    have hj := hx h6
    simp only
    rw [wrap64 (n := j - 1) (by omega)]
    refine swap_law (d := d2) (i := j) (j := j - 1) (k := fun d' => (Res.ok (Res.Step.next (j - 1, d')) : Res (Res.Step (Int × Keys) Keys))) ⟨by omega, by omega⟩ ⟨by omega, by omega⟩ fun x y hx hy => ?_
    exact law_ok ⟨(j - 1 - a).toNat, by omega, rfl, ⟨by simp only; omega, by simp only; omega⟩, (swap_perm hx hy).trans hp2⟩

theorem swapRange_ok (d : Keys) (a b n : Int) (ha : 0 ≤ a) (hb : 0 ≤ b) (han : a + n ≤ d.length) (hbn : b + n ≤ d.length) (hn : 0 ≤ n) (hl : d.length < 2 ^ 60) : (R.slices_swapRangeCmpFunc_suint16__heap_Heap_Keys_1 d a b n ()).sat fun y => y.2.Perm d := by
  unfold R.slices_swapRangeCmpFunc_suint16__heap_Heap_Keys_1
  refine law_given fun _ => law_bind' (R := fun d' => d'.Perm d) (law_for (fun x : Int × Keys => x.1) n.toNat (by omega) (fun x => (0 ≤ x.1 ∧ x.1 ≤ n.toNat) ∧ x.2.Perm d) ⟨⟨by simp, by simp only; omega⟩, List.Perm.refl _⟩ (fun x h => h.1) ?_) fun d' h => law_ok h
  rintro ⟨i, d1⟩ ⟨⟨h1, h2⟩, hp⟩
  simp only at h1 h2 hp
  have hlen := hp.length_eq
  refine law_br (fun h3 => ?_) fun h3 => law_ok hp
  rw [ilt_true] at h3
  simp only at h3 ⊢
  rw [wrap64 (n := b + i) (by omega), wrap64 (n := a + i) (by omega), wrap64 (n := i + 1) (by omega)]
  refine swap_law (d := d1) (i := a + i) (j := b + i) (k := fun d' => (Res.ok (Res.Step.next (i + 1, d')) : Res (Res.Step (Int × Keys) Keys))) ⟨by omega, by omega⟩ ⟨by omega, by omega⟩ fun x y hx hy => ?_
  exact law_ok ⟨rfl, ⟨by simp only; omega, by simp only; omega⟩, (swap_perm hx hy).trans hp⟩

theorem rotate_ok (d : Keys) (a m b : Int) (ha : 0 ≤ a) (ham : a < m) (hmb : m < b) (hb : b ≤ d.length) (hl : d.length < 2 ^ 60) : (R.slices_rotateCmpFunc_suint16__heap_Heap_Keys_1 d a m b ()).sat fun y => y.2.Perm d := by
  unfold R.slices_rotateCmpFunc_suint16__heap_Heap_Keys_1
  rw [wrap64 (n := m - a) (by omega), wrap64 (n := b - m) (by omega)]
  refine law_given fun _ => law_bind' (R := fun (x : Int × Keys) => (0 < x.1 ∧ x.1 ≤ m - a ∧ x.1 ≤ b - m) ∧ x.2.Perm d) (law_loop (fun k (x : Int × Int × Keys) => k = (x.1 + x.2.1).toNat ∧ (0 < x.1 ∧ x.1 ≤ m - a) ∧ (0 < x.2.1 ∧ x.2.1 ≤ b - m) ∧ x.2.2.Perm d) ?_ _ (b - a).toNat _ (by have : fuel = 2 ^ 70 := rfl; omega) ⟨by simp only; congr 1; omega, ⟨by simp only; omega, by simp only; omega⟩, ⟨by simp only; omega, by simp only; omega⟩, List.Perm.refl _⟩) ?_
  · rintro k ⟨i, j, d1⟩ ⟨hk, ⟨h1, h2⟩, ⟨h3, h4⟩, hp⟩
    simp only at hk h1 h2 h3 h4 hp
    have hlen := hp.length_eq
    refine law_br (fun h5 => ?_) fun h5 => law_ok ⟨⟨h1, h2, ?_⟩, hp⟩
    · have h5 : ¬ i = j := by simpa using h5
      refine law_br (fun h6 => ?_) fun h6 => ?_
      · rw [ilt_true] at h6
        simp only at h6 ⊢
        rw [wrap64 (n := m - i) (by omega), wrap64 (n := i - j) (by omega)]
        refine law_bind' (swapRange_ok d1 (m - i) m j (by omega) (by omega) (by omega) (by omega) (by omega) (by omega)) fun y hy => law_given fun _ => law_ok ⟨(i - j + j).toNat, by omega, rfl, ⟨by simp only; omega, by simp only; omega⟩, ⟨by simp only; omega, by simp only; omega⟩, hy.trans hp⟩
      · rw [ilt_false] at h6
        simp only at h6 ⊢
        rw [wrap64 (n := m - i) (by omega), wrap64 (n := m + j) (by omega), wrap64 (n := m + j - i) (by omega), wrap64 (n := j - i) (by omega)]
        refine law_bind' (swapRange_ok d1 (m - i) (m + j - i) i (by omega) (by omega) (by omega) (by omega) (by omega) (by omega)) fun y hy => law_given fun _ => law_ok ⟨(i + (j - i)).toNat, by omega, rfl, ⟨by simp only; omega, by simp only; omega⟩, ⟨by simp only; omega, by simp only; omega⟩, hy.trans hp⟩
    · have h5 : i = j := by simpa using h5
      simp only
      omega
  · rintro ⟨i, d1⟩ ⟨⟨h1, h2, h3⟩, hp⟩
    simp only at h1 h2 h3 hp ⊢
    have hlen := hp.length_eq
    rw [wrap64 (n := m - i) (by omega)]
    refine law_bind' (swapRange_ok d1 (m - i) m i (by omega) (by omega) (by omega) (by omega) (by omega) (by omega)) fun y hy => law_given fun _ => law_ok (hy.trans hp)
end Go.Mach

set_option maxRecDepth 100000
namespace Go.Mach
open Res

/-- Half of a sum, as the code does it. -/
abbrev halfW (x : Int) : Int := IntKind.wrap .i64 (ishr .u64 (IntKind.wrap .u64 (IntKind.wrap .i64 x)) 1)
theorem half_ok {x : Int} (h : 0 ≤ x ∧ x < 2 ^ 62) : halfW x = x / 2 := by
  unfold halfW
  have h1 : IntKind.wrap .i64 x = x := wrap64 (by omega)
  have h2 : IntKind.wrap .u64 x = x := by
    simp [IntKind.wrap, IntKind.signed, IntKind.bits]
    omega
  have h3 : ishr .u64 x 1 = x / 2 := by
    unfold ishr
    have : (min (Int.toNat 1) (IntKind.bits .u64)) = 1 := by decide
    rw [this]
    show x.fdiv 2 = x / 2
    rw [Int.fdiv_eq_ediv]
    omega
  rw [h1, h2, h3]
  exact wrap64 (by omega)

/-- One round of a binary search that leaves the row as it is. -/
theorem search_ok {d : Keys} (lo hi : Int) (hlo : 0 ≤ lo) (hhi : hi < 2 ^ 60) (hle : lo ≤ hi) (f : Int × Int → Res (Res.Step (Int × Int) Int))
    (hf : ∀ i j, lo ≤ i → i ≤ j → j ≤ hi → (f (i, j)).sat fun
      | .next x => i < j ∧ ((x = ((i + j) / 2 + 1, j)) ∨ x = (i, (i + j) / 2))
      | .done r => r = i) : (Res.loop f fuel (lo, hi)).sat fun r => lo ≤ r ∧ r ≤ hi := by
  refine law_loop (fun k (x : Int × Int) => k = (x.2 - x.1).toNat ∧ lo ≤ x.1 ∧ x.1 ≤ x.2 ∧ x.2 ≤ hi) ?_ _ (hi - lo).toNat _ (by have : fuel = 2 ^ 70 := rfl; omega) ⟨rfl, Int.le_refl _, hle, Int.le_refl _⟩
  rintro k ⟨i, j⟩ ⟨hk, h1, h2, h3⟩
  simp only at hk h1 h2 h3
  refine law_mono (hf i j h1 h2 h3) fun s hs => ?_
  cases s with
  | next x =>
    obtain ⟨h4, rfl | rfl⟩ := hs
    · exact ⟨_, by omega, rfl, by simp only; omega, by simp only; omega, by simp only; omega⟩
    · exact ⟨_, by omega, rfl, by simp only; omega, by simp only; omega, by simp only; omega⟩
  | done r =>
    have hs : r = i := hs
    subst hs
    exact ⟨h1, by omega⟩

theorem symMerge_ok : ∀ (fu : Nat) (d : Keys) (a m b : Int), (b - a).toNat < fu → 0 ≤ a → a < m → m < b → b ≤ d.length → d.length < 2 ^ 60 → (R.slices_symMergeCmpFunc_suint16__heap_Heap_Keys_1 fu d a m b ()).sat fun y => y.2.Perm d
  | 0, _, _, _, _, h, _, _, _, _, _ => by omega
  | fu + 1, d, a, m, b, hfu, h0, ham, hmb, hb, hl => by
    unfold R.slices_symMergeCmpFunc_suint16__heap_Heap_Keys_1
    rw [wrap64 (n := m - a) (by omega), wrap64 (n := b - m) (by omega)]
    refine law_given fun _ => law_br (fun hone => ?_) fun hone => law_br (fun hone2 => ?_) fun hone2 => ?_
    · -- one element on the left
      refine law_bind' (R := fun r => m ≤ r ∧ r ≤ b) (search_ok (d := d) m b (by omega) (by omega) (by omega) _ fun i j h1 h2 h3 => ?_) fun i5 hi5 => ?_
      · simp only
        refine law_br (fun h4 => ?_) fun h4 => law_ok rfl
        rw [ilt_true] at h4
        have hh : halfW (i + j) = (i + j) / 2 := half_ok (by omega)
        refine law_need rfl ?_
        rw [show IntKind.wrap .i64 (ishr .u64 (IntKind.wrap .u64 (IntKind.wrap .i64 (i + j))) 1) = (i + j) / 2 from hh]
        refine law_at d ((i + j) / 2) (by omega) (by omega) fun e2 _ => ?_
        refine law_at d a (by omega) (by omega) fun e3 _ => ?_
        refine law_bind_eq (cmp_ok e2 e3) (law_given fun _ => law_br (fun _ => law_ok ⟨h4, .inl ?_⟩) fun _ => law_ok ⟨h4, .inr rfl⟩)
        rw [wrap64 (by omega)]
      · rw [wrap64 (n := i5 - 1) (by omega)]
        refine law_bind' (R := fun d' => d'.Perm d) (law_for (fun x : Int × Keys => x.1) (d.length + 1) (by omega) (fun x => (a ≤ x.1 ∧ x.1 ≤ d.length) ∧ x.2.Perm d) ⟨⟨by simp, by simp only; omega⟩, List.Perm.refl _⟩ (fun x h => by omega) ?_) fun d' h => law_ok h
        rintro ⟨k, d2⟩ ⟨⟨h1, h2⟩, hp⟩
        simp only at h1 h2 hp
        have hlen := hp.length_eq
        refine law_br (fun h3 => ?_) fun h3 => law_ok hp
        rw [ilt_true] at h3
        simp only at h3 ⊢
        rw [wrap64 (n := k + 1) (by omega)]
        refine swap_law (d := d2) (i := k) (j := k + 1) (k := fun d' => (Res.ok (Res.Step.next (k + 1, d')) : Res (Res.Step (Int × Keys) Keys))) ⟨by omega, by omega⟩ ⟨by omega, by omega⟩ fun x y hx hy => ?_
        exact law_ok ⟨rfl, ⟨by simp only; omega, by simp only; omega⟩, (swap_perm hx hy).trans hp⟩
    · -- one element on the right
      refine law_bind' (R := fun r => a ≤ r ∧ r ≤ m) (search_ok (d := d) a m (by omega) (by omega) (by omega) _ fun i j h1 h2 h3 => ?_) fun i5 hi5 => ?_
      · simp only
        refine law_br (fun h4 => ?_) fun h4 => law_ok rfl
        rw [ilt_true] at h4
        have hh : halfW (i + j) = (i + j) / 2 := half_ok (by omega)
        refine law_need rfl ?_
        rw [show IntKind.wrap .i64 (ishr .u64 (IntKind.wrap .u64 (IntKind.wrap .i64 (i + j))) 1) = (i + j) / 2 from hh]
        refine law_at d m (by omega) (by omega) fun e2 _ => ?_
        refine law_at d ((i + j) / 2) (by omega) (by omega) fun e3 _ => ?_
        refine law_bind_eq (cmp_ok e2 e3) (law_given fun _ => law_br (fun _ => law_ok ⟨h4, .inl ?_⟩) fun _ => law_ok ⟨h4, .inr rfl⟩)
        rw [wrap64 (by omega)]
      · refine law_bind' (R := fun d' => d'.Perm d) (law_loop (fun k (x : Int × Keys) => k = x.1.toNat ∧ (0 ≤ x.1 ∧ x.1 ≤ m) ∧ x.2.Perm d) ?_ _ m.toNat _ (by have : fuel = 2 ^ 70 := rfl; omega) ⟨rfl, ⟨by simp only; omega, Int.le_refl _⟩, List.Perm.refl _⟩) fun d' h => law_ok h
        rintro q ⟨k, d2⟩ ⟨hq, ⟨h1, h2⟩, hp⟩
        simp only at hq h1 h2 hp
        have hlen := hp.length_eq
        refine law_br (fun h3 => ?_) fun h3 => law_ok hp
        rw [ilt_true] at h3
        simp only at h3 ⊢
        rw [wrap64 (n := k - 1) (by omega)]
        refine swap_law (d := d2) (i := k) (j := k - 1) (k := fun d' => (Res.ok (Res.Step.next (k - 1, d')) : Res (Res.Step (Int × Keys) Keys))) ⟨by omega, by omega⟩ ⟨by omega, by omega⟩ fun x y hx hy => ?_
        exact law_ok ⟨_, by omega, rfl, ⟨by simp only; omega, by simp only; omega⟩, (swap_perm hx hy).trans hp⟩
    · -- halves
      have hone : ¬ m - a = 1 := by simpa using hone
      have hone2 : ¬ b - m = 1 := by simpa using hone2
      have hmid : IntKind.wrap .i64 (ishr .u64 (IntKind.wrap .u64 (IntKind.wrap .i64 (a + b))) 1) = (a + b) / 2 := half_ok (by omega)
      rw [hmid]
      generalize hM : (a + b) / 2 = mid
      have hM1 : a + b - 1 ≤ 2 * mid ∧ 2 * mid ≤ a + b := by omega
      rw [wrap64 (n := mid + m) (by omega), wrap64 (n := mid + m - b) (by omega), wrap64 (n := mid + m - 1) (by omega)]
      refine law_need rfl (law_bind' (R := fun (x : Int × Int) => (a ≤ x.1 ∧ x.1 ≤ x.2 ∧ x.2 ≤ m) ∧ mid + m - x.1 ≤ b ∧ (x.2 ≤ mid) ∧ (mid ≤ mid + m - x.2)) ?_ ?_)
      · refine law_br (fun h1 => law_ok ?_) fun h1 => law_ok ?_
        · rw [ilt_true] at h1; simp only; omega
        · rw [ilt_false] at h1; simp only; omega
      rintro ⟨st, rr⟩ ⟨⟨s1, s2, s3⟩, s4, s5, s6⟩
      simp only at s1 s2 s3 s4 s5 s6
      refine law_bind' (R := fun r => st ≤ r ∧ r ≤ rr) (search_ok (d := d) st rr (by omega) (by omega) (by omega) _ fun i j h1 h2 h3 => ?_) fun s hs => ?_
      · simp only
        refine law_br (fun h4 => ?_) fun h4 => law_ok rfl
        rw [ilt_true] at h4
        have hh : halfW (i + j) = (i + j) / 2 := half_ok (by omega)
        refine law_need rfl ?_
        rw [show IntKind.wrap .i64 (ishr .u64 (IntKind.wrap .u64 (IntKind.wrap .i64 (i + j))) 1) = (i + j) / 2 from hh]
        rw [wrap64 (n := mid + m - 1 - (i + j) / 2) (by omega)]
        refine law_at d (mid + m - 1 - (i + j) / 2) (by omega) (by omega) fun e2 _ => ?_
        refine law_at d ((i + j) / 2) (by omega) (by omega) fun e3 _ => ?_
        refine law_bind_eq (cmp_ok e2 e3) (law_given fun _ => law_br (fun _ => law_ok ⟨h4, .inl ?_⟩) fun _ => law_ok ⟨h4, .inr rfl⟩)
        rw [wrap64 (by omega)]
      · obtain ⟨hs1, hs2⟩ := hs
        rw [wrap64 (n := mid + m - s) (by omega)]
        refine law_bind' (R := fun d' => d'.Perm d) ?_ fun d1 hp1 => law_bind' (R := fun d' => d'.Perm d) ?_ fun d2 hp2 => ?_
        · refine law_bind' (R := fun c => c = true → s < m ∧ m < mid + m - s) ?_ fun c hc => law_br (fun h => ?_) fun _ => law_ok (List.Perm.refl _)
          · refine law_br (fun h1 => law_ok fun h2 => ?_) fun _ => law_ok fun h => by cases h
            rw [ilt_true] at h1 h2
            exact ⟨h1, h2⟩
          · obtain ⟨h1, h2⟩ := hc h
            exact law_bind' (rotate_ok d s m (mid + m - s) (by omega) h1 h2 (by omega) hl) fun y hy => law_given fun _ => law_ok hy
        · have hlen1 := hp1.length_eq
          refine law_bind' (R := fun c => c = true → a < s ∧ s < mid) ?_ fun c hc => law_br (fun h => ?_) fun _ => law_ok hp1
          · refine law_br (fun h1 => law_ok fun h2 => ?_) fun _ => law_ok fun h => by cases h
            rw [ilt_true] at h1 h2
            exact ⟨h1, h2⟩
          · obtain ⟨h1, h2⟩ := hc h
            exact law_bind' (symMerge_ok fu d1 a s mid (by omega) h0 h1 h2 (by omega) (by omega)) fun y hy => law_given fun _ => law_ok (hy.trans hp1)
        · have hlen2 := hp2.length_eq
          refine law_bind' (R := fun c => c = true → mid < mid + m - s ∧ mid + m - s < b) ?_ fun c hc => law_br (fun h => ?_) fun _ => law_ok hp2
          · refine law_br (fun h1 => law_ok fun h2 => ?_) fun _ => law_ok fun h => by cases h
            rw [ilt_true] at h1 h2
            exact ⟨h1, h2⟩
          · obtain ⟨h1, h2⟩ := hc h
            exact law_bind' (symMerge_ok fu d2 mid (mid + m - s) b (by omega) (by omega) h1 h2 (by omega) (by omega)) fun y hy => law_given fun _ => law_ok (hy.trans hp2)
end Go.Mach

set_option maxRecDepth 100000
namespace Go.Mach
open Res

theorem stable_ok (d : Keys) (hl : d.length < 2 ^ 50) : (R.slices_stableCmpFunc_suint16__heap_Heap_Keys_1 d (d.length : Int) ()).sat fun y => y.2.Perm d := by
  unfold R.slices_stableCmpFunc_suint16__heap_Heap_Keys_1
  refine law_given fun _ => law_bind' (R := fun (x : Int × Keys) => (0 ≤ x.1 ∧ x.1 ≤ d.length) ∧ x.2.Perm d) (law_loop (fun k (x : Int × Int × Keys) => k = (d.length + 20 - x.1).toNat ∧ (0 ≤ x.1 ∧ x.1 ≤ d.length) ∧ x.2.1 = x.1 + 20 ∧ x.2.2.Perm d) ?_ _ (d.length + 20) _ (by have : fuel = 2 ^ 70 := rfl; omega) ⟨by simp only; omega, ⟨by simp only; omega, by simp only; omega⟩, rfl, List.Perm.refl _⟩) ?_
  · rintro k ⟨a, b, d1⟩ ⟨hk, ⟨h1, h2⟩, h3, hp⟩
    simp only at hk h1 h2 h3 hp
    have hlen := hp.length_eq
    refine law_br (fun h4 => ?_) fun h4 => law_ok ⟨⟨h1, h2⟩, hp⟩
    rw [ile_true] at h4
    simp only at h4 ⊢
    refine law_bind' (insertion_ok d1 a b h1 (by omega) (by omega) (by omega)) fun y hy => law_given fun _ => law_ok ⟨(d.length + 20 - b).toNat, by omega, rfl, ⟨by simp only; omega, h4⟩, wrap64 (by omega), hy.trans hp⟩
  rintro ⟨a, d1⟩ ⟨⟨h1, h2⟩, hp⟩
  simp only at h1 h2 hp
  have hlen := hp.length_eq
  refine law_bind' (insertion_ok d1 a d.length h1 (by omega) (by omega) (by omega)) fun y hy => law_given fun _ => ?_
  obtain ⟨_, d2⟩ := y
  simp only at hy ⊢
  have hp2 := hy.trans hp
  refine law_bind' (R := fun d' => d'.Perm d) (law_loop (fun k (x : Int × Keys) => k = (d.length - x.1).toNat ∧ (20 ≤ x.1 ∧ x.1 ≤ 2 ^ 52) ∧ x.2.Perm d) ?_ _ ((d.length : Int) - 20).toNat _ (by have : fuel = 2 ^ 70 := rfl; omega) ⟨rfl, ⟨by simp only; omega, by simp only; omega⟩, hp2⟩) fun d' h => law_ok h
  rintro k ⟨bs, d3⟩ ⟨hk, ⟨h3, h4⟩, hp3⟩
  simp only at hk h3 h4 hp3
  have hlen3 := hp3.length_eq
  refine law_br (fun h5 => ?_) fun h5 => law_ok hp3
  rw [ilt_true] at h5
  simp only at h5 ⊢
  rw [wrap64 (n := 2 * bs) (by omega), wrap64 (n := bs * 2) (by omega)]
  refine law_bind' (R := fun (x : Int × Keys) => (0 ≤ x.1 ∧ x.1 ≤ d.length) ∧ x.2.Perm d) (law_loop (fun k (x : Int × Int × Keys) => k = (d.length + 2 * bs - x.1).toNat ∧ (0 ≤ x.1 ∧ x.1 ≤ d.length) ∧ x.2.1 = x.1 + 2 * bs ∧ x.2.2.Perm d) ?_ _ (d.length + 2 * bs).toNat _ (by have : fuel = 2 ^ 70 := rfl; omega) ⟨by simp only; omega, ⟨by simp only; omega, by simp only; omega⟩, by simp only; omega, hp3⟩) ?_
  · rintro k ⟨a, b, d4⟩ ⟨hk, ⟨h6, h7⟩, h8, hp4⟩
    simp only at hk h6 h7 h8 hp4
    have hlen4 := hp4.length_eq
    refine law_br (fun h9 => ?_) fun h9 => law_ok ⟨⟨h6, h7⟩, hp4⟩
    rw [ile_true] at h9
    simp only at h9 ⊢
    rw [wrap64 (n := a + bs) (by omega), wrap64 (n := b + 2 * bs) (by omega)]
    refine law_bind' (symMerge_ok fuel d4 a (a + bs) b (by have : fuel = 2 ^ 70 := rfl; omega) h6 (by omega) (by omega) (by omega) (by omega)) fun y hy => law_given fun _ => law_ok ⟨(d.length + 2 * bs - b).toNat, by omega, rfl, ⟨by simp only; omega, h9⟩, rfl, hy.trans hp4⟩
  rintro ⟨a, d4⟩ ⟨⟨h6, h7⟩, hp4⟩
  simp only at h6 h7 hp4 ⊢
  have hlen4 := hp4.length_eq
  rw [wrap64 (n := a + bs) (by omega)]
  refine law_br (fun h9 => ?_) fun h9 => law_ok ⟨(d.length - bs * 2).toNat, by omega, rfl, ⟨by simp only; omega, by simp only; omega⟩, hp4⟩
  rw [ilt_true] at h9
  exact law_bind' (symMerge_ok fuel d4 a (a + bs) d.length (by have : fuel = 2 ^ 70 := rfl; omega) h6 (by omega) h9 (by omega) (by omega)) fun y hy => law_given fun _ => law_ok ⟨(d.length - bs * 2).toNat, by omega, rfl, ⟨by simp only; omega, by simp only; omega⟩, hy.trans hp4⟩

theorem sortStable_ok (d : Keys) (hl : d.length < 2 ^ 50) : (R.slices_SortStableFunc_suint16__heap_Heap_Keys_1 d ()).sat fun y => y.2.Perm d := by
  unfold R.slices_SortStableFunc_suint16__heap_Heap_Keys_1
  exact law_given fun _ => law_bind' (stable_ok d hl) fun y hy => law_given fun _ => law_ok hy

/-- The keys: those of the properties, in some order. -/
theorem keys_ok (h : HeapT) (r : Int) {c : CellT} (h0 : 0 ≤ r) (hc : h.2[r.toNat]? = some c) (hl : c.props.length ≤ 2 ^ 30) : (R.heap_Heap_Keys h r).sat fun l => l.Perm (c.props.map (·.1)) := by
  unfold R.heap_Heap_Keys
  have hlt := (List.getElem?_eq_some_iff.1 hc).1
  have hl : c.2.2.1.length ≤ 2 ^ 30 := hl
  refine law_given fun _ => law_bind_eq (has_ok h r) (law_f (by simp [h0]; omega) (law_idxS h0 hlt fun x hx _ => ?_))
  rw [hc] at hx
  cases hx
  refine law_bind' (R := fun (x : Keys × Keys) => (x.1 ++ x.2).Perm (c.2.2.1.map (·.1))) (law_for (fun x : Keys × Keys × Int => x.2.2) c.2.2.1.length (by omega) (fun x => (0 ≤ x.2.2 ∧ x.2.2 ≤ c.2.2.1.length) ∧ (x.1 ++ x.2.1).Perm ((c.2.2.1.take x.2.2.toNat).map (·.1)) ∧ x.1.length + x.2.1.length = x.2.2.toNat) ⟨⟨by simp, by simp only; omega⟩, List.Perm.refl _, rfl⟩ (fun x h => h.1) ?_) ?_
  · rintro ⟨p, q, i⟩ ⟨⟨h1, h2⟩, h3, h4⟩
    simp only at h1 h2 h3 h4
    refine law_br (fun h5 => ?_) fun h5 => ?_
    · rw [ilt_true] at h5
      simp only at h5
      have hi : i.toNat < c.2.2.1.length := by omega
      refine law_idxS h1 hi fun e he _ => law_bind_eq (a := e.1) (law_ok rfl) (law_given fun _ => law_bind_eq (key_ok e.1) (law_given fun _ => ?_))
      have he : c.2.2.1[i.toNat]? = some e := he
      have htk : (c.2.2.1.take (i + 1).toNat).map (·.1) = (c.2.2.1.take i.toNat).map (·.1) ++ [e.1] := by
        have hei : c.2.2.1[i.toNat] = e := by rw [List.getElem?_eq_getElem hi] at he; cases he; rfl
        rw [show (i + 1).toNat = i.toNat + 1 by omega, List.take_succ_eq_append_getElem hi, hei, List.map_append]
        rfl
      have hw : IntKind.wrap .i64 (i + 1) = i + 1 := wrap64 (by omega)
      refine law_br (fun _ => law_need ?_ (law_ok ⟨hw, ?_⟩)) fun _ => law_need ?_ (law_ok ⟨hw, ?_⟩)
      · simp only [decide_eq_true_eq, List.length_singleton]; omega
      · simp only
        rw [wrap64 (n := i + 1) (by omega), htk]
        refine ⟨⟨by omega, by omega⟩, ?_, by simp; omega⟩
        refine List.Perm.trans ?_ (h3.append_right [e.1])
        rw [List.append_assoc, List.append_assoc]
        exact (List.perm_append_comm (l₁ := [e.1]) (l₂ := q)).append_left p
      · simp only [decide_eq_true_eq, List.length_singleton]; omega
      · simp only
        rw [wrap64 (n := i + 1) (by omega), htk]
        refine ⟨⟨by omega, by omega⟩, ?_, by simp; omega⟩
        rw [← List.append_assoc]
        exact h3.append_right [e.1]
    · rw [ilt_false] at h5
      simp only at h5
      rw [List.take_of_length_le (by omega)] at h3
      exact law_ok h3
  · rintro ⟨p, q⟩ hpq
    simp only at hpq ⊢
    have hlen := hpq.length_eq
    simp only [List.length_append, List.length_map] at hlen
    refine law_bind' (sortStable_ok p (by omega)) fun y hy => law_given fun _ => ?_
    have hleny := hy.length_eq
    refine law_need (by simp only [decide_eq_true_eq]; omega) (law_ok ?_)
    exact (hy.append_right q).trans hpq
end Go.Mach

set_option maxRecDepth 100000
namespace Go.Mach
open Res

/-! ### Sorted: the numbers by their places -/

/-- The number at a place. -/
def ka (d : Keys) (p : Int) : Int := numK ((d[p.toNat]?).getD [])
theorem ka_at {d : Keys} {p : Int} {x : List Int} (h : d[p.toNat]? = some x) : ka d p = numK x := by unfold ka; rw [h]; rfl

theorem ka_swap {d : Keys} {i j : Int} {x y : List Int} (hi : 0 ≤ i) (hj : 0 ≤ j) (hx : d[i.toNat]? = some x) (hy : d[j.toNat]? = some y) (p : Int) (hp : 0 ≤ p) :
    ka ((d.set i.toNat y).set j.toNat x) p = if p = j then ka d i else if p = i then ka d j else ka d p := by
  have h1 := (List.getElem?_eq_some_iff.1 hx).1
  have h2 := (List.getElem?_eq_some_iff.1 hy).1
  unfold ka
  by_cases hpj : p = j
  · subst hpj
    rw [if_pos rfl, List.getElem?_set_self (by rw [List.length_set]; exact h2), hx]
  · rw [if_neg hpj, List.getElem?_set_ne (by omega)]
    by_cases hpi : p = i
    · subst hpi
      rw [if_pos rfl, List.getElem?_set_self h1, hy]
    · rw [if_neg hpi, List.getElem?_set_ne (by omega)]

/-- A change within [a, b): the same values there, nothing elsewhere. -/
structure Seg (a b : Int) (d d' : Keys) : Prop where
  perm : d'.Perm d
  out : ∀ p, 0 ≤ p → (p < a ∨ b ≤ p) → ka d' p = ka d p
  ins : ∀ P : Int → Prop, (∀ p, a ≤ p → p < b → P (ka d p)) → ∀ p, a ≤ p → p < b → P (ka d' p)

theorem Seg.refl (a b : Int) (d : Keys) : Seg a b d d := ⟨List.Perm.refl _, fun _ _ _ => rfl, fun _ h => h⟩
theorem Seg.trans {a b : Int} {d d' d'' : Keys} (h : Seg a b d d') (h' : Seg a b d' d'') : Seg a b d d'' :=
  ⟨h'.perm.trans h.perm, fun p h0 hp => (h'.out p h0 hp).trans (h.out p h0 hp), fun P hP => h'.ins P (h.ins P hP)⟩
theorem Seg.mono {a b a' b' : Int} {d d' : Keys} (h : Seg a b d d') (h0 : 0 ≤ a') (ha : a' ≤ a) (hb : b ≤ b') : Seg a' b' d d' :=
  ⟨h.perm, fun p hp hpo => h.out p hp (by omega), fun P hP p h1 h2 => by
    by_cases hi : a ≤ p ∧ p < b
    · exact h.ins P (fun q hq1 hq2 => hP q (by omega) (by omega)) p hi.1 hi.2
    · rw [h.out p (by omega) (by omega)]
      exact hP p h1 h2⟩
theorem Seg.len {a b : Int} {d d' : Keys} (h : Seg a b d d') : d'.length = d.length := h.perm.length_eq

theorem Seg.swap {a b : Int} {d : Keys} {i j : Int} {x y : List Int} (h0 : 0 ≤ a) (hi : a ≤ i ∧ i < b) (hj : a ≤ j ∧ j < b) (hx : d[i.toNat]? = some x) (hy : d[j.toNat]? = some y) : Seg a b d ((d.set i.toNat y).set j.toNat x) := by
  refine ⟨swap_perm hx hy, fun p hp hpo => ?_, fun P hP p h1 h2 => ?_⟩
  · rw [ka_swap (by omega) (by omega) hx hy p hp, if_neg (by omega), if_neg (by omega)]
  · rw [ka_swap (by omega) (by omega) hx hy p (by omega)]
    split
    · exact hP i hi.1 hi.2
    · split
      · exact hP j hj.1 hj.2
      · exact hP p h1 h2

/-- In order on [a, b). -/
def Srt (d : Keys) (a b : Int) : Prop := ∀ p q, a ≤ p → p < q → q < b → ka d p ≤ ka d q

/-! ### Insertion -/

theorem insertion_srt (d : Keys) (a b : Int) (ha : 0 ≤ a) (hb : b ≤ d.length) (hab : a ≤ d.length) (hl : d.length < 2 ^ 60) : (R.slices_insertionSortCmpFunc_suint16__heap_Heap_Keys_1 d a b ()).sat fun y => Seg a b d y.2 ∧ Srt y.2 a b := by
  unfold R.slices_insertionSortCmpFunc_suint16__heap_Heap_Keys_1
  have hw : IntKind.wrap .i64 (a + 1) = a + 1 := wrap64 (by omega)
  rw [hw]
  refine law_given fun _ => law_bind' (R := fun d' => Seg a b d d' ∧ Srt d' a b) (law_for (fun x : Int × Keys => x.1) (d.length + 1) (by omega) (fun x => (a + 1 ≤ x.1 ∧ x.1 ≤ d.length + 1) ∧ Seg a b d x.2 ∧ Srt x.2 a x.1) ⟨⟨by simp, by simp only; omega⟩, Seg.refl _ _ _, fun p q h1 h2 h3 => by simp only at h3; omega⟩ (fun x h => by omega) ?_) fun d' h => law_ok h
  rintro ⟨i, d1⟩ ⟨⟨h1, h2⟩, hp, hs⟩
  simp only at h1 h2 hp hs
  have hlen := hp.len
  refine law_br (fun h3 => ?_) fun h3 => law_ok ⟨hp, fun p q h4 h5 h6 => hs p q h4 h5 (by rw [ilt_false] at h3; simp only at h3; omega)⟩
  rw [ilt_true] at h3
  simp only at h3
  refine law_bind' (R := fun d' => Seg a b d d' ∧ Srt d' a (i + 1)) (law_loop (fun k (x : Int × Keys) => k = (x.1 - a).toNat ∧ (a ≤ x.1 ∧ x.1 ≤ i) ∧ Seg a b d x.2 ∧
      (∀ p q, a ≤ p → p < q → q < i + 1 → p ≠ x.1 → q ≠ x.1 → ka x.2 p ≤ ka x.2 q) ∧ (∀ q, x.1 < q → q < i + 1 → ka x.2 x.1 ≤ ka x.2 q)) ?_ _ (i - a).toNat _ (by have : fuel = 2 ^ 70 := rfl; omega)
      ⟨rfl, ⟨by simp only; omega, Int.le_refl _⟩, hp, fun p q h4 h5 h6 h7 h8 => hs p q h4 h5 (by simp only at h8; omega), fun q h4 h5 => by simp only at h4; omega⟩) fun d' h => law_ok ⟨wrap64 (by omega), by simp only; rw [wrap64 (by omega)]; omega, h.1, by simp only; rw [wrap64 (by omega)]; exact h.2⟩
  rintro k ⟨j, d2⟩ ⟨hk, ⟨h4, h5⟩, hp2, hs1, hs2⟩
  simp only at hk h4 h5 hp2 hs1 hs2
  have hlen2 := hp2.len
  refine law_bind' (R := fun c => (c = true → a < j ∧ ka d2 j < ka d2 (j - 1)) ∧ (c = false → j = a ∨ ka d2 (j - 1) ≤ ka d2 j)) ?_ ?_
  · refine law_br (fun h6 => ?_) fun h6 => law_ok ⟨(fun h => by cases h), fun _ => .inl (by rw [ilt_false] at h6; simp only at h6; omega)⟩
    rw [ilt_true] at h6
    simp only at h6
    rw [wrap64 (n := j - 1) (by omega)]
    refine law_at d2 j (by omega) (by omega) fun e3 he3 => ?_
    refine law_at d2 (j - 1) (by omega) (by omega) fun e4 he4 => ?_
    refine law_bind_eq (cmp_ok e3 e4) (law_given fun _ => law_ok ⟨fun h7 => ?_, fun h7 => ?_⟩)
    · rw [ilt_true] at h7
      rw [ka_at he3, ka_at he4]
      exact ⟨h6, by omega⟩
    · rw [ilt_false] at h7
      rw [ka_at he3, ka_at he4]
      exact .inr (by omega)
  · intro x hx
    refine law_br (fun h6 => ?_) fun h6 => law_ok ⟨hp2, fun p q g1 g2 g3 => ?_⟩
    · obtain ⟨hj, hlt⟩ := hx.1 h6
      simp only
      rw [wrap64 (n := j - 1) (by omega)]
      refine swap_law (d := d2) (i := j) (j := j - 1) (k := fun d' => (Res.ok (Res.Step.next (j - 1, d')) : Res (Res.Step (Int × Keys) Keys))) ⟨by omega, by omega⟩ ⟨by omega, by omega⟩ fun x y hx hy => ?_
      have hsw := fun p hp => ka_swap (d := d2) (i := j) (j := j - 1) (by omega) (by omega) hx hy p hp
      refine law_ok ⟨(j - 1 - a).toNat, by omega, rfl, ⟨by simp only; omega, by simp only; omega⟩, hp2.trans (Seg.swap ha ⟨by omega, by omega⟩ ⟨by omega, by omega⟩ hx hy), fun p q g1 g2 g3 g4 g5 => ?_, fun q g1 g2 => ?_⟩
      · simp only at g4 g5 ⊢
        rw [hsw p (by omega), hsw q (by omega), if_neg g4, if_neg g5]
        by_cases hpj : p = j
        · rw [if_pos hpj, if_neg (by omega)]
          exact hs1 (j - 1) q (by omega) (by omega) g3 (by omega) (by omega)
        · rw [if_neg hpj]
          by_cases hqj : q = j
          · rw [if_pos hqj]
            exact hs1 p (j - 1) g1 (by omega) (by omega) hpj (by omega)
          · rw [if_neg hqj]
            exact hs1 p q g1 g2 g3 hpj hqj
      · simp only at g1 ⊢
        rw [hsw (j - 1) (by omega), hsw q (by omega), if_pos rfl, if_neg (by omega)]
        by_cases hqj : q = j
        · rw [if_pos hqj]; omega
        · rw [if_neg hqj]
          exact hs2 q (by omega) g2
    · simp only at g3 ⊢
      have hx2 := hx.2 h6
      by_cases hpj : p = j
      · rw [hpj]; exact hs2 q (by omega) g3
      · by_cases hqj : q = j
        · rcases hx2 with h | h
          · omega
          · rw [hqj]
            by_cases hpp : p = j - 1
            · rw [hpp]; exact h
            · exact Int.le_trans (hs1 p (j - 1) g1 (by omega) (by omega) hpj (by omega)) h
        · exact hs1 p q g1 g2 g3 hpj hqj

/-! ### Ranges change places -/

theorem swapRange_srt (d : Keys) (a b n : Int) (ha : 0 ≤ a) (hab : a + n ≤ b) (hbn : b + n ≤ d.length) (hn : 0 ≤ n) (hl : d.length < 2 ^ 60) : (R.slices_swapRangeCmpFunc_suint16__heap_Heap_Keys_1 d a b n ()).sat fun y => Seg a (b + n) d y.2 ∧
    ∀ p, 0 ≤ p → ka y.2 p = if a ≤ p ∧ p < a + n then ka d (p - a + b) else if b ≤ p ∧ p < b + n then ka d (p - b + a) else ka d p := by
  unfold R.slices_swapRangeCmpFunc_suint16__heap_Heap_Keys_1
  refine law_given fun _ => law_bind' (R := fun d' => Seg a (b + n) d d' ∧ ∀ p, 0 ≤ p → ka d' p = if a ≤ p ∧ p < a + n then ka d (p - a + b) else if b ≤ p ∧ p < b + n then ka d (p - b + a) else ka d p)
    (law_for (fun x : Int × Keys => x.1) n.toNat (by omega) (fun x => (0 ≤ x.1 ∧ x.1 ≤ n.toNat) ∧ Seg a (b + n) d x.2 ∧ ∀ p, 0 ≤ p → ka x.2 p = if a ≤ p ∧ p < a + x.1 then ka d (p - a + b) else if b ≤ p ∧ p < b + x.1 then ka d (p - b + a) else ka d p) ⟨⟨by simp, by simp only; omega⟩, Seg.refl _ _ _, fun p hp => by simp only; rw [if_neg (by omega), if_neg (by omega)]⟩ (fun x h => h.1) ?_) fun d' h => law_ok h
  rintro ⟨i, d1⟩ ⟨⟨h1, h2⟩, hp, hk⟩
  simp only at h1 h2 hp hk
  have hlen := hp.len
  refine law_br (fun h3 => ?_) fun h3 => law_ok ⟨hp, ?_⟩
  · rw [ilt_true] at h3
    simp only at h3 ⊢
    rw [wrap64 (n := b + i) (by omega), wrap64 (n := a + i) (by omega), wrap64 (n := i + 1) (by omega)]
    refine swap_law (d := d1) (i := a + i) (j := b + i) (k := fun d' => (Res.ok (Res.Step.next (i + 1, d')) : Res (Res.Step (Int × Keys) Keys))) ⟨by omega, by omega⟩ ⟨by omega, by omega⟩ fun x y hx hy => ?_
    refine law_ok ⟨rfl, ⟨by simp only; omega, by simp only; omega⟩, hp.trans (Seg.swap ha ⟨by omega, by omega⟩ ⟨by omega, by omega⟩ hx hy), fun p hp0 => ?_⟩
    simp only
    rw [ka_swap (by omega) (by omega) hx hy p hp0]
    by_cases g1 : p = b + i
    · rw [if_pos g1, hk (a + i) (by omega), if_neg (by omega), if_neg (by omega), if_neg (by omega), if_pos (by omega)]
      congr 1; omega
    · rw [if_neg g1]
      by_cases g2 : p = a + i
      · rw [if_pos g2, hk (b + i) (by omega), if_neg (by omega), if_neg (by omega), if_pos (by omega)]
        congr 1; omega
      · rw [if_neg g2, hk p hp0]
        by_cases g3 : a ≤ p ∧ p < a + i
        · rw [if_pos g3, if_pos (by omega)]
        · rw [if_neg g3, if_neg (show ¬ (a ≤ p ∧ p < a + (i + 1)) by omega)]
          by_cases g4 : b ≤ p ∧ p < b + i
          · rw [if_pos g4, if_pos (by omega)]
          · rw [if_neg g4, if_neg (show ¬ (b ≤ p ∧ p < b + (i + 1)) by omega)]
  · rw [ilt_false] at h3
    simp only at h3
    have : i = n := by omega
    subst this
    exact hk
end Go.Mach

set_option maxRecDepth 100000
namespace Go.Mach
open Res

def rotF (d : Keys) (a m b p : Int) : Int := if p < a + (b - m) then ka d (m + (p - a)) else ka d (a + (p - (a + (b - m))))

theorem rotate_srt (d : Keys) (a m b : Int) (ha : 0 ≤ a) (ham : a < m) (hmb : m < b) (hb : b ≤ d.length) (hl : d.length < 2 ^ 60) : (R.slices_rotateCmpFunc_suint16__heap_Heap_Keys_1 d a m b ()).sat fun y => Seg a b d y.2 ∧ ∀ p, a ≤ p → p < b → ka y.2 p = rotF d a m b p := by
  unfold R.slices_rotateCmpFunc_suint16__heap_Heap_Keys_1
  rw [wrap64 (n := m - a) (by omega), wrap64 (n := b - m) (by omega)]
  refine law_given fun _ => law_bind' (R := fun (x : Int × Keys) => (0 < x.1 ∧ x.1 ≤ m - a ∧ x.1 ≤ b - m) ∧ Seg a b d x.2 ∧ (∀ p, m - x.1 ≤ p → p < m + x.1 → rotF x.2 (m - x.1) m (m + x.1) p = rotF d a m b p) ∧ (∀ p, a ≤ p → p < b → (p < m - x.1 ∨ m + x.1 ≤ p) → ka x.2 p = rotF d a m b p))
    (law_loop (fun k (x : Int × Int × Keys) => k = (x.1 + x.2.1).toNat ∧ (0 < x.1 ∧ x.1 ≤ m - a) ∧ (0 < x.2.1 ∧ x.2.1 ≤ b - m) ∧ Seg a b d x.2.2 ∧ (∀ p, m - x.1 ≤ p → p < m + x.2.1 → rotF x.2.2 (m - x.1) m (m + x.2.1) p = rotF d a m b p) ∧ (∀ p, a ≤ p → p < b → (p < m - x.1 ∨ m + x.2.1 ≤ p) → ka x.2.2 p = rotF d a m b p)) ?_ _ (b - a).toNat _ (by have : fuel = 2 ^ 70 := rfl; omega)
      ⟨by simp only; congr 1; omega, ⟨by simp only; omega, by simp only; omega⟩, ⟨by simp only; omega, by simp only; omega⟩, Seg.refl _ _ _, fun p _ _ => by simp only; rw [show m - (m - a) = a by omega, show m + (b - m) = b by omega], fun p h1 h2 h3 => by simp only at h3; omega⟩) ?_
  · rintro k ⟨i, j, d1⟩ ⟨hk, ⟨h1, h2⟩, ⟨h3, h4⟩, hp, hI1, hI2⟩
    simp only at hk h1 h2 h3 h4 hp hI1 hI2
    have hlen := hp.len
    refine law_br (fun h5 => ?_) fun h5 => ?_
    · have h5 : ¬ i = j := by simpa using h5
      refine law_br (fun h6 => ?_) fun h6 => ?_
      · rw [ilt_true] at h6
        simp only at h6 ⊢
        rw [wrap64 (n := m - i) (by omega), wrap64 (n := i - j) (by omega)]
        refine law_bind' (swapRange_srt d1 (m - i) m j (by omega) (by omega) (by omega) (by omega) (by omega)) fun y hy => law_given fun _ => ?_
        obtain ⟨_, d2⟩ := y
        obtain ⟨hy1, hy2⟩ := hy
        simp only at hy1 hy2 ⊢
        refine law_ok ⟨(i - j + j).toNat, by omega, rfl, ⟨by simp only; omega, by simp only; omega⟩, ⟨by simp only; omega, by simp only; omega⟩, hp.trans (hy1.mono ha (by omega) (by omega)), fun p g1 g2 => ?_, fun p g1 g2 g3 => ?_⟩
        · simp only at g1 g2 ⊢
          rw [← hI1 p (by omega) g2]
          unfold rotF
          rw [if_neg (show ¬ p < m - i + (m + j - m) by omega)]
          by_cases g3 : p < m - (i - j) + (m + j - m)
          · rw [if_pos g3, hy2 _ (by omega), if_neg (by omega), if_pos (by omega)]
            congr 1; omega
          · rw [if_neg g3, hy2 _ (by omega), if_neg (by omega), if_neg (by omega)]
            congr 1; omega
        · simp only at g3 ⊢
          by_cases g4 : m - i ≤ p ∧ p < m + j
          · rw [← hI1 p g4.1 g4.2, hy2 p (by omega), if_pos (by omega)]
            unfold rotF
            rw [if_pos (by omega)]
            congr 1; omega
          · rw [hy2 p (by omega), if_neg (by omega), if_neg (by omega)]
            exact hI2 p g1 g2 (by omega)
      · rw [ilt_false] at h6
        simp only at h6 ⊢
        rw [wrap64 (n := m - i) (by omega), wrap64 (n := m + j) (by omega), wrap64 (n := m + j - i) (by omega), wrap64 (n := j - i) (by omega)]
        refine law_bind' (swapRange_srt d1 (m - i) (m + j - i) i (by omega) (by omega) (by omega) (by omega) (by omega)) fun y hy => law_given fun _ => ?_
        obtain ⟨_, d2⟩ := y
        obtain ⟨hy1, hy2⟩ := hy
        simp only at hy1 hy2 ⊢
        refine law_ok ⟨(i + (j - i)).toNat, by omega, rfl, ⟨by simp only; omega, by simp only; omega⟩, ⟨by simp only; omega, by simp only; omega⟩, hp.trans (hy1.mono ha (by omega) (by omega)), fun p g1 g2 => ?_, fun p g1 g2 g3 => ?_⟩
        · simp only at g1 g2 ⊢
          rw [← hI1 p g1 (by omega)]
          unfold rotF
          rw [if_pos (show p < m - i + (m + j - m) by omega)]
          by_cases g3 : p < m - i + (m + (j - i) - m)
          · rw [if_pos g3, hy2 _ (by omega), if_neg (by omega), if_neg (by omega)]
          · rw [if_neg g3, hy2 _ (by omega), if_pos (by omega)]
            congr 1; omega
        · simp only at g3 ⊢
          by_cases g4 : m - i ≤ p ∧ p < m + j
          · rw [← hI1 p g4.1 g4.2, hy2 p (by omega), if_neg (by omega), if_pos (by omega)]
            unfold rotF
            rw [if_neg (by omega)]
            congr 1; omega
          · rw [hy2 p (by omega), if_neg (by omega), if_neg (by omega)]
            exact hI2 p g1 g2 (by omega)
    · have h5 : i = j := by simpa using h5
      subst h5
      exact law_ok ⟨⟨h1, h2, h4⟩, hp, hI1, hI2⟩
  · rintro ⟨i, d1⟩ ⟨⟨h1, h2, h3⟩, hp, hI1, hI2⟩
    simp only at h1 h2 h3 hp hI1 hI2 ⊢
    have hlen := hp.len
    rw [wrap64 (n := m - i) (by omega)]
    refine law_bind' (swapRange_srt d1 (m - i) m i (by omega) (by omega) (by omega) (by omega) (by omega)) fun y hy => law_given fun _ => ?_
    obtain ⟨_, d2⟩ := y
    obtain ⟨hy1, hy2⟩ := hy
    simp only at hy1 hy2 ⊢
    refine law_ok ⟨hp.trans (hy1.mono ha (by omega) (by omega)), fun p g1 g2 => ?_⟩
    simp only
    by_cases g4 : m - i ≤ p ∧ p < m + i
    · rw [← hI1 p g4.1 g4.2, hy2 p (by omega)]
      unfold rotF
      by_cases g5 : p < m
      · rw [if_pos (by omega), if_pos (by omega)]
        congr 1; omega
      · rw [if_neg (by omega), if_pos (by omega), if_neg (by omega)]
        congr 1; omega
    · rw [hy2 p (by omega), if_neg (by omega), if_neg (by omega)]
      exact hI2 p g1 g2 (by omega)

/-- A binary search that parts a row. -/
theorem search_srt (L G : Int → Prop) (lo hi : Int) (hlo : 0 ≤ lo) (hhi : hi < 2 ^ 60) (hle : lo ≤ hi) (hL : ∀ c p, lo ≤ p → p ≤ c → c < hi → L c → L p) (hG : ∀ c p, lo ≤ c → c ≤ p → p < hi → G c → G p) (f : Int × Int → Res (Res.Step (Int × Int) Int))
    (hf : ∀ i j, lo ≤ i → i ≤ j → j ≤ hi → (f (i, j)).sat fun
      | .next x => i < j ∧ ((x = ((i + j) / 2 + 1, j) ∧ L ((i + j) / 2)) ∨ (x = (i, (i + j) / 2) ∧ G ((i + j) / 2)))
      | .done r => r = i ∧ j ≤ i) : (Res.loop f fuel (lo, hi)).sat fun r => (lo ≤ r ∧ r ≤ hi) ∧ (∀ p, lo ≤ p → p < r → L p) ∧ ∀ p, r ≤ p → p < hi → G p := by
  refine law_loop (fun k (x : Int × Int) => k = (x.2 - x.1).toNat ∧ lo ≤ x.1 ∧ x.1 ≤ x.2 ∧ x.2 ≤ hi ∧ (∀ p, lo ≤ p → p < x.1 → L p) ∧ ∀ p, x.2 ≤ p → p < hi → G p) ?_ _ (hi - lo).toNat _ (by have : fuel = 2 ^ 70 := rfl; omega) ⟨rfl, Int.le_refl _, hle, Int.le_refl _, fun p h1 h2 => by simp only at h2; omega, fun p h1 h2 => by simp only at h1; omega⟩
  rintro k ⟨i, j⟩ ⟨hk, h1, h2, h3, h4, h5⟩
  simp only at hk h1 h2 h3 h4 h5
  refine law_mono (hf i j h1 h2 h3) fun s hs => ?_
  cases s with
  | next x =>
    obtain ⟨h6, ⟨rfl, h7⟩ | ⟨rfl, h7⟩⟩ := hs
    · exact ⟨_, by omega, rfl, by simp only; omega, by simp only; omega, by simp only; omega, fun p g1 g2 => hL _ p g1 (by simp only at g2; omega) (by omega) h7, h5⟩
    · exact ⟨_, by omega, rfl, by simp only; omega, by simp only; omega, by simp only; omega, h4, fun p g1 g2 => hG _ p (by omega) g1 g2 h7⟩
  | done r =>
    obtain ⟨rfl, h6⟩ := hs
    exact ⟨⟨h1, by omega⟩, h4, fun p g1 g2 => h5 p (by omega) g2⟩
end Go.Mach

set_option maxRecDepth 100000
namespace Go.Mach
open Res

theorem symMerge_srt : ∀ (fu : Nat) (d : Keys) (a m b : Int), (b - a).toNat < fu → 0 ≤ a → a < m → m < b → b ≤ d.length → d.length < 2 ^ 60 → Srt d a m → Srt d m b →
    (R.slices_symMergeCmpFunc_suint16__heap_Heap_Keys_1 fu d a m b ()).sat fun y => Seg a b d y.2 ∧ Srt y.2 a b
  | 0, _, _, _, _, h, _, _, _, _, _, _, _ => by omega
  | fu + 1, d, a, m, b, hfu, h0, ham, hmb, hb, hl, hsl, hsr => by
    unfold R.slices_symMergeCmpFunc_suint16__heap_Heap_Keys_1
    rw [wrap64 (n := m - a) (by omega), wrap64 (n := b - m) (by omega)]
    refine law_given fun _ => law_br (fun hone => ?_) fun hone => law_br (fun hone2 => ?_) fun hone2 => ?_
    · -- one element on the left
      have hone : m - a = 1 := by simpa using hone
      refine law_bind' (search_srt (fun p => ka d p < ka d a) (fun p => ka d a ≤ ka d p) m b (by omega) (by omega) (by omega)
        (fun c p h1 h2 h3 h4 => by
          by_cases he : p = c
          · rw [he]; exact h4
          · exact Int.lt_of_le_of_lt (hsr p c h1 (by omega) h3) h4)
        (fun c p h1 h2 h3 h4 => by
          by_cases he : p = c
          · rw [he]; exact h4
          · exact Int.le_trans h4 (hsr c p h1 (by omega) h3)) _ fun i j h1 h2 h3 => ?_) fun i5 hi5 => ?_
      · simp only
        refine law_br (fun h4 => ?_) fun h4 => law_ok ⟨rfl, by rw [ilt_false] at h4; exact h4⟩
        rw [ilt_true] at h4
        have hh : halfW (i + j) = (i + j) / 2 := half_ok (by omega)
        refine law_need rfl ?_
        rw [show IntKind.wrap .i64 (ishr .u64 (IntKind.wrap .u64 (IntKind.wrap .i64 (i + j))) 1) = (i + j) / 2 from hh]
        refine law_at d ((i + j) / 2) (by omega) (by omega) fun e2 he2 => ?_
        refine law_at d a (by omega) (by omega) fun e3 he3 => ?_
        refine law_bind_eq (cmp_ok e2 e3) (law_given fun _ => law_br (fun h5 => law_ok ⟨h4, .inl ⟨?_, ?_⟩⟩) fun h5 => law_ok ⟨h4, .inr ⟨rfl, ?_⟩⟩)
        · rw [wrap64 (by omega)]
        · rw [ilt_true] at h5
          rw [ka_at he2, ka_at he3]; omega
        · rw [ilt_false] at h5
          rw [ka_at he2, ka_at he3]; omega
      · obtain ⟨⟨hi1, hi2⟩, hL, hG⟩ := hi5
        rw [wrap64 (n := i5 - 1) (by omega)]
        refine law_bind' (R := fun d' => Seg a b d d' ∧ ∀ p, 0 ≤ p → ka d' p = if p = i5 - 1 then ka d a else if a ≤ p ∧ p < i5 - 1 then ka d (p + 1) else ka d p)
          (law_for (fun x : Int × Keys => x.1) (d.length + 1) (by omega) (fun x => (a ≤ x.1 ∧ x.1 ≤ i5 - 1) ∧ Seg a b d x.2 ∧ ∀ p, 0 ≤ p → ka x.2 p = if p = x.1 then ka d a else if a ≤ p ∧ p < x.1 then ka d (p + 1) else ka d p) ⟨⟨by simp, by simp only; omega⟩, Seg.refl _ _ _, fun p hp => by
            simp only
            by_cases hpa : p = a
            · rw [if_pos hpa, hpa]
            · rw [if_neg hpa, if_neg (by omega)]⟩ (fun x h => by omega) ?_) fun d' h => law_ok ⟨h.1, ?_⟩
        · rintro ⟨k, d2⟩ ⟨⟨h1, h2⟩, hp, hk⟩
          simp only at h1 h2 hp hk
          have hlen := hp.len
          refine law_br (fun h3 => ?_) fun h3 => law_ok ⟨hp, ?_⟩
          · rw [ilt_true] at h3
            simp only at h3 ⊢
            rw [wrap64 (n := k + 1) (by omega)]
            refine swap_law (d := d2) (i := k) (j := k + 1) (k := fun d' => (Res.ok (Res.Step.next (k + 1, d')) : Res (Res.Step (Int × Keys) Keys))) ⟨by omega, by omega⟩ ⟨by omega, by omega⟩ fun x y hx hy => ?_
            refine law_ok ⟨rfl, ⟨by simp only; omega, by simp only; omega⟩, hp.trans (Seg.swap h0 ⟨by omega, by omega⟩ ⟨by omega, by omega⟩ hx hy), fun p hp0 => ?_⟩
            simp only
            rw [ka_swap (by omega) (by omega) hx hy p hp0]
            by_cases g1 : p = k + 1
            · rw [if_pos g1, if_pos g1, hk k (by omega), if_pos rfl]
            · rw [if_neg g1, if_neg g1]
              by_cases g2 : p = k
              · rw [if_pos g2, hk (k + 1) (by omega), if_neg (by omega), if_neg (by omega), if_pos (by omega), g2]
              · rw [if_neg g2, hk p hp0, if_neg g2]
                by_cases g3 : a ≤ p ∧ p < k
                · rw [if_pos g3, if_pos (by omega)]
                · rw [if_neg g3, if_neg (by omega)]
          · rw [ilt_false] at h3
            simp only at h3
            have : k = i5 - 1 := by omega
            subst this
            exact hk
        · intro p q g1 g2 g3
          rw [h.2 p (by omega), h.2 q (by omega)]
          by_cases hp : p = i5 - 1
          · rw [if_pos hp, if_neg (by omega), if_neg (by omega)]
            exact hG q (by omega) g3
          · rw [if_neg hp]
            by_cases hp2 : p < i5 - 1
            · rw [if_pos ⟨g1, hp2⟩]
              by_cases hq : q = i5 - 1
              · rw [if_pos hq]
                exact Int.le_of_lt (hL (p + 1) (by omega) (by omega))
              · rw [if_neg hq]
                by_cases hq2 : q < i5 - 1
                · rw [if_pos ⟨by omega, hq2⟩]
                  exact hsr (p + 1) (q + 1) (by omega) (by omega) (by omega)
                · rw [if_neg (by omega)]
                  exact hsr (p + 1) q (by omega) (by omega) g3
            · rw [if_neg (by omega), if_neg (by omega), if_neg (by omega)]
              exact hsr p q (by omega) g2 g3
    · -- one element on the right
      have hone2 : b - m = 1 := by simpa using hone2
      refine law_bind' (search_srt (fun p => ka d p ≤ ka d m) (fun p => ka d m < ka d p) a m (by omega) (by omega) (by omega)
        (fun c p h1 h2 h3 h4 => by
          by_cases he : p = c
          · rw [he]; exact h4
          · exact Int.le_trans (hsl p c h1 (by omega) h3) h4)
        (fun c p h1 h2 h3 h4 => by
          by_cases he : p = c
          · rw [he]; exact h4
          · exact Int.lt_of_lt_of_le h4 (hsl c p h1 (by omega) h3)) _ fun i j h1 h2 h3 => ?_) fun i5 hi5 => ?_
      · simp only
        refine law_br (fun h4 => ?_) fun h4 => law_ok ⟨rfl, by rw [ilt_false] at h4; exact h4⟩
        rw [ilt_true] at h4
        have hh : halfW (i + j) = (i + j) / 2 := half_ok (by omega)
        refine law_need rfl ?_
        rw [show IntKind.wrap .i64 (ishr .u64 (IntKind.wrap .u64 (IntKind.wrap .i64 (i + j))) 1) = (i + j) / 2 from hh]
        refine law_at d m (by omega) (by omega) fun e2 he2 => ?_
        refine law_at d ((i + j) / 2) (by omega) (by omega) fun e3 he3 => ?_
        refine law_bind_eq (cmp_ok e2 e3) (law_given fun _ => law_br (fun h5 => law_ok ⟨h4, .inl ⟨?_, ?_⟩⟩) fun h5 => law_ok ⟨h4, .inr ⟨rfl, ?_⟩⟩)
        · rw [wrap64 (by omega)]
        · have h5 := notT h5
          rw [ilt_false] at h5
          rw [ka_at he2, ka_at he3]; omega
        · have h5 := notF h5
          rw [ilt_true] at h5
          rw [ka_at he2, ka_at he3]; omega
      · obtain ⟨⟨hi1, hi2⟩, hL, hG⟩ := hi5
        refine law_bind' (R := fun d' => Seg a b d d' ∧ ∀ p, 0 ≤ p → ka d' p = if p = i5 then ka d m else if i5 < p ∧ p ≤ m then ka d (p - 1) else ka d p)
          (law_loop (fun k (x : Int × Keys) => k = x.1.toNat ∧ (i5 ≤ x.1 ∧ x.1 ≤ m) ∧ Seg a b d x.2 ∧ ∀ p, 0 ≤ p → ka x.2 p = if p = x.1 then ka d m else if x.1 < p ∧ p ≤ m then ka d (p - 1) else ka d p) ?_ _ m.toNat _ (by have : fuel = 2 ^ 70 := rfl; omega) ⟨rfl, ⟨by simp only; omega, Int.le_refl _⟩, Seg.refl _ _ _, fun p hp => by
            simp only
            by_cases hpa : p = m
            · rw [if_pos hpa, hpa]
            · rw [if_neg hpa, if_neg (by omega)]⟩) fun d' h => law_ok ⟨h.1, ?_⟩
        · rintro qq ⟨k, d2⟩ ⟨hq, ⟨h1, h2⟩, hp, hk⟩
          simp only at hq h1 h2 hp hk
          have hlen := hp.len
          refine law_br (fun h3 => ?_) fun h3 => law_ok ⟨hp, ?_⟩
          · rw [ilt_true] at h3
            simp only at h3 ⊢
            rw [wrap64 (n := k - 1) (by omega)]
            refine swap_law (d := d2) (i := k) (j := k - 1) (k := fun d' => (Res.ok (Res.Step.next (k - 1, d')) : Res (Res.Step (Int × Keys) Keys))) ⟨by omega, by omega⟩ ⟨by omega, by omega⟩ fun x y hx hy => ?_
            refine law_ok ⟨_, by omega, rfl, ⟨by simp only; omega, by simp only; omega⟩, hp.trans (Seg.swap h0 ⟨by omega, by omega⟩ ⟨by omega, by omega⟩ hx hy), fun p hp0 => ?_⟩
            simp only
            rw [ka_swap (by omega) (by omega) hx hy p hp0]
            by_cases g1 : p = k - 1
            · rw [if_pos g1, if_pos g1, hk k (by omega), if_pos rfl]
            · rw [if_neg g1, if_neg g1]
              by_cases g2 : p = k
              · rw [if_pos g2, hk (k - 1) (by omega), if_neg (by omega), if_neg (by omega), if_pos (by omega), g2]
              · rw [if_neg g2, hk p hp0, if_neg g2]
                by_cases g3 : k < p ∧ p ≤ m
                · rw [if_pos g3, if_pos (by omega)]
                · rw [if_neg g3, if_neg (by omega)]
          · rw [ilt_false] at h3
            simp only at h3
            have : k = i5 := by omega
            subst this
            exact hk
        · intro p q g1 g2 g3
          rw [h.2 p (by omega), h.2 q (by omega)]
          by_cases hp : p = i5
          · rw [if_pos hp, if_neg (by omega), if_pos (by omega)]
            exact Int.le_of_lt (hG (q - 1) (by omega) (by omega))
          · rw [if_neg hp]
            by_cases hp2 : i5 < p
            · rw [if_pos ⟨hp2, by omega⟩, if_neg (by omega), if_pos (by omega)]
              exact hsl (p - 1) (q - 1) (by omega) (by omega) (by omega)
            · rw [if_neg (by omega)]
              by_cases hq : q = i5
              · rw [if_pos hq]
                exact hL p g1 (by omega)
              · rw [if_neg hq]
                by_cases hq2 : i5 < q
                · rw [if_pos ⟨hq2, by omega⟩]
                  by_cases hpq : p = q - 1
                  · omega
                  · exact hsl p (q - 1) g1 (by omega) (by omega)
                · rw [if_neg (by omega)]
                  exact hsl p q g1 g2 (by omega)
    · -- halves
      have hone : ¬ m - a = 1 := by simpa using hone
      have hone2 : ¬ b - m = 1 := by simpa using hone2
      have hmid : IntKind.wrap .i64 (ishr .u64 (IntKind.wrap .u64 (IntKind.wrap .i64 (a + b))) 1) = (a + b) / 2 := half_ok (by omega)
      rw [hmid]
      generalize hM : (a + b) / 2 = mid
      have hM1 : a + b - 1 ≤ 2 * mid ∧ 2 * mid ≤ a + b := by omega
      rw [wrap64 (n := mid + m) (by omega), wrap64 (n := mid + m - b) (by omega), wrap64 (n := mid + m - 1) (by omega)]
      refine law_need rfl (law_bind' (R := fun (x : Int × Int) => (x.1 = mid + m - b ∧ x.2 = mid ∧ mid < m) ∨ (x.1 = a ∧ x.2 = m ∧ m ≤ mid)) ?_ ?_)
      · refine law_br (fun h1 => law_ok ?_) fun h1 => law_ok ?_
        · rw [ilt_true] at h1; exact .inl ⟨rfl, rfl, h1⟩
        · rw [ilt_false] at h1; exact .inr ⟨rfl, rfl, h1⟩
      rintro ⟨st, rr⟩ hst
      simp only at hst
      have hb1 : a ≤ st ∧ st ≤ rr ∧ rr ≤ m ∧ mid + m - st ≤ b ∧ rr ≤ mid := by omega
      obtain ⟨s1, s2, s3, s4, s5⟩ := hb1
      refine law_bind' (search_srt (fun p => ka d p ≤ ka d (mid + m - 1 - p)) (fun p => ka d (mid + m - 1 - p) < ka d p) st rr (by omega) (by omega) (by omega)
        (fun c p h1 h2 h3 h4 => by
          by_cases he : p = c
          · rw [he]; exact h4
          · exact Int.le_trans (hsl p c (by omega) (by omega) (by omega)) (Int.le_trans h4 (hsr _ _ (by omega) (by omega) (by omega))))
        (fun c p h1 h2 h3 h4 => by
          by_cases he : p = c
          · rw [he]; exact h4
          · exact Int.lt_of_le_of_lt (hsr _ _ (by omega) (by omega) (by omega)) (Int.lt_of_lt_of_le h4 (hsl c p (by omega) (by omega) (by omega)))) _ fun i j h1 h2 h3 => ?_) fun s hs => ?_
      · simp only
        refine law_br (fun h4 => ?_) fun h4 => law_ok ⟨rfl, by rw [ilt_false] at h4; exact h4⟩
        rw [ilt_true] at h4
        have hh : halfW (i + j) = (i + j) / 2 := half_ok (by omega)
        refine law_need rfl ?_
        rw [show IntKind.wrap .i64 (ishr .u64 (IntKind.wrap .u64 (IntKind.wrap .i64 (i + j))) 1) = (i + j) / 2 from hh]
        rw [wrap64 (n := mid + m - 1 - (i + j) / 2) (by omega)]
        refine law_at d (mid + m - 1 - (i + j) / 2) (by omega) (by omega) fun e2 he2 => ?_
        refine law_at d ((i + j) / 2) (by omega) (by omega) fun e3 he3 => ?_
        refine law_bind_eq (cmp_ok e2 e3) (law_given fun _ => law_br (fun h5 => law_ok ⟨h4, .inl ⟨?_, ?_⟩⟩) fun h5 => law_ok ⟨h4, .inr ⟨rfl, ?_⟩⟩)
        · rw [wrap64 (by omega)]
        · have h5 := notT h5
          rw [ilt_false] at h5
          rw [ka_at he2, ka_at he3]; omega
        · have h5 := notF h5
          rw [ilt_true] at h5
          rw [ka_at he2, ka_at he3]; omega
      · obtain ⟨⟨hs1, hs2⟩, hL, hG⟩ := hs
        rw [wrap64 (n := mid + m - s) (by omega)]
        generalize hE : mid + m - s = e
        have he1 : m ≤ e ∧ e ≤ b ∧ s ≤ m ∧ s ≤ mid ∧ mid ≤ e ∧ a ≤ s := by omega
        obtain ⟨e1, e2, e3, e4, e5, e6⟩ := he1
        -- the halves are told apart
        have hX1 : ∀ p q, a ≤ p → p < s → e ≤ q → q < b → ka d p ≤ ka d q := fun p q g1 g2 g3 g4 => by
          have h1 : ka d (s - 1) ≤ ka d e := by
            have := hL (s - 1) (by omega) (by omega)
            rwa [show mid + m - 1 - (s - 1) = e by omega] at this
          have h2 : ka d p ≤ ka d (s - 1) := by
            by_cases hp : p = s - 1
            · rw [hp]; exact Int.le_refl _
            · exact hsl p (s - 1) g1 (by omega) (by omega)
          have h3 : ka d e ≤ ka d q := by
            by_cases hq : q = e
            · rw [hq]; exact Int.le_refl _
            · exact hsr e q (by omega) (by omega) g4
          omega
        have hX2 : ∀ p q, m ≤ p → p < e → s ≤ q → q < m → ka d p ≤ ka d q := fun p q g1 g2 g3 g4 => by
          have h1 : ka d (e - 1) ≤ ka d s := by
            have := hG s (by omega) (by omega)
            rw [show mid + m - 1 - s = e - 1 by omega] at this
            omega
          have h2 : ka d p ≤ ka d (e - 1) := by
            by_cases hp : p = e - 1
            · rw [hp]; exact Int.le_refl _
            · exact hsr p (e - 1) g1 (by omega) (by omega)
          have h3 : ka d s ≤ ka d q := by
            by_cases hq : q = s
            · rw [hq]; exact Int.le_refl _
            · exact hsl s q (by omega) (by omega) g4
          omega
        refine law_bind' (R := fun d' => Seg a b d d' ∧ (∀ p, s ≤ p → p < e → ka d' p = rotF d s m e p) ∧ ∀ p, 0 ≤ p → (p < s ∨ e ≤ p) → ka d' p = ka d p) ?_ fun d1 hd1 => ?_
        · refine law_bind' (R := fun c => (c = true → s < m ∧ m < e) ∧ (c = false → s = m ∨ e = m)) ?_ fun c hc => law_br (fun h => ?_) fun h => law_ok ⟨Seg.refl _ _ _, fun p g1 g2 => ?_, fun _ _ _ => rfl⟩
          · refine law_br (fun h1 => ?_) fun h1 => law_ok ⟨(fun h => by cases h), fun _ => .inl (by rw [ilt_false] at h1; omega)⟩
            rw [ilt_true] at h1
            refine law_ok ⟨fun h2 => ?_, fun h2 => ?_⟩
            · rw [ilt_true] at h2; exact ⟨h1, h2⟩
            · rw [ilt_false] at h2; exact .inr (by omega)
          · obtain ⟨h1, h2⟩ := hc.1 h
            refine law_bind' (rotate_srt d s m e (by omega) h1 h2 (by omega) hl) fun y hy => law_given fun _ => law_ok ⟨hy.1.mono h0 (by omega) (by omega), hy.2, hy.1.out⟩
          · unfold rotF
            rcases hc.2 h with h1 | h1
            · rw [if_pos (by omega)]
              congr 1; omega
            · rw [if_neg (by omega)]
              congr 1; omega
        obtain ⟨hg1, hr1, ho1⟩ := hd1
        have hlen1 := hg1.len
        -- what stands where
        have v1 : ∀ p, a ≤ p → p < s → ka d1 p = ka d p := fun p g1 g2 => ho1 p (by omega) (.inl g2)
        have v2 : ∀ p, s ≤ p → p < mid → ka d1 p = ka d (m + (p - s)) := fun p g1 g2 => by
          rw [hr1 p g1 (by omega)]
          unfold rotF
          rw [if_pos (by omega)]
        have v3 : ∀ p, mid ≤ p → p < e → ka d1 p = ka d (s + (p - mid)) := fun p g1 g2 => by
          rw [hr1 p (by omega) g2]
          unfold rotF
          rw [if_neg (by omega)]
          congr 1; omega
        have v4 : ∀ p, e ≤ p → p < b → ka d1 p = ka d p := fun p g1 g2 => ho1 p (by omega) (.inr g1)
        have hcross : ∀ p q, a ≤ p → p < mid → mid ≤ q → q < b → ka d1 p ≤ ka d1 q := fun p q g1 g2 g3 g4 => by
          by_cases hp : p < s
          · rw [v1 p g1 hp]
            by_cases hq : q < e
            · rw [v3 q g3 hq]
              exact hsl p _ g1 (by omega) (by omega)
            · rw [v4 q (by omega) g4]
              exact hX1 p q g1 hp (by omega) g4
          · rw [v2 p (by omega) g2]
            by_cases hq : q < e
            · rw [v3 q g3 hq]
              exact hX2 _ _ (by omega) (by omega) (by omega) (by omega)
            · rw [v4 q (by omega) g4]
              exact hsr _ q (by omega) (by omega) g4
        have w1 : Srt d1 a s := fun p q g1 g2 g3 => by rw [v1 p g1 (by omega), v1 q (by omega) g3]; exact hsl p q g1 g2 (by omega)
        have w2 : Srt d1 s mid := fun p q g1 g2 g3 => by rw [v2 p g1 (by omega), v2 q (by omega) g3]; exact hsr _ _ (by omega) (by omega) (by omega)
        have w3 : Srt d1 mid e := fun p q g1 g2 g3 => by rw [v3 p g1 (by omega), v3 q (by omega) g3]; exact hsl _ _ (by omega) (by omega) (by omega)
        have w4 : Srt d1 e b := fun p q g1 g2 g3 => by rw [v4 p g1 (by omega), v4 q (by omega) g3]; exact hsr p q (by omega) g2 g3
        refine law_bind' (R := fun d' => Seg a mid d1 d' ∧ Srt d' a mid) ?_ fun d2 hd2 => ?_
        · refine law_bind' (R := fun c => (c = true → a < s ∧ s < mid) ∧ (c = false → a = s ∨ s = mid)) ?_ fun c hc => law_br (fun h => ?_) fun h => law_ok ⟨Seg.refl _ _ _, ?_⟩
          · refine law_br (fun h1 => ?_) fun h1 => law_ok ⟨(fun h => by cases h), fun _ => .inl (by rw [ilt_false] at h1; omega)⟩
            rw [ilt_true] at h1
            refine law_ok ⟨fun h2 => ?_, fun h2 => ?_⟩
            · rw [ilt_true] at h2; exact ⟨h1, h2⟩
            · rw [ilt_false] at h2; exact .inr (by omega)
          · obtain ⟨h1, h2⟩ := hc.1 h
            exact law_bind' (symMerge_srt fu d1 a s mid (by omega) h0 h1 h2 (by omega) (by omega) w1 w2) fun y hy => law_given fun _ => law_ok hy
          · rcases hc.2 h with h1 | h1
            · rw [h1]; exact w2
            · rw [← h1]; exact w1
        obtain ⟨hg2, hs2'⟩ := hd2
        have hlen2 := hg2.len
        have u3 : Srt d2 mid e := fun p q g1 g2 g3 => by rw [hg2.out p (by omega) (by omega), hg2.out q (by omega) (by omega)]; exact w3 p q g1 g2 g3
        have u4 : Srt d2 e b := fun p q g1 g2 g3 => by rw [hg2.out p (by omega) (by omega), hg2.out q (by omega) (by omega)]; exact w4 p q g1 g2 g3
        have hcross2 : ∀ p, a ≤ p → p < mid → ∀ q, mid ≤ q → q < b → ka d2 p ≤ ka d2 q := fun p g1 g2 q g3 g4 => by
          rw [hg2.out q (by omega) (by omega)]
          exact hg2.ins (fun v => ∀ q, mid ≤ q → q < b → v ≤ ka d1 q) (fun p h1 h2 q h3 h4 => hcross p q h1 h2 h3 h4) p g1 g2 q g3 g4
        have fin : ∀ d3, Seg mid b d2 d3 → Srt d3 mid b → Seg a b d d3 ∧ Srt d3 a b := fun d3 hg3 hs3 => by
          refine ⟨(hg1.trans (hg2.mono h0 (by omega) (by omega))).trans (hg3.mono h0 (by omega) (by omega)), fun p q g1 g2 g3 => ?_⟩
          by_cases hp : p < mid
          · rw [hg3.out p (by omega) (.inl hp)]
            by_cases hq : q < mid
            · rw [hg3.out q (by omega) (.inl hq)]
              exact hs2' p q g1 g2 hq
            · exact hg3.ins (fun v => ka d2 p ≤ v) (fun q h1 h2 => hcross2 p g1 hp q h1 h2) q (by omega) g3
          · exact hs3 p q (by omega) g2 g3
        refine law_bind' (R := fun c => (c = true → mid < e ∧ e < b) ∧ (c = false → mid = e ∨ e = b)) ?_ fun c hc => law_br (fun h => ?_) fun h => law_ok (fin d2 (Seg.refl _ _ _) ?_)
        · refine law_br (fun h1 => ?_) fun h1 => law_ok ⟨(fun h => by cases h), fun _ => .inl (by rw [ilt_false] at h1; omega)⟩
          rw [ilt_true] at h1
          refine law_ok ⟨fun h2 => ?_, fun h2 => ?_⟩
          · rw [ilt_true] at h2; exact ⟨h1, h2⟩
          · rw [ilt_false] at h2; exact .inr (by omega)
        · obtain ⟨h1, h2⟩ := hc.1 h
          exact law_bind' (symMerge_srt fu d2 mid e b (by omega) (by omega) h1 h2 (by omega) (by omega) u3 u4) fun y hy => law_given fun _ => law_ok (fin y.2 hy.1 hy.2)
        · rcases hc.2 h with h1 | h1
          · rw [h1]; exact u4
          · rw [← h1]; exact u3
end Go.Mach

set_option maxRecDepth 100000
namespace Go.Mach
open Res

/-- In order in blocks of bs, up to n. -/
def Blk (d : Keys) (bs : Int) (n : Int) : Prop := ∀ k : Int, 0 ≤ k → Srt d (k * bs) (min ((k + 1) * bs) n)

theorem stable_srt (d : Keys) (hl : d.length < 2 ^ 50) : (R.slices_stableCmpFunc_suint16__heap_Heap_Keys_1 d (d.length : Int) ()).sat fun y => y.2.Perm d ∧ Srt y.2 0 d.length := by
  unfold R.slices_stableCmpFunc_suint16__heap_Heap_Keys_1
  refine law_given fun _ => law_bind' (R := fun (x : Int × Keys) => ∃ q : Int, x.1 = q * 20 ∧ 0 ≤ q ∧ (x.1 ≤ d.length ∧ d.length < x.1 + 20) ∧ Seg 0 d.length d x.2 ∧ ∀ k : Int, 0 ≤ k → k < q → Srt x.2 (k * 20) ((k + 1) * 20))
    (law_loop (fun k (x : Int × Int × Keys) => k = (d.length + 20 - x.1).toNat ∧ ∃ q : Int, x.1 = q * 20 ∧ 0 ≤ q ∧ x.1 ≤ d.length ∧ x.2.1 = x.1 + 20 ∧ Seg 0 d.length d x.2.2 ∧ ∀ k : Int, 0 ≤ k → k < q → Srt x.2.2 (k * 20) ((k + 1) * 20)) ?_ _ (d.length + 20) _ (by have : fuel = 2 ^ 70 := rfl; omega) ⟨by simp only; omega, 0, by simp, Int.le_refl _, by simp only; omega, rfl, Seg.refl _ _ _, fun k h1 h2 => by omega⟩) ?_
  · rintro k ⟨a, b, d1⟩ ⟨hk, q, h1, h2, h3, h4, hp, hs⟩
    simp only at hk h1 h3 h4 hp hs
    have hlen := hp.len
    refine law_br (fun h5 => ?_) fun h5 => law_ok ⟨q, h1, h2, ⟨h3, ?_⟩, hp, hs⟩
    · rw [ile_true] at h5
      simp only at h5 ⊢
      refine law_bind' (insertion_srt d1 a b (by omega) (by omega) (by omega) (by omega)) fun y hy => law_given fun _ => law_ok ⟨(d.length + 20 - b).toNat, by omega, rfl, q + 1, by simp only; omega, by omega, h5, wrap64 (by omega), hp.trans (hy.1.mono (by omega) (by omega) (by omega)), fun k g1 g2 p r g3 g4 g5 => ?_⟩
      by_cases hkq : k = q
      · subst hkq
        exact hy.2 p r (by omega) g4 (by omega)
      · rw [hy.1.out p (by omega) (by omega), hy.1.out r (by omega) (by omega)]
        exact hs k g1 (by omega) p r g3 g4 g5
    · rw [ile_false] at h5
      simp only at h5 ⊢
      omega
  rintro ⟨a, d1⟩ ⟨q, h1, h2, ⟨h3, h4⟩, hp, hs⟩
  simp only at h1 h3 h4 hp hs
  have hlen := hp.len
  refine law_bind' (insertion_srt d1 a d.length (by omega) (by omega) (by omega) (by omega)) fun y hy => law_given fun _ => ?_
  obtain ⟨_, d2⟩ := y
  obtain ⟨hy1, hy2⟩ := hy
  simp only at hy1 hy2 ⊢
  have hp2 : Seg 0 d.length d d2 := hp.trans (hy1.mono (by omega) (by omega) (by omega))
  have hb2 : Blk d2 20 d.length := fun k g1 p r g3 g4 g5 => by
    by_cases hkq : q ≤ k
    · exact hy2 p r (by omega) g4 (by omega)
    · rw [hy1.out p (by omega) (by omega), hy1.out r (by omega) (by omega)]
      exact hs k g1 (by omega) p r g3 g4 (by omega)
  refine law_bind' (R := fun d' => d'.Perm d ∧ Srt d' 0 d.length) (law_loop (fun k (x : Int × Keys) => k = (d.length - x.1).toNat ∧ (20 ≤ x.1 ∧ x.1 ≤ 2 ^ 52) ∧ Seg 0 d.length d x.2 ∧ Blk x.2 x.1 d.length) ?_ _ ((d.length : Int) - 20).toNat _ (by have : fuel = 2 ^ 70 := rfl; omega) ⟨rfl, ⟨by simp only; omega, by simp only; omega⟩, hp2, hb2⟩) fun d' h => law_ok h
  rintro k ⟨bs, d3⟩ ⟨hk, ⟨h5, h6⟩, hp3, hb3⟩
  simp only at hk h5 h6 hp3 hb3
  have hlen3 := hp3.len
  refine law_br (fun h7 => ?_) fun h7 => law_ok ⟨hp3.perm, fun p r g1 g2 g3 => ?_⟩
  case refine_2 =>
    rw [ilt_false] at h7
    simp only at h7
    have := hb3 0 (Int.le_refl _)
    rw [Int.zero_mul, Int.zero_add, Int.one_mul] at this
    exact this p r g1 g2 (by omega)
  rw [ilt_true] at h7
  simp only at h7 ⊢
  rw [wrap64 (n := 2 * bs) (by omega), wrap64 (n := bs * 2) (by omega)]
  -- pairs of blocks are merged
  refine law_bind' (R := fun (x : Int × Keys) => ∃ q : Int, x.1 = q * (2 * bs) ∧ 0 ≤ q ∧ (x.1 ≤ d.length ∧ d.length < x.1 + 2 * bs) ∧ Seg 0 x.1 d3 x.2 ∧ ∀ k : Int, 0 ≤ k → k < q → Srt x.2 (k * (2 * bs)) ((k + 1) * (2 * bs)))
    (law_loop (fun k (x : Int × Int × Keys) => k = (d.length + 2 * bs - x.1).toNat ∧ ∃ q : Int, x.1 = q * (2 * bs) ∧ 0 ≤ q ∧ (0 ≤ x.1 ∧ x.1 ≤ d.length) ∧ x.2.1 = x.1 + 2 * bs ∧ Seg 0 x.1 d3 x.2.2 ∧ ∀ k : Int, 0 ≤ k → k < q → Srt x.2.2 (k * (2 * bs)) ((k + 1) * (2 * bs))) ?_ _ (d.length + 2 * bs).toNat _ (by have : fuel = 2 ^ 70 := rfl; omega) ⟨by simp only; omega, 0, by simp, Int.le_refl _, ⟨by simp only; omega, by simp only; omega⟩, by simp only; omega, Seg.refl _ _ _, fun k h1 h2 => by omega⟩) ?_
  · rintro k ⟨a, b, d4⟩ ⟨hk, q, g1, g2, ⟨g3, g3'⟩, g4, hp4, hs4⟩
    simp only at hk g1 g3 g3' g4 hp4 hs4
    have hlen4 := hp4.len
    refine law_br (fun g5 => ?_) fun g5 => law_ok ⟨q, g1, g2, ⟨g3', ?_⟩, hp4, hs4⟩
    · rw [ile_true] at g5
      simp only at g5 ⊢
      rw [wrap64 (n := a + bs) (by omega), wrap64 (n := b + 2 * bs) (by omega)]
      have hq1 : (2 * q) * bs = a := by rw [g1, Int.mul_comm 2 q, Int.mul_assoc]
      have hq2 : (2 * q + 1) * bs = a + bs := by rw [Int.add_mul, hq1, Int.one_mul]
      have hq3 : (2 * q + 1 + 1) * bs = a + 2 * bs := by rw [Int.add_mul, hq2, Int.one_mul]; omega
      have hsA : Srt d4 a (a + bs) := fun p r f1 f2 f3 => by
        rw [hp4.out p (by omega) (.inr f1), hp4.out r (by omega) (.inr (by omega))]
        have := hb3 (2 * q) (by omega)
        rw [hq1, hq2] at this
        exact this p r f1 f2 (by omega)
      have hsB : Srt d4 (a + bs) b := fun p r f1 f2 f3 => by
        rw [hp4.out p (by omega) (.inr (by omega)), hp4.out r (by omega) (.inr (by omega))]
        have := hb3 (2 * q + 1) (by omega)
        rw [hq2, hq3] at this
        exact this p r f1 f2 (by omega)
      refine law_bind' (symMerge_srt fuel d4 a (a + bs) b (by have : fuel = 2 ^ 70 := rfl; omega) g3 (by omega) (by omega) (by omega) (by omega) hsA hsB) fun y hy => law_given fun _ => law_ok ⟨(d.length + 2 * bs - b).toNat, by omega, rfl, q + 1, ?_, by omega, ⟨by simp only; omega, g5⟩, rfl, ?_, fun k f1 f2 p r f3 f4 f5 => ?_⟩
      · simp only
        rw [Int.add_mul, Int.one_mul, ← g1, g4]
      · exact (hp4.mono (Int.le_refl _) (Int.le_refl _) (by omega)).trans (hy.1.mono (Int.le_refl _) g3 (Int.le_refl _))
      · by_cases hkq : k = q
        · subst hkq
          rw [← g1] at f3
          have : (k + 1) * (2 * bs) = b := by rw [Int.add_mul, Int.one_mul, ← g1, g4]
          rw [this] at f5
          exact hy.2 p r f3 f4 f5
        · have hkk : (k + 1) * (2 * bs) ≤ q * (2 * bs) := Int.mul_le_mul_of_nonneg_right (by omega) (by omega)
          have hk0 : 0 ≤ k * (2 * bs) := Int.mul_nonneg f1 (by omega)
          rw [hy.1.out p (by omega) (.inl (by omega)), hy.1.out r (by omega) (.inl (by omega))]
          exact hs4 k f1 (by omega) p r f3 f4 f5
    · rw [ile_false] at g5
      simp only at g5 ⊢
      omega
  rintro ⟨a, d4⟩ ⟨q, g1, g2, ⟨g3, g3'⟩, hp4, hs4⟩
  simp only at g1 g3 g3' hp4 hs4 ⊢
  have hlen4 := hp4.len
  have ha0 : 0 ≤ a := by rw [g1]; exact Int.mul_nonneg g2 (by omega)
  rw [wrap64 (n := a + bs) (by omega)]
  have hq1 : (2 * q) * bs = a := by rw [g1, Int.mul_comm 2 q, Int.mul_assoc]
  have hq2 : (2 * q + 1) * bs = a + bs := by rw [Int.add_mul, hq1, Int.one_mul]
  have hq3 : (2 * q + 1 + 1) * bs = a + 2 * bs := by rw [Int.add_mul, hq2, Int.one_mul]; omega
  have hbA : Srt d4 a (min (a + bs) d.length) := fun p r f1 f2 f3 => by
    rw [hp4.out p (by omega) (.inr f1), hp4.out r (by omega) (.inr (by omega))]
    have := hb3 (2 * q) (by omega)
    rw [hq1, hq2] at this
    exact this p r f1 f2 f3
  have hbB : Srt d4 (a + bs) d.length := fun p r f1 f2 f3 => by
    rw [hp4.out p (by omega) (.inr (by omega)), hp4.out r (by omega) (.inr (by omega))]
    have := hb3 (2 * q + 1) (by omega)
    rw [hq2, hq3] at this
    exact this p r f1 f2 (by omega)
  have fin : ∀ d5, Seg a d.length d4 d5 → Srt d5 a d.length → Seg 0 d.length d d5 ∧ Blk d5 (bs * 2) d.length := fun d5 hp5 hs5 => by
    refine ⟨(hp3.trans (hp4.mono (Int.le_refl _) (Int.le_refl _) (by omega))).trans (hp5.mono (Int.le_refl _) ha0 (Int.le_refl _)), fun k f1 p r f3 f4 f5 => ?_⟩
    have hcm : bs * 2 = 2 * bs := Int.mul_comm _ _
    rw [hcm] at f3 f5
    by_cases hkq : q ≤ k
    · have hkk : q * (2 * bs) ≤ k * (2 * bs) := Int.mul_le_mul_of_nonneg_right hkq (by omega)
      exact hs5 p r (by omega) f4 (by omega)
    · have hkk : (k + 1) * (2 * bs) ≤ q * (2 * bs) := Int.mul_le_mul_of_nonneg_right (by omega) (by omega)
      have hk0 : 0 ≤ k * (2 * bs) := Int.mul_nonneg f1 (by omega)
      rw [hp5.out p (by omega) (.inl (by omega)), hp5.out r (by omega) (.inl (by omega))]
      exact hs4 k f1 (by omega) p r f3 f4 (by omega)
  refine law_br (fun g9 => ?_) fun g9 => ?_
  · rw [ilt_true] at g9
    refine law_bind' (symMerge_srt fuel d4 a (a + bs) d.length (by have : fuel = 2 ^ 70 := rfl; omega) ha0 (by omega) g9 (by omega) (by omega) (fun p r f1 f2 f3 => hbA p r f1 f2 (by omega)) hbB) fun y hy => law_given fun _ => ?_
    obtain ⟨z1, z2⟩ := fin y.2 hy.1 hy.2
    exact law_ok ⟨(d.length - bs * 2).toNat, by omega, rfl, ⟨by simp only; omega, by simp only; omega⟩, z1, z2⟩
  · rw [ilt_false] at g9
    obtain ⟨z1, z2⟩ := fin d4 (Seg.refl _ _ _) fun p r f1 f2 f3 => hbA p r f1 f2 (by omega)
    exact law_ok ⟨(d.length - bs * 2).toNat, by omega, rfl, ⟨by simp only; omega, by simp only; omega⟩, z1, z2⟩

theorem sortStable_srt (d : Keys) (hl : d.length < 2 ^ 50) : (R.slices_SortStableFunc_suint16__heap_Heap_Keys_1 d ()).sat fun y => y.2.Perm d ∧ Srt y.2 0 d.length := by
  unfold R.slices_SortStableFunc_suint16__heap_Heap_Keys_1
  exact law_given fun _ => law_bind' (stable_srt d hl) fun y hy => law_given fun _ => law_ok hy
end Go.Mach

set_option maxRecDepth 100000
namespace Go.Mach
open Res

/-! ### The document's heap: the same operations -/

theorem copyUnits_ok (u : List Int) : (R.renref_CopyUnits u).sat (· = u) := by
  unfold R.renref_CopyUnits
  refine law_given fun h => law_need ?_ (law_ok rfl)
  have h := of_decide_eq_true (show lenOkS (.frz (.int .u16)) u.length = true from h)
  have e : (Sh.frz (.int .u16)).minB = 2 := rfl
  rw [e] at h
  simp only [decide_eq_true_eq, List.length_nil]
  omega
theorem copyBytes_ok (u : List Int) : (R.renref_CopyBytes u).sat (· = u) := by
  unfold R.renref_CopyBytes
  refine law_given fun h => law_need ?_ (law_ok rfl)
  have h := of_decide_eq_true (show lenOkS (.frz (.int .u8)) u.length = true from h)
  have e : (Sh.frz (.int .u8)).minB = 1 := rfl
  rw [e] at h
  simp only [decide_eq_true_eq, List.length_nil]
  omega
theorem copyBig_ok (a : Bool × List Int) : (R.renref_CopyBig a).sat (· = a) := by
  unfold R.renref_CopyBig
  refine law_given fun h => law_need ?_ (law_ok rfl)
  have h : (true && lenOkS (.frz (.int .u32)) a.2.length) = true := h
  rw [Bool.true_and] at h
  have h := of_decide_eq_true h
  have e : (Sh.frz (.int .u32)).minB = 4 := rfl
  rw [e] at h
  simp only [decide_eq_true_eq, List.length_nil]
  omega
theorem refCopied_ok (v : ValT) : (R.renref9_Copied v).sat (· = v) := by
  unfold R.renref9_Copied
  exact law_given fun _ => law_bind_eq (copyUnits_ok _) (law_given fun _ => law_bind_eq (copyBig_ok _) (law_given fun _ => law_ok rfl))

theorem copyCell_ok (c : CellT) (hp : c.props.length ≤ 2 ^ 30) (hs : c.slots.length ≤ 2 ^ 30) : (R.renref9_CopyCell c).sat (· = c) := by
  unfold R.renref9_CopyCell
  have hp : c.2.2.1.length ≤ 2 ^ 30 := hp
  have hs : c.2.2.2.1.length ≤ 2 ^ 30 := hs
  refine law_given fun hok => ?_
  obtain ⟨kind, proto, props, slots, name, node, scope, ⟨tk, ⟨tn1, tn2⟩, ⟨tg, tm⟩, ts, tr⟩, el, buf, fr, ln, bytes⟩ := c
  simp only at hp hs ⊢
  refine law_bind_eq (a := (kind, proto, props, [], name, node, scope, tk, tn1, tn2, tg, tm, ts, tr, el, buf, fr, ln, bytes)) (law_for (fun x : Int × FlatT => x.1) props.length (by omega) (fun x => (0 ≤ x.1 ∧ x.1 ≤ props.length) ∧ x.2 = (kind, proto, props.take x.1.toNat, [], name, node, scope, tk, tn1, tn2, tg, tm, ts, tr, el, buf, fr, ln, bytes)) ⟨⟨by simp, by simp⟩, by simp⟩ (fun x h => h.1) ?_) ?_
  · rintro ⟨i, st⟩ ⟨⟨h1, h2⟩, h3⟩
    simp only at h1 h2 h3
    subst h3
    refine law_br (fun h4 => ?_) fun h4 => ?_
    · rw [ilt_true] at h4
      simp only at h4
      have hi : i.toNat < props.length := by omega
      refine law_idxS h1 hi fun e he _ => law_bind_eq (copyUnits_ok _) (law_given fun _ => law_idxS h1 hi fun e' he' _ => law_bind_eq (refCopied_ok _) (law_given fun _ => ?_))
      have he : props[i.toNat]? = some e := he
      have he' : props[i.toNat]? = some e' := he'
      rw [he] at he'
      cases he'
      have hei : props[i.toNat] = e := by rw [List.getElem?_eq_getElem hi] at he; cases he; rfl
      refine law_need ?_ (law_ok ⟨wrap64 (by omega), ?_⟩)
      · simp only [decide_eq_true_eq, List.length_take, List.length_singleton]
        omega
      · simp only
        rw [wrap64 (by omega)]
        refine ⟨⟨by omega, by omega⟩, ?_⟩
        rw [show (i + 1).toNat = i.toNat + 1 by omega, List.take_succ_eq_append_getElem hi, hei]
    · rw [ilt_false] at h4
      simp only at h4
      refine law_ok ?_
      simp only
      rw [List.take_of_length_le (by omega)]
  refine law_bind_eq (a := (kind, proto, props, slots, name, node, scope, tk, tn1, tn2, tg, tm, ts, tr, el, buf, fr, ln, bytes)) (law_for (fun x : Int × FlatT => x.1) slots.length (by omega) (fun x => (0 ≤ x.1 ∧ x.1 ≤ slots.length) ∧ x.2 = (kind, proto, props, slots.take x.1.toNat, name, node, scope, tk, tn1, tn2, tg, tm, ts, tr, el, buf, fr, ln, bytes)) ⟨⟨by simp, by simp⟩, by simp⟩ (fun x h => h.1) ?_) ?_
  · rintro ⟨i, st⟩ ⟨⟨h1, h2⟩, h3⟩
    simp only at h1 h2 h3
    subst h3
    refine law_br (fun h4 => ?_) fun h4 => ?_
    · rw [ilt_true] at h4
      simp only at h4
      have hi : i.toNat < slots.length := by omega
      refine law_idxS h1 hi fun e he _ => law_bind_eq (refCopied_ok _) (law_given fun _ => ?_)
      have he : slots[i.toNat]? = some e := he
      have hei : slots[i.toNat] = e := by rw [List.getElem?_eq_getElem hi] at he; cases he; rfl
      refine law_need ?_ (law_ok ⟨wrap64 (by omega), ?_⟩)
      · simp only [decide_eq_true_eq, List.length_take, List.length_singleton]
        omega
      · simp only
        rw [wrap64 (by omega)]
        refine ⟨⟨by omega, by omega⟩, ?_⟩
        rw [show (i + 1).toNat = i.toNat + 1 by omega, List.take_succ_eq_append_getElem hi, hei]
    · rw [ilt_false] at h4
      simp only at h4
      refine law_ok ?_
      simp only
      rw [List.take_of_length_le (by omega)]
  exact law_bind_eq (refCopied_ok (tk, (tn1, tn2), (tg, tm), ts, tr)) (law_given fun _ => law_bind_eq (copyBytes_ok bytes) (law_given fun _ => law_ok rfl))

theorem refNew_ok (n : Int) : (R.renref9_New n).sat (· = (min (max n 0) 4096, [])) := by
  unfold R.renref9_New
  simp only [law_given_iff, law_ok_iff]
  intro _
  rw [minI_eq, maxI_eq]

theorem refMake_ok (h : HeapT) (c : CellT) (hp : c.props.length ≤ 2 ^ 30) (hs : c.slots.length ≤ 2 ^ 30) (hl : h.2.length ≤ 10000) : (R.renref9_Heap_Make h c).sat (· = makeF h c) := by
  unfold R.renref9_Heap_Make makeF
  simp only [law_given_iff, law_br_iff, law_ok_iff, law_bind_iff, ile_true, ile_false]
  intro _
  refine ⟨fun h1 => by rw [if_pos h1], fun h1 => ?_⟩
  rw [if_neg (by omega)]
  refine law_call (copyCell_ok c hp hs) fun _ => ?_
  simp only [law_need_iff, decide_eq_true_eq, law_ok_iff, List.length_append, List.length_cons, List.length_nil]
  refine ⟨by omega, ?_⟩
  rw [wrap64 (by omega)]
  simp

theorem is_ok (h : HeapT) (r : Int) : (R.renref9_Heap_Is h r).sat (· = (decide (0 ≤ r) && decide (r < h.2.length))) := by
  unfold R.renref9_Heap_Is
  simp only [law_given_iff, law_ok_iff, law_br_iff, ile, ilt]
  intro _
  exact ⟨fun h => by rw [h]; rfl, fun h => by rw [h]; rfl⟩

theorem refOwnIx_ok (c : CellT) (key : List Int) (hl : c.props.length < 2 ^ 62) : (R.renref9_own c key).sat (· = posOf (keyAt c.props key)) := by
  unfold R.renref9_own
  refine law_given fun _ => law_bind_eq (idxLoop (s := .frz T_heap_Prop) c.2.2.1 (fun p => decide (p.1 = key)) _ (fun x _ => units_ok x.1 key) hl) ?_
  unfold keyAt
  cases h : c.props.findIdx? (fun p => decide (p.1 = key)) with
  | none => exact law_inl (law_ok rfl)
  | some i => exact law_inr (law_ok rfl)

theorem okB {r : Int} (h0 : 0 ≤ r) : (ile 0 r && (r.toNat == r.toNat)) = true := by
  rw [Bool.and_eq_true, ile_true]; exact ⟨h0, by simp⟩

theorem refPut_ok (h : HeapT) (r : Int) (key : List Int) (v : ValT) (hl : ∀ c ∈ h.2, c.props.length ≤ 2 ^ 30) : (R.renref9_Heap_Put h r key v).sat (· = putF h r key v) := by
  unfold R.renref9_Heap_Put
  refine law_given fun _ => law_bind_eq (is_ok h r) (law_br (fun h1 => ?_) fun h1 => ?_)
  · have h1 := has_false (notT h1)
    refine law_ok ?_
    unfold putF
    by_cases h0 : 0 ≤ r
    · rw [if_pos h0, h1 h0]
    · rw [if_neg h0]
  · obtain ⟨h0, c, hc⟩ := has_true (h := h) (r := r) (notF h1)
    have hput : putF h r key v = (true, (h.1, h.2.set r.toNat (c.withProps (putP c.props key v)))) := by
      unfold putF
      rw [if_pos h0, hc]
    rw [hput]
    have hlen := hl c (List.mem_of_getElem? hc)
    refine law_idxS h0 (List.getElem?_eq_some_iff.1 hc).1 fun x hx _ => ?_
    rw [hc] at hx
    cases hx
    have hb : (r.toNat == r.toNat) = true := by simp
    refine law_need hb (law_bind_eq (refOwnIx_ok c key (by omega)) (law_given fun _ => ?_))
    cases hk : keyAt c.props key with
    | none =>
      have hpp : putP c.props key v = c.props ++ [(key, v)] := by unfold putP; rw [hk]
      rw [hpp]
      refine law_t (by simp [ilt, posOf]) (law_need (okB h0) (law_need hb (law_bind_eq (copyUnits_ok key) (law_given fun _ => law_bind_eq (refCopied_ok v) (law_given fun _ => law_need ?_ (law_need (okB h0) (law_need hb (law_ok rfl))))))))
      simp only [decide_eq_true_eq, List.length_singleton]
      have : c.2.2.1.length ≤ 2 ^ 30 := hlen
      omega
    | some i =>
      have hpp : putP c.props key v = c.props.set i (key, v) := by unfold putP; rw [hk]
      rw [hpp]
      obtain ⟨w, h2, h3⟩ := keyAt_some hk
      have hi : i < c.props.length := (List.getElem?_eq_some_iff.1 h2).1
      have hile : ile 0 (posOf (some i)) = true := by simp [ile, posOf]
      refine law_f (by rw [ilt_false]; simp [posOf]) (law_need (okB h0) (law_need hb (law_bind_eq (refCopied_ok v) (law_given fun _ => law_need ?_ ?_))))
      · rw [Bool.and_eq_true, ilt_true]
        exact ⟨hile, Int.ofNat_lt.2 hi⟩
      · have hidx : ((0 : Int) + ((posOf (some i)).toNat : Int)).toNat = i := by simp [posOf]
        refine law_idx (by simp [posOf]) (by rw [hidx]; exact hi) fun e he _ => law_ok ?_
        rw [hidx] at he
        have he : c.props[i]? = some e := he
        rw [h2] at he
        cases he
        simp only [posOf, Int.toNat_natCast, Nat.zero_add]
        rfl

theorem refOwn_ok (h : HeapT) (r : Int) (key : List Int) (hl : ∀ c ∈ h.2, c.props.length ≤ 2 ^ 30) : (R.renref9_Heap_Own h r key).sat (· = match ownF h.2 r key with | none => (zeroV, false) | some v => (v, true)) := by
  unfold R.renref9_Heap_Own ownF
  refine law_given fun _ => law_bind_eq (is_ok h r) (law_br (fun h1 => ?_) fun h1 => ?_)
  · have h1 := has_false (notT h1)
    refine law_ok ?_
    by_cases h0 : 0 ≤ r
    · rw [if_pos h0, h1 h0]; rfl
    · rw [if_neg h0]; rfl
  · obtain ⟨h0, c, hc⟩ := has_true (h := h) (r := r) (notF h1)
    rw [if_pos h0, hc]
    have hlen := hl c (List.mem_of_getElem? hc)
    refine law_idxS h0 (List.getElem?_eq_some_iff.1 hc).1 fun x hx _ => ?_
    rw [hc] at hx
    cases hx
    refine law_bind_eq (refOwnIx_ok c key (by omega)) (law_given fun _ => ?_)
    cases hk : keyAt c.props key with
    | none =>
      refine law_t (by simp [ilt, posOf]) (law_ok ?_)
      simp only [keyAt_none hk]
      rfl
    | some i =>
      obtain ⟨w, h2, h3⟩ := keyAt_some hk
      have hi : i < c.props.length := (List.getElem?_eq_some_iff.1 h2).1
      refine law_f (by rw [ilt_false]; simp [posOf]) (law_idxS h0 (List.getElem?_eq_some_iff.1 hc).1 fun x hx _ => ?_)
      rw [hc] at hx
      cases hx
      refine law_idxS (by simp [posOf]) (by simpa [posOf] using hi) fun e he _ => ?_
      have he : c.props[i]? = some e := by simpa [posOf] using he
      rw [h2] at he
      cases he
      refine law_ok ?_
      simp only [h3]

theorem refFind_ok (h : HeapT) (r : Int) (key : List Int) (hl : ∀ c ∈ h.2, c.props.length ≤ 2 ^ 30) (hn : h.2.length ≤ 10000) : (R.renref9_Heap_Find h r key).sat (· = findF h.2 key h.2.length r) := by
  unfold R.renref9_Heap_Find
  have hno : ∀ (m : Nat) (q : Int), (decide (0 ≤ q) && decide (q < h.2.length)) = false → findF h.2 key m q = (zeroV, -2, false) := fun m q hq => by
    have h1 := has_false hq
    cases m with
    | zero => rfl
    | succ m =>
      unfold findF ownF
      by_cases h0 : 0 ≤ q
      · rw [if_pos h0, h1 h0, if_pos h0]
      · rw [if_neg h0, if_neg h0]
  refine law_given fun _ => law_bind_eq (is_ok h r) (law_br (fun h1 => law_ok ?_) fun hr => ?_)
  · rw [hno _ _ (notT h1)]
    rfl
  have hr := notF hr
  refine law_bind' (R := fun y => match y with
      | .inl _ => findF h.2 key h.2.length r = (zeroV, -2, false)
      | .inr z => findF h.2 key h.2.length r = ((z.2.2.1, (z.2.2.2.1, z.2.2.2.2.1), (z.2.2.2.2.2.1, z.2.2.2.2.2.2.1), z.2.2.2.2.2.2.2), z.1, z.2.1)) (law_for (fun x : Int × Int => x.2) h.2.length (by omega) (fun x => (0 ≤ x.2 ∧ x.2 ≤ h.2.length) ∧ (decide (0 ≤ x.1) && decide (x.1 < h.2.length)) = true ∧ findF h.2 key (h.2.length - x.2.toNat) x.1 = findF h.2 key h.2.length r) ⟨⟨by simp, by simp⟩, hr, by simp⟩ (fun x hx => hx.1) ?_) ?_
  · rintro ⟨q, i⟩ ⟨⟨h1, h2⟩, hq, h3⟩
    simp only at h1 h2 h3 hq
    refine law_br (fun h4 => ?_) fun h4 => ?_
    · rw [ilt_true] at h4
      obtain ⟨m, hm⟩ : ∃ m, h.2.length - i.toNat = m + 1 := ⟨h.2.length - i.toNat - 1, by simp only at h4; omega⟩
      rw [hm] at h3
      generalize findF h.2 key h.2.length r = G at h3 ⊢
      unfold findF at h3
      refine law_bind_eq (refOwn_ok h q key hl) (law_given fun _ => ?_)
      cases ho : ownF h.2 q key with
      | some v =>
        simp only [ho] at h3
        refine law_t rfl (law_ok ?_)
        show G = _
        rw [← h3]
      | none =>
        simp only [ho] at h3
        obtain ⟨h0, c, hc⟩ := has_true (h := h) (r := q) hq
        rw [if_pos h0, hc] at h3
        refine law_f rfl (law_idxS h0 (List.getElem?_eq_some_iff.1 hc).1 fun x hx _ => ?_)
        rw [hc] at hx
        cases hx
        refine law_br (fun h6 => law_ok ?_) fun h6 => ?_
        · rw [ilt_true] at h6
          show G = _
          rw [← h3]
          simp only [if_pos h6]
          rfl
        · rw [ilt_false] at h6
          have h6 : ¬ c.2.1 < 0 := Int.not_lt.2 h6
          simp only [if_neg h6] at h3
          simp only at h4
          refine law_bind_eq (is_ok h c.2.1) (law_br (fun h7 => law_ok ?_) fun h7 => law_ok ⟨wrap64 (by simp only; omega), ?_⟩)
          · show G = _
            rw [← h3, hno _ _ (notT h7)]
          · simp only
            rw [wrap64 (by omega)]
            refine ⟨⟨by omega, by omega⟩, notF h7, ?_⟩
            rw [show h.2.length - (i + 1).toNat = m by omega]
            exact h3
    · rw [ilt_false] at h4
      simp only at h4
      refine law_ok ?_
      show findF h.2 key h.2.length r = _
      rw [← h3, show h.2.length - i.toNat = 0 by omega]
      rfl
  · intro y hy
    cases y with
    | inl u => exact law_inl (law_ok hy.symm)
    | inr z => exact law_inr (law_ok hy.symm)
end Go.Mach

set_option maxRecDepth 100000
namespace Go.Mach
open Res

theorem refDrop_ok (h : HeapT) (r : Int) (hl : ∀ c ∈ h.2, c.props.length ≤ 2 ^ 30) : (R.renref9_Heap_Drop h r).sat (· = dropF h r) := by
  unfold R.renref9_Heap_Drop
  have hb : (r.toNat == r.toNat) = true := by simp
  refine law_given fun _ => ?_
  by_cases h0 : 0 ≤ r ∧ r < h.2.length
  case neg =>
    have hn : (decide (0 ≤ r) && decide (r < h.2.length)) = false := by
      cases h : (decide (0 ≤ r) && decide (r < h.2.length)) with
      | false => rfl
      | true => simp at h; exact absurd h h0
    have h1 := has_false hn
    refine law_bind_eq (a := ((true, h.2) : Bool × List CellT)) (law_bind_eq (is_ok h r) (law_t (by rw [hn]; rfl) (law_ok rfl))) (law_t rfl (law_ok ?_))
    unfold dropF
    by_cases h0 : 0 ≤ r
    · rw [if_pos h0, h1 h0]; rfl
    · rw [if_neg h0]; rfl
  have ht : (decide (0 ≤ r) && decide (r < h.2.length)) = true := by simp [h0.1, h0.2]
  obtain ⟨h0, c, hc⟩ := has_true ht
  have hlen := hl c (List.mem_of_getElem? hc)
  have hset : List.set h.2 r.toNat c = h.2 := set_self hc
  have hlt := (List.getElem?_eq_some_iff.1 hc).1
  have hd : dropF h r = match c.props.getLast? with
      | none => ((zeroV, false), h)
      | some p => ((p.2, true), (h.1, h.2.set r.toNat (c.withProps c.props.dropLast))) := by
    unfold dropF
    rw [if_pos h0, hc]
    all_goals rfl
  rw [hd]
  refine law_bind_eq (a := ((((c.props.length : Int) == 0), h.2) : Bool × List CellT)) (law_bind_eq (is_ok h r) (law_f (by rw [ht]; rfl) (law_idxS h0 hlt fun x hx _ => ?_))) ?_
  · rw [hc] at hx
    cases hx
    refine law_need hb (law_ok ?_)
    rw [hset]
  · refine law_br (fun h1 => law_ok ?_) fun h1 => law_idxS h0 hlt fun x hx _ => ?_
    · have : c.props = [] := by simpa using h1
      rw [this]
      rfl
    · rw [hc] at hx
      cases hx
      have hne : c.props ≠ [] := by intro he; simp [he] at h1
      have hpos : 0 < c.props.length := List.length_pos_iff.2 hne
      obtain ⟨pl, hpl0⟩ : ∃ p, c.props[c.props.length - 1]? = some p := ⟨_, List.getElem?_eq_getElem (by omega)⟩
      rw [List.getLast?_eq_getElem?, hpl0]
      have hpl : c.2.2.1.length = c.props.length := rfl
      rw [hpl, wrap64 (by omega)]
      refine law_need hb (law_need (okB h0) (law_need hb (law_need (by rw [Bool.and_eq_true, ile_true, ilt_true]; omega) ?_)))
      have hidx : ((0 : Int) + (((c.props.length : Int) - 1).toNat : Int)).toNat = c.props.length - 1 := by omega
      refine law_idx (by omega) (by rw [hidx]; show c.props.length - 1 < c.props.length; omega) fun e he _ => ?_
      rw [hidx] at he
      have he : c.props[c.props.length - 1]? = some e := he
      rw [hpl0] at he
      refine law_need (okB h0) (law_need hb (law_need (by rw [Bool.and_eq_true, ile_true, ile_true]; omega) (law_need (okB h0) (law_need hb (law_ok ?_)))))
      rw [show ((c.props.length : Int) - 1).toNat = c.props.length - 1 by omega, List.drop_zero, List.dropLast_eq_take]
      cases he
      rfl

theorem refSlot_ok (c : CellT) (name : List UInt8) (hl : c.slots.length < 2 ^ 62) : (R.renref9_slot c name).sat (· = posOf (nameAt c.slots name)) := by
  unfold R.renref9_slot
  refine law_given fun _ => law_bind_eq (a := match nameAt c.slots name with | none => Sum.inl () | some i => Sum.inr (i : Int)) ?_ ?_
  · have h := idxLoop (s := .frz T_heap_Slot) c.2.2.2.1 (fun s => decide (s.1 = name)) (fun e => Res.ok (e.1 == name)) (fun x _ => law_ok (by by_cases h : x.1 = name <;> simp [h])) hl
    exact h
  · cases nameAt c.slots name with
    | none => exact law_inl (law_ok rfl)
    | some i => exact law_inr (law_ok rfl)

theorem refDecl_ok (h : HeapT) (r : Int) (name : List UInt8) (v : ValT) (ready fixed : Bool) (hl : ∀ c ∈ h.2, c.slots.length ≤ 2 ^ 30) : (R.renref9_Heap_Declare h r name v ready fixed).sat (· = declF h r name v ready fixed) := by
  unfold R.renref9_Heap_Declare
  have hb : (r.toNat == r.toNat) = true := by simp
  refine law_given fun _ => ?_
  by_cases h0 : 0 ≤ r ∧ r < h.2.length
  case neg =>
    have hn : (decide (0 ≤ r) && decide (r < h.2.length)) = false := by
      cases h : (decide (0 ≤ r) && decide (r < h.2.length)) with
      | false => rfl
      | true => simp at h; exact absurd h h0
    have h1 := has_false hn
    refine law_bind_eq (a := ((true, h.2) : Bool × List CellT)) (law_bind_eq (is_ok h r) (law_t (by rw [hn]; rfl) (law_ok rfl))) (law_t rfl (law_ok ?_))
    unfold declF
    by_cases h0 : 0 ≤ r
    · rw [if_pos h0, h1 h0]
    · rw [if_neg h0]
  have ht : (decide (0 ≤ r) && decide (r < h.2.length)) = true := by simp [h0.1, h0.2]
  obtain ⟨h0, c, hc⟩ := has_true ht
  have hlen := hl c (List.mem_of_getElem? hc)
  have hset : List.set h.2 r.toNat c = h.2 := set_self hc
  have hlt := (List.getElem?_eq_some_iff.1 hc).1
  have hd : declF h r name v ready fixed = match nameAt c.slots name with
      | some _ => (false, h)
      | none => (true, (h.1, h.2.set r.toNat (c.withSlots (c.slots ++ [(name, v, ready, fixed)])))) := by
    unfold declF
    rw [if_pos h0, hc]
    all_goals rfl
  rw [hd]
  refine law_bind_eq (a := (((nameAt c.slots name).isSome, h.2) : Bool × List CellT)) (law_bind_eq (is_ok h r) (law_f (by rw [ht]; rfl) (law_idxS h0 hlt fun x hx _ => ?_))) ?_
  · rw [hc] at hx
    cases hx
    refine law_need hb (law_bind_eq (refSlot_ok c name (by omega)) (law_given fun _ => law_ok ?_))
    rw [hset, posOf_le]
  · cases hk : nameAt c.slots name with
    | some i => exact law_t rfl (law_ok rfl)
    | none =>
      refine law_f rfl (law_idxS h0 hlt fun x hx _ => ?_)
      rw [hc] at hx
      cases hx
      refine law_need hb (law_bind_eq (refCopied_ok v) (law_given fun _ => law_need ?_ (law_need (okB h0) (law_need hb (law_ok rfl)))))
      simp only [decide_eq_true_eq, List.length_singleton]
      have : c.2.2.2.1.length ≤ 2 ^ 30 := hlen
      omega

/-- Give. -/
def giveF (h : HeapT) (r : Int) (name : List UInt8) (v : ValT) (ready : Bool) : Bool × HeapT :=
  if 0 ≤ r then match h.2[r.toNat]? with
    | none => (false, h)
    | some c => match nameAt c.slots name with
      | none => (false, h)
      | some i => match c.slots[i]? with
        | none => (false, h)
        | some s => (true, (h.1, h.2.set r.toNat (c.withSlots (c.slots.set i (s.1, v, ready, s.2.2.2)))))
  else (false, h)

theorem giveSet {ss : List SlotT} {i : Nat} {s : SlotT} {v : ValT} {ready : Bool} (hi : ss[i]? = some s) {Q : SlotT → Prop} (h : Q (s.1, v, s.2.2)) : ∀ e, (ss.set i (s.1, v, s.2.2))[i]? = some e → Q e := fun e he => by
  have := (List.getElem?_eq_some_iff.1 hi).1
  rw [List.getElem?_set_self this] at he
  cases he
  exact h

theorem give_ok (h : HeapT) (r : Int) (name : List UInt8) (v : ValT) (ready : Bool) (hl : ∀ c ∈ h.2, c.slots.length ≤ 2 ^ 30) : (R.heap_Heap_Give h r name v ready).sat (· = giveF h r name v ready) := by
  unfold R.heap_Heap_Give
  have hb : (r.toNat == r.toNat) = true := by simp
  refine law_given fun _ => law_bind_eq (has_ok h r) (law_br (fun h1 => ?_) fun h1 => ?_)
  · have h1 := has_false (notT h1)
    refine law_ok ?_
    unfold giveF
    by_cases h0 : 0 ≤ r
    · rw [if_pos h0, h1 h0]
    · rw [if_neg h0]
  obtain ⟨h0, c, hc⟩ := has_true (h := h) (r := r) (notF h1)
  have hlen := hl c (List.mem_of_getElem? hc)
  have hlt := (List.getElem?_eq_some_iff.1 hc).1
  have hd : giveF h r name v ready = match nameAt c.slots name with
      | none => (false, h)
      | some i => match c.slots[i]? with
        | none => (false, h)
        | some s => (true, (h.1, h.2.set r.toNat (c.withSlots (c.slots.set i (s.1, v, ready, s.2.2.2))))) := by
    unfold giveF
    rw [if_pos h0, hc]
  rw [hd]
  refine law_bind_eq (slot_ok h r name h0 hc (by omega)) (law_given fun _ => ?_)
  cases hk : nameAt c.slots name with
  | none => exact law_t (by simp [ilt, posOf]) (law_ok rfl)
  | some i =>
    have hi : i < c.slots.length := (List.findIdx?_eq_some_iff_getElem.1 hk).1
    obtain ⟨s, hs⟩ : ∃ s, c.slots[i]? = some s := ⟨_, List.getElem?_eq_getElem hi⟩
    refine law_f (by rw [ilt_false]; simp [posOf]) (law_idxS h0 hlt fun x hx _ => ?_)
    rw [hc] at hx
    cases hx
    have hidx : ((0 : Int) + ((posOf (some i)).toNat : Int)).toNat = i := by simp [posOf]
    have hn : (0 + (posOf (some i)).toNat : Nat) = i := by simp [posOf]
    refine law_need hb (law_need ?_ (law_bind_eq (own_ok v) (law_given fun _ => law_idx (by simp [posOf]) (by rw [hidx]; exact hi) fun e he _ => ?_)))
    · rw [Bool.and_eq_true, ilt_true]
      exact ⟨by simp [ile, posOf], Int.ofNat_lt.2 hi⟩
    · rw [hidx] at he
      have he : c.slots[i]? = some e := he
      rw [hs] at he
      cases he
      rw [hn]
      refine law_idx (by simp [posOf]) (by rw [hidx, List.length_set]; exact hi) fun e he _ => law_ok ?_
      rw [hidx] at he
      have he : (c.slots.set i (s.1, v, s.2.2))[i]? = some e := he
      rw [List.getElem?_set_self hi] at he
      cases he
      simp only [hs, List.set_set]
      rfl

theorem refGive_ok (h : HeapT) (r : Int) (name : List UInt8) (v : ValT) (ready : Bool) (hl : ∀ c ∈ h.2, c.slots.length ≤ 2 ^ 30) : (R.renref9_Heap_Give h r name v ready).sat (· = giveF h r name v ready) := by
  unfold R.renref9_Heap_Give
  have hb : (r.toNat == r.toNat) = true := by simp
  refine law_given fun _ => law_bind_eq (is_ok h r) (law_br (fun h1 => ?_) fun h1 => ?_)
  · have h1 := has_false (notT h1)
    refine law_ok ?_
    unfold giveF
    by_cases h0 : 0 ≤ r
    · rw [if_pos h0, h1 h0]
    · rw [if_neg h0]
  obtain ⟨h0, c, hc⟩ := has_true (h := h) (r := r) (notF h1)
  have hlen := hl c (List.mem_of_getElem? hc)
  have hlt := (List.getElem?_eq_some_iff.1 hc).1
  have hset : List.set h.2 r.toNat c = h.2 := set_self hc
  have hd : giveF h r name v ready = match nameAt c.slots name with
      | none => (false, h)
      | some i => match c.slots[i]? with
        | none => (false, h)
        | some s => (true, (h.1, h.2.set r.toNat (c.withSlots (c.slots.set i (s.1, v, ready, s.2.2.2))))) := by
    unfold giveF
    rw [if_pos h0, hc]
  rw [hd]
  refine law_idxS h0 hlt fun x hx _ => ?_
  rw [hc] at hx
  cases hx
  refine law_need hb (law_bind_eq (refSlot_ok c name (by omega)) (law_given fun _ => ?_))
  cases hk : nameAt c.slots name with
  | none =>
    refine law_t (by simp [ilt, posOf]) (law_ok ?_)
    rw [hset]
  | some i =>
    have hi : i < c.slots.length := (List.findIdx?_eq_some_iff_getElem.1 hk).1
    obtain ⟨s, hs⟩ : ∃ s, c.slots[i]? = some s := ⟨_, List.getElem?_eq_getElem hi⟩
    have hidx : ((0 : Int) + ((posOf (some i)).toNat : Int)).toNat = i := by simp [posOf]
    have hn : (0 + (posOf (some i)).toNat : Nat) = i := by simp [posOf]
    have hle : (ile 0 (posOf (some i)) && ilt (posOf (some i)) (c.slots.length : Int)) = true := by
      rw [Bool.and_eq_true, ilt_true]
      exact ⟨by simp [ile, posOf], Int.ofNat_lt.2 hi⟩
    refine law_f (by rw [ilt_false]; simp [posOf]) (law_need (okB h0) (law_need hb (law_bind_eq (refCopied_ok v) (law_given fun _ => law_need hle (law_idx (by simp [posOf]) (by rw [hidx]; exact hi) fun e he _ => ?_)))))
    rw [hidx] at he
    have he : c.slots[i]? = some e := he
    rw [hs] at he
    cases he
    rw [hn]
    refine law_need (okB h0) (law_need hb (law_need (by rw [List.length_set]; exact hle) (law_idx (by simp [posOf]) (by rw [hidx, List.length_set]; exact hi) fun e he _ => law_ok ?_)))
    rw [hidx] at he
    have he : (c.slots.set i (s.1, v, s.2.2))[i]? = some e := he
    rw [List.getElem?_set_self hi] at he
    cases he
    simp only [hs, List.set_set]
    rfl

theorem refLook_ok (h : HeapT) (r : Int) (name : List UInt8) (hl : ∀ c ∈ h.2, c.slots.length ≤ 2 ^ 30) (hn : h.2.length ≤ 10000) : (R.renref9_Heap_Look h r name).sat (· = lookF h.2 name h.2.length r) := by
  unfold R.renref9_Heap_Look
  refine law_given fun _ => law_bind' (R := fun y => match y with
      | .inl _ => lookF h.2 name h.2.length r = (zeroS, -1, false)
      | .inr z => lookF h.2 name h.2.length r = ((z.2.2.1, (z.2.2.2.1, (z.2.2.2.2.1, z.2.2.2.2.2.1), (z.2.2.2.2.2.2.1, z.2.2.2.2.2.2.2.1), z.2.2.2.2.2.2.2.2.1, z.2.2.2.2.2.2.2.2.2.1), z.2.2.2.2.2.2.2.2.2.2), z.1, z.2.1)) (law_for (fun x : Int × Int => x.2) h.2.length (by omega) (fun x => (0 ≤ x.2 ∧ x.2 ≤ h.2.length) ∧ lookF h.2 name (h.2.length - x.2.toNat) x.1 = lookF h.2 name h.2.length r) ⟨⟨by simp, by simp⟩, by simp⟩ (fun x hx => hx.1) ?_) ?_
  · rintro ⟨q, i⟩ ⟨⟨h1, h2⟩, h3⟩
    simp only at h1 h2 h3
    refine law_bind_eq (a := (decide (i < h.2.length) && (decide (0 ≤ q) && decide (q < h.2.length)))) ?_ ?_
    · refine law_br (fun h4 => law_bind_eq (is_ok h q) (law_ok ?_)) fun h4 => law_ok ?_
      · rw [ilt_true] at h4
        have h4 : i < h.2.length := h4
        simp only [decide_eq_true h4, Bool.true_and]
      · rw [ilt_false] at h4
        have h4 : ¬ i < h.2.length := Int.not_lt.2 h4
        simp only [decide_eq_false h4, Bool.false_and]
    refine law_br (fun h4 => ?_) fun h4 => ?_
    · rw [Bool.and_eq_true] at h4
      obtain ⟨h4, h5⟩ := h4
      have h4 := of_decide_eq_true h4
      obtain ⟨m, hm⟩ : ∃ m, h.2.length - i.toNat = m + 1 := ⟨h.2.length - i.toNat - 1, by omega⟩
      rw [hm] at h3
      generalize lookF h.2 name h.2.length r = G at h3 ⊢
      unfold lookF at h3
      obtain ⟨h0, c, hc⟩ := has_true (h := h) (r := q) h5
      have hlt := (List.getElem?_eq_some_iff.1 hc).1
      rw [if_pos h0, hc] at h3
      have hlen := hl c (List.mem_of_getElem? hc)
      simp only at h3
      refine law_idxS h0 hlt fun x hx _ => ?_
      rw [hc] at hx
      cases hx
      refine law_bind_eq (refSlot_ok c name (by omega)) (law_given fun _ => ?_)
      cases hk : nameAt c.slots name with
      | some j =>
        have hj : j < c.slots.length := (List.findIdx?_eq_some_iff_getElem.1 hk).1
        rw [hk] at h3
        simp only [Option.bind_some, List.getElem?_eq_getElem hj] at h3
        refine law_t posOf_le (law_idxS h0 hlt fun x hx _ => ?_)
        rw [hc] at hx
        cases hx
        refine law_idxS (by simp [posOf]) (by simpa [posOf] using hj) fun e he _ => law_ok ?_
        have he : c.slots[j]? = some e := by simpa [posOf] using he
        rw [List.getElem?_eq_getElem hj] at he
        cases he
        show G = _
        rw [← h3]
      | none =>
        rw [hk] at h3
        simp only [Option.bind_none] at h3
        refine law_f posOf_le (law_idxS h0 hlt fun x hx _ => ?_)
        rw [hc] at hx
        cases hx
        refine law_ok ⟨wrap64 (by simp only; omega), ?_⟩
        simp only
        rw [wrap64 (by omega)]
        refine ⟨⟨by omega, by omega⟩, ?_⟩
        rw [show h.2.length - (i + 1).toNat = m by omega]
        exact h3
    · refine law_ok ?_
      show lookF h.2 name h.2.length r = _
      rw [← h3]
      rw [Bool.and_eq_false_iff] at h4
      rcases h4 with h4 | h4
      · have h4 := of_decide_eq_false h4
        rw [show h.2.length - i.toNat = 0 by omega]
        rfl
      · have h5 := has_false h4
        cases h.2.length - i.toNat with
        | zero => rfl
        | succ m =>
          unfold lookF
          by_cases h0 : 0 ≤ q
          · rw [if_pos h0, h5 h0]
          · rw [if_neg h0]
  · intro y hy
    cases y with
    | inl u => exact law_inl (law_ok hy.symm)
    | inr z => exact law_inr (law_ok hy.symm)

/-- Copy. -/
theorem heapCopy_ok (h : HeapT) (hc : ∀ c ∈ h.2, copyOk c) (hn : h.2.length ≤ 10000) : (R.heap_Heap_Copy h).sat (· = h) := by
  unfold R.heap_Heap_Copy
  refine law_given fun _ => law_bind_eq (a := h) (law_for (fun x : Int × HeapT => x.1) h.2.length (by omega) (fun x => (0 ≤ x.1 ∧ x.1 ≤ h.2.length) ∧ x.2 = (h.1, h.2.take x.1.toNat)) ⟨⟨by simp, by simp⟩, by simp⟩ (fun x h => h.1) ?_) (law_ok rfl)
  rintro ⟨i, st⟩ ⟨⟨h1, h2⟩, h3⟩
  simp only at h1 h2 h3
  subst h3
  refine law_br (fun h4 => ?_) fun h4 => ?_
  · rw [ilt_true] at h4
    simp only at h4
    have hi : i.toNat < h.2.length := by omega
    refine law_idxS h1 hi fun e he _ => ?_
    have he : h.2[i.toNat]? = some e := he
    have hei : h.2[i.toNat] = e := by rw [List.getElem?_eq_getElem hi] at he; cases he; rfl
    refine law_bind_eq (copied_ok e (hc e (List.mem_of_getElem? he))) (law_given fun _ => law_need ?_ (law_ok ⟨wrap64 (by omega), ?_⟩))
    · simp only [decide_eq_true_eq, List.length_take, List.length_singleton]
      omega
    · simp only
      rw [wrap64 (by omega)]
      refine ⟨⟨by omega, by omega⟩, ?_⟩
      rw [show (i + 1).toNat = i.toNat + 1 by omega, List.take_succ_eq_append_getElem hi, hei]
  · rw [ilt_false] at h4
    simp only at h4
    refine law_ok ?_
    simp only
    rw [List.take_of_length_le (by omega)]
end Go.Mach

set_option maxRecDepth 100000
namespace Go.Mach
open Res

/-- Bytes written one by one. -/
theorem set_mid {A B D : List Int} {x y : Int} : (A ++ (B ++ y :: D)).set (A.length + B.length) x = A ++ ((B ++ [x]) ++ D) := by
  rw [List.set_append_right _ _ (by omega), Nat.add_sub_cancel_left, List.set_append_right _ _ (by omega), Nat.sub_self]
  simp

theorem refWrite_ok (h : HeapT) (r at_ : Int) (b : List Int) (hb : ∀ c ∈ h.2, c.bytes.length ≤ 2 ^ 40) : (R.renref9_Heap_Write h r at_ b).sat (· = writeF h r at_ b) := by
  unfold R.renref9_Heap_Write
  have hbb : (r.toNat == r.toNat) = true := by simp
  refine law_given fun _ => ?_
  by_cases h0 : 0 ≤ r ∧ r < h.2.length
  case neg =>
    have hn : (decide (0 ≤ r) && decide (r < h.2.length)) = false := by
      cases h : (decide (0 ≤ r) && decide (r < h.2.length)) with
      | false => rfl
      | true => simp at h; exact absurd h h0
    have h1 := has_false hn
    refine law_bind_eq (a := ((true, h.2) : Bool × List CellT)) (law_bind_eq (is_ok h r) (law_t (by rw [hn]; rfl) (law_ok rfl))) (law_t rfl (law_ok ?_))
    unfold writeF
    by_cases h0 : 0 ≤ r
    · rw [if_pos h0, h1 h0]
    · rw [if_neg h0]
  have ht : (decide (0 ≤ r) && decide (r < h.2.length)) = true := by simp [h0.1, h0.2]
  obtain ⟨h0, c, hc⟩ := has_true ht
  have hlen := hb c (List.mem_of_getElem? hc)
  have hset : List.set h.2 r.toNat c = h.2 := set_self hc
  have hlt := (List.getElem?_eq_some_iff.1 hc).1
  have hbl : c.2.2.2.2.2.2.2.2.2.2.2.2.length = c.bytes.length := rfl
  have hd : writeF h r at_ b = if writeIn c at_ b then (true, (h.1, h.2.set r.toNat (c.withBytes (c.bytes.take at_.toNat ++ (b ++ c.bytes.drop (at_.toNat + b.length)))))) else (false, h) := by
    unfold writeF
    rw [if_pos h0, hc]
  rw [hd]
  have hin : writeIn c at_ b ↔ 0 ≤ at_ ∧ at_ + b.length ≤ c.bytes.length := Iff.rfl
  refine law_bind_eq (a := ((!decide (writeIn c at_ b), h.2) : Bool × List CellT)) (law_bind_eq (is_ok h r) (law_f (by rw [ht]; rfl) ?_)) ?_
  · refine law_br (fun h1 => law_ok ?_) fun h1 => law_idxS h0 hlt fun x hx _ => ?_
    · rw [ilt_true] at h1
      rw [decide_eq_false (by rw [hin]; omega)]
      rfl
    · rw [ilt_false] at h1
      rw [hc] at hx
      cases hx
      rw [hset, hbl]
      refine law_need hbb (law_br (fun h2 => law_ok ?_) fun h2 => law_need (okB h0) (law_need hbb (law_ok ?_)))
      · rw [ilt_true] at h2
        rw [decide_eq_false (by rw [hin]; omega)]
        rfl
      · rw [ilt_false] at h2
        rw [wrap64 (by omega)]
        congr 1
        by_cases hw : writeIn c at_ b
        · rw [decide_eq_true hw]
          have := hin.1 hw
          show ilt _ _ = false
          rw [ilt_false]; omega
        · rw [decide_eq_false hw]
          rw [hin] at hw
          show ilt _ _ = true
          rw [ilt_true]; omega
  · by_cases hw : writeIn c at_ b
    · rw [decide_eq_true hw, if_pos hw]
      have hw' := hin.1 hw
      refine law_f rfl (law_bind_eq (a := h.2.set r.toNat (c.withBytes (c.bytes.take at_.toNat ++ (b ++ c.bytes.drop (at_.toNat + b.length))))) (law_for (fun x : Int × List CellT => x.1) b.length (by omega)
        (fun x => (0 ≤ x.1 ∧ x.1 ≤ b.length) ∧ x.2 = h.2.set r.toNat (c.withBytes (c.bytes.take at_.toNat ++ (b.take x.1.toNat ++ c.bytes.drop (at_.toNat + x.1.toNat))))) ⟨⟨by simp, by simp⟩, ?_⟩ (fun x h => h.1) ?_) (law_ok rfl))
      · simp only [Int.toNat_zero, List.take_zero, List.nil_append, Nat.add_zero, List.take_append_drop]
        exact hset.symm
      · rintro ⟨i, st⟩ ⟨⟨h1, h2⟩, h3⟩
        simp only at h1 h2 h3
        subst h3
        refine law_br (fun h4 => ?_) fun h4 => ?_
        · rw [ilt_true] at h4
          simp only at h4 ⊢
          have hi : i.toNat < b.length := by omega
          have hgl : (c.bytes.take at_.toNat ++ (b.take i.toNat ++ c.bytes.drop (at_.toNat + i.toNat))).length = c.bytes.length := by simp; omega
          refine law_idxS h0 (by rw [List.length_set]; exact hlt) fun x hx _ => ?_
          rw [List.getElem?_set_self hlt] at hx
          cases hx
          refine law_need hbb (law_idxS h1 hi fun e he _ => ?_)
          have he : b[i.toNat]? = some e := he
          have hei : b[i.toNat] = e := by rw [List.getElem?_eq_getElem hi] at he; cases he; rfl
          rw [wrap64 (n := at_ + i) (by omega), wrap64 (n := i + 1) (by omega)]
          have hidx : ((0 : Int) + ((at_ + i).toNat : Int)).toNat = (at_ + i).toNat := by omega
          refine law_need ?_ (law_idx (by omega) ?_ fun e7 _ _ => law_ok ⟨rfl, ⟨by simp only; omega, by simp only; omega⟩, ?_⟩)
          · rw [Bool.and_eq_true, ile_true, ilt_true]
            refine ⟨by omega, ?_⟩
            show at_ + i < ((c.bytes.take at_.toNat ++ (b.take i.toNat ++ c.bytes.drop (at_.toNat + i.toNat))).length : Int)
            omega
          · rw [hidx]
            show (at_ + i).toNat < (c.bytes.take at_.toNat ++ (b.take i.toNat ++ c.bytes.drop (at_.toNat + i.toNat))).length
            omega
          · simp only
            rw [List.set_set]
            congr 1
            show c.withBytes ((c.bytes.take at_.toNat ++ (b.take i.toNat ++ c.bytes.drop (at_.toNat + i.toNat))).set (0 + (at_ + i).toNat) e) = _
            congr 1
            have hdr : c.bytes.drop (at_.toNat + i.toNat) = c.bytes[at_.toNat + i.toNat]'(by omega) :: c.bytes.drop (at_.toNat + i.toNat + 1) := List.drop_eq_getElem_cons (by omega)
            have hln : 0 + (at_ + i).toNat = (c.bytes.take at_.toNat).length + (b.take i.toNat).length := by simp; omega
            rw [hdr, hln, set_mid, show (i + 1).toNat = i.toNat + 1 by omega, List.take_succ_eq_append_getElem hi, hei]
            rfl
        · rw [ilt_false] at h4
          simp only at h4
          have : i.toNat = b.length := by omega
          refine law_ok ?_
          simp only
          rw [this, List.take_length]
    · rw [decide_eq_false hw, if_neg hw]
      exact law_t rfl (law_ok rfl)
end Go.Mach

set_option maxRecDepth 100000
namespace Go.Mach
open Res

/-! ### The document's keys -/

theorem refDigit_ok (x : Int) : (R.renref3_digit x).sat (· = isDig x) := by
  unfold R.renref3_digit isDig
  refine law_given fun _ => law_br (fun h => law_ok ?_) fun h => law_ok ?_
  · rw [ile_true] at h; simp [h, ile]
  · rw [ile_false] at h; simp; omega

theorem lenU16 {u : List Int} (h : lenOkS (.frz (.int .u16)) u.length = true) : u.length < 2 ^ 60 := by
  have h := of_decide_eq_true h
  have e : (Sh.frz (.int .u16)).minB = 2 := rfl
  rw [e] at h
  omega

theorem digits_ok (u : List Int) : (R.renref3_Digits u).sat (· = (u.all isDig && decide (u ≠ []))) := by
  unfold R.renref3_Digits
  refine law_given fun hok => ?_
  have hl := lenU16 (u := u) hok
  refine law_bind' (R := fun y => match y with
      | .inl _ => u.all isDig = true
      | .inr z => u.all isDig = false ∧ z = false) (law_for (fun i : Int => i) u.length (by omega) (fun i => (0 ≤ i ∧ i ≤ u.length) ∧ (u.take i.toNat).all isDig = true) ⟨⟨by simp, by simp⟩, by simp⟩ (fun i h => h.1) ?_) ?_
  · rintro i ⟨⟨h1, h2⟩, h3⟩
    refine law_br (fun h5 => ?_) fun h5 => ?_
    · rw [ilt_true] at h5
      have hi : i.toNat < u.length := by omega
      refine law_idxS h1 hi fun (e : Int) he _ => ?_
      have he : u[i.toNat]? = some e := he
      have hei : u[i.toNat] = e := by rw [List.getElem?_eq_getElem hi] at he; cases he; rfl
      refine law_bind_eq (refDigit_ok e) (law_br (fun h6 => law_ok ?_) fun h6 => law_ok ⟨wrap64 (by omega), ?_⟩)
      · refine ⟨?_, rfl⟩
        rw [List.all_eq_false]
        exact ⟨e, List.mem_of_getElem? he, by simp [notT h6]⟩
      · rw [wrap64 (by omega)]
        refine ⟨⟨by omega, by omega⟩, ?_⟩
        rw [show (i + 1).toNat = i.toNat + 1 by omega, List.take_succ_eq_append_getElem hi, hei]
        simp [h3, notF h6]
    · rw [ilt_false] at h5
      rw [List.take_of_length_le (by omega)] at h3
      exact law_ok h3
  · intro y hy
    cases y with
    | inl n =>
      have hy : u.all isDig = true := hy
      rw [hy, Bool.true_and]
      refine law_inl (law_ok ?_)
      by_cases hu : u = []
      · simp [hu, ilt]
      · have : 0 < u.length := List.length_pos_iff.2 hu
        simp only [ilt]
        rw [decide_eq_true (show (0 : Int) < u.length by omega), decide_eq_true hu]
    | inr z =>
      obtain ⟨h1, rfl⟩ := hy
      rw [h1, Bool.false_and]
      exact law_inr (law_ok rfl)

theorem whole_ok (u : List Int) (hd : u.all isDig = true) (hlen : u.length ≤ 10) : (R.renref3_whole u).sat (· = digVal u) := by
  unfold R.renref3_whole
  refine law_given fun _ => law_bind_eq (a := Sum.inl (digVal u)) (law_for (fun x : Int × Int => x.2) u.length (by omega) (fun x => (0 ≤ x.2 ∧ x.2 ≤ u.length) ∧ x.1 = digVal (u.take x.2.toNat)) ⟨⟨by simp, by simp⟩, rfl⟩ (fun x h => h.1) ?_) (law_inl (law_ok rfl))
  rintro ⟨n, i⟩ ⟨⟨h1, h2⟩, h4⟩
  simp only at h1 h2 h4
  refine law_br (fun h5 => ?_) fun h5 => ?_
  · rw [ilt_true] at h5
    simp only at h5
    have hi : i.toNat < u.length := by omega
    refine law_idxS h1 hi fun (e : Int) he _ => ?_
    have he : u[i.toNat]? = some e := he
    have hei : u[i.toNat] = e := by rw [List.getElem?_eq_getElem hi] at he; cases he; rfl
    have htk : u.take (i + 1).toNat = u.take i.toNat ++ [e] := by
      rw [show (i + 1).toNat = i.toNat + 1 by omega, List.take_succ_eq_append_getElem hi, hei]
    have hde : 48 ≤ e ∧ e ≤ 57 := by
      have := List.all_eq_true.1 hd e (List.mem_of_getElem? he)
      simpa [isDig] using this
    have hall : ∀ x ∈ u.take i.toNat, 48 ≤ x ∧ x ≤ 57 := fun x hx => by
      have := List.all_eq_true.1 hd x (List.mem_of_mem_take hx)
      simpa [isDig] using this
    have hbd := digVal_bound (u.take i.toNat) 0 hall (by omega)
    have hn : n = (u.take i.toNat).foldl (fun n x => 10 * n + (x - 48)) 0 := h4
    rw [← hn] at hbd
    have hp : (10 : Int) ^ (u.take i.toNat).length ≤ 10 ^ 9 := by
      have : (u.take i.toNat).length ≤ 9 := by simp; omega
      exact_mod_cast Nat.pow_le_pow_right (by omega) this
    rw [wrapU16 (by omega), wrap64 (n := e - 48) (by omega), wrap64 (n := 10 * n) (by omega), wrap64 (n := 10 * n + (e - 48)) (by omega)]
    refine law_f (by rw [ilt_false]; omega) (law_ok ⟨wrap64 (by omega), ?_⟩)
    simp only
    rw [wrap64 (n := i + 1) (by omega), htk]
    refine ⟨⟨by omega, by omega⟩, ?_⟩
    rw [h4]
    simp [digVal]
  · rw [ilt_false] at h5
    simp only at h5
    rw [List.take_of_length_le (by omega)] at h4
    exact law_ok (by rw [h4])

theorem refKey_ok (u : List Int) : (R.renref3_Key u).sat (· = keyF u) := by
  unfold R.renref3_Key
  refine law_given fun _ => law_bind_eq (a := !(u.all isDig && decide (u ≠ [])) || decide (10 < u.length ∨ (u.head? = some 48 ∧ 1 < u.length))) ?_ ?_
  · refine law_bind_eq (digits_ok u) (law_br (fun h => law_ok (by rw [h]; rfl)) fun h => ?_)
    have h' := notF h
    rw [h, Bool.false_or]
    rw [Bool.and_eq_true, decide_eq_true_eq] at h'
    have hpos : 0 < u.length := List.length_pos_iff.2 h'.2
    refine law_br (fun h1 => law_ok ?_) fun h1 => ?_
    · rw [ilt_true] at h1
      have h1 : 10 < u.length := by omega
      simp [h1]
    rw [ilt_false] at h1
    have h1 : ¬ 10 < u.length := by omega
    refine law_idxS (by omega) (by show (0 : Int).toNat < u.length; simpa using hpos) fun e he _ => ?_
    have he : u[0]? = some e := he
    have hhd : u.head? = some e := by rw [← he]; cases u <;> rfl
    refine law_br (fun h2 => law_ok ?_) fun h2 => law_ok ?_
    · have h2 : e = 48 := by simpa using h2
      simp only [h1, hhd, h2, false_or, ilt, true_and]
      congr 1
      apply propext
      omega
    · have h2 : ¬ e = 48 := by simpa using h2
      simp [h1, hhd, h2]
  unfold keyF
  by_cases hb : u = [] ∨ 10 < u.length ∨ (u.head? = some 48 ∧ 1 < u.length)
  · rw [if_pos hb]
    refine law_t ?_ (law_ok rfl)
    rcases hb with hb | hb
    · simp [hb]
    · rw [decide_eq_true hb, Bool.or_true]
  · rw [if_neg hb]
    have hne : u ≠ [] := fun h => hb (.inl h)
    have hb2 : ¬ (10 < u.length ∨ (u.head? = some 48 ∧ 1 < u.length)) := fun h => hb (.inr h)
    rw [decide_eq_false hb2, Bool.or_false, decide_eq_true hne, Bool.and_true]
    cases hall : u.all isDig with
    | false => exact law_t rfl (law_ok rfl)
    | true =>
      have hlen : u.length ≤ 10 := Nat.le_of_not_lt fun h => hb2 (.inl h)
      refine law_f rfl (law_bind_eq (whole_ok u hall hlen) (law_given fun _ => law_br (fun h2 => law_ok ?_) fun h2 => law_ok ?_))
      · rw [ilt_true] at h2
        simp only [if_true]
        rw [if_pos h2]
      · rw [ilt_false] at h2
        simp only [if_true]
        rw [if_neg (by omega)]

/-! ### Digits there and back -/

def digs (n : Nat) : List Int := if n < 10 then [48 + (n : Int)] else digs (n / 10) ++ [48 + ((n % 10 : Nat) : Int)]
termination_by n
decreasing_by omega

theorem byts_append (a b : List Int) : byts (a ++ b) = byts a ++ byts b := by simp [byts]
theorem nums_byts {l : List Int} (h : ∀ x ∈ l, 0 ≤ x ∧ x < 256) : nums (byts l) = l := by
  unfold nums byts
  rw [List.map_map]
  conv => rhs; rw [← List.map_id l]
  apply List.map_congr_left
  intro x hx
  have := h x hx
  simp only [Function.comp, id]
  have h1 : (UInt8.ofNat x.toNat).toNat = x.toNat := by
    rw [UInt8.toNat_ofNat']
    omega
  rw [h1]
  omega
theorem digs_range : ∀ (n : Nat), ∀ x ∈ digs n, 48 ≤ x ∧ x ≤ 57 := fun n => by
  induction n using Nat.strongRecOn with
  | _ n ih =>
    intro x hx
    unfold digs at hx
    split at hx
    · rw [List.mem_singleton.1 hx]; omega
    · rcases List.mem_append.1 hx with h | h
      · exact ih (n / 10) (by omega) x h
      · rw [List.mem_singleton.1 h]; omega

theorem wrapU8 {n : Int} (h : 0 ≤ n ∧ n < 256) : IntKind.wrap .u8 n = n := by
  simp [IntKind.wrap, IntKind.signed, IntKind.bits]
  omega
theorem digs_len (n : Nat) (k : Nat) : n < 10 ^ (k + 1) → (digs n).length ≤ k + 1 := by
  induction k generalizing n with
  | zero => intro h; unfold digs; rw [if_pos (by omega)]; simp
  | succ k ih =>
    intro h
    unfold digs
    split
    · simp
    · have := ih (n / 10) (by rw [Nat.pow_succ] at h; omega)
      simp; omega

theorem dec_ok : ∀ (fu : Nat) (n : Nat), n < fu → n < 10 ^ 18 → (R.renref_Dec fu (n : Int)).sat (· = byts (digs n))
  | 0, _, h, _ => by omega
  | fu + 1, n, h, h18 => by
    unfold R.renref_Dec
    refine law_given fun _ => law_f (by rw [ilt_false]; omega) (law_br (fun h1 => law_ok ?_) fun h1 => law_need rfl ?_)
    · rw [ilt_true] at h1
      rw [wrap64 (n := 48 + (n : Int)) (by omega), wrapU8 (by omega)]
      unfold digs
      rw [if_pos (by omega)]
    · rw [ilt_false] at h1
      have hq : Int.tdiv (n : Int) 10 = ((n / 10 : Nat) : Int) := by rw [Int.tdiv_eq_ediv_of_nonneg (by omega)]; omega
      have hm : Int.tmod (n : Int) 10 = ((n % 10 : Nat) : Int) := by rw [Int.tmod_eq_emod_of_nonneg (by omega)]; omega
      rw [hq, hm, wrap64 (by omega), wrap64 (n := 48 + ((n % 10 : Nat) : Int)) (by omega), wrapU8 (by omega)]
      refine law_bind_eq (dec_ok fu (n / 10) (by omega) (by omega)) (law_given fun _ => law_need rfl (law_need ?_ (law_ok ?_)))
      · have hl := digs_len (n / 10) 17 (by omega)
        simp only [strOk, decide_eq_true_eq, byts, List.length_map, List.length_singleton]
        omega
      · conv => rhs; unfold digs
        rw [if_neg (by omega), byts_append]

theorem ascii_ok (s : List UInt8) (hl : s.length ≤ 2 ^ 40) : (R.renref_Ascii s).sat (· = nums s) := by
  unfold R.renref_Ascii
  have hnl : (nums s).length = s.length := by simp [nums]
  refine law_given fun _ => law_bind_eq (a := nums s) (law_for (fun x : List Int × Int => x.2) s.length (by omega) (fun x => (0 ≤ x.2 ∧ x.2 ≤ s.length) ∧ x.1 = (nums s).take x.2.toNat) ⟨⟨by simp, by simp⟩, by simp⟩ (fun x h => h.1) ?_) (law_ok rfl)
  rintro ⟨o, i⟩ ⟨⟨h1, h2⟩, h3⟩
  simp only at h1 h2 h3
  subst h3
  refine law_br (fun h4 => ?_) fun h4 => ?_
  · rw [ilt_true] at h4
    simp only at h4
    have hi : i.toNat < (nums s).length := by omega
    refine law_idx h1 hi fun (e : Int) he _ => ?_
    have he : (nums s)[i.toNat]? = some e := he
    have hei : (nums s)[i.toNat] = e := by rw [List.getElem?_eq_getElem hi] at he; cases he; rfl
    have hr : 0 ≤ e ∧ e < 256 := by
      have hm := List.mem_of_getElem? he
      obtain ⟨b, _, rfl⟩ := List.mem_map.1 hm
      have := b.toNat_lt
      omega
    rw [wrapU16 (by omega)]
    refine law_need ?_ (law_ok ⟨wrap64 (by omega), ?_⟩)
    · simp only [decide_eq_true_eq, List.length_take, List.length_singleton]; omega
    · simp only
      rw [wrap64 (by omega)]
      refine ⟨⟨by omega, by omega⟩, ?_⟩
      rw [show (i + 1).toNat = i.toNat + 1 by omega, List.take_succ_eq_append_getElem hi, hei]
  · rw [ilt_false] at h4
    simp only at h4
    refine law_ok ?_
    simp only
    rw [List.take_of_length_le (by omega)]

/-- A key that is a number is the text of that number. -/
theorem digs_digVal (u : List Int) : u ≠ [] → u.all isDig = true → ¬ (u.head? = some 48 ∧ 1 < u.length) → digs (digVal u).toNat = u ∧ (1 < u.length ∨ u.head? ≠ some 48 → 1 ≤ digVal u) := by
  induction hn : u.length generalizing u with
  | zero => intro h; exact absurd (List.length_eq_zero_iff.1 hn) h
  | succ k ih =>
    intro hne hd hz
    obtain ⟨v, d, rfl⟩ : ∃ v d, u = v ++ [d] := ⟨u.dropLast, u.getLast hne, (List.dropLast_concat_getLast hne).symm⟩
    have hdd : 48 ≤ d ∧ d ≤ 57 := by
      have := List.all_eq_true.1 hd d (by simp)
      simpa [isDig] using this
    have hval : digVal (v ++ [d]) = 10 * digVal v + (d - 48) := by simp [digVal]
    have hdv : v.all isDig = true := by
      rw [List.all_append, Bool.and_eq_true] at hd
      exact hd.1
    by_cases hv : v = []
    · subst hv
      have h0 : digVal ([] : List Int) = 0 := rfl
      rw [hval, h0]
      refine ⟨?_, fun h => ?_⟩
      · unfold digs
        rw [if_pos (by omega)]
        simp; omega
      · rcases h with h | h
        · simp at hn; omega
        · simp at h; omega
    · have hk : v.length = k := by simp at hn; omega
      have hhead : (v ++ [d]).head? = v.head? := by cases v with
        | nil => exact absurd rfl hv
        | cons _ _ => rfl
      have hlen2 : 1 < k + 1 := by have := List.length_pos_iff.2 hv; omega
      have hvh : v.head? ≠ some 48 := fun h => hz ⟨hhead.trans h, hlen2⟩
      obtain ⟨i1, i2⟩ := ih v hk hv hdv (fun h => hvh h.1)
      have i3 := i2 (.inr hvh)
      rw [hval]
      refine ⟨?_, fun _ => by omega⟩
      unfold digs
      rw [if_neg (by omega), show (10 * digVal v + (d - 48)).toNat / 10 = (digVal v).toNat by omega, i1]
      congr 1
      rw [show (10 * digVal v + (d - 48)).toNat % 10 = (d - 48).toNat by omega]
      congr 1
      omega

def isNum (u : List Int) : Bool := (keyF u).2
theorem digs_numK {u : List Int} (h : isNum u = true) : digs (numK u).toNat = u := by
  unfold isNum keyF at h
  unfold numK keyF
  split at h
  · cases h
  · rename_i hb
    rw [if_neg hb]
    split at h
    · rename_i hd
      rw [if_pos hd]
      split at h
      · cases h
      · rename_i hm
        rw [if_neg hm]
        exact (digs_digVal u (fun h => hb (.inl h)) hd (fun h => hb (.inr (.inr h)))).1
    · cases h
end Go.Mach

set_option maxRecDepth 100000
namespace Go.Mach
open Res

/-- The keys of a cell: numbers first, rising. -/
def keysF (ks : Keys) : Keys := (((ks.filter isNum).map numK).mergeSort fun a b => decide (a ≤ b)).map (fun n => digs n.toNat) ++ ks.filter fun u => !isNum u

theorem sort_uniq {l m : List Int} (hp : l.Perm m) (hs : l.Pairwise (· ≤ ·)) : l = m.mergeSort fun a b => decide (a ≤ b) := by
  refine List.Perm.eq_of_pairwise (le := (· ≤ ·)) (fun a b _ _ h1 h2 => by omega) hs ?_ (hp.trans (List.mergeSort_perm m _).symm)
  have := List.pairwise_mergeSort (le := fun a b : Int => decide (a ≤ b)) (fun a b c h1 h2 => by simp at *; omega) (fun a b => by simp; omega) m
  exact this.imp fun h => by simpa using h

theorem srt_pairwise {p : Keys} (h : Srt p 0 p.length) : (p.map numK).Pairwise (· ≤ ·) := by
  rw [List.pairwise_iff_getElem]
  intro i j hi hj hij
  simp only [List.length_map] at hi hj
  have := h i j (by omega) (by omega) (by omega)
  rw [ka_at (p := (i : Int)) (x := p[i]) (by simp), ka_at (p := (j : Int)) (x := p[j]) (by simp)] at this
  simpa using this

theorem keys_eq (h : HeapT) (r : Int) {c : CellT} (h0 : 0 ≤ r) (hc : h.2[r.toNat]? = some c) (hl : c.props.length ≤ 2 ^ 30) : (R.heap_Heap_Keys h r).sat (· = keysF (c.props.map (·.1))) := by
  unfold R.heap_Heap_Keys
  have hlt := (List.getElem?_eq_some_iff.1 hc).1
  have hl : c.2.2.1.length ≤ 2 ^ 30 := hl
  refine law_given fun _ => law_bind_eq (has_ok h r) (law_f (by simp [h0]; omega) (law_idxS h0 hlt fun x hx _ => ?_))
  rw [hc] at hx
  cases hx
  refine law_bind_eq (a := (((c.2.2.1.map (·.1)).filter isNum, (c.2.2.1.map (·.1)).filter fun u => !isNum u) : Keys × Keys)) (law_for (fun x : Keys × Keys × Int => x.2.2) c.2.2.1.length (by omega) (fun x => (0 ≤ x.2.2 ∧ x.2.2 ≤ c.2.2.1.length) ∧ (x.1 = ((c.2.2.1.take x.2.2.toNat).map (·.1)).filter isNum ∧ x.2.1 = ((c.2.2.1.take x.2.2.toNat).map (·.1)).filter fun u => !isNum u)) ⟨⟨by simp, by simp only; omega⟩, rfl, rfl⟩ (fun x h => h.1) ?_) ?_
  · rintro ⟨p, q, i⟩ ⟨⟨h1, h2⟩, h3, h4⟩
    simp only at h1 h2 h3 h4
    refine law_br (fun h5 => ?_) fun h5 => ?_
    · rw [ilt_true] at h5
      simp only at h5
      have hi : i.toNat < c.2.2.1.length := by omega
      refine law_idxS h1 hi fun e he _ => law_bind_eq (a := e.1) (law_ok rfl) (law_given fun _ => law_bind_eq (key_ok e.1) (law_given fun _ => ?_))
      have he : c.2.2.1[i.toNat]? = some e := he
      have htk : (c.2.2.1.take (i + 1).toNat).map (·.1) = (c.2.2.1.take i.toNat).map (·.1) ++ [e.1] := by
        have hei : c.2.2.1[i.toNat] = e := by rw [List.getElem?_eq_getElem hi] at he; cases he; rfl
        rw [show (i + 1).toNat = i.toNat + 1 by omega, List.take_succ_eq_append_getElem hi, hei, List.map_append]
        rfl
      have hw : IntKind.wrap .i64 (i + 1) = i + 1 := wrap64 (by omega)
      have hpl : p.length ≤ i.toNat := by
        rw [h3]
        refine Nat.le_trans (List.length_filter_le _ _) ?_
        simp; omega
      have hql : q.length ≤ i.toNat := by
        rw [h4]
        refine Nat.le_trans (List.length_filter_le _ _) ?_
        simp; omega
      refine law_br (fun h6 => law_need ?_ (law_ok ⟨hw, ?_⟩)) fun h6 => law_need ?_ (law_ok ⟨hw, ?_⟩)
      · simp only [decide_eq_true_eq, List.length_singleton]; omega
      · have h6 : isNum e.1 = true := h6
        simp only
        rw [hw, htk, List.filter_append, List.filter_append, ← h3, ← h4]
        exact ⟨⟨by omega, by omega⟩, by simp [h6], by simp [h6]⟩
      · simp only [decide_eq_true_eq, List.length_singleton]; omega
      · have h6 : isNum e.1 = false := h6
        simp only
        rw [hw, htk, List.filter_append, List.filter_append, ← h3, ← h4]
        exact ⟨⟨by omega, by omega⟩, by simp [h6], by simp [h6]⟩
    · rw [ilt_false] at h5
      simp only at h5
      rw [List.take_of_length_le (by omega)] at h3 h4
      refine law_ok ?_
      simp only
      rw [h3, h4]
  · have hfl : ((c.2.2.1.map (·.1)).filter isNum).length ≤ 2 ^ 30 := by
      refine Nat.le_trans (List.length_filter_le _ _) ?_
      simp; omega
    have hfl2 : ((c.2.2.1.map (·.1)).filter fun u => !isNum u).length ≤ 2 ^ 30 := by
      refine Nat.le_trans (List.length_filter_le _ _) ?_
      simp; omega
    unfold keysF
    show Res.sat _ (fun x => x = (((((c.2.2.1.map (·.1)).filter isNum).map numK).mergeSort fun a b => decide (a ≤ b)).map fun n => digs n.toNat) ++ ((c.2.2.1.map (·.1)).filter fun u => !isNum u))
    have hmem : ∀ u ∈ (c.2.2.1.map (·.1)).filter isNum, isNum u = true := fun u hu => (List.mem_filter.1 hu).2
    generalize (c.2.2.1.map (·.1)).filter isNum = X at hfl hmem ⊢
    generalize ((c.2.2.1.map (·.1)).filter fun u => !isNum u) = Y at hfl2 ⊢
    refine law_bind' (sortStable_srt X (by omega)) fun y hy => law_given fun _ => ?_
    obtain ⟨_, p⟩ := y
    obtain ⟨hy1, hy2⟩ := hy
    simp only at hy1 hy2 ⊢
    have hlen := hy1.length_eq
    refine law_need (decide_eq_true (by omega)) (law_ok ?_)
    congr 1
    rw [← sort_uniq (hy1.map numK) (srt_pairwise (by rw [hlen]; exact hy2)), List.map_map]
    conv => lhs; rw [← List.map_id p]
    apply List.map_congr_left
    intro u hu
    exact (digs_numK (hmem u (hy1.mem_iff.1 hu))).symm

theorem keys_none (h : HeapT) (r : Int) (hn : (decide (0 ≤ r) && decide (r < h.2.length)) = false) : (R.heap_Heap_Keys h r).sat (· = []) := by
  unfold R.heap_Heap_Keys
  exact law_given fun _ => law_bind_eq (has_ok h r) (law_t (by rw [hn]; rfl) (law_ok rfl))
theorem refKeys_none (h : HeapT) (r : Int) (hn : (decide (0 ≤ r) && decide (r < h.2.length)) = false) : (R.renref9_Heap_Keys h r).sat (· = []) := by
  unfold R.renref9_Heap_Keys
  exact law_given fun _ => law_bind_eq (is_ok h r) (law_t (by rw [hn]; rfl) (law_ok rfl))

theorem law_atI {β : Type} {Q : β → Prop} (xs : List Int) (i : Int) {k : Int → Res β} (h0 : 0 ≤ i) (h1 : i < xs.length) (h : ∀ x : Int, xs[i.toNat]? = some x → (k x).sat Q) :
    (Res.need (ile 0 i && ilt i xs.length) (Res.idx (.int .i64) xs (0 + (i.toNat : Int)) k)).sat Q := by
  refine law_need (by rw [Bool.and_eq_true, ile_true, ilt_true]; exact ⟨h0, h1⟩) ?_
  have hi : ((0 : Int) + (i.toNat : Int)).toNat = i.toNat := idx0 i
  refine law_idx (by omega) (by rw [hi]; show i.toNat < xs.length; omega) fun x hx _ => h x (by rw [← hi]; exact hx)

theorem refKeys_eq (h : HeapT) (r : Int) {c : CellT} (h0 : 0 ≤ r) (hc : h.2[r.toNat]? = some c) (hl : c.props.length ≤ 2 ^ 30) : (R.renref9_Heap_Keys h r).sat (· = keysF (c.props.map (·.1))) := by
  unfold R.renref9_Heap_Keys
  have hlt := (List.getElem?_eq_some_iff.1 hc).1
  have hl : c.2.2.1.length ≤ 2 ^ 30 := hl
  refine law_given fun _ => law_bind_eq (is_ok h r) (law_f (by simp [h0]; omega) (law_idxS h0 hlt fun x hx _ => ?_))
  rw [hc] at hx
  cases hx
  refine law_bind' (R := fun (x : List Int × Keys) => (x.1.Perm (((c.2.2.1.map (·.1)).filter isNum).map numK) ∧ x.1.Pairwise (· ≤ ·)) ∧ x.2 = (c.2.2.1.map (·.1)).filter fun u => !isNum u) (law_for (fun x : List Int × Keys × Int => x.2.2) c.2.2.1.length (by omega) (fun x => (0 ≤ x.2.2 ∧ x.2.2 ≤ c.2.2.1.length) ∧ (x.1.Perm ((((c.2.2.1.take x.2.2.toNat).map (·.1)).filter isNum).map numK) ∧ x.1.Pairwise (· ≤ ·)) ∧ x.2.1 = ((c.2.2.1.take x.2.2.toNat).map (·.1)).filter fun u => !isNum u) ⟨⟨by simp, by simp only; omega⟩, ⟨List.Perm.refl _, List.Pairwise.nil⟩, rfl⟩ (fun x h => h.1) ?_) ?_
  · rintro ⟨ns, q, i⟩ ⟨⟨h1, h2⟩, ⟨h3, h3s⟩, h4⟩
    simp only at h1 h2 h3 h3s h4
    refine law_br (fun h5 => ?_) fun h5 => ?_
    · rw [ilt_true] at h5
      simp only at h5
      have hi : i.toNat < c.2.2.1.length := by omega
      refine law_idxS h1 hi fun e he _ => law_bind_eq (refKey_ok e.1) (law_given fun _ => ?_)
      have he : c.2.2.1[i.toNat]? = some e := he
      have htk : (c.2.2.1.take (i + 1).toNat).map (·.1) = (c.2.2.1.take i.toNat).map (·.1) ++ [e.1] := by
        have hei : c.2.2.1[i.toNat] = e := by rw [List.getElem?_eq_getElem hi] at he; cases he; rfl
        rw [show (i + 1).toNat = i.toNat + 1 by omega, List.take_succ_eq_append_getElem hi, hei, List.map_append]
        rfl
      have hw : IntKind.wrap .i64 (i + 1) = i + 1 := wrap64 (by omega)
      have hnl : ns.length ≤ i.toNat := by
        have := h3.length_eq
        rw [this, List.length_map]
        refine Nat.le_trans (List.length_filter_le _ _) ?_
        simp; omega
      have hql : q.length ≤ i.toNat := by
        rw [h4]
        refine Nat.le_trans (List.length_filter_le _ _) ?_
        simp; omega
      refine law_br (fun h6 => ?_) fun h6 => ?_
      · have h6 : isNum e.1 = false := notT h6
        refine law_idxS h1 hi fun e' he' _ => ?_
        have he' : c.2.2.1[i.toNat]? = some e' := he'
        rw [he] at he'
        cases he'
        refine law_bind_eq (copyUnits_ok _) (law_given fun _ => law_need ?_ (law_ok ⟨hw, ?_⟩))
        · simp only [decide_eq_true_eq, List.length_singleton]; omega
        · simp only
          rw [hw, htk, List.filter_append, List.filter_append, ← h4]
          exact ⟨⟨by omega, by omega⟩, ⟨by simpa [h6] using h3, h3s⟩, by simp [h6]⟩
      · have h6 : isNum e.1 = true := notF h6
        -- the place
        refine law_bind' (R := fun at_ => (0 ≤ at_ ∧ at_ ≤ ns.length) ∧ (∀ x ∈ ns.take at_.toNat, x ≤ numK e.1) ∧ ∀ x ∈ ns.drop at_.toNat, numK e.1 ≤ x)
          (law_loop (fun k (at_ : Int) => k = at_.toNat ∧ (0 ≤ at_ ∧ at_ ≤ ns.length) ∧ ∀ x ∈ ns.drop at_.toNat, numK e.1 ≤ x) ?_ _ ns.length _ (by have : fuel = 2 ^ 70 := rfl; omega) ⟨by simp, ⟨by omega, Int.le_refl _⟩, fun x hx => by simp at hx⟩) ?_
        · rintro k a ⟨hk, ⟨g1, g2⟩, g3⟩
          refine law_bind' (R := fun b => (b = true → 0 < a ∧ ∀ x, ns[(a - 1).toNat]? = some x → numK e.1 < x) ∧ (b = false → a = 0 ∨ ∀ x, ns[(a - 1).toNat]? = some x → x ≤ numK e.1)) ?_ fun b hb => law_br (fun h7 => ?_) fun h7 => law_ok ⟨⟨g1, g2⟩, ?_, g3⟩
          · refine law_br (fun h7 => ?_) fun h7 => law_ok ⟨(fun h => by cases h), fun _ => .inl (by rw [ilt_false] at h7; omega)⟩
            rw [ilt_true] at h7
            rw [wrap64 (n := a - 1) (by omega)]
            refine law_atI ns (a - 1) (by omega) (by omega) fun e9 he9 => law_ok ⟨fun h8 => ⟨h7, fun x hx => ?_⟩, fun h8 => .inr fun x hx => ?_⟩
            · rw [he9] at hx
              cases hx
              rw [ilt_true] at h8
              exact h8
            · rw [he9] at hx
              cases hx
              rw [ilt_false] at h8
              exact h8
          · obtain ⟨g4, g5⟩ := hb.1 h7
            refine law_ok ⟨(a - 1).toNat, by omega, by rw [wrap64 (by omega)], by rw [wrap64 (by omega)]; omega, ?_⟩
            rw [wrap64 (by omega)]
            have hlt2 : (a - 1).toNat < ns.length := by omega
            rw [List.drop_eq_getElem_cons hlt2]
            intro x hx
            rcases List.mem_cons.1 hx with rfl | hx
            · exact Int.le_of_lt (g5 _ (List.getElem?_eq_getElem hlt2))
            · rw [show (a - 1).toNat + 1 = a.toNat by omega] at hx
              exact g3 x hx
          · rcases hb.2 h7 with h8 | h8
            · rw [h8]; simp
            · intro x hx
              by_cases ha0 : a = 0
              · rw [ha0] at hx; simp at hx
              · have hlt2 : (a - 1).toNat < ns.length := by omega
                have hlast := h8 _ (List.getElem?_eq_getElem hlt2)
                obtain ⟨j, hj, rfl⟩ := List.getElem_of_mem hx
                simp only [List.length_take] at hj
                rw [List.getElem_take]
                by_cases hje : j = (a - 1).toNat
                · subst hje; exact hlast
                · have := List.pairwise_iff_getElem.1 h3s j (a - 1).toNat (by omega) hlt2 (by omega)
                  omega
        · rintro a ⟨⟨g1, g2⟩, g3, g4⟩
          have hbnd : (ile 0 a && ile a (ns.length : Int)) = true := by rw [Bool.and_eq_true, ile_true, ile_true]; exact ⟨g1, g2⟩
          have hdr : List.take (ns.length - a.toNat) (List.drop (0 + a.toNat) ns) = ns.drop a.toNat := by
            rw [Nat.zero_add, List.take_of_length_le (by simp)]
          simp only
          rw [hdr, List.drop_zero]
          have hdl : (ns.drop a.toNat).length ≤ 2 ^ 30 := by simp; omega
          refine law_need hbnd (law_need hbnd (law_need ?_ (law_need ?_ (law_ok ⟨hw, ?_⟩))))
          · simp only [decide_eq_true_eq, List.length_singleton]; omega
          · simp only [decide_eq_true_eq, List.length_append, List.length_singleton]; omega
          · simp only
            rw [hw, htk, List.filter_append, List.filter_append, ← h4]
            refine ⟨⟨by omega, by omega⟩, ⟨?_, ?_⟩, by simp [h6]⟩
            · have hkf : (keyF e.1).1 = numK e.1 := rfl
              rw [hkf]
              have h7 : [e.1].filter isNum = [e.1] := by simp [h6]
              rw [h7, List.map_append]
              refine List.Perm.trans ?_ (h3.append_right _)
              conv => rhs; rw [← List.take_append_drop a.toNat ns]
              rw [List.append_assoc]
              exact (List.perm_append_comm (l₁ := [numK e.1]) (l₂ := ns.drop a.toNat)).append_left _
            · rw [List.pairwise_append]
              have hpw := h3s
              rw [← List.take_append_drop a.toNat ns, List.pairwise_append] at hpw
              refine ⟨hpw.1, ?_, fun x hx y hy => ?_⟩
              · show (numK e.1 :: ns.drop a.toNat).Pairwise (· ≤ ·)
                exact List.Pairwise.cons g4 hpw.2.1
              · rcases List.mem_append.1 hy with h7 | h7
                · rw [List.mem_singleton.1 h7]
                  exact g3 x hx
                · exact hpw.2.2 x hx y h7
    · rw [ilt_false] at h5
      simp only at h5
      rw [List.take_of_length_le (by omega)] at h3 h4
      exact law_ok ⟨⟨h3, h3s⟩, h4⟩
  · rintro ⟨ns, q⟩ ⟨⟨h3, h3s⟩, h4⟩
    simp only at h3 h3s h4 ⊢
    have hnl : ns.length ≤ 2 ^ 30 := by
      have := h3.length_eq
      rw [this, List.length_map]
      refine Nat.le_trans (List.length_filter_le _ _) ?_
      simp; omega
    have hql : q.length ≤ 2 ^ 30 := by
      rw [h4]
      refine Nat.le_trans (List.length_filter_le _ _) ?_
      simp; omega
    have hrng : ∀ n ∈ ns, 0 ≤ n ∧ n ≤ 4294967294 := fun n hn => by
      obtain ⟨u, _, rfl⟩ := List.mem_map.1 (h3.mem_iff.1 hn)
      exact numK_range u
    refine law_bind_eq (a := ns.map fun n => digs n.toNat) (law_for (fun x : Keys × Int => x.2) ns.length (by omega) (fun x => (0 ≤ x.2 ∧ x.2 ≤ ns.length) ∧ x.1 = (ns.take x.2.toNat).map fun n => digs n.toNat) ⟨⟨by simp, by simp only; omega⟩, rfl⟩ (fun x h => h.1) ?_) ?_
    · rintro ⟨o, i⟩ ⟨⟨g1, g2⟩, g3⟩
      simp only at g1 g2 g3
      refine law_br (fun g4 => ?_) fun g4 => ?_
      · rw [ilt_true] at g4
        simp only at g4 ⊢
        have hi : i.toNat < ns.length := by omega
        refine law_atI ns i g1 g4 fun e he => ?_
        have hei : ns[i.toNat] = e := by rw [List.getElem?_eq_getElem hi] at he; cases he; rfl
        have her := hrng e (List.mem_of_getElem? he)
        have hdec := dec_ok fuel e.toNat (by have : fuel = 2 ^ 70 := rfl; omega) (by omega)
        rw [Int.toNat_of_nonneg her.1] at hdec
        have hw : IntKind.wrap .i64 (i + 1) = i + 1 := wrap64 (by omega)
        have hol : o.length ≤ i.toNat := by rw [g3]; simp; omega
        have hdl := digs_len e.toNat 17 (by omega)
        refine law_bind_eq hdec (law_given fun _ => law_bind_eq (ascii_ok _ (by simp [byts]; omega)) (law_given fun _ => law_need ?_ (law_ok ⟨hw, ?_⟩)))
        · simp only [decide_eq_true_eq, List.length_singleton]; omega
        · simp only
          rw [hw, g3, show (i + 1).toNat = i.toNat + 1 by omega, List.take_succ_eq_append_getElem hi, hei, List.map_append]
          refine ⟨⟨by omega, by omega⟩, ?_⟩
          rw [nums_byts fun x hx => by have := digs_range e.toNat x hx; omega]
          rfl
      · rw [ilt_false] at g4
        simp only at g4
        refine law_ok ?_
        simp only
        rw [g3, List.take_of_length_le (by omega)]
    · refine law_need ?_ (law_ok ?_)
      · simp only [decide_eq_true_eq, List.length_map]; omega
      · show _ ++ q = keysF (c.2.2.1.map (·.1))
        unfold keysF
        rw [← sort_uniq h3 h3s, h4]
end Go.Mach

set_option maxRecDepth 100000
namespace Go.Mach
open Res

theorem weight_ok2 (c : CellT) : (R.renlaw9_weight c).sat fun y => (0 ≤ y ∧ y ≤ 300000) ∧ (c.bytes.length ≤ y ∨ 20000 < y) ∧ (c.props.length ≤ y ∨ 20000 < y) ∧ (c.slots.length ≤ y ∨ 20000 < y) := by
  unfold R.renlaw9_weight
  refine law_given fun hok => ?_
  have hlens : c.props.length < 2 ^ 60 ∧ c.slots.length < 2 ^ 60 := by
    simp only [oks, List.map, Par.v, Sh.ok, Bool.and_eq_true] at hok
    have h1 := of_decide_eq_true hok.2.2.1
    have h2 := of_decide_eq_true hok.2.2.2.1
    have e1 : (Sh.frz T_heap_Prop).minB = 105 := rfl
    have e2 : (Sh.frz T_heap_Slot).minB = 99 := rfl
    rw [e1] at h1
    rw [e2] at h2
    have h1 : c.props.length * 105 ≤ 2 ^ 47 := h1
    have h2 : c.slots.length * 99 ≤ 2 ^ 47 := h2
    omega
  obtain ⟨hp, hs⟩ := hlens
  have m1 := minI_range c.2.2.2.2.2.2.2.2.2.2.2.2.length
  have mb : (c.bytes.length : Int) ≤ minI (c.2.2.2.2.2.2.2.2.2.2.2.2.length : Int) 20001 ∨ 20000 < minI (c.2.2.2.2.2.2.2.2.2.2.2.2.length : Int) 20001 := by
    rw [minI_eq]
    show (c.2.2.2.2.2.2.2.2.2.2.2.2.length : Int) ≤ _ ∨ _
    omega
  have m2 := minI_range c.2.2.2.2.1.length
  have m3 := minI_range c.2.2.2.2.2.2.2.1.2.2.2.1.length
  have m4 := minI_range c.2.2.2.2.2.2.2.1.2.2.1.2.length
  generalize minI (c.2.2.2.2.2.2.2.2.2.2.2.2.length : Int) 20001 = q1 at m1 mb ⊢
  generalize minI (c.2.2.2.2.1.length : Int) 20001 = q2 at m2 ⊢
  generalize minI (c.2.2.2.2.2.2.2.1.2.2.2.1.length : Int) 20001 = q3 at m3 ⊢
  generalize minI (c.2.2.2.2.2.2.2.1.2.2.1.2.length : Int) 20001 = q4 at m4 ⊢
  rw [wrap64 (n := q1 + q2) (by omega), wrap64 (n := q1 + q2 + q3) (by omega), wrap64 (n := q1 + q2 + q3 + q4) (by omega)]
  refine law_bind' (R := fun n => (0 ≤ n ∧ n ≤ 200000 ∧ q1 ≤ n) ∧ (c.props.length ≤ n ∨ 20000 < n)) (law_for (fun x : Int × Int => x.2) c.props.length (by omega) (fun x => (0 ≤ x.2 ∧ x.2 ≤ c.props.length) ∧ x.2 ≤ x.1 ∧ x.1 ≤ 200000 ∧ q1 ≤ x.1) ⟨⟨by simp, by simp⟩, by simp only; omega, by simp only; omega, by simp only; omega⟩ (fun x h => h.1) ?_) ?_
  · rintro ⟨n, i⟩ ⟨⟨h1, h2⟩, h3, h4, h4'⟩
    simp only at h1 h2 h3 h4 h4'
    refine law_bind' (R := fun b => (b = true → i < c.props.length ∧ n ≤ 20000) ∧ (b = false → c.props.length ≤ i ∨ 20000 < n)) ?_ ?_
    · refine law_br (fun h5 => ?_) fun h5 => ?_
      · rw [ilt_true] at h5
        refine law_ok ⟨fun h6 => ?_, fun h6 => ?_⟩
        · rw [ile_true] at h6; exact ⟨h5, h6⟩
        · rw [ile_false] at h6; exact .inr h6
      · rw [ilt_false] at h5
        exact law_ok ⟨(fun h => by cases h), fun _ => .inl h5⟩
    · intro b hb
      refine law_br (fun h5 => ?_) fun h5 => ?_
      · obtain ⟨h6, h7⟩ := hb.1 h5
        have hi : i.toNat < c.props.length := by omega
        refine law_idxS h1 hi fun e3 _ _ => law_idxS h1 hi fun e4 _ _ => law_idxS h1 hi fun e5 _ _ => law_ok ⟨wrap64 (by omega), ?_⟩
        have k1 := minI_range e3.1.length
        have k2 := minI_range e4.2.2.2.2.1.length
        have k3 := minI_range e5.2.2.2.1.2.length
        generalize minI (e3.1.length : Int) 20001 = p1 at k1 ⊢
        generalize minI (e4.2.2.2.2.1.length : Int) 20001 = p2 at k2 ⊢
        generalize minI (e5.2.2.2.1.2.length : Int) 20001 = p3 at k3 ⊢
        simp only
        rw [wrap64 (n := n + 1) (by omega), wrap64 (n := n + 1 + p1) (by omega), wrap64 (n := n + 1 + p1 + p2) (by omega), wrap64 (n := n + 1 + p1 + p2 + p3) (by omega), wrap64 (n := i + 1) (by omega)]
        exact ⟨⟨by omega, by omega⟩, by omega, by omega, by omega⟩
      · refine law_ok ⟨⟨by omega, by omega, by omega⟩, ?_⟩
        rcases hb.2 h5 with h6 | h6
        · left; simp only; omega
        · exact .inr h6
  · rintro n ⟨⟨hn0, hn1, hnq⟩, hnp⟩
    refine law_bind' (R := fun m => (n ≤ m ∧ m ≤ 300000) ∧ (c.slots.length ≤ m ∨ 20000 < m)) (law_for (fun x : Int × Int => x.2) c.slots.length (by omega) (fun x => (0 ≤ x.2 ∧ x.2 ≤ c.slots.length) ∧ x.2 ≤ x.1 ∧ x.1 ≤ 300000 ∧ n ≤ x.1) ⟨⟨by simp, by simp⟩, by simp only; omega, by simp only; omega, by simp only; omega⟩ (fun x h => h.1) ?_) ?_
    · rintro ⟨m, i⟩ ⟨⟨h1, h2⟩, h3, h4, h4'⟩
      simp only at h1 h2 h3 h4 h4'
      refine law_bind' (R := fun b => (b = true → i < c.slots.length ∧ m ≤ 20000) ∧ (b = false → c.slots.length ≤ i ∨ 20000 < m)) ?_ ?_
      · refine law_br (fun h5 => ?_) fun h5 => ?_
        · rw [ilt_true] at h5
          refine law_ok ⟨fun h6 => ?_, fun h6 => ?_⟩
          · rw [ile_true] at h6; exact ⟨h5, h6⟩
          · rw [ile_false] at h6; exact .inr h6
        · rw [ilt_false] at h5
          exact law_ok ⟨(fun h => by cases h), fun _ => .inl h5⟩
      · intro b hb
        refine law_br (fun h5 => ?_) fun h5 => ?_
        · obtain ⟨h6, h7⟩ := hb.1 h5
          have hi : i.toNat < c.slots.length := by omega
          refine law_idxS h1 hi fun e3 _ _ => law_idxS h1 hi fun e4 _ _ => law_idxS h1 hi fun e5 _ _ => law_ok ⟨wrap64 (by omega), ?_⟩
          have k1 := minI_range e3.1.length
          have k2 := minI_range e4.2.1.2.2.2.1.length
          have k3 := minI_range e5.2.1.2.2.1.2.length
          generalize minI (e3.1.length : Int) 20001 = p1 at k1 ⊢
          generalize minI (e4.2.1.2.2.2.1.length : Int) 20001 = p2 at k2 ⊢
          generalize minI (e5.2.1.2.2.1.2.length : Int) 20001 = p3 at k3 ⊢
          simp only
          rw [wrap64 (n := m + 1) (by omega), wrap64 (n := m + 1 + p1) (by omega), wrap64 (n := m + 1 + p1 + p2) (by omega), wrap64 (n := m + 1 + p1 + p2 + p3) (by omega), wrap64 (n := i + 1) (by omega)]
          exact ⟨⟨by omega, by omega⟩, by omega, by omega, by omega⟩
        · refine law_ok ⟨⟨by omega, by omega⟩, ?_⟩
          rcases hb.2 h5 with h6 | h6
          · left; simp only; omega
          · exact .inr h6
    · rintro m ⟨⟨hm1, hm3⟩, hm2⟩
      refine law_ok ⟨⟨by omega, hm3⟩, ?_, ?_, hm2⟩
      · rcases mb with h | h
        · left; omega
        · right; omega
      · rcases hnp with h | h
        · left; omega
        · right; omega

/-! ### Few operations -/

abbrev OpT := Int × Int × Int × CellT × List Int × List UInt8 × ValT × Bool × Bool × List Int
def cellB (K : Nat) (c : CellT) : Prop := c.props.length ≤ K ∧ c.slots.length ≤ K ∧ c.bytes.length ≤ 20000

theorem fewOps_ok (l : List OpT) : (R.renlaw9_few l).sat fun y => y = true → l.length ≤ 300 ∧ ∀ o ∈ l, cellB 20000 o.2.2.2.1 := by
  unfold R.renlaw9_few
  refine law_given fun _ => law_bind' (R := fun n => n ≤ 20000 → l.length ≤ 300 → ∀ o ∈ l, cellB 20000 o.2.2.2.1) (law_for (fun x : Int × Int => x.2) 300 (by omega) (fun x => (0 ≤ x.2 ∧ x.2 ≤ 300) ∧ (0 ≤ x.1 ∧ x.1 ≤ 1000000) ∧ (x.1 ≤ 20000 → ∀ o ∈ l.take x.2.toNat, cellB 20000 o.2.2.2.1)) ⟨⟨by simp, by simp⟩, ⟨by simp, by simp⟩, fun _ o ho => by simp at ho⟩ (fun x h => h.1) ?_) fun n hn => ?_
  · rintro ⟨n, i⟩ ⟨⟨h1, h2⟩, ⟨h3, h4⟩, h5⟩
    simp only at h1 h2 h3 h4 h5
    refine law_bind' (R := fun b => (b = true → i < l.length ∧ i < 300 ∧ n ≤ 20000) ∧ (b = false → (l.length : Int) ≤ i ∨ 300 ≤ i ∨ 20000 < n)) ?_ fun b hb => ?_
    · refine law_br (fun h6 => law_br (fun h7 => law_ok ⟨fun h8 => ?_, fun h8 => ?_⟩) fun h7 => law_ok ⟨(fun h => by cases h), fun _ => ?_⟩) fun h6 => law_ok ⟨(fun h => by cases h), fun _ => ?_⟩
      · rw [ilt_true] at h6 h7
        rw [ile_true] at h8
        exact ⟨h6, h7, h8⟩
      · rw [ile_false] at h8
        exact .inr (.inr h8)
      · rw [ilt_false] at h7
        exact .inr (.inl h7)
      · rw [ilt_false] at h6
        exact .inl h6
    · refine law_br (fun h6 => ?_) fun h6 => law_ok fun hn hl => ?_
      · obtain ⟨h7, h8, h9⟩ := hb.1 h6
        have hi : i.toNat < l.length := by omega
        refine law_idxS h1 hi fun e he _ => law_bind' (weight_ok2 e.2.2.2.1) fun w hw => law_given fun _ => ?_
        have he : l[i.toNat]? = some e := he
        have hei : l[i.toNat] = e := by rw [List.getElem?_eq_getElem hi] at he; cases he; rfl
        refine law_idxS h1 hi fun e5 _ _ => law_idxS h1 hi fun e6 _ _ => law_idxS h1 hi fun e7 _ _ => law_idxS h1 hi fun e8 _ _ => law_idxS h1 hi fun e9 _ _ => ?_
        have k1 := minI_range e5.2.2.2.2.1.length
        have k2 := minI_range e6.2.2.2.2.2.1.length
        have k3 := minI_range e7.2.2.2.2.2.2.1.2.2.2.1.length
        have k4 := minI_range e8.2.2.2.2.2.2.1.2.2.1.2.length
        have k5 := minI_range e9.2.2.2.2.2.2.2.2.2.length
        generalize minI (e5.2.2.2.2.1.length : Int) 20001 = p1 at k1 ⊢
        generalize minI (e6.2.2.2.2.2.1.length : Int) 20001 = p2 at k2 ⊢
        generalize minI (e7.2.2.2.2.2.2.1.2.2.2.1.length : Int) 20001 = p3 at k3 ⊢
        generalize minI (e8.2.2.2.2.2.2.1.2.2.1.2.length : Int) 20001 = p4 at k4 ⊢
        generalize minI (e9.2.2.2.2.2.2.2.2.2.length : Int) 20001 = p5 at k5 ⊢
        have hwr : IntKind.wrap .i64 (i + 1) = i + 1 := wrap64 (by omega)
        refine law_ok ⟨hwr, ?_⟩
        simp only
        rw [hwr, wrap64 (n := n + w) (by omega), wrap64 (n := n + w + p1) (by omega), wrap64 (n := n + w + p1 + p2) (by omega), wrap64 (n := n + w + p1 + p2 + p3) (by omega), wrap64 (n := n + w + p1 + p2 + p3 + p4) (by omega), wrap64 (n := n + w + p1 + p2 + p3 + p4 + p5) (by omega)]
        refine ⟨⟨by omega, by omega⟩, ⟨by omega, by omega⟩, fun hsm o ho => ?_⟩
        rw [show (i + 1).toNat = i.toNat + 1 by omega, List.take_succ_eq_append_getElem hi, hei] at ho
        rcases List.mem_append.1 ho with ho | ho
        · exact h5 (by omega) o ho
        · rw [List.mem_singleton.1 ho]
          obtain ⟨_, b1, b2, b3⟩ := hw
          exact ⟨by omega, by omega, by omega⟩
      · have h7 := hb.2 h6
        simp only at hn
        rw [List.take_of_length_le (by omega)] at h5
        exact h5 hn
  · refine law_br (fun h1 => law_ok fun h2 => ?_) fun _ => law_ok fun h => by cases h
    rw [ile_true] at h1 h2
    exact ⟨by omega, hn h2 (by omega)⟩

/-! ### What stays bounded -/

def HBnd (K : Nat) (h : HeapT) : Prop := ∀ c ∈ h.2, cellB K c

theorem HBnd.set {K : Nat} {h : HeapT} {i : Nat} {c : CellT} (hb : HBnd K h) (hc : cellB (K + 1) c) : HBnd (K + 1) (h.1, h.2.set i c) := fun d hd => by
  rcases List.mem_or_eq_of_mem_set hd with hd | rfl
  · obtain ⟨h1, h2, h3⟩ := hb d hd
    exact ⟨by omega, by omega, h3⟩
  · exact hc
theorem HBnd.up {K : Nat} {h : HeapT} (hb : HBnd K h) : HBnd (K + 1) h := fun d hd => by
  obtain ⟨h1, h2, h3⟩ := hb d hd
  exact ⟨by omega, by omega, h3⟩
theorem HBnd.props {K : Nat} {h : HeapT} (hb : HBnd K h) (hK : K ≤ 2 ^ 30) : ∀ c ∈ h.2, c.props.length ≤ 2 ^ 30 := fun c hc => Nat.le_trans (hb c hc).1 hK
theorem HBnd.slots {K : Nat} {h : HeapT} (hb : HBnd K h) (hK : K ≤ 2 ^ 30) : ∀ c ∈ h.2, c.slots.length ≤ 2 ^ 30 := fun c hc => Nat.le_trans (hb c hc).2.1 hK
theorem HBnd.bytes {K : Nat} {h : HeapT} (hb : HBnd K h) : ∀ c ∈ h.2, c.bytes.length ≤ 2 ^ 40 := fun c hc => Nat.le_trans (hb c hc).2.2 (by decide)
theorem HBnd.copy {K : Nat} {h : HeapT} (hb : HBnd K h) (hK : K ≤ 2 ^ 30) : ∀ c ∈ h.2, copyOk c := fun c hc => by
  have h1 : c.2.2.1.length ≤ K := (hb c hc).1
  have h2 : c.2.2.2.1.length ≤ K := (hb c hc).2.1
  unfold copyOk
  omega

theorem bnd_make {K : Nat} {h : HeapT} {c : CellT} (hb : HBnd K h) (hc : cellB K c) : HBnd (K + 1) (makeF h c).2 ∧ (makeF h c).2.2.length ≤ h.2.length + 1 := by
  unfold makeF
  split
  · exact ⟨hb.up, by simp⟩
  · refine ⟨fun d hd => ?_, by simp⟩
    rcases List.mem_append.1 hd with hd | hd
    · exact hb.up d hd
    · rw [List.mem_singleton.1 hd]
      exact ⟨by have := hc.1; omega, by have := hc.2.1; omega, hc.2.2⟩
theorem putP_len (ps : List PropT) (k : List Int) (v : ValT) : (putP ps k v).length ≤ ps.length + 1 := by
  unfold putP
  split <;> simp
theorem bnd_put {K : Nat} {h : HeapT} {r : Int} {key : List Int} {v : ValT} (hb : HBnd K h) : HBnd (K + 1) (putF h r key v).2 ∧ (putF h r key v).2.2.length ≤ h.2.length + 1 := by
  unfold putF
  split
  · cases hc : h.2[r.toNat]? with
    | none => exact ⟨hb.up, by simp⟩
    | some c =>
      have hcb := hb c (List.mem_of_getElem? hc)
      refine ⟨hb.set ⟨?_, ?_, hcb.2.2⟩, by simp⟩
      · show (putP c.props key v).length ≤ _
        have := putP_len c.props key v
        have := hcb.1
        omega
      · show c.slots.length ≤ _
        have := hcb.2.1
        omega
  · exact ⟨hb.up, by simp⟩
theorem bnd_drop {K : Nat} {h : HeapT} {r : Int} (hb : HBnd K h) : HBnd (K + 1) (dropF h r).2 ∧ (dropF h r).2.2.length ≤ h.2.length + 1 := by
  unfold dropF
  split
  · cases hc : h.2[r.toNat]? with
    | none => exact ⟨hb.up, by simp⟩
    | some c =>
      have hcb := hb c (List.mem_of_getElem? hc)
      simp only
      split
      · exact ⟨hb.up, by simp⟩
      · refine ⟨hb.set ⟨?_, ?_, hcb.2.2⟩, by simp⟩
        · show (c.props.dropLast).length ≤ _
          have := hcb.1
          simp; omega
        · show c.slots.length ≤ _
          have := hcb.2.1
          omega
  · exact ⟨hb.up, by simp⟩
theorem bnd_decl {K : Nat} {h : HeapT} {r : Int} {name : List UInt8} {v : ValT} {y z : Bool} (hb : HBnd K h) : HBnd (K + 1) (declF h r name v y z).2 ∧ (declF h r name v y z).2.2.length ≤ h.2.length + 1 := by
  unfold declF
  split
  · cases hc : h.2[r.toNat]? with
    | none => exact ⟨hb.up, by simp⟩
    | some c =>
      have hcb := hb c (List.mem_of_getElem? hc)
      simp only
      split
      · exact ⟨hb.up, by simp⟩
      · refine ⟨hb.set ⟨?_, ?_, hcb.2.2⟩, by simp⟩
        · show c.props.length ≤ _
          have := hcb.1
          omega
        · show (c.slots ++ [(name, v, y, z)]).length ≤ _
          have := hcb.2.1
          simp; omega
  · exact ⟨hb.up, by simp⟩
theorem bnd_give {K : Nat} {h : HeapT} {r : Int} {name : List UInt8} {v : ValT} {y : Bool} (hb : HBnd K h) : HBnd (K + 1) (giveF h r name v y).2 ∧ (giveF h r name v y).2.2.length ≤ h.2.length + 1 := by
  unfold giveF
  split
  · cases hc : h.2[r.toNat]? with
    | none => exact ⟨hb.up, by simp⟩
    | some c =>
      have hcb := hb c (List.mem_of_getElem? hc)
      simp only
      split
      · exact ⟨hb.up, by simp⟩
      · split
        · exact ⟨hb.up, by simp⟩
        · rename_i i _ _ s _
          refine ⟨hb.set ⟨?_, ?_, hcb.2.2⟩, by simp⟩
          · show c.props.length ≤ _
            have := hcb.1
            omega
          · show (c.slots.set i (s.1, v, y, s.2.2.2)).length ≤ _
            have := hcb.2.1
            simp; omega
  · exact ⟨hb.up, by simp⟩
theorem bnd_write {K : Nat} {h : HeapT} {r a : Int} {b : List Int} (hb : HBnd K h) : HBnd (K + 1) (writeF h r a b).2 ∧ (writeF h r a b).2.2.length ≤ h.2.length + 1 := by
  unfold writeF
  split
  · cases hc : h.2[r.toNat]? with
    | none => exact ⟨hb.up, by simp⟩
    | some c =>
      have hcb := hb c (List.mem_of_getElem? hc)
      simp only
      split
      · rename_i hw
        refine ⟨hb.set ⟨?_, ?_, ?_⟩, by simp⟩
        · show c.props.length ≤ _
          have := hcb.1
          omega
        · show c.slots.length ≤ _
          have := hcb.2.1
          omega
        · show (c.bytes.take a.toNat ++ (b ++ c.bytes.drop (a.toNat + b.length))).length ≤ _
          have := hcb.2.2
          obtain ⟨h1, h2⟩ := hw
          simp; omega
      · exact ⟨hb.up, by simp⟩
  · exact ⟨hb.up, by simp⟩
end Go.Mach

set_option maxRecDepth 100000
namespace Go.Mach
open Res

def DoesQ (K : Nat) (h : HeapT) (y : Bool × HeapT × HeapT) : Prop := y.1 = true ∧ y.2.1 = y.2.2 ∧ HBnd (K + 1) y.2.1 ∧ y.2.1.2.length ≤ h.2.length + 1
theorem does_same {K : Nat} {h g : HeapT} {b : Bool} (hb : b = true) (hg : HBnd (K + 1) g ∧ g.2.length ≤ h.2.length + 1) : DoesQ K h (b, g, g) := ⟨hb, rfl, hg.1, hg.2⟩
theorem is_same (v : ValT) : (R.renlaw9_Is v v).sat (· = true) := by
  unfold R.renlaw9_Is
  exact law_given fun _ => law_bind_eq (plain_ok v) (law_given fun _ => law_bind_eq (refSame_ok v v) (law_ok (by simp)))

theorem does_ok (h : HeapT) (o : OpT) (K : Nat) (hb : HBnd K h) (hK0 : 20000 ≤ K) (hK : K ≤ 2 ^ 29) (hn : h.2.length ≤ 5000) (hc : cellB 20000 o.2.2.2.1) : (R.renlaw9_does h h o).sat (DoesQ K h) := by
  unfold R.renlaw9_does
  have hK' : K ≤ 2 ^ 30 := by omega
  have hup : HBnd (K + 1) h ∧ h.2.length ≤ h.2.length + 1 := ⟨hb.up, by omega⟩
  obtain ⟨kind, ref, at_, c, key, name, v, yes, also, bs⟩ := o
  have hc : cellB 20000 c := hc
  have hp : c.props.length ≤ 2 ^ 30 := Nat.le_trans hc.1 (by decide)
  have hs : c.slots.length ≤ 2 ^ 30 := Nat.le_trans hc.2.1 (by decide)
  have hcK : cellB K c := ⟨by have := hc.1; omega, by have := hc.2.1; omega, hc.2.2⟩
  have hco : copyOk c := by
    have h1 : c.2.2.1.length ≤ 20000 := hc.1
    have h2 : c.2.2.2.1.length ≤ 20000 := hc.2.1
    unfold copyOk
    omega
  refine law_given fun _ => law_bind_eq (plain_ok v) (law_given fun _ => ?_)
  refine law_br (fun _ => ?_) fun _ => ?_
  · refine law_bind_eq (make_ok h c hco (by omega)) (law_given fun _ => law_bind_eq (law_cellOf c hp hs) (law_given fun _ => law_bind_eq (refMake_ok h c hp hs (by omega)) (law_given fun _ => law_t (by simp) (law_ok ?_))))
    exact does_same (by simp) (bnd_make hb hcK)
  refine law_br (fun _ => ?_) fun _ => ?_
  · refine law_bind_eq (put_ok h ref key v (hb.props hK')) (law_given fun _ => law_bind_eq (refPut_ok h ref key v (hb.props hK')) (law_given fun _ => law_ok ?_))
    exact does_same (by simp) (bnd_put hb)
  refine law_br (fun _ => ?_) fun _ => ?_
  · refine law_bind_eq (drop_ok h ref (hb.props hK')) (law_given fun _ => law_bind_eq (refDrop_ok h ref (hb.props hK')) (law_given fun _ => law_bind_eq (is_same _) (law_t rfl (law_ok ?_))))
    exact does_same (by simp) (bnd_drop hb)
  refine law_br (fun _ => ?_) fun _ => ?_
  · refine law_bind_eq (decl_ok h ref name v yes also (hb.slots hK')) (law_given fun _ => law_bind_eq (refDecl_ok h ref name v yes also (hb.slots hK')) (law_given fun _ => law_ok ?_))
    exact does_same (by simp) (bnd_decl hb)
  refine law_br (fun _ => ?_) fun _ => ?_
  · refine law_bind_eq (give_ok h ref name v yes (hb.slots hK')) (law_given fun _ => law_bind_eq (refGive_ok h ref name v yes (hb.slots hK')) (law_given fun _ => law_ok ?_))
    exact does_same (by simp) (bnd_give hb)
  refine law_br (fun _ => ?_) fun _ => ?_
  · refine law_bind_eq (write_ok h ref at_ bs hb.bytes) (law_given fun _ => law_bind_eq (refWrite_ok h ref at_ bs hb.bytes) (law_given fun _ => law_ok ?_))
    exact does_same (by simp) (bnd_write hb)
  refine law_br (fun _ => ?_) fun _ => ?_
  · refine law_bind_eq (ownOp_ok h ref key (hb.props hK')) (law_given fun _ => law_bind_eq (refOwn_ok h ref key (hb.props hK')) (law_given fun _ => ?_))
    refine law_bind_eq (find_ok h ref key (hb.props hK') (by omega)) (law_given fun _ => law_bind_eq (refFind_ok h ref key (hb.props hK') (by omega)) (law_given fun _ => ?_))
    refine law_bind_eq (is_same _) (law_t rfl (law_t (beq_self_eq_true _) (law_bind_eq (is_same _) (law_t rfl (law_t (beq_self_eq_true _) (law_ok ?_))))))
    exact does_same (beq_self_eq_true _) hup
  refine law_br (fun _ => ?_) fun _ => ?_
  · refine law_bind_eq (look_ok h ref name (hb.slots hK') (by omega)) (law_given fun _ => law_bind_eq (refLook_ok h ref name (hb.slots hK') (by omega)) (law_given fun _ => ?_))
    refine law_t (beq_self_eq_true _) (law_bind_eq (is_same _) (law_t rfl (law_t (beq_self_eq_true _) (law_t (beq_self_eq_true _) (law_t (beq_self_eq_true _) (law_ok ?_))))))
    exact does_same (beq_self_eq_true _) hup
  exact law_ok (does_same rfl hup)
end Go.Mach

set_option maxRecDepth 100000
namespace Go.Mach
open Res

theorem law_sumL {γ δ β : Type} {Q : β → Prop} {a : γ} (f : γ → Res β) (g : δ → Res β) (h : (f a).sat Q) : (sum (.inl a) f g).sat Q := h

theorem keysF_len (ks : Keys) : (keysF ks).length ≤ 2 * ks.length := by
  have h1 := List.length_filter_le isNum ks
  have h2 := List.length_filter_le (fun u => !isNum u) ks
  simp only [keysF, List.length_append, List.length_map, List.length_mergeSort]
  omega

theorem cell_none (h : HeapT) (r : Int) (hn : (decide (0 ≤ r) && decide (r < h.2.length)) = false) : (R.heap_Heap_Cell h r).sat (· = (((0, 0, [], [], [], 0, 0, zeroV, 0, 0, 0, 0, []) : CellT), false)) := by
  unfold R.heap_Heap_Cell
  exact law_given fun _ => law_bind_eq (has_ok h r) (law_t (by rw [hn]; rfl) (law_ok rfl))
theorem cell_some (h : HeapT) (r : Int) (hc : ∀ c ∈ h.2, copyOk c) (h0 : 0 ≤ r) {c : CellT} (h1 : h.2[r.toNat]? = some c) : (R.heap_Heap_Cell h r).sat (· = (c, true)) := by
  refine law_mono (cell_ok h r hc) fun y hy => ?_
  have hlt := (List.getElem?_eq_some_iff.1 h1).1
  obtain ⟨d, hd, rfl⟩ := hy.1 ⟨h0, by omega⟩
  rw [h1] at hd
  cases hd
  rfl

theorem sameKeys_ok (l : List (List Int)) (hl : l.length < 2 ^ 62) : (R.renlaw9_sameKeys l l).sat (· = true) := by
  unfold R.renlaw9_sameKeys
  refine law_given fun _ => law_f (by simp) ?_
  refine law_bind_eq (a := (Sum.inl () : Unit ⊕ Bool)) (law_for (fun i : Int => i) l.length (by omega) (fun i => 0 ≤ i ∧ i ≤ l.length) (by simp) (fun i h => h) ?_) (law_inl (law_ok rfl))
  · rintro i ⟨h1, h2⟩
    refine law_br (fun h3 => ?_) fun h3 => law_ok rfl
    rw [ilt_true] at h3
    have hi : i.toNat < l.length := by omega
    refine law_idxS h1 hi fun e he _ => law_idxS h1 hi fun e' he' _ => ?_
    have he : l[i.toNat]? = some e := he
    have he' : l[i.toNat]? = some e' := he'
    rw [he] at he'
    cases he'
    exact law_bind_eq (units_ok e e) (law_f (by simp) (law_ok ⟨wrap64 (by omega), by rw [wrap64 (by omega)]; omega⟩))

theorem same_heap_ok (h : HeapT) (K : Nat) (hb : HBnd K h) (hK : K ≤ 2 ^ 29) (hn : h.2.length ≤ 5000) : (R.renlaw9_same h h).sat (· = true) := by
  unfold R.renlaw9_same
  have hK' : K ≤ 2 ^ 30 := by omega
  refine law_given fun _ => law_bind_eq (a := false) ?_ (law_f rfl ?_)
  · refine law_bind_eq (a := (h.2.length : Int)) ?_ (law_given fun _ => law_f (by simp) (law_bind_eq (a := h.1) ?_ (law_given fun _ => law_ok (by simp))))
    · unfold R.heap_Heap_Len
      exact law_given fun _ => law_ok rfl
    · unfold R.heap_Heap_Room
      exact law_given fun _ => law_ok rfl
  refine law_bind_eq (a := (Sum.inl () : Unit ⊕ Bool)) (law_for (fun i : Int => i + 1) (h.2.length + 2) (by omega) (fun i => -1 ≤ i ∧ i ≤ h.2.length + 1) (by constructor <;> omega) (fun i h => by constructor <;> omega) ?_) (law_inl (law_ok rfl))
  rintro i ⟨h1, h2⟩
  refine law_br (fun h3 => ?_) fun h3 => law_ok rfl
  rw [ile_true] at h3
  have hw : IntKind.wrap .i64 (i + 1) = i + 1 := wrap64 (by omega)
  by_cases hin : 0 ≤ i ∧ i < h.2.length
  · have hi : i.toNat < h.2.length := by omega
    have hc := List.getElem?_eq_getElem hi
    have hcb := hb _ (List.getElem_mem hi)
    generalize h.2[i.toNat] = c at hc hcb
    have hp : c.props.length ≤ 2 ^ 30 := Nat.le_trans hcb.1 hK'
    have hs : c.slots.length ≤ 2 ^ 30 := Nat.le_trans hcb.2.1 hK'
    refine law_bind_eq (cell_some h i (hb.copy hK') hin.1 hc) (law_given fun _ => ?_)
    refine law_bind' (R := fun x => x = (c.1, (c.2.1, (c.2.2.1, (c.2.2.2.1, (c.2.2.2.2.1, (c.2.2.2.2.2.1, (c.2.2.2.2.2.2.1, (c.2.2.2.2.2.2.2.1.1, (c.2.2.2.2.2.2.2.1.2.1.1, (c.2.2.2.2.2.2.2.1.2.1.2, (c.2.2.2.2.2.2.2.1.2.2.1.1, (c.2.2.2.2.2.2.2.1.2.2.1.2, (c.2.2.2.2.2.2.2.1.2.2.2.1, (c.2.2.2.2.2.2.2.1.2.2.2.2, c.2.2.2.2.2.2.2.2))))))))))))))) (law_bind_eq (is_ok h i) (law_t (by simp [hin.1, hin.2]) (law_idxS hin.1 hi fun e he _ => law_ok ?_))) ?_
    · have he : h.2[i.toNat]? = some e := he
      rw [hc] at he
      cases he
      rfl
    rintro _ rfl
    refine law_bind_eq (a := false) ?_ (law_f rfl (law_ok ⟨by rw [hw], by rw [hw]; omega⟩))
    refine law_bind_eq (is_ok h i) (law_f (by simp [hin.1, hin.2]) (law_bind_eq (law_cellOf c hp hs) (law_given fun _ => law_bind_eq (sameCell_ok c hp hs) (law_f rfl ?_))))
    refine law_bind_eq (keys_eq h i hin.1 hc hp) (law_given fun _ => law_bind_eq (refKeys_eq h i hin.1 hc hp) (law_given fun hg => ?_))
    exact law_bind_eq (sameKeys_ok _ (by have := keysF_len (c.props.map (·.1)); simp only [List.length_map] at this; omega)) (law_ok rfl)
  · have hno : (decide (0 ≤ i) && decide (i < h.2.length)) = false := by
      rw [← Bool.not_eq_true]
      simpa using fun a => by omega
    refine law_bind_eq (cell_none h i hno) (law_given fun _ => ?_)
    refine law_bind' (R := fun x => x = (0, (0, (([] : List PropT), (([] : List SlotT), (([] : List UInt8), (0, (0, (0, (0, (0, (false, (([] : List Int), (([] : List Int), (0, (0, (0, (0, (0, ([] : List Int)))))))))))))))))))) (law_bind_eq (is_ok h i) (law_f hno (law_ok rfl))) ?_
    rintro _ rfl
    refine law_bind_eq (a := false) ?_ (law_f rfl (law_ok ⟨by rw [hw], by rw [hw]; omega⟩))
    refine law_bind_eq (is_ok h i) (law_f (by rw [hno]; rfl) (law_bind_eq (law_cellOf (0, 0, [], [], [], 0, 0, zeroV, 0, 0, 0, 0, []) (Nat.zero_le _) (Nat.zero_le _)) (law_given fun _ => law_bind_eq (sameCell_ok (0, 0, [], [], [], 0, 0, zeroV, 0, 0, 0, 0, []) (Nat.zero_le _) (Nat.zero_le _)) (law_f rfl ?_))))
    exact law_bind_eq (keys_none h i hno) (law_given fun _ => law_bind_eq (refKeys_none h i hno) (law_given fun _ => law_bind_eq (sameKeys_ok [] (by simp)) (law_ok rfl)))
end Go.Mach

set_option maxRecDepth 100000
namespace Go.Mach
open Res

theorem plays_law (size : Int) (l : List OpT) : (R.renlaw9_HeapPlays size l).sat (· = true) := by
  unfold R.renlaw9_HeapPlays
  refine law_given fun _ => law_bind_eq first_sat (law_f rfl (law_bind_eq (new_ok size) (law_given fun _ => ?_)))
  generalize hM : (min (max size 0) 4096 : Int) = M
  refine law_bind' (R := fun b => b = false → l.length ≤ 300 ∧ ∀ o ∈ l, cellB 20000 o.2.2.2.1) (law_bind' (fewOps_ok l) fun y hy => law_ok fun h => hy (by cases y <;> simp_all)) fun b hb => ?_
  refine law_br (fun _ => law_bind_eq first_sat (law_ok rfl)) fun hbf => ?_
  obtain ⟨hl, hops⟩ := hb hbf
  have hnew := refNew_ok size
  rw [hM] at hnew
  refine law_bind_eq hnew (law_given fun _ => ?_)
  refine law_bind' (R := fun y : (HeapT × HeapT) ⊕ Bool => ∃ h : HeapT, y = .inl (h, h) ∧ HBnd 21000 h ∧ h.2.length ≤ 300) (law_for (fun x : HeapT × Int × HeapT => x.2.1) l.length (by omega) (fun x => (0 ≤ x.2.1 ∧ x.2.1 ≤ l.length) ∧ x.1 = x.2.2 ∧ HBnd (20000 + x.2.1.toNat) x.1 ∧ x.1.2.length ≤ x.2.1.toNat) ⟨⟨by simp, by simp⟩, rfl, (fun c hc => by cases hc), by simp⟩ (fun x h => h.1) ?_) ?_
  · rintro ⟨h, i, x⟩ ⟨⟨h1, h2⟩, h3, h4, h5⟩
    simp only at h1 h2 h3 h4 h5
    subst h3
    have hK : 20000 + i.toNat ≤ 2 ^ 29 := by omega
    have hK' : 20000 + i.toNat ≤ 2 ^ 30 := by omega
    refine law_br (fun h6 => ?_) fun h6 => ?_
    · rw [ilt_true] at h6
      have h6 : i < l.length := h6
      have hi : i.toNat < l.length := by omega
      have hw : IntKind.wrap .i64 (i + 1) = i + 1 := wrap64 (by omega)
      refine law_bind_eq (a := h) ?_ ?_
      · refine law_bind' (R := fun _ => True) (law_idxS h1 hi fun e _ _ => law_br (fun _ => law_ok trivial) fun _ => law_idxS h1 hi fun e2 _ _ => law_ok trivial) fun b _ => ?_
        refine law_br (fun _ => ?_) fun _ => law_ok rfl
        refine law_bind_eq (heapCopy_ok h (h4.copy hK') (by omega)) (law_given fun _ => ?_)
        refine law_bind_eq (ascii_ok [115, 112, 111, 105, 108, 116] (by decide)) (law_given fun _ => ?_)
        refine law_bind_eq (put_ok h 0 _ zeroV (h4.props hK')) (law_given fun _ => ?_)
        refine law_bind_eq (write_ok _ 0 0 [255] (bnd_put h4).1.bytes) (law_given fun _ => ?_)
        exact law_ok rfl
      · refine law_idxS h1 hi fun o ho _ => ?_
        have ho : l[i.toNat]? = some o := ho
        refine law_bind' (does_ok h o (20000 + i.toNat) h4 (by omega) hK (by omega) (hops o (List.mem_of_getElem? ho))) ?_
        rintro ⟨b, g, g'⟩ ⟨q1, q2, q3, q4⟩
        simp only at q1 q2 q3 q4
        subst q1 q2
        refine law_given fun _ => law_f rfl (law_ok ⟨hw, ?_⟩)
        simp only
        rw [hw]
        rw [show (i + 1).toNat = i.toNat + 1 by omega]
        exact ⟨⟨by omega, by omega⟩, trivial, q3, by omega⟩
    · refine law_ok ⟨h, rfl, fun c hc => ?_, by omega⟩
      obtain ⟨b1, b2, b3⟩ := h4 c hc
      exact ⟨by omega, by omega, b3⟩
  · rintro _ ⟨h, rfl, hB, hn⟩
    exact law_inl (law_bind_eq first_sat (law_t rfl (law_bind_eq (same_heap_ok h 21000 hB (by omega) (by omega)) (law_ok rfl))))
end Go.Mach

set_option maxRecDepth 100000
namespace Go.Proofs.Ytcmodlcodhblcaa
open Go.Mach Go.ChangeShapes Go.WideShapes Go.ChangeAt Go.RowKit

theorem bulk_part {H : Type} {d : DataW H} {l : List (DataW H)} (h : d ∈ l) : Rows.uptoBulk d ≤ Rows.uptoBulkAll l := by
  induction l with
  | nil => cases h
  | cons x r ih =>
    simp only [Rows.uptoBulkAll]
    cases List.mem_cons.1 h with
    | inl e => subst e; omega
    | inr e => have := ih e; omega
theorem bulk_one {H : Type} (d : DataW H) : 1 ≤ Rows.uptoBulk d := by
  cases d with
  | lit l => cases l <;> simp [Rows.uptoBulk]
  | _ => simp [Rows.uptoBulk]
theorem bulk_len {H : Type} (l : List (DataW H)) : l.length ≤ Rows.uptoBulkAll l := by
  induction l with
  | nil => simp [Rows.uptoBulkAll]
  | cons x r ih => have := bulk_one x; simp only [Rows.uptoBulkAll, List.length_cons]; omega
theorem sm_of {H : Type} : Sm (H := H) 1048576 fun d => Rows.uptoBulk d ≤ 1048576 where
  str b h := by simp only [Rows.uptoBulk] at h; omega
  sl es sp h := by
    simp only [Rows.uptoBulk] at h
    have h1 := bulk_len es
    exact ⟨by omega, fun d hd => by have := bulk_part hd; omega⟩
  agg l h := by
    simp only [Rows.uptoBulk] at h
    exact fun d hd => by have := bulk_part hd; omega
theorem sm_all {H : Type} {ds : List (DataW H)} {gs : List (DataW H)} (h : Rows.uptoSmall H (ds ++ gs) = true) : ∀ d ∈ ds, Rows.uptoBulk d ≤ 1048576 := fun d hd => by
  have h := of_decide_eq_true h
  have := bulk_part (List.mem_append_left gs hd)
  omega

theorem own_knob : ownKnob Try.prog.godebug = none := by kernel_rfl
theorem bool_type : Try.prog.underlying 4 = some .bool := by kernel_rfl
end Go.Proofs.Ytcmodlcodhblcaa
