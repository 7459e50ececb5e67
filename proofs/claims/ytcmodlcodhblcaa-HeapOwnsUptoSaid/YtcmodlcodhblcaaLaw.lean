/-
  HeapOwnsUptoSaid: renlaw9.HeapOwns answers true for every input of the given bulk, and leaves its arguments as they were.
  Part Law of the texts. By an AI agent; no person has read it.
-/
import Derived.Test.YtcmodlcodhblcaaOks
import Derived.KernelRfl
import Derived.Test.YtcmodlcodhblcaaRows
import Derived.WalkKit
import Derived.ProofKit
import Derived.OpenShut
import Derived.JoinedCond
set_option linter.all false
set_option linter.deprecated false
set_option maxRecDepth 100000
namespace Go.Mach
open Res

abbrev ValT := Int × (Int × Int) × (Bool × List Int) × List Int × Int
abbrev PropT := List Int × ValT
abbrev SlotT := List UInt8 × ValT × Bool × Bool
abbrev CellT := Int × Int × List PropT × List SlotT × List UInt8 × Int × Int × ValT × Int × Int × Int × Int × List Int
abbrev HeapT := Int × List CellT

theorem first_ok : R.renlaw9_first = .ok true := by kernel_rfl

theorem first_sat : R.renlaw9_first.sat (· = true) := by rw [first_ok]; exact rfl

theorem own_ok (v : ValT) : (R.heap_own v).sat (· = v) := by
  unfold R.heap_own
  simp only [law_given_iff, law_bind_iff, law_ok_iff]
  intros
  trivial

/-- Its lists may be copied. -/
def copyOk (c : CellT) : Prop := c.2.2.1.length * 112 ≤ 2 ^ 47 ∧ c.2.2.2.1.length * 112 ≤ 2 ^ 47

theorem copied_ok (c : CellT) (hc : copyOk c) : (R.heap_copied c).sat (· = c) := by
  unfold R.heap_copied
  simp only [law_given_iff, law_bind_iff, law_need_iff, law_ok_iff, decide_eq_true_eq]
  obtain ⟨h1, h2⟩ := hc
  intro _
  refine ⟨by omega, fun _ => ⟨by omega, fun _ _ => ?_⟩⟩
  refine law_call (own_ok _) fun _ => ?_
  refine law_mono (law_for (fun x : Int × List PropT => x.1) c.2.2.1.length (by omega) (fun x => x.2 = c.2.2.1 ∧ 0 ≤ x.1 ∧ x.1 ≤ c.2.2.1.length) (Q := fun y => y = c.2.2.1) ⟨rfl, by simp, by simp⟩ (fun a h => h.2) ?_) ?_
  · rintro ⟨i, xs⟩ ⟨rfl, h3, h4⟩
    simp only [law_br_iff, law_need_iff, law_idx_iff, law_bind_iff, law_given_iff, law_ok_iff, ilt_true, ilt_false, Bool.and_eq_true, ile_true] at h3 h4 ⊢
    refine ⟨fun h5 => ⟨⟨h3, h5⟩, by omega, ?_⟩, fun h5 => trivial⟩
    have h6 : i.toNat < c.2.2.1.length := by omega
    refine ⟨_, by rw [idx0]; exact List.getElem?_eq_getElem h6, fun _ _ => ?_⟩
    refine law_call (own_ok _) fun _ => ⟨⟨h3, h5⟩, by omega, _, by rw [idx0]; exact List.getElem?_eq_getElem h6, fun _ => ⟨?_, ?_, ?_, ?_⟩⟩
    · exact wrap64 (by omega)
    · rw [Nat.zero_add]
      exact set_self (List.getElem?_eq_getElem h6)
    · rw [wrap64 (by omega)]; omega
    · rw [wrap64 (by omega)]; omega
  · rintro _ rfl
    refine law_mono (law_for (fun x : Int × List SlotT => x.1) c.2.2.2.1.length (by omega) (fun x => x.2 = c.2.2.2.1 ∧ 0 ≤ x.1 ∧ x.1 ≤ c.2.2.2.1.length) (Q := fun y => y = c.2.2.2.1) ⟨rfl, by simp, by simp⟩ (fun a h => h.2) ?_) ?_
    · rintro ⟨i, xs⟩ ⟨rfl, h3, h4⟩
      simp only [law_br_iff, law_need_iff, law_idx_iff, law_bind_iff, law_given_iff, law_ok_iff, ilt_true, ilt_false, Bool.and_eq_true, ile_true] at h3 h4 ⊢
      refine ⟨fun h5 => ⟨⟨h3, h5⟩, by omega, ?_⟩, fun h5 => trivial⟩
      have h6 : i.toNat < c.2.2.2.1.length := by omega
      refine ⟨_, by rw [idx0]; exact List.getElem?_eq_getElem h6, fun _ => ?_⟩
      refine law_call (own_ok _) fun _ => ⟨⟨h3, h5⟩, by omega, _, by rw [idx0]; exact List.getElem?_eq_getElem h6, fun _ => ⟨?_, ?_, ?_, ?_⟩⟩
      · exact wrap64 (by omega)
      · rw [Nat.zero_add]
        exact set_self (List.getElem?_eq_getElem h6)
      · rw [wrap64 (by omega)]; omega
      · rw [wrap64 (by omega)]; omega
    · rintro _ rfl
      rfl

theorem new_ok (n : Int) : (R.heap_New n).sat (· = (min (max n 0) 4096, [])) := by
  unfold R.heap_New
  simp only [law_given_iff, law_ok_iff]
  intro _
  rw [minI_eq, maxI_eq]

theorem has_ok (h : HeapT) (r : Int) : (R.heap_Heap_has h r).sat (· = (decide (0 ≤ r) && decide (r < h.2.length))) := by
  unfold R.heap_Heap_has
  simp only [law_given_iff, law_ok_iff, law_br_iff, ile, ilt]
  intro _
  exact ⟨fun h => by rw [h]; rfl, fun h => by rw [h]; rfl⟩

/-- Make. -/
def makeF (h : HeapT) (c : CellT) : (Int × Bool) × HeapT :=
  if h.1 ≤ h.2.length then ((0, false), h) else ((h.2.length, true), (h.1, h.2 ++ [c]))
theorem make_ok (h : HeapT) (c : CellT) (hc : copyOk c) (hl : h.2.length ≤ 10000) : (R.heap_Heap_Make h c).sat (· = makeF h c) := by
  unfold R.heap_Heap_Make makeF
  simp only [law_given_iff, law_br_iff, law_ok_iff, law_bind_iff, ile_true, ile_false]
  intro _
  refine ⟨fun h1 => by rw [if_pos h1], fun h1 => ?_⟩
  rw [if_neg (by omega)]
  refine law_call (copied_ok c hc) fun _ => ?_
  simp only [law_need_iff, decide_eq_true_eq, law_ok_iff, List.length_append, List.length_cons, List.length_nil]
  refine ⟨by omega, ?_⟩
  rw [wrap64 (by omega)]
  simp

theorem cell_ok (h : HeapT) (r : Int) (hc : ∀ c ∈ h.2, copyOk c) : (R.heap_Heap_Cell h r).sat fun y => ((0 ≤ r ∧ r < h.2.length) → ∃ c, h.2[r.toNat]? = some c ∧ y = (c, true)) ∧ (¬ (0 ≤ r ∧ r < h.2.length) → y.2 = false) := by
  unfold R.heap_Heap_Cell
  simp only [law_given_iff, law_bind_iff]
  intro _
  refine law_call (has_ok h r) ?_
  simp only [law_br_iff, law_idxS_iff, law_ok_iff, law_bind_iff, law_given_iff]
  refine ⟨fun h1 => ⟨fun h2 => ?_, fun _ => trivial⟩, fun h1 => ?_⟩
  · simp [h2.1, h2.2] at h1
  · simp at h1
    have h6 : r.toNat < h.2.length := by omega
    refine ⟨h1.1, _, List.getElem?_eq_getElem h6, fun _ => ?_⟩
    refine law_call (copied_ok _ (hc _ (List.getElem_mem h6))) fun _ => ?_
    exact ⟨fun _ => ⟨_, List.getElem?_eq_getElem h6, rfl⟩, fun h => absurd h1 h⟩
end Go.Mach

set_option maxRecDepth 100000
namespace Go.Mach
open Res

theorem beqDec (a b : Int) : (a == b) = decide (a = b) := by by_cases h : a = b <;> simp [h]

theorem eqLoop (k : IntKind) (a b : List Int) (hl : a.length = b.length) (ha : a.length < 2 ^ 62) : (Res.loop (α := Int) (β := (Unit ⊕ Bool)) (fun i1 => Res.br (ilt i1 (a.length : Int)) (Res.idxS (.frz (.int k)) a i1 fun e2 => Res.idxS (.frz (.int k)) b i1 fun e3 => Res.br (!(e2 == e3)) (Res.ok (.done (.inr false))) (Res.ok (.next (IntKind.wrap .i64 (i1 + 1))))) (Res.ok (.done (.inl ())))) fuel 0).sat fun y => y = if a = b then .inl () else .inr false := by
  refine law_for (fun i => i) a.length (by omega) (fun i => (0 ≤ i ∧ i ≤ a.length) ∧ ∀ j, j < i.toNat → a[j]? = b[j]?) ⟨⟨by omega, by omega⟩, fun j hj => by simp at hj⟩ (fun i h => h.1) ?_
  rintro i ⟨⟨h1, h2⟩, h3⟩
  refine law_br (fun h4 => ?_) fun h4 => ?_
  · rw [ilt_true] at h4
    refine law_idxS h1 (by show i.toNat < a.length; omega) fun e2 he2 _ => law_idxS h1 (by show i.toNat < b.length; omega) fun e3 he3 _ => ?_
    have he2 : a[i.toNat]? = some e2 := he2
    have he3 : b[i.toNat]? = some e3 := he3
    refine law_br (fun h5 => law_ok ?_) fun h5 => law_ok ⟨wrap64 (by omega), ?_⟩
    · rw [if_neg]
      rintro rfl
      rw [he2] at he3
      cases he3
      simp at h5
    · rw [wrap64 (by omega)]
      refine ⟨⟨by omega, by omega⟩, fun j hj => ?_⟩
      by_cases hj' : j < i.toNat
      · exact h3 j hj'
      · have : j = i.toNat := by omega
        subst this
        have h5 : e2 = e3 := by simpa using h5
        rw [he2, he3, h5]
  · rw [ilt_false] at h4
    refine law_ok ?_
    rw [if_pos]
    apply List.ext_getElem?
    intro j
    by_cases hj : j < a.length
    · exact h3 j (by omega)
    · rw [List.getElem?_eq_none (by omega), List.getElem?_eq_none (by omega)]

theorem lenOkS_lt {k : IntKind} {n : Nat} (h : lenOkS (.frz (.int k)) n = true) : n < 2 ^ 62 := by
  have h := of_decide_eq_true h
  cases k <;> simp [Sh.minB, Ty.minB, IntKind.minB] at h <;> omega

theorem units_ok (a b : List Int) : (R.renref_Units a b).sat (· = decide (a = b)) := by
  unfold R.renref_Units
  refine law_given fun h => ?_
  have hl : lenOkS (.frz (.int .u16)) a.length = true := by
    simp only [oks, List.map, Par.v, Sh.ok, Bool.and_eq_true] at h
    exact h.1
  have ha := lenOkS_lt hl
  by_cases hlen : a.length = b.length
  · refine law_f (by simp [hlen]) (law_bind_eq (eqLoop .u16 a b hlen ha) ?_)
    by_cases hab : a = b
    · rw [if_pos hab]; exact law_inl (law_ok (by simp [hab]))
    · rw [if_neg hab]; exact law_inr (law_ok (by simp [hab]))
  · refine law_t (by simp; omega) (law_ok ?_)
    have : a ≠ b := fun h => hlen (by rw [h])
    simp [this]
theorem limbs_ok (a b : List Int) : (R.renref_Limbs a b).sat (· = decide (a = b)) := by
  unfold R.renref_Limbs
  refine law_given fun h => ?_
  have hl : lenOkS (.frz (.int .u32)) a.length = true := by
    simp only [oks, List.map, Par.v, Sh.ok, Bool.and_eq_true] at h
    exact h.1
  have ha := lenOkS_lt hl
  by_cases hlen : a.length = b.length
  · refine law_f (by simp [hlen]) (law_bind_eq (eqLoop .u32 a b hlen ha) ?_)
    by_cases hab : a = b
    · rw [if_pos hab]; exact law_inl (law_ok (by simp [hab]))
    · rw [if_neg hab]; exact law_inr (law_ok (by simp [hab]))
  · refine law_t (by simp; omega) (law_ok ?_)
    have : a ≠ b := fun h => hlen (by rw [h])
    simp [this]
theorem equal16_ok (a b : List Int) : (R.slices_Equal_uint16 a b).sat (· = decide (a = b)) := by
  unfold R.slices_Equal_uint16
  refine law_given fun h => ?_
  have hl : lenOkS (.frz (.int .u16)) a.length = true := by
    simp only [oks, List.map, Par.v, Sh.ok, Bool.and_eq_true] at h
    exact h.1
  have ha := lenOkS_lt hl
  by_cases hlen : a.length = b.length
  · refine law_f (by simp [hlen]) (law_bind_eq (eqLoop .u16 a b hlen ha) ?_)
    by_cases hab : a = b
    · rw [if_pos hab]; exact law_inl (law_ok (by simp [hab]))
    · rw [if_neg hab]; exact law_inr (law_ok (by simp [hab]))
  · refine law_t (by simp; omega) (law_ok ?_)
    have : a ≠ b := fun h => hlen (by rw [h])
    simp [this]
theorem equal32_ok (a b : List Int) : (R.slices_Equal_uint32 a b).sat (· = decide (a = b)) := by
  unfold R.slices_Equal_uint32
  refine law_given fun h => ?_
  have hl : lenOkS (.frz (.int .u32)) a.length = true := by
    simp only [oks, List.map, Par.v, Sh.ok, Bool.and_eq_true] at h
    exact h.1
  have ha := lenOkS_lt hl
  by_cases hlen : a.length = b.length
  · refine law_f (by simp [hlen]) (law_bind_eq (eqLoop .u32 a b hlen ha) ?_)
    by_cases hab : a = b
    · rw [if_pos hab]; exact law_inl (law_ok (by simp [hab]))
    · rw [if_neg hab]; exact law_inr (law_ok (by simp [hab]))
  · refine law_t (by simp; omega) (law_ok ?_)
    have : a ≠ b := fun h => hlen (by rw [h])
    simp [this]
theorem textSame_ok (a b : List Int) : (R.text_Same a b).sat (· = decide (a = b)) := by
  unfold R.text_Same
  exact law_given fun _ => law_bind_eq (equal16_ok a b) (law_ok rfl)

/-- Same. -/
theorem same_ok (a b : ValT) : (R.heap_Same a b).sat (· = decide (a = b)) := by
  unfold R.heap_Same
  obtain ⟨k, ⟨n1, n2⟩, ⟨g, m⟩, s, r⟩ := a
  obtain ⟨k', ⟨n1', n2'⟩, ⟨g', m'⟩, s', r'⟩ := b
  refine law_given fun _ => ?_
  simp only [Prod.mk.injEq]
  refine law_br (fun h1 => ?_) fun h1 => law_ok (by simp at h1; simp [h1])
  have h1 : k = k' := by simpa using h1
  refine law_br (fun h2 => ?_) fun h2 => law_ok (by simp at h2; simp; intros; simp_all)
  have h2 : n1 = n1' ∧ n2 = n2' := by simpa using h2
  refine law_br (fun h3 => ?_) fun h3 => law_ok (by simp at h3; simp [h3])
  have h3 : g = g' := by simpa using h3
  refine law_bind_eq (equal32_ok m m') (law_br (fun h4 => ?_) fun h4 => law_ok (by simp at h4; simp [h4]))
  have h4 : m = m' := by simpa using h4
  refine law_bind_eq (equal16_ok s s') (law_br (fun h5 => ?_) fun h5 => law_ok (by simp at h5; simp [h5]))
  have h5 : s = s' := by simpa using h5
  exact law_ok (by simp [h1, h2, h3, h4, h5, beqDec])

theorem refSame_ok (a b : ValT) : (R.renref9_Same a b).sat (· = decide (a = b)) := by
  unfold R.renref9_Same
  obtain ⟨k, ⟨n1, n2⟩, ⟨g, m⟩, s, r⟩ := a
  obtain ⟨k', ⟨n1', n2'⟩, ⟨g', m'⟩, s', r'⟩ := b
  refine law_given fun _ => ?_
  simp only [Prod.mk.injEq]
  refine law_br (fun h1 => ?_) fun h1 => law_ok (by simp at h1; simp [h1])
  have h1 : k = k' := by simpa using h1
  have hnum : (R.renref_Num (n1, n2) (n1', n2')).sat (· = decide (n1 = n1' ∧ n2 = n2')) := by
    unfold R.renref_Num
    refine law_given fun _ => law_br (fun h => ?_) fun h => law_ok (by simp at h; simp [h])
    have h : n1 = n1' := by simpa using h
    exact law_ok (by simp [h, beqDec])
  have hbig : (R.renref_Big (g, m) (g', m')).sat (· = decide (g = g' ∧ m = m')) := by
    unfold R.renref_Big
    refine law_given fun _ => law_br (fun h => ?_) fun h => law_ok (by simp at h; simp [h])
    have h : g = g' := by simpa using h
    exact law_bind_eq (limbs_ok m m') (law_ok (by simp [h]))
  refine law_bind_eq hnum (law_br (fun h2 => ?_) fun h2 => law_ok (by simp at h2; simp; omega))
  have h2 : n1 = n1' ∧ n2 = n2' := by simpa using h2
  refine law_bind_eq hbig (law_br (fun h3 => ?_) fun h3 => law_ok (by simp at h3; simp; intros; simp_all))
  have h3 : g = g' ∧ m = m' := by simpa using h3
  refine law_bind_eq (units_ok s s') (law_br (fun h5 => ?_) fun h5 => law_ok (by simp at h5; simp [h5]))
  have h5 : s = s' := by simpa using h5
  exact law_ok (by simp [h1, h2, h3, h5, beqDec])

theorem plain_ok (a : ValT) : (R.renlaw9_Plain a).sat (· = a) := by
  unfold R.renlaw9_Plain
  exact law_given fun _ => law_ok rfl
end Go.Mach

set_option maxRecDepth 100000
namespace Go.Mach
open Res

theorem notT {b : Bool} (h : (!b) = true) : b = false := by cases b <;> simp_all
theorem notF {b : Bool} (h : (!b) = false) : b = true := by cases b <;> simp_all

theorem idxLoop {s : Sh} (xs : List s.den) (q : s.den → Bool) (f : s.den → Res Bool) (hf : ∀ x ∈ xs, (f x).sat (· = q x)) (hl : xs.length < 2 ^ 62) :
    (Res.loop (α := Int) (β := (Unit ⊕ Int)) (fun x1 => Res.br (ilt x1 (xs.length : Int)) (Res.idxS s xs x1 fun e2 => Res.bind (f e2) fun r3 => Res.br r3 (Res.ok (.done (.inr x1))) (Res.ok (.next (IntKind.wrap .i64 (x1 + 1))))) (Res.ok (.done (.inl ())))) fuel 0).sat fun y => y = match xs.findIdx? q with
      | none => .inl ()
      | some i => .inr (i : Int) := by
  refine law_for (fun i => i) xs.length (by omega) (fun i => (0 ≤ i ∧ i ≤ xs.length) ∧ ∀ j (h : j < xs.length), j < i.toNat → q xs[j] = false) ⟨⟨by omega, by omega⟩, fun j _ hj => by simp at hj⟩ (fun i h => h.1) ?_
  rintro i ⟨⟨h1, h2⟩, h3⟩
  refine law_br (fun h4 => ?_) fun h4 => ?_
  · rw [ilt_true] at h4
    have hi : i.toNat < xs.length := by omega
    refine law_idxS h1 hi fun e he _ => ?_
    rw [List.getElem?_eq_getElem hi] at he
    cases he
    refine law_bind_eq (hf _ (List.getElem_mem hi)) (law_br (fun h5 => law_ok ?_) fun h5 => law_ok ⟨wrap64 (by omega), ?_⟩)
    · have : xs.findIdx? q = some i.toNat := List.findIdx?_eq_some_iff_getElem.2 ⟨hi, h5, fun j hj => by rw [h3 j (by omega) hj]; simp⟩
      rw [this]
      show Sum.inr i = Sum.inr ((i.toNat : Nat) : Int)
      rw [Int.toNat_of_nonneg h1]
    · rw [wrap64 (by omega)]
      refine ⟨⟨by omega, by omega⟩, fun j hj hj' => ?_⟩
      by_cases hj'' : j < i.toNat
      · exact h3 j hj hj''
      · have : j = i.toNat := by omega
        subst this
        exact h5
  · rw [ilt_false] at h4
    refine law_ok ?_
    have : xs.findIdx? q = none := List.findIdx?_eq_none_iff.2 fun x hx => by
      obtain ⟨j, hj, rfl⟩ := List.getElem_of_mem hx
      exact h3 j hj (by omega)
    rw [this]

/-! ### Properties -/

abbrev CellT.props (c : CellT) : List PropT := c.2.2.1
def CellT.withProps (c : CellT) (ps : List PropT) : CellT := (c.1, c.2.1, ps, c.2.2.2)
def keyAt (ps : List PropT) (key : List Int) : Option Nat := ps.findIdx? fun p => decide (p.1 = key)
def getK : List PropT → List Int → Option ValT
  | [], _ => none
  | p :: r, k => if p.1 = k then some p.2 else getK r k
def zeroV : ValT := (0, (0, 0), (false, []), [], 0)

theorem keyAt_some {ps : List PropT} {key : List Int} {i : Nat} (h : keyAt ps key = some i) : ∃ v, ps[i]? = some (key, v) ∧ getK ps key = some v := by
  induction ps generalizing i with
  | nil => simp [keyAt] at h
  | cons p r ih =>
    unfold keyAt at h
    rw [List.findIdx?_cons] at h
    by_cases hp : p.1 = key
    · simp only [hp, decide_true, if_true, Option.some.injEq] at h
      subst h
      refine ⟨p.2, ?_, by simp [getK, hp]⟩
      obtain ⟨p1, p2⟩ := p
      simp only at hp
      simp [hp]
    · simp only [hp, decide_false, Bool.false_eq_true, if_false, Option.map_eq_some_iff] at h
      obtain ⟨j, hj, rfl⟩ := h
      obtain ⟨v, h1, h2⟩ := ih (show keyAt r key = some j from hj)
      exact ⟨v, by simpa using h1, by simp [getK, hp, h2]⟩
theorem keyAt_none {ps : List PropT} {key : List Int} (h : keyAt ps key = none) : getK ps key = none := by
  induction ps with
  | nil => rfl
  | cons p r ih =>
    unfold keyAt at h
    rw [List.findIdx?_cons] at h
    by_cases hp : p.1 = key
    · simp [hp] at h
    · simp only [hp, decide_false, Bool.false_eq_true, if_false, Option.map_eq_none_iff] at h
      simp only [getK, if_neg hp]
      exact ih h

/-- Where a property stands: as a number. -/
def posOf : Option Nat → Int
  | none => -1
  | some i => i

theorem index_ok (ps : List PropT) (key : List Int) (hl : ps.length < 2 ^ 62) : (R.slices_IndexFunc_heapProp__heap_Heap_place_1 ps key).sat (· = posOf (keyAt ps key)) := by
  unfold R.slices_IndexFunc_heapProp__heap_Heap_place_1
  refine law_given fun _ => law_bind_eq (idxLoop (s := .frz T_heap_Prop) ps (fun p => decide (p.1 = key)) _ (fun x _ => ?_) hl) ?_
  · unfold R.heap_Heap_place_1
    exact law_given fun _ => law_bind_eq (textSame_ok x.1 key) (law_ok rfl)
  · unfold keyAt
    cases h : ps.findIdx? (fun p => decide (p.1 = key)) with
    | none => exact law_inl (law_ok rfl)
    | some i => exact law_inr (law_ok rfl)

theorem place_ok (h : HeapT) (r : Int) (key : List Int) {c : CellT} (h0 : 0 ≤ r) (hc : h.2[r.toNat]? = some c) (hl : c.props.length < 2 ^ 62) : (R.heap_Heap_place h r key).sat (· = posOf (keyAt c.props key)) := by
  unfold R.heap_Heap_place
  refine law_given fun _ => law_idxS h0 (List.getElem?_eq_some_iff.1 hc).1 fun x hx _ => ?_
  rw [hc] at hx
  cases hx
  exact law_bind_eq (index_ok _ key hl) (law_given fun _ => law_ok rfl)

def putP (ps : List PropT) (key : List Int) (v : ValT) : List PropT :=
  match keyAt ps key with
  | some i => ps.set i (key, v)
  | none => ps ++ [(key, v)]
/-- Put. -/
def putF (h : HeapT) (r : Int) (key : List Int) (v : ValT) : Bool × HeapT :=
  if 0 ≤ r then match h.2[r.toNat]? with
    | none => (false, h)
    | some c => (true, (h.1, h.2.set r.toNat (c.withProps (putP c.props key v))))
  else (false, h)

theorem has_false {h : HeapT} {r : Int} (hf : (decide (0 ≤ r) && decide (r < h.2.length)) = false) : 0 ≤ r → h.2[r.toNat]? = none := fun h0 => by
  simp only [h0, decide_true, Bool.true_and, decide_eq_false_iff_not] at hf
  exact List.getElem?_eq_none (by omega)
theorem has_true {h : HeapT} {r : Int} (hf : (decide (0 ≤ r) && decide (r < h.2.length)) = true) : 0 ≤ r ∧ ∃ c, h.2[r.toNat]? = some c := by
  simp only [Bool.and_eq_true, decide_eq_true_eq] at hf
  exact ⟨hf.1, _, List.getElem?_eq_getElem (by omega)⟩

theorem put_ok (h : HeapT) (r : Int) (key : List Int) (v : ValT) (hl : ∀ c ∈ h.2, c.props.length ≤ 2 ^ 30) : (R.heap_Heap_Put h r key v).sat (· = putF h r key v) := by
  unfold R.heap_Heap_Put
  refine law_given fun _ => law_bind_eq (has_ok h r) (law_br (fun h1 => ?_) fun h1 => ?_)
  · have h1 := has_false (notT h1)
    refine law_ok ?_
    unfold putF
    by_cases h0 : 0 ≤ r
    · rw [if_pos h0, h1 h0]
    · rw [if_neg h0]
  · obtain ⟨h0, c, hc⟩ := has_true (h := h) (r := r) (notF h1)
    have hput : putF h r key v = (true, (h.1, h.2.set r.toNat (c.withProps (putP c.props key v)))) := by
      unfold putF
      rw [if_pos h0, hc]
    rw [hput]
    have hlen := hl c (List.mem_of_getElem? hc)
    refine law_idxS h0 (List.getElem?_eq_some_iff.1 hc).1 fun x hx _ => ?_
    rw [hc] at hx
    cases hx
    have hset : (List.set h.2 r.toNat c) = h.2 := set_self hc
    refine law_bind_eq (a := posOf (keyAt c.props key)) ?_ (law_given fun _ => ?_)
    · show (R.heap_Heap_place (h.1, List.set h.2 r.toNat c) r key).sat _
      rw [hset]
      exact place_ok (h.1, h.2) r key h0 hc (by omega)
    have hb : (r.toNat == r.toNat) = true := by simp
    cases hk : keyAt c.props key with
    | some i =>
      have hpp : putP c.props key v = c.props.set i (key, v) := by unfold putP; rw [hk]
      rw [hpp]
      obtain ⟨w, h2, h3⟩ := keyAt_some hk
      have hi : i < c.props.length := (List.getElem?_eq_some_iff.1 h2).1
      have hile : ile 0 (posOf (some i)) = true := by simp [ile, posOf]
      refine law_t hile (law_need hb (law_bind_eq (own_ok v) (law_given fun _ => law_need ?_ ?_)))
      · rw [Bool.and_eq_true, ilt_true]
        exact ⟨hile, Int.ofNat_lt.2 hi⟩
      · have hidx : ((0 : Int) + ((posOf (some i)).toNat : Int)).toNat = i := by simp [posOf]
        refine law_idx (by simp [posOf]) (by rw [hidx]; exact hi) fun e he _ => law_ok ?_
        rw [hidx] at he
        have he : c.props[i]? = some e := he
        rw [h2] at he
        cases he
        simp only [posOf, Int.toNat_natCast, Nat.zero_add]
        rfl
    | none =>
      have hpp : putP c.props key v = c.props ++ [(key, v)] := by unfold putP; rw [hk]
      rw [hpp]
      refine law_f (by simp [ile, posOf]) (law_need hb (law_bind_eq (a := key) (law_ok rfl) (law_given fun _ => law_bind_eq (own_ok v) (law_given fun _ => law_need ?_ (law_need hb (law_ok rfl))))))
      simp only [decide_eq_true_eq, List.length_singleton]
      have : c.2.2.1.length ≤ 2 ^ 30 := hlen
      omega

/-- Own. -/
def ownF (cells : List CellT) (r : Int) (key : List Int) : Option ValT :=
  if 0 ≤ r then match cells[r.toNat]? with
    | none => none
    | some c => getK c.props key
  else none
theorem ownOp_ok (h : HeapT) (r : Int) (key : List Int) (hl : ∀ c ∈ h.2, c.props.length ≤ 2 ^ 30) : (R.heap_Heap_Own h r key).sat (· = match ownF h.2 r key with | none => (zeroV, false) | some v => (v, true)) := by
  unfold R.heap_Heap_Own ownF
  refine law_given fun _ => law_bind_eq (has_ok h r) (law_br (fun h1 => ?_) fun h1 => ?_)
  · have h1 := has_false (notT h1)
    refine law_ok ?_
    by_cases h0 : 0 ≤ r
    · rw [if_pos h0, h1 h0]; rfl
    · rw [if_neg h0]; rfl
  · obtain ⟨h0, c, hc⟩ := has_true (h := h) (r := r) (notF h1)
    rw [if_pos h0, hc]
    have hlen := hl c (List.mem_of_getElem? hc)
    refine law_bind_eq (place_ok h r key h0 hc (by omega)) (law_given fun _ => ?_)
    cases hk : keyAt c.props key with
    | none =>
      refine law_t (by simp [ilt, posOf]) (law_ok ?_)
      simp only [keyAt_none hk]
      rfl
    | some i =>
      obtain ⟨w, h2, h3⟩ := keyAt_some hk
      have hi : i < c.props.length := (List.getElem?_eq_some_iff.1 h2).1
      refine law_f (by rw [ilt_false]; simp [posOf]) (law_idxS h0 (List.getElem?_eq_some_iff.1 hc).1 fun x hx _ => ?_)
      rw [hc] at hx
      cases hx
      refine law_idxS (by simp [posOf]) (by simpa [posOf] using hi) fun e he _ => ?_
      have he : c.props[i]? = some e := by simpa [posOf] using he
      rw [h2] at he
      cases he
      refine law_bind_eq (own_ok w) (law_given fun _ => law_ok ?_)
      simp only [h3]

/-- Find. -/
def findF (cells : List CellT) (key : List Int) : Nat → Int → ValT × Int × Bool
  | 0, _ => (zeroV, -2, false)
  | n + 1, r => match ownF cells r key with
    | some v => (v, 0, true)
    | none => if 0 ≤ r then match cells[r.toNat]? with
        | none => (zeroV, -2, false)
        | some c => if c.2.1 < 0 then (zeroV, c.2.1, false) else findF cells key n c.2.1
      else (zeroV, -2, false)

theorem find_ok (h : HeapT) (r : Int) (key : List Int) (hl : ∀ c ∈ h.2, c.props.length ≤ 2 ^ 30) (hn : h.2.length ≤ 10000) : (R.heap_Heap_Find h r key).sat (· = findF h.2 key h.2.length r) := by
  unfold R.heap_Heap_Find
  refine law_given fun _ => law_bind' (R := fun y => match y with
      | .inl _ => findF h.2 key h.2.length r = (zeroV, -2, false)
      | .inr z => findF h.2 key h.2.length r = ((z.2.2.1, (z.2.2.2.1, z.2.2.2.2.1), (z.2.2.2.2.2.1, z.2.2.2.2.2.2.1), z.2.2.2.2.2.2.2), z.1, z.2.1)) (law_for (fun x : Int × Int => x.2) h.2.length (by omega) (fun x => (0 ≤ x.2 ∧ x.2 ≤ h.2.length) ∧ findF h.2 key (h.2.length - x.2.toNat) x.1 = findF h.2 key h.2.length r) ⟨⟨by simp, by simp⟩, by simp⟩ (fun x hx => hx.1) ?_) ?_
  · rintro ⟨q, i⟩ ⟨⟨h1, h2⟩, h3⟩
    simp only at h1 h2 h3
    refine law_br (fun h4 => ?_) fun h4 => ?_
    · rw [ilt_true] at h4
      obtain ⟨m, hm⟩ : ∃ m, h.2.length - i.toNat = m + 1 := ⟨h.2.length - i.toNat - 1, by simp only at h4; omega⟩
      rw [hm] at h3
      generalize findF h.2 key h.2.length r = G at h3 ⊢
      unfold findF at h3
      refine law_bind_eq (ownOp_ok h q key hl) (law_given fun _ => ?_)
      cases ho : ownF h.2 q key with
      | some v =>
        simp only [ho] at h3
        refine law_t rfl (law_ok ?_)
        show G = _
        rw [← h3]
      | none =>
        simp only [ho] at h3
        refine law_f rfl (law_bind_eq (has_ok h q) (law_br (fun h5 => ?_) fun h5 => ?_))
        · have h5 := has_false (notT h5)
          refine law_ok ?_
          show G = _
          rw [← h3]
          by_cases h0 : 0 ≤ q
          · rw [if_pos h0, h5 h0]; rfl
          · rw [if_neg h0]; rfl
        · obtain ⟨h0, c, hc⟩ := has_true (h := h) (r := q) (notF h5)
          rw [if_pos h0, hc] at h3
          refine law_idxS h0 (List.getElem?_eq_some_iff.1 hc).1 fun x hx _ => ?_
          rw [hc] at hx
          cases hx
          refine law_br (fun h6 => law_ok ?_) fun h6 => law_ok ⟨wrap64 (by simp only at h4; omega), ?_⟩
          · rw [ilt_true] at h6
            show G = _
            rw [← h3]
            simp only [if_pos h6]
            rfl
          · rw [ilt_false] at h6
            have h6 : ¬ c.2.1 < 0 := Int.not_lt.2 h6
            simp only [if_neg h6] at h3
            simp only at h4
            rw [wrap64 (by omega)]
            refine ⟨⟨by omega, by omega⟩, ?_⟩
            rw [show h.2.length - (i + 1).toNat = m by omega]
            exact h3
    · rw [ilt_false] at h4
      simp only at h4
      refine law_ok ?_
      show findF h.2 key h.2.length r = _
      rw [← h3, show h.2.length - i.toNat = 0 by omega]
      rfl
  · intro y hy
    cases y with
    | inl u => exact law_inl (law_ok hy.symm)
    | inr z => exact law_inr (law_ok hy.symm)

/-- Drop. -/
theorem count_ok (h : HeapT) (r : Int) : (R.heap_Heap_Count h r).sat (· = if 0 ≤ r then match h.2[r.toNat]? with | none => 0 | some c => (c.props.length : Int) else 0) := by
  unfold R.heap_Heap_Count
  refine law_given fun _ => law_bind_eq (has_ok h r) (law_br (fun h1 => ?_) fun h1 => ?_)
  · have h1 := has_false (notT h1)
    refine law_ok ?_
    by_cases h0 : 0 ≤ r
    · rw [if_pos h0, h1 h0]
    · rw [if_neg h0]
  · obtain ⟨h0, c, hc⟩ := has_true (h := h) (r := r) (notF h1)
    rw [if_pos h0, hc]
    refine law_idxS h0 (List.getElem?_eq_some_iff.1 hc).1 fun x hx _ => ?_
    rw [hc] at hx
    cases hx
    exact law_ok rfl
def dropF (h : HeapT) (r : Int) : (ValT × Bool) × HeapT :=
  if 0 ≤ r then match h.2[r.toNat]? with
    | none => ((zeroV, false), h)
    | some c => match c.props.getLast? with
      | none => ((zeroV, false), h)
      | some p => ((p.2, true), (h.1, h.2.set r.toNat (c.withProps c.props.dropLast)))
  else ((zeroV, false), h)
theorem drop_ok (h : HeapT) (r : Int) (hl : ∀ c ∈ h.2, c.props.length ≤ 2 ^ 30) : (R.heap_Heap_Drop h r).sat (· = dropF h r) := by
  unfold R.heap_Heap_Drop
  refine law_given fun _ => law_bind_eq (count_ok h r) (law_given fun _ => ?_)
  by_cases h0 : 0 ≤ r
  case neg =>
    simp only [dropF, if_neg h0]
    exact law_t rfl (law_ok rfl)
  simp only [if_pos h0]
  cases hc : h.2[r.toNat]? with
  | none =>
    simp only [dropF, if_pos h0, hc]
    exact law_t rfl (law_ok rfl)
  | some c =>
    have hlen := hl c (List.mem_of_getElem? hc)
    have hd : dropF h r = match c.props.getLast? with
        | none => ((zeroV, false), h)
        | some p => ((p.2, true), (h.1, h.2.set r.toNat (c.withProps c.props.dropLast))) := by
      unfold dropF
      rw [if_pos h0, hc]
    rw [hd]
    refine law_br (fun h1 => ?_) fun h1 => ?_
    · have : c.props = [] := by simpa using h1
      rw [this]
      exact law_ok rfl
    · have hne : c.props ≠ [] := by intro he; simp [he] at h1
      have hpos : 0 < c.props.length := List.length_pos_iff.2 hne
      obtain ⟨pl, hpl0⟩ : ∃ p, c.props[c.props.length - 1]? = some p := ⟨_, List.getElem?_eq_getElem (by omega)⟩
      rw [List.getLast?_eq_getElem?, hpl0]
      have hpl : c.2.2.1.length = c.props.length := rfl
      have hb : (r.toNat == r.toNat) = true := by simp
      refine law_idxS h0 (List.getElem?_eq_some_iff.1 hc).1 fun x hx _ => ?_
      rw [hc] at hx
      cases hx
      rw [hpl, wrap64 (by omega)]
      refine law_need hb (law_need hb (law_need (by rw [Bool.and_eq_true, ile_true, ilt_true]; omega) ?_))
      have hidx : ((0 : Int) + (((c.props.length : Int) - 1).toNat : Int)).toNat = c.props.length - 1 := by omega
      refine law_idx (by omega) (by rw [hidx]; show c.props.length - 1 < c.props.length; omega) fun e he _ => ?_
      rw [hidx] at he
      have he : c.props[c.props.length - 1]? = some e := he
      rw [hpl0] at he
      refine law_need hb (law_need (by rw [Bool.and_eq_true, ile_true, ile_true]; omega) (law_need hb (law_bind_eq (own_ok e.2) (law_given fun _ => law_ok ?_))))
      rw [show ((c.props.length : Int) - 1).toNat = c.props.length - 1 by omega, List.drop_zero, List.dropLast_eq_take]
      cases he
      rfl
end Go.Mach

set_option maxRecDepth 100000
namespace Go.Mach
open Res

def mkC (i : Nat) (ps : List PropT) : CellT := (1, (i : Int) - 1, ps, [], [], 0, 0, zeroV, 0, 0, 0, 0, [])
def tbl (n : Nat) (pr : Nat → List PropT) : List CellT := (List.range n).map fun i => mkC i (pr i)
theorem tbl_len (n : Nat) (pr : Nat → List PropT) : (tbl n pr).length = n := by simp [tbl]
theorem tbl_get {n i : Nat} {pr : Nat → List PropT} (h : i < n) : (tbl n pr)[i]? = some (mkC i (pr i)) := by
  simp [tbl, h]
theorem tbl_mem {n : Nat} {pr : Nat → List PropT} {c : CellT} (h : c ∈ tbl n pr) : ∃ i, i < n ∧ c = mkC i (pr i) := by
  simp only [tbl, List.mem_map, List.mem_range] at h
  obtain ⟨i, h1, h2⟩ := h
  exact ⟨i, h1, h2.symm⟩
theorem tbl_set {n r : Nat} {pr : Nat → List PropT} (ps : List PropT) : (tbl n pr).set r (mkC r ps) = tbl n fun i => if i = r then ps else pr i := by
  apply List.ext_getElem?
  intro j
  rw [List.getElem?_set]
  by_cases hj : j < n
  · rw [tbl_get hj, tbl_get hj]
    by_cases hr : r = j
    · subst hr; simp [tbl_len, hj]
    · rw [if_neg hr, if_neg (Ne.symm hr)]
  · have h1 : (tbl n pr)[j]? = none := List.getElem?_eq_none (by rw [tbl_len]; omega)
    have h2 : (tbl n fun i => if i = r then ps else pr i)[j]? = none := List.getElem?_eq_none (by rw [tbl_len]; omega)
    rw [h1, h2, tbl_len]
    by_cases hr : r = j
    · subst hr; simp [hj]
    · rw [if_neg hr]

def chain (pr : Nat → List PropT) (key : List Int) : Nat → ValT × Int × Bool
  | 0 => match getK (pr 0) key with
    | some v => (v, 0, true)
    | none => (zeroV, -1, false)
  | i + 1 => match getK (pr (i + 1)) key with
    | some v => (v, 0, true)
    | none => chain pr key i

theorem find_tbl {n : Nat} {pr : Nat → List PropT} {key : List Int} : ∀ (i m : Nat), i < n → i < m → findF (tbl n pr) key m (i : Int) = chain pr key i
  | i, 0, _, h => by omega
  | 0, m + 1, hn, _ => by
    unfold findF chain ownF
    simp only [show (0 : Int) ≤ ((0 : Nat) : Int) by omega, if_true, Int.toNat_natCast, tbl_get hn]
    show (match getK (pr 0) key with | some v => (v, 0, true) | none => if ((0 : Nat) : Int) - 1 < 0 then (zeroV, ((0 : Nat) : Int) - 1, false) else findF (tbl n pr) key m (((0 : Nat) : Int) - 1)) = _
    cases getK (pr 0) key <;> rfl
  | i + 1, m + 1, hn, hm => by
    unfold findF chain ownF
    simp only [show (0 : Int) ≤ ((i + 1 : Nat) : Int) by omega, if_true, Int.toNat_natCast, tbl_get hn]
    show (match getK (pr (i + 1)) key with | some v => (v, 0, true) | none => if ((i + 1 : Nat) : Int) - 1 < 0 then (zeroV, ((i + 1 : Nat) : Int) - 1, false) else findF (tbl n pr) key m (((i + 1 : Nat) : Int) - 1)) = _
    cases getK (pr (i + 1)) key with
    | some v => rfl
    | none =>
      show (if ((i + 1 : Nat) : Int) - 1 < 0 then (zeroV, ((i + 1 : Nat) : Int) - 1, false) else findF (tbl n pr) key m (((i + 1 : Nat) : Int) - 1)) = chain pr key i
      rw [if_neg (by omega), show ((i + 1 : Nat) : Int) - 1 = (i : Int) by omega]
      exact find_tbl i m (by omega) (by omega)

/-- Where nothing, v from a on, w from b on. -/
theorem chain_two {key : List Int} {a b : Nat} {v w : ValT} (hab : a < b) : ∀ i, chain (fun j => if j = b then [(key, w)] else if j = a then [(key, v)] else []) key i = if i < a then (zeroV, -1, false) else if i < b then (v, 0, true) else (w, 0, true)
  | 0 => by
    unfold chain
    by_cases h1 : 0 = b
    · omega
    · rw [if_neg h1]
      by_cases h2 : 0 = a
      · rw [if_pos h2, if_neg (by omega), if_pos (by omega)]; simp [getK]
      · rw [if_neg h2, if_pos (by omega)]; simp [getK]
  | i + 1 => by
    unfold chain
    have ih := chain_two (key := key) (v := v) (w := w) hab i
    by_cases h1 : i + 1 = b
    · rw [if_pos h1, if_neg (by omega), if_neg (by omega)]; simp [getK]
    · rw [if_neg h1]
      by_cases h2 : i + 1 = a
      · rw [if_pos h2, if_neg (by omega), if_pos (by omega)]; simp [getK]
      · rw [if_neg h2]
        show chain _ key i = _
        rw [ih]
        by_cases h3 : i < a
        · rw [if_pos h3, if_pos (show i + 1 < a by omega)]
        · rw [if_neg h3, if_neg (show ¬ i + 1 < a by omega)]
          by_cases h4 : i < b
          · rw [if_pos h4, if_pos (show i + 1 < b by omega)]
          · rw [if_neg h4, if_neg (show ¬ i + 1 < b by omega)]
theorem chain_one {key : List Int} {a : Nat} {v : ValT} : ∀ i, a ≤ i → chain (fun j => if j = a then [(key, v)] else []) key i = (v, 0, true)
  | 0, h => by
    unfold chain
    rw [if_pos (by omega)]; simp [getK]
  | i + 1, h => by
    unfold chain
    by_cases h2 : i + 1 = a
    · rw [if_pos h2]; simp [getK]
    · rw [if_neg h2]
      exact chain_one i (by omega)

theorem put_tbl {room : Int} {n r : Nat} {pr : Nat → List PropT} {key : List Int} {v : ValT} (hr : r < n) (hp : pr r = []) : putF (room, tbl n pr) (r : Int) key v = (true, (room, tbl n fun i => if i = r then [(key, v)] else pr i)) := by
  unfold putF
  rw [if_pos (by omega)]
  simp only [Int.toNat_natCast, tbl_get hr]
  have : putP (mkC r (pr r)).props key v = [(key, v)] := by
    show putP (pr r) key v = _
    rw [hp]; rfl
  rw [this]
  have h2 : (mkC r (pr r)).withProps [(key, v)] = mkC r [(key, v)] := rfl
  rw [h2, tbl_set]

theorem few_ok (v : ValT) : (R.renlaw9_Few v).sat (· = (decide (v.2.2.2.1.length ≤ 20000) && decide (v.2.2.1.2.length ≤ 40))) := by
  unfold R.renlaw9_Few
  refine law_given fun _ => law_br (fun h => ?_) fun h => ?_
  · rw [ile_true] at h
    have h : v.2.2.2.1.length ≤ 20000 := by omega
    refine law_ok ?_
    simp [h, ile]; omega
  · rw [ile_false] at h
    have h : ¬ v.2.2.2.1.length ≤ 20000 := by omega
    exact law_ok (by simp [h])

theorem chains_law (n : Int) (key : List Int) (a b : Int) (v w : ValT) : (R.renlaw9_HeapChains n key a b v w).sat (· = true) := by
  unfold R.renlaw9_HeapChains
  refine law_given fun hok => law_bind_eq first_sat (law_f rfl ?_)
  refine law_bind_eq (new_ok 100) (law_given fun _ => ?_)
  rw [show ((min (max 100 0) 4096 : Int), ([] : List CellT)) = (100, []) from rfl]
  refine law_bind' (R := fun x => x = false → 1 ≤ n ∧ n ≤ 100 ∧ 0 ≤ a ∧ a < b ∧ b < n) ?_ ?_
  · refine law_br (fun _ => law_ok fun h => by cases h) fun h1 => ?_
    refine law_br (fun _ => law_ok fun h => by cases h) fun h2 => ?_
    refine law_br (fun _ => law_ok fun h => by cases h) fun h3 => ?_
    refine law_bind_eq (few_ok v) (law_br (fun _ => law_ok fun h => by cases h) fun h4 => ?_)
    refine law_bind_eq (few_ok w) (law_br (fun _ => law_ok fun h => by cases h) fun h5 => ?_)
    refine law_br (fun _ => law_ok fun h => by cases h) fun h6 => ?_
    refine law_br (fun _ => law_ok fun h => by cases h) fun h7 => ?_
    refine law_ok fun h8 => ?_
    rw [ilt_false] at h1 h2 h6
    rw [ile_false] at h7 h8
    omega
  intro x hx
  refine law_br (fun _ => law_bind_eq first_sat (law_ok rfl)) fun hxf => ?_
  obtain ⟨hn1, hn2, ha, hab, hbn⟩ := hx hxf
  obtain ⟨N, rfl⟩ : ∃ N : Nat, n = N := ⟨n.toNat, by omega⟩
  obtain ⟨A, rfl⟩ : ∃ A : Nat, a = A := ⟨a.toNat, by omega⟩
  obtain ⟨B, rfl⟩ : ∃ B : Nat, b = B := ⟨b.toNat, by omega⟩
  -- the cells are made
  refine law_bind_eq (a := ((100, tbl N fun _ => []) : HeapT)) (law_for (fun x : Int × HeapT => x.1) N (by omega) (fun x => (0 ≤ x.1 ∧ x.1 ≤ N) ∧ x.2 = (100, tbl x.1.toNat fun _ => [])) ⟨⟨by simp, by simp⟩, rfl⟩ (fun x h => h.1) ?_) ?_
  · rintro ⟨i, h⟩ ⟨⟨h1, h2⟩, hh⟩
    simp only at h1 h2 hh
    subst hh
    obtain ⟨I, rfl⟩ : ∃ I : Nat, i = I := ⟨i.toNat, by omega⟩
    simp only [Int.toNat_natCast]
    refine law_br (fun h3 => ?_) fun h3 => ?_
    · rw [ilt_true] at h3
      have hw : IntKind.wrap .i64 ((I : Int) - 1) = (I : Int) - 1 := wrap64 (by omega)
      rw [hw]
      have hm : makeF (100, tbl I fun _ => []) (mkC I []) = (((I : Int), true), (100, tbl (I + 1) fun _ => [])) := by
        unfold makeF
        rw [if_neg (by simp only [tbl_len]; omega)]
        simp only [tbl_len]
        simp [tbl, List.range_succ]
      refine law_bind_eq (a := (((I : Int), true), (100, tbl (I + 1) fun _ => []))) (by rw [← hm]; exact make_ok (100, tbl I fun _ => []) (mkC I []) (by simp [copyOk, mkC]) (by simp only [tbl_len]; omega)) (law_given fun _ => law_ok ⟨wrap64 (by omega), ?_⟩)
      simp only
      rw [wrap64 (by omega)]
      refine ⟨⟨by omega, by omega⟩, ?_⟩
      rw [show ((I : Int) + 1).toNat = I + 1 by omega]
    · rw [ilt_false] at h3
      have : I = N := by omega
      subst this
      exact law_ok rfl
  have hlen : ∀ {pr : Nat → List PropT}, (∀ i, (pr i).length ≤ 1) → ∀ c ∈ tbl N pr, c.props.length ≤ 2 ^ 30 := fun hp c hc => by
    obtain ⟨i, _, rfl⟩ := tbl_mem hc
    have := hp i
    show (_ : List PropT).length ≤ _
    simp only [CellT.props, mkC]
    omega
  let pr1 : Nat → List PropT := fun i => if i = A then [(key, v)] else []
  let pr2 : Nat → List PropT := fun i => if i = B then [(key, w)] else pr1 i
  have hp1 : ∀ i, (pr1 i).length ≤ 1 := fun i => by simp only [pr1]; split <;> simp
  have hp2 : ∀ i, (pr2 i).length ≤ 1 := fun i => by simp only [pr2]; split <;> simp [hp1]
  have hA : A < N := by omega
  have hB : B < N := by omega
  refine law_bind_eq (a := (true, (100, tbl N pr1))) (by rw [← put_tbl (pr := fun _ => []) hA rfl]; exact put_ok (100, tbl N fun _ => []) A key v (hlen fun _ => by simp)) (law_given fun _ => ?_)
  refine law_bind_eq (a := (true, (100, tbl N pr2))) (by rw [← put_tbl (pr := pr1) hB (by simp only [pr1]; rw [if_neg (by omega)])]; exact put_ok (100, tbl N pr1) B key w (hlen hp1)) (law_given fun _ => ?_)
  have hfind : ∀ i : Nat, i < N → (R.heap_Heap_Find (100, tbl N pr2) (i : Int) key).sat (· = if i < A then (zeroV, -1, false) else if i < B then (v, 0, true) else (w, 0, true)) := fun i hi => by
    have h1 := find_ok (100, tbl N pr2) (i : Int) key (hlen hp2) (by simp only [tbl_len]; omega)
    have h2 : findF (tbl N pr2) key (tbl N pr2).length (i : Int) = if i < A then (zeroV, -1, false) else if i < B then (v, 0, true) else (w, 0, true) := by
      rw [tbl_len]
      exact (find_tbl i N hi hi).trans (chain_two (by omega) i)
    exact h2 ▸ h1
  refine law_bind_eq (a := Sum.inl ()) (law_for (fun i : Int => i) N (by omega) (fun i => 0 ≤ i ∧ i ≤ N) (by simp) (fun i h => h) ?_) ?_
  · rintro i ⟨h1, h2⟩
    obtain ⟨I, rfl⟩ : ∃ I : Nat, i = I := ⟨i.toNat, by omega⟩
    refine law_br (fun h3 => ?_) fun h3 => law_ok rfl
    rw [ilt_true] at h3
    refine law_bind_eq (hfind I (by omega)) (law_given fun _ => law_bind_eq (a := false) ?_ (law_f rfl (law_ok ⟨wrap64 (by omega), by rw [wrap64 (by omega)]; omega⟩)))
    by_cases hi1 : I < A
    · simp only [if_pos hi1]
      refine law_f (by simp [ile]; omega) (law_t rfl (law_f rfl (law_f rfl (law_f rfl (law_ok rfl)))))
    · simp only [if_neg hi1]
      by_cases hi2 : I < B
      · simp only [if_pos hi2]
        refine law_f (by simp [ile]; omega) (law_f rfl (law_t rfl (law_t (by rw [ilt_true]; omega) ?_)))
        exact law_bind_eq (same_ok v v) (law_f (by simp) (law_t rfl (law_f (by rw [ile_false]; omega) (law_ok rfl))))
      · simp only [if_neg hi2]
        refine law_f (by simp [ile]; omega) (law_f rfl (law_t rfl (law_f (by rw [ilt_false]; omega) (law_t rfl (law_t (by rw [ile_true]; omega) ?_)))))
        exact law_bind_eq (same_ok w w) (law_ok (by simp))
  have hdrop : dropF (100, tbl N pr2) (B : Int) = ((w, true), (100, tbl N fun i => if i = B then [] else pr2 i)) := by
    unfold dropF
    rw [if_pos (by omega)]
    simp only [Int.toNat_natCast, tbl_get hB]
    have : (mkC B (pr2 B)).props = [(key, w)] := by show pr2 B = _; simp [pr2]
    rw [this]
    show ((w, true), _) = _
    have h2 : (mkC B (pr2 B)).withProps ([(key, w)] : List PropT).dropLast = mkC B [] := rfl
    rw [h2, tbl_set]
  have hpr : (fun i => if i = B then [] else pr2 i) = pr1 := by
    funext i
    by_cases hi : i = B
    · rw [if_pos hi]; simp only [pr1]; rw [if_neg (by omega)]
    · rw [if_neg hi]; simp only [pr2]; rw [if_neg hi]
  rw [hpr] at hdrop
  refine law_inl (law_bind_eq (a := ((w, true), (100, tbl N pr1))) (by rw [← hdrop]; exact drop_ok (100, tbl N pr2) B (hlen hp2)) (law_given fun _ => ?_))
  have hw : IntKind.wrap .i64 ((N : Int) - 1) = ((N - 1 : Nat) : Int) := by rw [wrap64 (by omega)]; omega
  rw [hw]
  have hfind2 : (R.heap_Heap_Find (100, tbl N pr1) ((N - 1 : Nat) : Int) key).sat (· = (v, 0, true)) := by
    have h1 := find_ok (100, tbl N pr1) ((N - 1 : Nat) : Int) key (hlen hp1) (by simp only [tbl_len]; omega)
    have h2 : findF (tbl N pr1) key (tbl N pr1).length ((N - 1 : Nat) : Int) = (v, 0, true) := by
      rw [tbl_len]
      exact (find_tbl (N - 1) N (by omega) (by omega)).trans (chain_one (N - 1) (by omega))
    exact h2 ▸ h1
  refine law_bind_eq hfind2 (law_given fun _ => law_bind_eq first_sat (law_t rfl (law_t rfl (law_bind_eq (same_ok w w) (law_t (by simp) (law_t rfl (law_bind_eq (same_ok v v) (law_ok (by simp)))))))))
end Go.Mach

set_option maxRecDepth 100000
namespace Go.Mach
open Res

/-! ### Keys that are numbers -/

def isDig (x : Int) : Bool := decide (48 ≤ x) && decide (x ≤ 57)
def digVal (u : List Int) : Int := u.foldl (fun n x => 10 * n + (x - 48)) 0
/-- Key. -/
def keyF (u : List Int) : Int × Bool :=
  if u = [] ∨ 10 < u.length ∨ (u.head? = some 48 ∧ 1 < u.length) then (0, false)
  else if u.all isDig then (if 4294967294 < digVal u then (0, false) else (digVal u, true)) else (0, false)

theorem digVal_bound : ∀ (u : List Int) (n : Int), (∀ x ∈ u, 48 ≤ x ∧ x ≤ 57) → 0 ≤ n → 0 ≤ u.foldl (fun n x => 10 * n + (x - 48)) n ∧ u.foldl (fun n x => 10 * n + (x - 48)) n + 1 ≤ (n + 1) * 10 ^ u.length
  | [], n, _, h => by simp; omega
  | x :: u, n, h, h0 => by
    have hx := h x (by simp)
    have ih := digVal_bound u (10 * n + (x - 48)) (fun y hy => h y (List.mem_cons_of_mem _ hy)) (by omega)
    refine ⟨ih.1, ?_⟩
    simp only [List.foldl_cons, List.length_cons]
    have h1 : (10 * n + (x - 48) + 1) * 10 ^ u.length ≤ ((n + 1) * 10) * 10 ^ u.length := Int.mul_le_mul_of_nonneg_right (by omega) (Int.pow_nonneg (by omega))
    have h2 : (n + 1) * 10 ^ (u.length + 1) = ((n + 1) * 10) * 10 ^ u.length := by rw [Int.pow_succ, Int.mul_assoc, Int.mul_comm 10]
    omega

theorem wrapU16 {n : Int} (h : 0 ≤ n ∧ n < 65536) : IntKind.wrap .u16 n = n := by
  simp [IntKind.wrap, IntKind.signed, IntKind.bits]
  omega

theorem digit_ok (x : Int) : (R.text_digit x).sat (· = isDig x) := by
  unfold R.text_digit isDig
  refine law_given fun _ => law_br (fun h => law_ok ?_) fun h => law_ok ?_
  · rw [ile_true] at h; simp [h, ile]
  · rw [ile_false] at h; simp; omega

theorem key_ok (u : List Int) : (R.text_Key u).sat (· = keyF u) := by
  unfold R.text_Key
  refine law_given fun _ => law_bind_eq (a := decide (u = [] ∨ 10 < u.length ∨ (u.head? = some 48 ∧ 1 < u.length))) ?_ ?_
  · refine law_br (fun h => law_ok ?_) fun h => ?_
    · have h : u = [] := by simpa using h
      simp [h]
    have h : u ≠ [] := by simpa using h
    have hpos : 0 < u.length := List.length_pos_iff.2 h
    refine law_br (fun h1 => law_ok ?_) fun h1 => ?_
    · rw [ilt_true] at h1
      have h1 : 10 < u.length := by omega
      simp [h1]
    rw [ilt_false] at h1
    have h1 : ¬ 10 < u.length := by omega
    refine law_idxS (by omega) (by show (0 : Int).toNat < u.length; simpa using hpos) fun e he _ => ?_
    have he : u[0]? = some e := he
    have hhd : u.head? = some e := by rw [← he]; cases u <;> rfl
    refine law_br (fun h2 => law_ok ?_) fun h2 => law_ok ?_
    · have h2 : e = 48 := by simpa using h2
      simp only [h, h1, hhd, h2, false_or, ilt, true_and]
      congr 1
      apply propext
      omega
    · have h2 : ¬ e = 48 := by simpa using h2
      simp [h, h1, hhd, h2]
  by_cases hb : u = [] ∨ 10 < u.length ∨ (u.head? = some 48 ∧ 1 < u.length)
  · refine law_t (decide_eq_true hb) (law_ok ?_)
    unfold keyF
    rw [if_pos hb]
  refine law_f (decide_eq_false hb) ?_
  have hk : keyF u = if u.all isDig then (if 4294967294 < digVal u then (0, false) else (digVal u, true)) else (0, false) := by
    unfold keyF
    rw [if_neg hb]
  rw [hk]
  have hlen : u.length ≤ 10 := by
    apply Nat.le_of_not_lt
    exact fun h => hb (.inr (.inl h))
  refine law_bind' (R := fun y => match y with
      | .inl n => u.all isDig = true ∧ n = digVal u
      | .inr z => u.all isDig = false ∧ z = (0, false)) (law_for (fun x : Int × Int => x.2) u.length (by omega) (fun x => (0 ≤ x.2 ∧ x.2 ≤ u.length) ∧ (u.take x.2.toNat).all isDig = true ∧ x.1 = digVal (u.take x.2.toNat)) ⟨⟨by simp, by simp⟩, by simp, rfl⟩ (fun x h => h.1) ?_) ?_
  · rintro ⟨n, i⟩ ⟨⟨h1, h2⟩, h3, h4⟩
    simp only at h1 h2 h3 h4
    refine law_br (fun h5 => ?_) fun h5 => ?_
    · rw [ilt_true] at h5
      simp only at h5
      have hi : i.toNat < u.length := by omega
      refine law_idxS h1 hi fun (e : Int) he hrange => ?_
      have he : u[i.toNat]? = some e := he
      have hei : u[i.toNat] = e := by rw [List.getElem?_eq_getElem hi] at he; cases he; rfl
      have htk : u.take (i + 1).toNat = u.take i.toNat ++ [e] := by
        rw [show (i + 1).toNat = i.toNat + 1 by omega, List.take_succ_eq_append_getElem hi, hei]
      refine law_bind_eq (digit_ok e) (law_br (fun h6 => law_ok ?_) fun h6 => law_ok ?_)
      · refine ⟨?_, rfl⟩
        have h6 := notT h6
        rw [List.all_eq_false]
        exact ⟨e, List.mem_of_getElem? he, by simp [h6]⟩
      · have h6 := notF h6
        have hd : 48 ≤ e ∧ e ≤ 57 := by simpa [isDig] using h6
        have hall : ∀ x ∈ u.take i.toNat, 48 ≤ x ∧ x ≤ 57 := fun x hx => by
          have := List.all_eq_true.1 h3 x hx
          simpa [isDig] using this
        have hbd := digVal_bound (u.take i.toNat) 0 hall (by omega)
        have hn : n = (u.take i.toNat).foldl (fun n x => 10 * n + (x - 48)) 0 := h4
        rw [← hn] at hbd
        have hp : (10 : Int) ^ (u.take i.toNat).length ≤ 10 ^ 10 := by
          have : (u.take i.toNat).length ≤ 10 := by simp; omega
          exact_mod_cast Nat.pow_le_pow_right (by omega) this
        refine ⟨wrap64 (by omega), ?_⟩
        simp only
        rw [wrapU16 (by omega), wrap64 (n := e - 48) (by omega), wrap64 (n := 10 * n) (by omega), wrap64 (n := 10 * n + (e - 48)) (by omega), wrap64 (n := i + 1) (by omega), htk]
        refine ⟨⟨by omega, by omega⟩, by simp [h3, h6], ?_⟩
        rw [h4]
        simp [digVal]
    · rw [ilt_false] at h5
      simp only at h5
      have : u.take i.toNat = u := List.take_of_length_le (by omega)
      rw [this] at h3 h4
      exact law_ok ⟨h3, h4⟩
  · intro y hy
    cases y with
    | inl n =>
      obtain ⟨h1, rfl⟩ := hy
      rw [if_pos h1]
      refine law_inl (law_br (fun h2 => law_ok ?_) fun h2 => law_ok ?_)
      · rw [ilt_true] at h2; rw [if_pos h2]
      · rw [ilt_false] at h2; rw [if_neg (by omega)]
    | inr z =>
      obtain ⟨h1, rfl⟩ := hy
      rw [h1]
      exact law_inr (law_ok rfl)

/-- The number of a key. -/
def numK (u : List Int) : Int := (keyF u).1
theorem numK_range (u : List Int) : 0 ≤ numK u ∧ numK u ≤ 4294967294 := by
  unfold numK keyF
  split
  · simp
  · split
    · rename_i h
      have hall : ∀ x ∈ u, 48 ≤ x ∧ x ≤ 57 := fun x hx => by
        have := List.all_eq_true.1 h x hx
        simpa [isDig] using this
      have := (digVal_bound u 0 hall (by omega)).1
      split
      · simp
      · show 0 ≤ digVal u ∧ digVal u ≤ 4294967294
        have h0 : 0 ≤ digVal u := this
        omega
    · simp
theorem cmp_ok (a b : List Int) : (R.heap_Heap_Keys_1 a b).sat (· = numK a - numK b) := by
  unfold R.heap_Heap_Keys_1
  have ha := numK_range a
  have hb := numK_range b
  refine law_given fun _ => law_bind_eq (key_ok a) (law_given fun _ => law_bind_eq (key_ok b) (law_given fun _ => law_ok ?_))
  show IntKind.wrap .i64 (numK a - numK b) = _
  exact wrap64 (by omega)
end Go.Mach

set_option maxRecDepth 100000
namespace Go.Mach
open Res

/-- An element read, its place asked for first. -/
theorem law_at {β : Type} {Q : β → Prop} (xs : List (List Int)) (i : Int) {k : List Int → Res β} (h0 : 0 ≤ i) (h1 : i < xs.length) (h : ∀ x : List Int, xs[i.toNat]? = some x → (k x).sat Q) :
    (Res.need (ile 0 i && ilt i xs.length) (Res.idx (.list (.int .u16)) xs (0 + (i.toNat : Int)) k)).sat Q := by
  refine law_need (by rw [Bool.and_eq_true, ile_true, ilt_true]; exact ⟨h0, h1⟩) ?_
  have hi : ((0 : Int) + (i.toNat : Int)).toNat = i.toNat := idx0 i
  refine law_idx (by omega) (by rw [hi]; show i.toNat < xs.length; omega) fun x hx _ => h x (by rw [← hi]; exact hx)

abbrev Keys := List (List Int)

theorem swap_perm {d : Keys} {i j : Nat} {x y : List Int} (hx : d[i]? = some x) (hy : d[j]? = some y) : ((d.set i y).set j x).Perm d := by
  obtain ⟨hi, hx⟩ := List.getElem?_eq_some_iff.1 hx
  obtain ⟨hj, hy⟩ := List.getElem?_eq_some_iff.1 hy
  subst hx hy
  exact List.set_set_perm hi hj

/-- A swap of two places, as the code does it. -/
theorem swap_law {β : Type} {Q : β → Prop} {d : Keys} {i j : Int} {k : Keys → Res β} (hi : 0 ≤ i ∧ i < d.length) (hj : 0 ≤ j ∧ j < d.length) (h : ∀ x y, d[i.toNat]? = some x → d[j.toNat]? = some y → (k ((d.set i.toNat y).set j.toNat x)).sat Q) :
    (Res.need (ile 0 j && ilt j d.length) (Res.idx (.list (.int .u16)) d (0 + Int.toNat j) fun e7 => Res.need (ile 0 i && ilt i d.length) (Res.idx (.list (.int .u16)) d (0 + Int.toNat i) fun e8 => Res.need (ile 0 i && ilt i d.length) (Res.idx (.list (.int .u16)) d (0 + Int.toNat i) fun e9 => Res.need (ile 0 j && ilt j (List.set d (0 + Int.toNat i) e7).length) (Res.idx (.list (.int .u16)) (List.set d (0 + Int.toNat i) e7) (0 + Int.toNat j) fun e10 => k (List.set (List.set d (0 + Int.toNat i) e7) (0 + Int.toNat j) e8)))))).sat Q := by
  refine law_at d j hj.1 hj.2 fun y hy => ?_
  refine law_at d i hi.1 hi.2 fun x hx => ?_
  refine law_at d i hi.1 hi.2 fun x' hx' => ?_
  refine law_at (List.set d (0 + Int.toNat i) y) j hj.1 (by rw [List.length_set]; exact hj.2) fun y' hy' => ?_
  rw [Nat.zero_add, Nat.zero_add]
  exact h x y hx hy

theorem insertion_ok (d : Keys) (a b : Int) (ha : 0 ≤ a) (hb : b ≤ d.length) (hab : a ≤ d.length) (hl : d.length < 2 ^ 60) : (R.slices_insertionSortCmpFunc_suint16__heap_Heap_Keys_1 d a b ()).sat fun y => y.2.Perm d := by
  unfold R.slices_insertionSortCmpFunc_suint16__heap_Heap_Keys_1
  have hw : IntKind.wrap .i64 (a + 1) = a + 1 := wrap64 (by omega)
  rw [hw]
  refine law_given fun _ => law_bind' (R := fun d' => d'.Perm d) (law_for (fun x : Int × Keys => x.1) (d.length + 1) (by omega) (fun x => (a + 1 ≤ x.1 ∧ x.1 ≤ d.length + 1) ∧ x.2.Perm d) ⟨⟨by simp, by simp only; omega⟩, List.Perm.refl _⟩ (fun x h => by omega) ?_) fun d' h => law_ok h
  rintro ⟨i, d1⟩ ⟨⟨h1, h2⟩, hp⟩
  simp only at h1 h2 hp
  have hlen := hp.length_eq
  refine law_br (fun h3 => ?_) fun h3 => law_ok hp
  rw [ilt_true] at h3
  simp only at h3
  refine law_bind' (R := fun d' => d'.Perm d) (law_loop (fun k (x : Int × Keys) => k = (x.1 - a).toNat ∧ (a ≤ x.1 ∧ x.1 ≤ i) ∧ x.2.Perm d) ?_ _ (i - a).toNat _ (by have : fuel = 2 ^ 70 := rfl; omega) ⟨rfl, ⟨by simp only; omega, Int.le_refl _⟩, hp⟩) fun d' h => law_ok ⟨wrap64 (by omega), by simp only; rw [wrap64 (by omega)]; omega, h⟩
  rintro k ⟨j, d2⟩ ⟨hk, ⟨h4, h5⟩, hp2⟩
  simp only at hk h4 h5 hp2
  have hlen2 := hp2.length_eq
  refine law_bind' (R := fun b => b = true → a < j) ?_ ?_
  · refine law_br (fun h6 => ?_) fun h6 => law_ok fun h => by cases h
    rw [ilt_true] at h6
    simp only at h6
    rw [wrap64 (n := j - 1) (by omega)]
    refine law_at d2 j (by omega) (by omega) fun e3 _ => ?_
    refine law_at d2 (j - 1) (by omega) (by omega) fun e4 _ => ?_
    exact law_bind_eq (cmp_ok e3 e4) (law_given fun _ => law_ok fun _ => h6)
  · intro x hx
    refine law_br (fun h6 => ?_) fun _ => law_ok hp2
    have hj := hx h6
    simp only
    rw [wrap64 (n := j - 1) (by omega)]
    refine swap_law (d := d2) (i := j) (j := j - 1) (k := fun d' => (Res.ok (Res.Step.next (j - 1, d')) : Res (Res.Step (Int × Keys) Keys))) ⟨by omega, by omega⟩ ⟨by omega, by omega⟩ fun x y hx hy => ?_
    exact law_ok ⟨(j - 1 - a).toNat, by omega, rfl, ⟨by simp only; omega, by simp only; omega⟩, (swap_perm hx hy).trans hp2⟩

theorem swapRange_ok (d : Keys) (a b n : Int) (ha : 0 ≤ a) (hb : 0 ≤ b) (han : a + n ≤ d.length) (hbn : b + n ≤ d.length) (hn : 0 ≤ n) (hl : d.length < 2 ^ 60) : (R.slices_swapRangeCmpFunc_suint16__heap_Heap_Keys_1 d a b n ()).sat fun y => y.2.Perm d := by
  unfold R.slices_swapRangeCmpFunc_suint16__heap_Heap_Keys_1
  refine law_given fun _ => law_bind' (R := fun d' => d'.Perm d) (law_for (fun x : Int × Keys => x.1) n.toNat (by omega) (fun x => (0 ≤ x.1 ∧ x.1 ≤ n.toNat) ∧ x.2.Perm d) ⟨⟨by simp, by simp only; omega⟩, List.Perm.refl _⟩ (fun x h => h.1) ?_) fun d' h => law_ok h
  rintro ⟨i, d1⟩ ⟨⟨h1, h2⟩, hp⟩
  simp only at h1 h2 hp
  have hlen := hp.length_eq
  refine law_br (fun h3 => ?_) fun h3 => law_ok hp
  rw [ilt_true] at h3
  simp only at h3 ⊢
  rw [wrap64 (n := b + i) (by omega), wrap64 (n := a + i) (by omega), wrap64 (n := i + 1) (by omega)]
  refine swap_law (d := d1) (i := a + i) (j := b + i) (k := fun d' => (Res.ok (Res.Step.next (i + 1, d')) : Res (Res.Step (Int × Keys) Keys))) ⟨by omega, by omega⟩ ⟨by omega, by omega⟩ fun x y hx hy => ?_
  exact law_ok ⟨rfl, ⟨by simp only; omega, by simp only; omega⟩, (swap_perm hx hy).trans hp⟩

theorem rotate_ok (d : Keys) (a m b : Int) (ha : 0 ≤ a) (ham : a < m) (hmb : m < b) (hb : b ≤ d.length) (hl : d.length < 2 ^ 60) : (R.slices_rotateCmpFunc_suint16__heap_Heap_Keys_1 d a m b ()).sat fun y => y.2.Perm d := by
  unfold R.slices_rotateCmpFunc_suint16__heap_Heap_Keys_1
  rw [wrap64 (n := m - a) (by omega), wrap64 (n := b - m) (by omega)]
  refine law_given fun _ => law_bind' (R := fun (x : Int × Keys) => (0 < x.1 ∧ x.1 ≤ m - a ∧ x.1 ≤ b - m) ∧ x.2.Perm d) (law_loop (fun k (x : Int × Int × Keys) => k = (x.1 + x.2.1).toNat ∧ (0 < x.1 ∧ x.1 ≤ m - a) ∧ (0 < x.2.1 ∧ x.2.1 ≤ b - m) ∧ x.2.2.Perm d) ?_ _ (b - a).toNat _ (by have : fuel = 2 ^ 70 := rfl; omega) ⟨by simp only; congr 1; omega, ⟨by simp only; omega, by simp only; omega⟩, ⟨by simp only; omega, by simp only; omega⟩, List.Perm.refl _⟩) ?_
  · rintro k ⟨i, j, d1⟩ ⟨hk, ⟨h1, h2⟩, ⟨h3, h4⟩, hp⟩
    simp only at hk h1 h2 h3 h4 hp
    have hlen := hp.length_eq
    refine law_br (fun h5 => ?_) fun h5 => law_ok ⟨⟨h1, h2, ?_⟩, hp⟩
    · have h5 : ¬ i = j := by simpa using h5
      refine law_br (fun h6 => ?_) fun h6 => ?_
      · rw [ilt_true] at h6
        simp only at h6 ⊢
        rw [wrap64 (n := m - i) (by omega), wrap64 (n := i - j) (by omega)]
        refine law_bind' (swapRange_ok d1 (m - i) m j (by omega) (by omega) (by omega) (by omega) (by omega) (by omega)) fun y hy => law_given fun _ => law_ok ⟨(i - j + j).toNat, by omega, rfl, ⟨by simp only; omega, by simp only; omega⟩, ⟨by simp only; omega, by simp only; omega⟩, hy.trans hp⟩
      · rw [ilt_false] at h6
        simp only at h6 ⊢
        rw [wrap64 (n := m - i) (by omega), wrap64 (n := m + j) (by omega), wrap64 (n := m + j - i) (by omega), wrap64 (n := j - i) (by omega)]
        refine law_bind' (swapRange_ok d1 (m - i) (m + j - i) i (by omega) (by omega) (by omega) (by omega) (by omega) (by omega)) fun y hy => law_given fun _ => law_ok ⟨(i + (j - i)).toNat, by omega, rfl, ⟨by simp only; omega, by simp only; omega⟩, ⟨by simp only; omega, by simp only; omega⟩, hy.trans hp⟩
    · have h5 : i = j := by simpa using h5
      simp only
      omega
  · rintro ⟨i, d1⟩ ⟨⟨h1, h2, h3⟩, hp⟩
    simp only at h1 h2 h3 hp ⊢
    have hlen := hp.length_eq
    rw [wrap64 (n := m - i) (by omega)]
    refine law_bind' (swapRange_ok d1 (m - i) m i (by omega) (by omega) (by omega) (by omega) (by omega) (by omega)) fun y hy => law_given fun _ => law_ok (hy.trans hp)
end Go.Mach

set_option maxRecDepth 100000
namespace Go.Mach
open Res

/-- Half of a sum, as the code does it. -/
abbrev halfW (x : Int) : Int := IntKind.wrap .i64 (ishr .u64 (IntKind.wrap .u64 (IntKind.wrap .i64 x)) 1)
theorem half_ok {x : Int} (h : 0 ≤ x ∧ x < 2 ^ 62) : halfW x = x / 2 := by
  unfold halfW
  have h1 : IntKind.wrap .i64 x = x := wrap64 (by omega)
  have h2 : IntKind.wrap .u64 x = x := by
    simp [IntKind.wrap, IntKind.signed, IntKind.bits]
    omega
  have h3 : ishr .u64 x 1 = x / 2 := by
    unfold ishr
    have : (min (Int.toNat 1) (IntKind.bits .u64)) = 1 := by decide
    rw [this]
    show x.fdiv 2 = x / 2
    rw [Int.fdiv_eq_ediv]
    omega
  rw [h1, h2, h3]
  exact wrap64 (by omega)

/-- One round of a binary search that leaves the row as it is. -/
theorem search_ok {d : Keys} (lo hi : Int) (hlo : 0 ≤ lo) (hhi : hi < 2 ^ 60) (hle : lo ≤ hi) (f : Int × Int → Res (Res.Step (Int × Int) Int))
    (hf : ∀ i j, lo ≤ i → i ≤ j → j ≤ hi → (f (i, j)).sat fun
      | .next x => i < j ∧ ((x = ((i + j) / 2 + 1, j)) ∨ x = (i, (i + j) / 2))
      | .done r => r = i) : (Res.loop f fuel (lo, hi)).sat fun r => lo ≤ r ∧ r ≤ hi := by
  refine law_loop (fun k (x : Int × Int) => k = (x.2 - x.1).toNat ∧ lo ≤ x.1 ∧ x.1 ≤ x.2 ∧ x.2 ≤ hi) ?_ _ (hi - lo).toNat _ (by have : fuel = 2 ^ 70 := rfl; omega) ⟨rfl, Int.le_refl _, hle, Int.le_refl _⟩
  rintro k ⟨i, j⟩ ⟨hk, h1, h2, h3⟩
  simp only at hk h1 h2 h3
  refine law_mono (hf i j h1 h2 h3) fun s hs => ?_
  cases s with
  | next x =>
    obtain ⟨h4, rfl | rfl⟩ := hs
    · exact ⟨_, by omega, rfl, by simp only; omega, by simp only; omega, by simp only; omega⟩
    · exact ⟨_, by omega, rfl, by simp only; omega, by simp only; omega, by simp only; omega⟩
  | done r =>
    have hs : r = i := hs
    subst hs
    exact ⟨h1, by omega⟩

theorem symMerge_ok : ∀ (fu : Nat) (d : Keys) (a m b : Int), (b - a).toNat < fu → 0 ≤ a → a < m → m < b → b ≤ d.length → d.length < 2 ^ 60 → (R.slices_symMergeCmpFunc_suint16__heap_Heap_Keys_1 fu d a m b ()).sat fun y => y.2.Perm d
  | 0, _, _, _, _, h, _, _, _, _, _ => by omega
  | fu + 1, d, a, m, b, hfu, h0, ham, hmb, hb, hl => by
    unfold R.slices_symMergeCmpFunc_suint16__heap_Heap_Keys_1
    rw [wrap64 (n := m - a) (by omega), wrap64 (n := b - m) (by omega)]
    refine law_given fun _ => law_br (fun hone => ?_) fun hone => law_br (fun hone2 => ?_) fun hone2 => ?_
    · -- one element on the left
      refine law_bind' (R := fun r => m ≤ r ∧ r ≤ b) (search_ok (d := d) m b (by omega) (by omega) (by omega) _ fun i j h1 h2 h3 => ?_) fun i5 hi5 => ?_
      · simp only
        refine law_br (fun h4 => ?_) fun h4 => law_ok rfl
        rw [ilt_true] at h4
        have hh : halfW (i + j) = (i + j) / 2 := half_ok (by omega)
        refine law_need rfl ?_
        rw [show IntKind.wrap .i64 (ishr .u64 (IntKind.wrap .u64 (IntKind.wrap .i64 (i + j))) 1) = (i + j) / 2 from hh]
        refine law_at d ((i + j) / 2) (by omega) (by omega) fun e2 _ => ?_
        refine law_at d a (by omega) (by omega) fun e3 _ => ?_
        refine law_bind_eq (cmp_ok e2 e3) (law_given fun _ => law_br (fun _ => law_ok ⟨h4, .inl ?_⟩) fun _ => law_ok ⟨h4, .inr rfl⟩)
        rw [wrap64 (by omega)]
      · rw [wrap64 (n := i5 - 1) (by omega)]
        refine law_bind' (R := fun d' => d'.Perm d) (law_for (fun x : Int × Keys => x.1) (d.length + 1) (by omega) (fun x => (a ≤ x.1 ∧ x.1 ≤ d.length) ∧ x.2.Perm d) ⟨⟨by simp, by simp only; omega⟩, List.Perm.refl _⟩ (fun x h => by omega) ?_) fun d' h => law_ok h
        rintro ⟨k, d2⟩ ⟨⟨h1, h2⟩, hp⟩
        simp only at h1 h2 hp
        have hlen := hp.length_eq
        refine law_br (fun h3 => ?_) fun h3 => law_ok hp
        rw [ilt_true] at h3
        simp only at h3 ⊢
        rw [wrap64 (n := k + 1) (by omega)]
        refine swap_law (d := d2) (i := k) (j := k + 1) (k := fun d' => (Res.ok (Res.Step.next (k + 1, d')) : Res (Res.Step (Int × Keys) Keys))) ⟨by omega, by omega⟩ ⟨by omega, by omega⟩ fun x y hx hy => ?_
        exact law_ok ⟨rfl, ⟨by simp only; omega, by simp only; omega⟩, (swap_perm hx hy).trans hp⟩
    · -- one element on the right
      refine law_bind' (R := fun r => a ≤ r ∧ r ≤ m) (search_ok (d := d) a m (by omega) (by omega) (by omega) _ fun i j h1 h2 h3 => ?_) fun i5 hi5 => ?_
      · simp only
        refine law_br (fun h4 => ?_) fun h4 => law_ok rfl
        rw [ilt_true] at h4
        have hh : halfW (i + j) = (i + j) / 2 := half_ok (by omega)
        refine law_need rfl ?_
        rw [show IntKind.wrap .i64 (ishr .u64 (IntKind.wrap .u64 (IntKind.wrap .i64 (i + j))) 1) = (i + j) / 2 from hh]
        refine law_at d m (by omega) (by omega) fun e2 _ => ?_
        refine law_at d ((i + j) / 2) (by omega) (by omega) fun e3 _ => ?_
        refine law_bind_eq (cmp_ok e2 e3) (law_given fun _ => law_br (fun _ => law_ok ⟨h4, .inl ?_⟩) fun _ => law_ok ⟨h4, .inr rfl⟩)
        rw [wrap64 (by omega)]
      · refine law_bind' (R := fun d' => d'.Perm d) (law_loop (fun k (x : Int × Keys) => k = x.1.toNat ∧ (0 ≤ x.1 ∧ x.1 ≤ m) ∧ x.2.Perm d) ?_ _ m.toNat _ (by have : fuel = 2 ^ 70 := rfl; omega) ⟨rfl, ⟨by simp only; omega, Int.le_refl _⟩, List.Perm.refl _⟩) fun d' h => law_ok h
        rintro q ⟨k, d2⟩ ⟨hq, ⟨h1, h2⟩, hp⟩
        simp only at hq h1 h2 hp
        have hlen := hp.length_eq
        refine law_br (fun h3 => ?_) fun h3 => law_ok hp
        rw [ilt_true] at h3
        simp only at h3 ⊢
        rw [wrap64 (n := k - 1) (by omega)]
        refine swap_law (d := d2) (i := k) (j := k - 1) (k := fun d' => (Res.ok (Res.Step.next (k - 1, d')) : Res (Res.Step (Int × Keys) Keys))) ⟨by omega, by omega⟩ ⟨by omega, by omega⟩ fun x y hx hy => ?_
        exact law_ok ⟨_, by omega, rfl, ⟨by simp only; omega, by simp only; omega⟩, (swap_perm hx hy).trans hp⟩
    · -- halves
      have hone : ¬ m - a = 1 := by simpa using hone
      have hone2 : ¬ b - m = 1 := by simpa using hone2
      have hmid : IntKind.wrap .i64 (ishr .u64 (IntKind.wrap .u64 (IntKind.wrap .i64 (a + b))) 1) = (a + b) / 2 := half_ok (by omega)
      rw [hmid]
      generalize hM : (a + b) / 2 = mid
      have hM1 : a + b - 1 ≤ 2 * mid ∧ 2 * mid ≤ a + b := by omega
      rw [wrap64 (n := mid + m) (by omega), wrap64 (n := mid + m - b) (by omega), wrap64 (n := mid + m - 1) (by omega)]
      refine law_need rfl (law_bind' (R := fun (x : Int × Int) => (a ≤ x.1 ∧ x.1 ≤ x.2 ∧ x.2 ≤ m) ∧ mid + m - x.1 ≤ b ∧ (x.2 ≤ mid) ∧ (mid ≤ mid + m - x.2)) ?_ ?_)
      · refine law_br (fun h1 => law_ok ?_) fun h1 => law_ok ?_
        · rw [ilt_true] at h1; simp only; omega
        · rw [ilt_false] at h1; simp only; omega
      rintro ⟨st, rr⟩ ⟨⟨s1, s2, s3⟩, s4, s5, s6⟩
      simp only at s1 s2 s3 s4 s5 s6
      refine law_bind' (R := fun r => st ≤ r ∧ r ≤ rr) (search_ok (d := d) st rr (by omega) (by omega) (by omega) _ fun i j h1 h2 h3 => ?_) fun s hs => ?_
      · simp only
        refine law_br (fun h4 => ?_) fun h4 => law_ok rfl
        rw [ilt_true] at h4
        have hh : halfW (i + j) = (i + j) / 2 := half_ok (by omega)
        refine law_need rfl ?_
        rw [show IntKind.wrap .i64 (ishr .u64 (IntKind.wrap .u64 (IntKind.wrap .i64 (i + j))) 1) = (i + j) / 2 from hh]
        rw [wrap64 (n := mid + m - 1 - (i + j) / 2) (by omega)]
        refine law_at d (mid + m - 1 - (i + j) / 2) (by omega) (by omega) fun e2 _ => ?_
        refine law_at d ((i + j) / 2) (by omega) (by omega) fun e3 _ => ?_
        refine law_bind_eq (cmp_ok e2 e3) (law_given fun _ => law_br (fun _ => law_ok ⟨h4, .inl ?_⟩) fun _ => law_ok ⟨h4, .inr rfl⟩)
        rw [wrap64 (by omega)]
      · obtain ⟨hs1, hs2⟩ := hs
        rw [wrap64 (n := mid + m - s) (by omega)]
        refine law_bind' (R := fun d' => d'.Perm d) ?_ fun d1 hp1 => law_bind' (R := fun d' => d'.Perm d) ?_ fun d2 hp2 => ?_
        · refine law_bind' (R := fun c => c = true → s < m ∧ m < mid + m - s) ?_ fun c hc => law_br (fun h => ?_) fun _ => law_ok (List.Perm.refl _)
          · refine law_br (fun h1 => law_ok fun h2 => ?_) fun _ => law_ok fun h => by cases h
            rw [ilt_true] at h1 h2
            exact ⟨h1, h2⟩
          · obtain ⟨h1, h2⟩ := hc h
            exact law_bind' (rotate_ok d s m (mid + m - s) (by omega) h1 h2 (by omega) hl) fun y hy => law_given fun _ => law_ok hy
        · have hlen1 := hp1.length_eq
          refine law_bind' (R := fun c => c = true → a < s ∧ s < mid) ?_ fun c hc => law_br (fun h => ?_) fun _ => law_ok hp1
          · refine law_br (fun h1 => law_ok fun h2 => ?_) fun _ => law_ok fun h => by cases h
            rw [ilt_true] at h1 h2
            exact ⟨h1, h2⟩
          · obtain ⟨h1, h2⟩ := hc h
            exact law_bind' (symMerge_ok fu d1 a s mid (by omega) h0 h1 h2 (by omega) (by omega)) fun y hy => law_given fun _ => law_ok (hy.trans hp1)
        · have hlen2 := hp2.length_eq
          refine law_bind' (R := fun c => c = true → mid < mid + m - s ∧ mid + m - s < b) ?_ fun c hc => law_br (fun h => ?_) fun _ => law_ok hp2
          · refine law_br (fun h1 => law_ok fun h2 => ?_) fun _ => law_ok fun h => by cases h
            rw [ilt_true] at h1 h2
            exact ⟨h1, h2⟩
          · obtain ⟨h1, h2⟩ := hc h
            exact law_bind' (symMerge_ok fu d2 mid (mid + m - s) b (by omega) (by omega) h1 h2 (by omega) (by omega)) fun y hy => law_given fun _ => law_ok (hy.trans hp2)
end Go.Mach

set_option maxRecDepth 100000
namespace Go.Mach
open Res

theorem stable_ok (d : Keys) (hl : d.length < 2 ^ 50) : (R.slices_stableCmpFunc_suint16__heap_Heap_Keys_1 d (d.length : Int) ()).sat fun y => y.2.Perm d := by
  unfold R.slices_stableCmpFunc_suint16__heap_Heap_Keys_1
  refine law_given fun _ => law_bind' (R := fun (x : Int × Keys) => (0 ≤ x.1 ∧ x.1 ≤ d.length) ∧ x.2.Perm d) (law_loop (fun k (x : Int × Int × Keys) => k = (d.length + 20 - x.1).toNat ∧ (0 ≤ x.1 ∧ x.1 ≤ d.length) ∧ x.2.1 = x.1 + 20 ∧ x.2.2.Perm d) ?_ _ (d.length + 20) _ (by have : fuel = 2 ^ 70 := rfl; omega) ⟨by simp only; omega, ⟨by simp only; omega, by simp only; omega⟩, rfl, List.Perm.refl _⟩) ?_
  · rintro k ⟨a, b, d1⟩ ⟨hk, ⟨h1, h2⟩, h3, hp⟩
    simp only at hk h1 h2 h3 hp
    have hlen := hp.length_eq
    refine law_br (fun h4 => ?_) fun h4 => law_ok ⟨⟨h1, h2⟩, hp⟩
    rw [ile_true] at h4
    simp only at h4 ⊢
    refine law_bind' (insertion_ok d1 a b h1 (by omega) (by omega) (by omega)) fun y hy => law_given fun _ => law_ok ⟨(d.length + 20 - b).toNat, by omega, rfl, ⟨by simp only; omega, h4⟩, wrap64 (by omega), hy.trans hp⟩
  rintro ⟨a, d1⟩ ⟨⟨h1, h2⟩, hp⟩
  simp only at h1 h2 hp
  have hlen := hp.length_eq
  refine law_bind' (insertion_ok d1 a d.length h1 (by omega) (by omega) (by omega)) fun y hy => law_given fun _ => ?_
  obtain ⟨_, d2⟩ := y
  simp only at hy ⊢
  have hp2 := hy.trans hp
  refine law_bind' (R := fun d' => d'.Perm d) (law_loop (fun k (x : Int × Keys) => k = (d.length - x.1).toNat ∧ (20 ≤ x.1 ∧ x.1 ≤ 2 ^ 52) ∧ x.2.Perm d) ?_ _ ((d.length : Int) - 20).toNat _ (by have : fuel = 2 ^ 70 := rfl; omega) ⟨rfl, ⟨by simp only; omega, by simp only; omega⟩, hp2⟩) fun d' h => law_ok h
  rintro k ⟨bs, d3⟩ ⟨hk, ⟨h3, h4⟩, hp3⟩
  simp only at hk h3 h4 hp3
  have hlen3 := hp3.length_eq
  refine law_br (fun h5 => ?_) fun h5 => law_ok hp3
  rw [ilt_true] at h5
  simp only at h5 ⊢
  rw [wrap64 (n := 2 * bs) (by omega), wrap64 (n := bs * 2) (by omega)]
  refine law_bind' (R := fun (x : Int × Keys) => (0 ≤ x.1 ∧ x.1 ≤ d.length) ∧ x.2.Perm d) (law_loop (fun k (x : Int × Int × Keys) => k = (d.length + 2 * bs - x.1).toNat ∧ (0 ≤ x.1 ∧ x.1 ≤ d.length) ∧ x.2.1 = x.1 + 2 * bs ∧ x.2.2.Perm d) ?_ _ (d.length + 2 * bs).toNat _ (by have : fuel = 2 ^ 70 := rfl; omega) ⟨by simp only; omega, ⟨by simp only; omega, by simp only; omega⟩, by simp only; omega, hp3⟩) ?_
  · rintro k ⟨a, b, d4⟩ ⟨hk, ⟨h6, h7⟩, h8, hp4⟩
    simp only at hk h6 h7 h8 hp4
    have hlen4 := hp4.length_eq
    refine law_br (fun h9 => ?_) fun h9 => law_ok ⟨⟨h6, h7⟩, hp4⟩
    rw [ile_true] at h9
    simp only at h9 ⊢
    rw [wrap64 (n := a + bs) (by omega), wrap64 (n := b + 2 * bs) (by omega)]
    refine law_bind' (symMerge_ok fuel d4 a (a + bs) b (by have : fuel = 2 ^ 70 := rfl; omega) h6 (by omega) (by omega) (by omega) (by omega)) fun y hy => law_given fun _ => law_ok ⟨(d.length + 2 * bs - b).toNat, by omega, rfl, ⟨by simp only; omega, h9⟩, rfl, hy.trans hp4⟩
  rintro ⟨a, d4⟩ ⟨⟨h6, h7⟩, hp4⟩
  simp only at h6 h7 hp4 ⊢
  have hlen4 := hp4.length_eq
  rw [wrap64 (n := a + bs) (by omega)]
  refine law_br (fun h9 => ?_) fun h9 => law_ok ⟨(d.length - bs * 2).toNat, by omega, rfl, ⟨by simp only; omega, by simp only; omega⟩, hp4⟩
  rw [ilt_true] at h9
  exact law_bind' (symMerge_ok fuel d4 a (a + bs) d.length (by have : fuel = 2 ^ 70 := rfl; omega) h6 (by omega) h9 (by omega) (by omega)) fun y hy => law_given fun _ => law_ok ⟨(d.length - bs * 2).toNat, by omega, rfl, ⟨by simp only; omega, by simp only; omega⟩, hy.trans hp4⟩

theorem sortStable_ok (d : Keys) (hl : d.length < 2 ^ 50) : (R.slices_SortStableFunc_suint16__heap_Heap_Keys_1 d ()).sat fun y => y.2.Perm d := by
  unfold R.slices_SortStableFunc_suint16__heap_Heap_Keys_1
  exact law_given fun _ => law_bind' (stable_ok d hl) fun y hy => law_given fun _ => law_ok hy

/-- The keys: those of the properties, in some order. -/
theorem keys_ok (h : HeapT) (r : Int) {c : CellT} (h0 : 0 ≤ r) (hc : h.2[r.toNat]? = some c) (hl : c.props.length ≤ 2 ^ 30) : (R.heap_Heap_Keys h r).sat fun l => l.Perm (c.props.map (·.1)) := by
  unfold R.heap_Heap_Keys
  have hlt := (List.getElem?_eq_some_iff.1 hc).1
  have hl : c.2.2.1.length ≤ 2 ^ 30 := hl
  refine law_given fun _ => law_bind_eq (has_ok h r) (law_f (by simp [h0]; omega) (law_idxS h0 hlt fun x hx _ => ?_))
  rw [hc] at hx
  cases hx
  refine law_bind' (R := fun (x : Keys × Keys) => (x.1 ++ x.2).Perm (c.2.2.1.map (·.1))) (law_for (fun x : Keys × Keys × Int => x.2.2) c.2.2.1.length (by omega) (fun x => (0 ≤ x.2.2 ∧ x.2.2 ≤ c.2.2.1.length) ∧ (x.1 ++ x.2.1).Perm ((c.2.2.1.take x.2.2.toNat).map (·.1)) ∧ x.1.length + x.2.1.length = x.2.2.toNat) ⟨⟨by simp, by simp only; omega⟩, List.Perm.refl _, rfl⟩ (fun x h => h.1) ?_) ?_
  · rintro ⟨p, q, i⟩ ⟨⟨h1, h2⟩, h3, h4⟩
    simp only at h1 h2 h3 h4
    refine law_br (fun h5 => ?_) fun h5 => ?_
    · rw [ilt_true] at h5
      simp only at h5
      have hi : i.toNat < c.2.2.1.length := by omega
      refine law_idxS h1 hi fun e he _ => law_bind_eq (a := e.1) (law_ok rfl) (law_given fun _ => law_bind_eq (key_ok e.1) (law_given fun _ => ?_))
      have he : c.2.2.1[i.toNat]? = some e := he
      have htk : (c.2.2.1.take (i + 1).toNat).map (·.1) = (c.2.2.1.take i.toNat).map (·.1) ++ [e.1] := by
        have hei : c.2.2.1[i.toNat] = e := by rw [List.getElem?_eq_getElem hi] at he; cases he; rfl
        rw [show (i + 1).toNat = i.toNat + 1 by omega, List.take_succ_eq_append_getElem hi, hei, List.map_append]
        rfl
      have hw : IntKind.wrap .i64 (i + 1) = i + 1 := wrap64 (by omega)
      refine law_br (fun _ => law_need ?_ (law_ok ⟨hw, ?_⟩)) fun _ => law_need ?_ (law_ok ⟨hw, ?_⟩)
      · simp only [decide_eq_true_eq, List.length_singleton]; omega
      · simp only
        rw [wrap64 (n := i + 1) (by omega), htk]
        refine ⟨⟨by omega, by omega⟩, ?_, by simp; omega⟩
        refine List.Perm.trans ?_ (h3.append_right [e.1])
        rw [List.append_assoc, List.append_assoc]
        exact (List.perm_append_comm (l₁ := [e.1]) (l₂ := q)).append_left p
      · simp only [decide_eq_true_eq, List.length_singleton]; omega
      · simp only
        rw [wrap64 (n := i + 1) (by omega), htk]
        refine ⟨⟨by omega, by omega⟩, ?_, by simp; omega⟩
        rw [← List.append_assoc]
        exact h3.append_right [e.1]
    · rw [ilt_false] at h5
      simp only at h5
      rw [List.take_of_length_le (by omega)] at h3
      exact law_ok h3
  · rintro ⟨p, q⟩ hpq
    simp only at hpq ⊢
    have hlen := hpq.length_eq
    simp only [List.length_append, List.length_map] at hlen
    refine law_bind' (sortStable_ok p (by omega)) fun y hy => law_given fun _ => ?_
    have hleny := hy.length_eq
    refine law_need (by simp only [decide_eq_true_eq]; omega) (law_ok ?_)
    exact (hy.append_right q).trans hpq
end Go.Mach

set_option maxRecDepth 100000
namespace Go.Mach
open Res

/-- All keys put, one after the other. -/
def putAll (ks : Keys) (v : ValT) : List PropT := ks.foldl (fun ps k => putP ps k v) []

theorem putP_keys {ps : List PropT} {k : List Int} {v : ValT} : (putP ps k v).map (·.1) = if k ∈ ps.map (·.1) then ps.map (·.1) else ps.map (·.1) ++ [k] := by
  unfold putP
  cases hk : keyAt ps k with
  | some i =>
    obtain ⟨w, h1, _⟩ := keyAt_some hk
    have hm : k ∈ ps.map (·.1) := List.mem_map.2 ⟨_, List.mem_of_getElem? h1, rfl⟩
    rw [if_pos hm]
    show (ps.set i (k, v)).map (·.1) = _
    rw [List.map_set]
    apply set_self
    rw [List.getElem?_map, h1]
    rfl
  | none =>
    have hm : k ∉ ps.map (·.1) := fun h => by
      obtain ⟨p, hp, rfl⟩ := List.mem_map.1 h
      have := List.findIdx?_eq_none_iff.1 hk p hp
      simp at this
    rw [if_neg hm]
    show (ps ++ [(k, v)]).map (·.1) = _
    rw [List.map_append]
    rfl

theorem putP_vals {ps : List PropT} {k : List Int} {v : ValT} (h : ∀ p ∈ ps, p.2 = v) : ∀ p ∈ putP ps k v, p.2 = v := by
  unfold putP
  cases hk : keyAt ps k with
  | some i =>
    intro p hp
    have hp : p ∈ ps.set i (k, v) := hp
    rcases List.mem_or_eq_of_mem_set hp with h1 | rfl
    · exact h p h1
    · rfl
  | none =>
    intro p hp
    have hp : p ∈ ps ++ [(k, v)] := hp
    rcases List.mem_append.1 hp with h1 | h1
    · exact h p h1
    · rw [List.mem_singleton.1 h1]

/-- What has been put. -/
structure PutOk (ks : Keys) (v : ValT) (ps : List PropT) : Prop where
  nd : (ps.map (·.1)).Nodup
  mem : ∀ k ∈ ks, k ∈ ps.map (·.1)
  vals : ∀ p ∈ ps, p.2 = v
  len : ps.length ≤ ks.length

theorem PutOk.step {ks : Keys} {v : ValT} {ps : List PropT} (h : PutOk ks v ps) (k : List Int) : PutOk (ks ++ [k]) v (putP ps k v) := by
  have hk := putP_keys (ps := ps) (k := k) (v := v)
  refine ⟨?_, ?_, putP_vals h.vals, ?_⟩
  · rw [hk]
    split
    · exact h.nd
    · rename_i hn
      rw [List.nodup_append]
      refine ⟨h.nd, by simp, fun a ha b hb he => ?_⟩
      rw [List.mem_singleton.1 hb] at he
      exact hn (he ▸ ha)
  · intro q hq
    rw [hk]
    rcases List.mem_append.1 hq with h1 | h1
    · split
      · exact h.mem q h1
      · exact List.mem_append_left _ (h.mem q h1)
    · rw [List.mem_singleton.1 h1]
      split
      · assumption
      · simp
  · have := congrArg List.length hk
    rw [List.length_map] at this
    rw [this]
    have hl := h.len
    split <;> simp <;> omega

theorem putAll_ok (v : ValT) : ∀ (ks : Keys) (i : Nat), i ≤ ks.length → PutOk (ks.take i) v (putAll (ks.take i) v)
  | ks, 0, _ => ⟨by simp [putAll], by simp, by simp [putAll], by simp [putAll]⟩
  | ks, i + 1, h => by
    have ih := putAll_ok v ks i (by omega)
    have h1 : ks.take (i + 1) = ks.take i ++ [ks[i]] := List.take_succ_eq_append_getElem (by omega)
    have h2 : putAll (ks.take (i + 1)) v = putP (putAll (ks.take i) v) ks[i] v := by
      unfold putAll
      rw [h1, List.foldl_append]
      rfl
    rw [h2, h1]
    exact ih.step _

theorem getK_mem {ps : List PropT} {k : List Int} {v : ValT} (hm : k ∈ ps.map (·.1)) (hv : ∀ p ∈ ps, p.2 = v) : getK ps k = some v := by
  induction ps with
  | nil => simp at hm
  | cons p r ih =>
    unfold getK
    by_cases hp : p.1 = k
    · rw [if_pos hp, hv p (by simp)]
    · rw [if_neg hp]
      refine ih ?_ fun q hq => hv q (List.mem_cons_of_mem _ hq)
      rcases List.mem_cons.1 hm with h | h
      · exact absurd h.symm hp
      · exact h

def ownC (ps : List PropT) : CellT := (1, -1, ps, [], [], 0, 0, zeroV, 0, 0, 0, 0, [])

theorem owns_law (ks : Keys) (v : ValT) : (R.renlaw9_HeapOwns ks v).sat (· = true) := by
  unfold R.renlaw9_HeapOwns
  refine law_given fun hok => law_bind_eq first_sat (law_f rfl ?_)
  refine law_bind' (R := fun _ => True) (law_for (fun x : Int × Int => x.2) 200 (by omega) (fun x => (0 ≤ x.2 ∧ x.2 ≤ 200) ∧ 0 ≤ x.1 ∧ x.1 ≤ x.2 * 20001) ⟨⟨by simp, by simp⟩, by simp, by simp⟩ (fun x h => h.1) ?_) fun n5 _ => ?_
  · rintro ⟨n, i⟩ ⟨⟨h1, h2⟩, h3, h4⟩
    simp only at h1 h2 h3 h4
    refine law_bind' (R := fun b => b = true → i < ks.length ∧ i < 200) ?_ fun b hb => ?_
    · refine law_br (fun h5 => law_ok fun h6 => ?_) fun _ => law_ok fun h => by cases h
      rw [ilt_true] at h5 h6
      exact ⟨h5, h6⟩
    · refine law_br (fun h5 => ?_) fun _ => law_ok trivial
      obtain ⟨h6, h7⟩ := hb h5
      have hi : i.toNat < ks.length := by omega
      refine law_idxS h1 hi fun e4 _ _ => ?_
      have hm : 0 ≤ minI (List.length (show List Int from e4) : Int) 20001 ∧ minI (List.length (show List Int from e4) : Int) 20001 ≤ 20001 := by rw [minI_eq]; omega
      generalize minI (List.length (show List Int from e4) : Int) 20001 = q at hm ⊢
      have hw : IntKind.wrap .i64 (n + q) = n + q := wrap64 (by omega)
      have hw2 : IntKind.wrap .i64 (i + 1) = i + 1 := wrap64 (by omega)
      refine law_ok ⟨hw2, ?_⟩
      simp only
      rw [hw, hw2]
      exact ⟨⟨by omega, by omega⟩, by omega, by omega⟩
  refine law_bind_eq (new_ok 1) (law_given fun _ => ?_)
  rw [show ((min (max 1 0) 4096 : Int), ([] : List CellT)) = (1, []) from rfl]
  refine law_bind' (R := fun x => x = false → ks.length ≤ 200) ?_ fun x hx => ?_
  · refine law_br (fun _ => law_ok fun h => by cases h) fun h1 => ?_
    rw [ilt_false] at h1
    have h1 : ks.length ≤ 200 := by omega
    refine law_br (fun _ => law_ok fun h => by cases h) fun _ => ?_
    exact law_bind_eq (few_ok v) (law_ok fun _ => h1)
  refine law_br (fun _ => law_bind_eq first_sat (law_ok rfl)) fun hxf => ?_
  have hks := hx hxf
  have hm : makeF (1, []) (ownC []) = ((0, true), (1, [ownC []])) := by simp [makeF]
  refine law_bind_eq (a := ((0, true), (1, [ownC []]))) (by rw [← hm]; exact make_ok (1, []) (ownC []) (by simp [copyOk, ownC]) (by simp)) (law_given fun _ => ?_)
  have hput : ∀ (ps : List PropT) (k : List Int), putF (1, [ownC ps]) 0 k v = (true, (1, [ownC (putP ps k v)])) := fun ps k => by simp [putF, ownC, CellT.props, CellT.withProps]
  have hall : ∀ i, i ≤ ks.length → (putAll (ks.take i) v).length ≤ 200 := fun i hi => by
    have h1 := (putAll_ok v ks i hi).len
    simp at h1
    omega
  refine law_bind_eq (a := Sum.inl ((1, [ownC (putAll ks v)]) : HeapT)) (law_for (fun x : Int × HeapT => x.1) ks.length (by omega) (fun x => (0 ≤ x.1 ∧ x.1 ≤ ks.length) ∧ x.2 = (1, [ownC (putAll (ks.take x.1.toNat) v)])) ⟨⟨by simp, by simp only; omega⟩, rfl⟩ (fun x h => h.1) ?_) (law_inl ?_)
  · rintro ⟨i, h⟩ ⟨⟨h1, h2⟩, hh⟩
    simp only at h1 h2 hh
    subst hh
    refine law_br (fun h3 => ?_) fun h3 => ?_
    · rw [ilt_true] at h3
      simp only at h3
      have hi : i.toNat < ks.length := by omega
      refine law_idxS h1 hi fun e he _ => ?_
      have he : ks[i.toNat]? = some e := he
      have hei : ks[i.toNat] = e := by rw [List.getElem?_eq_getElem hi] at he; cases he; rfl
      have hw : IntKind.wrap .i64 (i + 1) = i + 1 := wrap64 (by omega)
      refine law_bind_eq (a := (true, (1, [ownC (putP (putAll (ks.take i.toNat) v) e v)]))) (by
        rw [← hput]
        refine put_ok _ 0 e v fun c hc => ?_
        rw [List.mem_singleton.1 hc]
        have := hall i.toNat (by omega)
        show (putAll (ks.take i.toNat) v).length ≤ 2 ^ 30
        omega) (law_given fun _ => law_f rfl (law_ok ⟨hw, ?_⟩))
      simp only
      rw [hw]
      refine ⟨⟨by omega, by omega⟩, ?_⟩
      have : putAll (ks.take (i + 1).toNat) v = putP (putAll (ks.take i.toNat) v) e v := by
        rw [show (i + 1).toNat = i.toNat + 1 by omega, List.take_succ_eq_append_getElem hi, hei]
        unfold putAll
        rw [List.foldl_append]
        rfl
      rw [this]
    · rw [ilt_false] at h3
      simp only at h3
      refine law_ok ?_
      simp only
      rw [List.take_of_length_le (by omega)]
  have hP : PutOk ks v (putAll ks v) := by
    have := putAll_ok v ks ks.length (Nat.le_refl _)
    rwa [List.take_length] at this
  have hlenP := hP.len
  generalize putAll ks v = ps at hP hlenP ⊢
  have hcells : ∀ c ∈ [ownC ps], c.props.length ≤ 2 ^ 30 := fun c hc => by
    rw [List.mem_singleton.1 hc]
    show ps.length ≤ _
    omega
  refine law_bind' (keys_ok (1, [ownC ps]) 0 (c := ownC ps) (by omega) (by simp) (hcells _ (by simp))) fun l hl => law_given fun _ => ?_
  have hl : l.Perm (ps.map (·.1)) := hl
  have hlnd : l.Nodup := hl.nodup_iff.2 hP.nd
  have hllen : l.length = ps.length := by have := hl.length_eq; simpa using this
  refine law_bind_eq (a := Sum.inl ()) (law_for (fun i : Int => i) ks.length (by omega) (fun i => 0 ≤ i ∧ i ≤ ks.length) (by simp) (fun i h => h) ?_) (law_inl ?_)
  · rintro i ⟨h1, h2⟩
    refine law_br (fun h3 => ?_) fun h3 => law_ok rfl
    rw [ilt_true] at h3
    have hi : i.toNat < ks.length := by omega
    obtain ⟨key, hkey⟩ : ∃ key, ks[i.toNat]? = some key := ⟨_, List.getElem?_eq_getElem hi⟩
    have hkm : key ∈ l := hl.mem_iff.2 (hP.mem key (List.mem_of_getElem? hkey))
    -- how often it stands in the keys
    refine law_bind_eq (a := (1 : Int)) (law_for (fun x : Int × Int => x.2) l.length (by omega) (fun x => (0 ≤ x.2 ∧ x.2 ≤ l.length) ∧ x.1 = ((l.take x.2.toNat).count key : Nat)) ⟨⟨by simp, by simp⟩, by simp⟩ (fun x h => h.1) ?_) ?_
    · rintro ⟨n, j⟩ ⟨⟨h4, h5⟩, h6⟩
      simp only at h4 h5 h6
      refine law_br (fun h7 => ?_) fun h7 => ?_
      · rw [ilt_true] at h7
        simp only at h7
        have hj : j.toNat < l.length := by omega
        refine law_at l j h4 h7 fun e he => ?_
        refine law_idxS h1 hi fun e2 he2 _ => ?_
        have he2 : ks[i.toNat]? = some e2 := he2
        rw [hkey] at he2
        cases he2
        have hej : l[j.toNat] = e := by rw [List.getElem?_eq_getElem hj] at he; cases he; rfl
        have hw : IntKind.wrap .i64 (j + 1) = j + 1 := wrap64 (by omega)
        have htk : l.take (j + 1).toNat = l.take j.toNat ++ [e] := by
          rw [show (j + 1).toNat = j.toNat + 1 by omega, List.take_succ_eq_append_getElem hj, hej]
        have hcl : (l.take j.toNat).count key ≤ 200 := by
          have := List.count_le_length (l := l.take j.toNat) (a := key)
          simp at this
          omega
        refine law_bind_eq (units_ok e key) (law_br (fun h8 => law_ok ⟨hw, ?_⟩) fun h8 => law_ok ⟨hw, ?_⟩)
        · have h8 : e = key := of_decide_eq_true h8
          simp only
          rw [hw, htk, wrap64 (n := n + 1) (by omega)]
          refine ⟨⟨by omega, by omega⟩, ?_⟩
          rw [List.count_append, h8, h6]
          simp
        · have h8 : ¬ e = key := of_decide_eq_false h8
          simp only
          rw [hw, htk]
          refine ⟨⟨by omega, by omega⟩, ?_⟩
          rw [List.count_append, h6]
          simp [h8]
      · rw [ilt_false] at h7
        simp only at h7
        refine law_ok ?_
        simp only
        rw [h6, List.take_of_length_le (by omega), List.Nodup.count hlnd, if_pos hkm]
        rfl
    · refine law_idxS h1 hi fun e2 he2 _ => ?_
      have he2 : ks[i.toNat]? = some e2 := he2
      rw [hkey] at he2
      cases he2
      have hown : ownF [ownC ps] 0 key = some v := by
        show getK ps key = some v
        exact getK_mem (hl.mem_iff.1 hkm) hP.vals
      refine law_bind_eq (a := (v, true)) ?_ (law_given fun _ => law_bind_eq (a := false) (law_f rfl (law_f rfl (law_bind_eq (same_ok v v) (law_ok (by simp))))) (law_f rfl (law_ok ⟨wrap64 (by omega), by rw [wrap64 (by omega)]; omega⟩)))
      have h := ownOp_ok (1, [ownC ps]) 0 key hcells
      have h : (R.heap_Heap_Own (1, [ownC ps]) 0 key).sat (· = match ownF [ownC ps] 0 key with | none => (zeroV, false) | some v => (v, true)) := h
      rw [hown] at h
      exact h
  · refine law_bind_eq (a := (ownC ps, true)) (law_mono (cell_ok (1, [ownC ps]) 0 fun c hc => ?_) fun y hy => ?_) (law_given fun _ => ?_)
    · rw [List.mem_singleton.1 hc]
      have h1 : (ownC ps).2.2.1.length = ps.length := rfl
      have h2 : (ownC ps).2.2.2.1.length = 0 := rfl
      unfold copyOk
      rw [h1, h2]
      omega
    · obtain ⟨c, h1, h2⟩ := hy.1 (by simp)
      simp at h1
      rw [h2, ← h1]
    · refine law_bind_eq first_sat (law_t rfl (law_t rfl (law_t ?_ (law_ok ?_))))
      · show ((l.length : Int) == ((ownC ps).2.2.1.length : Int)) = true
        have : (ownC ps).2.2.1.length = ps.length := rfl
        rw [this, hllen]
        simp
      · rw [ile_true]; omega
end Go.Mach

set_option maxRecDepth 100000
namespace Go.Proofs.Ytcmodlcodhblcaa
open Go.Mach Go.ChangeShapes Go.WideShapes Go.ChangeAt Go.RowKit

theorem bulk_part {H : Type} {d : DataW H} {l : List (DataW H)} (h : d ∈ l) : Rows.uptoBulk d ≤ Rows.uptoBulkAll l := by
  induction l with
  | nil => cases h
  | cons x r ih =>
    simp only [Rows.uptoBulkAll]
    cases List.mem_cons.1 h with
    | inl e => subst e; omega
    | inr e => have := ih e; omega
theorem bulk_one {H : Type} (d : DataW H) : 1 ≤ Rows.uptoBulk d := by
  cases d with
  | lit l => cases l <;> simp [Rows.uptoBulk]
  | _ => simp [Rows.uptoBulk]
theorem bulk_len {H : Type} (l : List (DataW H)) : l.length ≤ Rows.uptoBulkAll l := by
  induction l with
  | nil => simp [Rows.uptoBulkAll]
  | cons x r ih => have := bulk_one x; simp only [Rows.uptoBulkAll, List.length_cons]; omega
theorem sm_of {H : Type} : Sm (H := H) 1048576 fun d => Rows.uptoBulk d ≤ 1048576 where
  str b h := by simp only [Rows.uptoBulk] at h; omega
  sl es sp h := by
    simp only [Rows.uptoBulk] at h
    have h1 := bulk_len es
    exact ⟨by omega, fun d hd => by have := bulk_part hd; omega⟩
  agg l h := by
    simp only [Rows.uptoBulk] at h
    exact fun d hd => by have := bulk_part hd; omega
theorem sm_all {H : Type} {ds : List (DataW H)} {gs : List (DataW H)} (h : Rows.uptoSmall H (ds ++ gs) = true) : ∀ d ∈ ds, Rows.uptoBulk d ≤ 1048576 := fun d hd => by
  have h := of_decide_eq_true h
  have := bulk_part (List.mem_append_left gs hd)
  omega

theorem own_knob : ownKnob Try.prog.godebug = none := by kernel_rfl
theorem bool_type : Try.prog.underlying 4 = some .bool := by kernel_rfl
end Go.Proofs.Ytcmodlcodhblcaa
