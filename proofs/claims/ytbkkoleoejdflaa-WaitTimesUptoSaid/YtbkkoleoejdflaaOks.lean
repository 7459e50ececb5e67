/-
  Proved here: the law WaitTimes of chapter 22 (behind an expiry nobody waits whose time has come; a later one takes no one twice) returns true for every input of at most 1048576 values and letters.
  Part Oks of the texts. By an AI agent; no person has read it.
-/
import Derived.Test.YtbkkoleoejdflaaEqs
import Derived.KernelRfl
import Derived.Test.YtbkkoleoejdflaaProg
set_option linter.all false
set_option linter.deprecated false
/-
  The comparison of two places.
-/
set_option maxRecDepth 10000
namespace Go.Mach
open Res

/-- Two places compared. -/
def plCmp (a b : Int × Int) : Int :=
  if a.1 < b.1 then -1 else if b.1 < a.1 then 1 else if a.2 < b.2 then -1 else if b.2 < a.2 then 1 else 0

def intCmp (x y : Int) : Int := if x < y then -1 else if y < x then 1 else 0

theorem isNaN_ok (x : Int) : (R.cmp_isNaN_int x).sat (· = false) := by
  unfold R.cmp_isNaN_int
  exact law_given fun _ => law_ok (by simp)

theorem compare_ok (x y : Int) : (R.cmp_Compare_int x y).sat (· = intCmp x y) := by
  unfold R.cmp_Compare_int
  refine law_given fun _ => law_bind_eq (isNaN_ok x) (law_bind_eq (isNaN_ok y) (law_f rfl (law_f rfl ?_)))
  unfold intCmp
  refine law_br (fun h => law_ok ?_) fun h => law_br (fun h' => law_ok ?_) fun h' => law_ok ?_
  · rw [ilt_true] at h; simp [h]
  · rw [ilt_true] at h'; rw [ilt_false] at h; simp [h', show ¬ x < y by omega]
  · rw [ilt_false] at h h'; simp [show ¬ x < y by omega, show ¬ y < x by omega]

theorem places1_ok (a b : Int × Int) : (R.wait_Lists_Places_1 a b).sat (· = plCmp a b) := by
  unfold R.wait_Lists_Places_1
  refine law_given fun _ => law_bind_eq (a := plCmp a b) ?_ (law_given fun _ => law_ok rfl)
  unfold R.slices_Compare_int
  refine law_given fun _ => law_bind' (R := fun z => match z with | .inl _ => intCmp a.1 b.1 = 0 ∧ intCmp a.2 b.2 = 0 | .inr c => c = plCmp a b)
    (law_loop (fun k (x : Int) => k = (2 - x).toNat ∧ (x = 0 ∨ (x = 1 ∧ intCmp a.1 b.1 = 0) ∨ (x = 2 ∧ intCmp a.1 b.1 = 0 ∧ intCmp a.2 b.2 = 0))) ?_ fuel 2 0 (by decide) ⟨rfl, .inl rfl⟩) ?_
  · rintro k x ⟨hk, hx⟩
    rcases hx with rfl | ⟨rfl, h1⟩ | ⟨rfl, h1, h2⟩
    · refine law_t (by simp [ilt]) (law_idxS (by omega) (by simp) fun p hp _ => law_f (by simp [ile]) (law_idxS (by omega) (by simp) fun q hq _ => ?_))
      simp only [Int.toNat_zero, List.getElem?_cons_zero, Option.some.injEq] at hp hq
      subst hp; subst hq
      refine law_bind_eq (compare_ok a.1 b.1) (law_given fun _ => law_br (fun h => law_ok ?_) fun h => law_ok ?_)
      · simp only [Bool.not_eq_true', beq_eq_false_iff_ne, ne_eq] at h
        show _ = plCmp a b
        unfold plCmp intCmp at *
        split <;> rename_i h1
        · simp [h1]
        · split <;> rename_i h2
          · simp [h2]
          · simp [h1, h2] at h
      · simp only [Bool.not_eq_false', beq_iff_eq] at h
        refine ⟨1, by omega, by decide, .inr (.inl ⟨by decide, h⟩)⟩
    · refine law_t (by simp [ilt]) (law_idxS (by omega) (by simp) fun p hp _ => law_f (by simp [ile]) (law_idxS (by omega) (by simp) fun q hq _ => ?_))
      simp at hp hq
      subst hp; subst hq
      refine law_bind_eq (compare_ok a.2 b.2) (law_given fun _ => law_br (fun h => law_ok ?_) fun h => law_ok ?_)
      · simp only [Bool.not_eq_true', beq_eq_false_iff_ne, ne_eq] at h
        show _ = plCmp a b
        unfold plCmp intCmp at *
        have h3 : ¬ a.1 < b.1 := by intro h'; simp [h'] at h1
        have h4 : ¬ b.1 < a.1 := by intro h'; simp [h', h3] at h1
        simp only [h3, h4, if_false]
      · simp only [Bool.not_eq_false', beq_iff_eq] at h
        refine ⟨0, by omega, by decide, .inr (.inr ⟨by decide, h1, h⟩)⟩
    · exact law_f (by simp [ilt]) (law_ok ⟨h1, h2⟩)
  · rintro (z | z) hz
    · obtain ⟨h1, h2⟩ := hz
      refine law_inl (law_f (by simp [ilt]) (law_ok ?_))
      unfold plCmp intCmp at *
      have h3 : ¬ a.1 < b.1 := by intro h'; simp [h'] at h1
      have h4 : ¬ b.1 < a.1 := by intro h'; simp [h', h3] at h1
      have h5 : ¬ a.2 < b.2 := by intro h'; simp [h'] at h2
      have h6 : ¬ b.2 < a.2 := by intro h'; simp [h', h5] at h2
      simp [h3, h4, h5, h6]
    · exact law_inr (law_ok hz)
end Go.Mach

set_option maxRecDepth 100000
set_option linter.unusedVariables false
namespace Go.Mach
open Go.Proofs
theorem mixed : Try.prog.follows .mixedOrders = true := by kernel_rfl
theorem ok_nil (P : Program) : ∀ sp ∈ ([] : List Spec), Contract P sp := fun _ h => by cases h
theorem ok_cons {P : Program} {s : Spec} {l : List Spec} (h : Contract P s) (t : ∀ sp ∈ l, Contract P sp) : ∀ sp ∈ s :: l, Contract P sp := fun sp hm => by
  rcases List.mem_cons.1 hm with rfl | hm
  · exact h
  · exact t sp hm
theorem cmp_isNaN_int.ok : Contract Try.prog cmp_isNaN_int.spec := contract_of (E := cmp_isNaN_int.env) (sp := cmp_isNaN_int.spec) (fn := Try.f36) (ann := cmp_isNaN_int.ann) mixed (ok_nil _) (by kernel_rfl) (by kernel_rfl) (by kernel_rfl) (by kernel_rfl) (by kernel_rfl) (by kernel_rfl) (by kernel_rfl) (fun x => cmp_isNaN_int.eq x)
theorem cmp_Compare_int.ok : Contract Try.prog cmp_Compare_int.spec := contract_of (E := cmp_Compare_int.env) (sp := cmp_Compare_int.spec) (fn := Try.f24) (ann := cmp_Compare_int.ann) mixed (ok_cons cmp_isNaN_int.ok (ok_nil _)) (by kernel_rfl) (by kernel_rfl) (by kernel_rfl) (by kernel_rfl) (by kernel_rfl) (by kernel_rfl) (by kernel_rfl) (fun x => cmp_Compare_int.eq x.1 x.2)
theorem slices_Compare_int.ok : Contract Try.prog slices_Compare_int.spec := contract_of (E := slices_Compare_int.env) (sp := slices_Compare_int.spec) (fn := Try.f19) (ann := slices_Compare_int.ann) mixed (ok_cons cmp_Compare_int.ok (ok_nil _)) (by kernel_rfl) (by kernel_rfl) (by kernel_rfl) (by kernel_rfl) (by kernel_rfl) (by kernel_rfl) (by kernel_rfl) (fun x => slices_Compare_int.eq x.1 x.2)
theorem wait_Lists_Places_1.ok : Contract Try.prog wait_Lists_Places_1.spec := contract_of (E := wait_Lists_Places_1.env) (sp := wait_Lists_Places_1.spec) (fn := Try.f18) (ann := wait_Lists_Places_1.ann) mixed (ok_cons slices_Compare_int.ok (ok_nil _)) (by kernel_rfl) (by kernel_rfl) (by kernel_rfl) (by kernel_rfl) (by kernel_rfl) (by kernel_rfl) (by kernel_rfl) (fun x => wait_Lists_Places_1.eq x.1 x.2)
end Go.Mach

/-
  The contract of slices.SortFunc at places.
-/
set_option maxRecDepth 10000
namespace Go.Mach
open Go.Proofs Go.Shelf Go.Sort

/-- A place: two ints of 64 bits. -/
abbrev Pl : Type := { p : Int × Int // inRange .i64 p.1 = true ∧ inRange .i64 p.2 = true }
instance : Inhabited Pl := ⟨⟨(0, 0), by decide, by decide⟩⟩

def encPl (x : Pl) : List Value := [.int .i64 x.1.1, .int .i64 x.1.2]
def cfPl (x y : Pl) : Int := plCmp x.1 y.1

theorem plCmp_lt (a b : Int × Int) : plCmp a b < 0 ↔ (a.1 < b.1 ∨ a.1 = b.1 ∧ a.2 < b.2) := by
  unfold plCmp
  split
  · constructor <;> intro <;> omega
  · split
    · constructor <;> intro <;> omega
    · split
      · constructor <;> intro <;> omega
      · split <;> constructor <;> intro <;> omega

theorem ltOf_iff (x y : Pl) : ltOf cfPl x y = true ↔ (x.1.1 < y.1.1 ∨ x.1.1 = y.1.1 ∧ x.1.2 < y.1.2) := by
  unfold ltOf cfPl
  rw [decide_eq_true_iff]
  exact plCmp_lt _ _

theorem swoPl : SWO (ltOf cfPl) where
  irrefl x := by rw [Bool.eq_false_iff, ne_eq, ltOf_iff]; omega
  trans x y z h1 h2 := by rw [ltOf_iff] at *; omega
  ntrans x y z h1 h2 := by rw [Bool.eq_false_iff, ne_eq, ltOf_iff] at *; omega

theorem totPl (x y : Pl) (h1 : ltOf cfPl x y = false) (h2 : ltOf cfPl y x = false) : x = y := by
  rw [Bool.eq_false_iff, ne_eq, ltOf_iff] at h1 h2
  exact Subtype.ext (Prod.ext (by omega) (by omega))

theorem leOf (x y : Pl) : (!(ltOf cfPl y x)) = plLe x.1 y.1 := by
  have h := ltOf_iff y x
  have h2 : plLe x.1 y.1 = true ↔ ¬ (y.1.1 < x.1.1 ∨ y.1.1 = x.1.1 ∧ y.1.2 < x.1.2) := by
    unfold plLe
    simp only [Bool.or_eq_true, Bool.and_eq_true, decide_eq_true_eq, beq_iff_eq]
    omega
  rw [Bool.eq_iff_iff, h2, ← h]
  simp

/-- A later world: more draws, more blocks. -/
theorem later {w w' : World} (hs : w.heap.size ≤ w'.heap.size) (hk : ∀ b, b < w.heap.size → w'.heap[b]? = w.heap[b]?) (hio : Io w w') : ∃ q os, w' = grow (w.drewN q) os := by
  refine ⟨w'.drawn - w.drawn, w'.heap.extract w.heap.size w'.heap.size, ?_⟩
  obtain ⟨h1, h2, h3, h4⟩ := hio
  have hh : w'.heap = w.heap ++ w'.heap.extract w.heap.size w'.heap.size := by
    apply Array.ext_getElem?
    intro i
    rcases Nat.lt_or_ge i w.heap.size with hi | hi
    · rw [hk i hi, Array.getElem?_append_left hi]
    · rw [Array.getElem?_append_right hi, Array.getElem?_extract]
      split
      · congr 1; omega
      · rename_i hn
        rw [Array.getElem?_eq_none]; omega
  unfold grow World.drewN
  cases w'
  simp only at h1 h2 h3 h4 hh ⊢
  subst h1 h2 h3
  rw [← hh]
  congr 1
  omega

theorem frz_int2 {w : World} {Z : Nat → Prop} {x : Int × Int} (h : inRange .i64 x.1 = true ∧ inRange .i64 x.2 = true) : Frz w Z (.pair (.int .i64) (.int .i64)) [.int .i64 x.1, .int .i64 x.2] x := by
  simp only [Frz]
  exact ⟨[_], [_], rfl, ⟨rfl, h.1⟩, rfl, h.2⟩

theorem cmpPl (blk off size : Nat) (w : World) : CmpLays Try.prog 18 #[] encPl 2 cfPl blk off size w := by
  intro m os dk _ x y
  have h := wait_Lists_Places_1.ok.run (sortWorldK encPl 2 w blk off m dk os) (fun _ => False) (fun _ => False) (fun _ => False) [.agg (encPl x).toArray, .agg (encPl y).toArray] (x.1, y.1) (· = cfPl x y)
    (places1_ok x.1 y.1) (fun _ h => h.elim) (fun _ h => h.elim) (fun _ h => h.elim)
    ⟨_, _, fun _ => False, fun _ => False, rfl, fun _ h => h, fun _ h => h, fun _ h _ => h, ⟨encPl x, rfl, rfl, frz_int2 x.2⟩, _, rfl, encPl y, rfl, rfl, frz_int2 y.2⟩
  refine h.mono ?_
  rintro e w' ⟨r, v, vals, Z', S1, S2, rfl, hr, hret, hv, _, _, _, _, _, hs, hk, hio⟩
  refine ⟨?_, later hs (fun b hb => hk b hb id) hio⟩
  have hret : vals = [v] := hret
  subst hret
  obtain ⟨v', hv', us, hu1, hu2, hu3⟩ := hv
  cases hv'
  have hu1 : us = [v] := hu1
  subst hu1
  have hu3 : Frz w' Z' (.int .i64) [v] r := hu3
  simp only [Frz] at hu3
  obtain ⟨hu3, _⟩ := hu3
  simp only [List.cons.injEq, and_true] at hu3
  rw [hu3]
  have hr : r = cfPl x y := hr
  rw [hr]

theorem getPl {xs : List (Int × Int)} (h : ∀ p ∈ xs, inRange .i64 p.1 = true ∧ inRange .i64 p.2 = true) : ∃ d : List Pl, d.map Subtype.val = xs := by
  refine ⟨xs.pmap Subtype.mk h, ?_⟩
  rw [List.map_pmap]
  simp

theorem sort_ok : Contract Try.prog (sortSpec 17 18) := by
  refine ⟨⟨Try.f17, by kernel_rfl, by kernel_rfl, by kernel_rfl⟩, rfl, fun w Z Y S args x Ψ hsat hZ hY hS hV => ?_⟩
  obtain ⟨xs, u⟩ := x
  obtain ⟨v, vs', S1, S2, rfl, hS1, hS2, hdj, ⟨us, hu1, hu2, hu3⟩, hV2⟩ := hV
  have hu1 : us = [v] := hu1
  subst hu1
  have hu3 : SR w Z Y (.own (.frz (.pair (.int .i64) (.int .i64)))) [v] xs S1 := hu3
  obtain ⟨v2, rfl, us2, hw1, hw2, hw3⟩ := hV2
  have hw1 : us2 = [v2] := hw1
  subst hw1
  have hw3 : BR w Z (fun b => Y b ∨ Z b) (.clo 18 .nil) [v2] u := hw3
  simp only [BR, List.cons.injEq, and_true] at hw3
  obtain ⟨_, vs, rfl, rfl⟩ := hw3
  have hsat : (Res.need (decide (xs.length < 4611686018427387904)) (Res.ok ((), xs.mergeSort plLe))).sat Ψ := hsat
  obtain ⟨hlen, hΨ⟩ := sat_need hsat
  have hlen : xs.length < 4611686018427387904 := by simpa using hlen
  have hΨ : Ψ ((), xs.mergeSort plLe) := hΨ
  simp only [SR] at hu3
  obtain ⟨ℓ, hv, hℓ, ⟨a1, a2, a3, a4, a5, a6⟩⟩ := hu3
  simp only [List.cons.injEq, and_true] at hv
  have L : Go.Proofs.SlLaysF0.n6 Try.prog sortLay_ren := sortLay
  cases hb : ℓ.blk with
  | none =>
    rw [hb] at a6
    obtain ⟨rfl, hcap⟩ := a6
    have h0 := AnyF.slices_SortFunc_none L (ℓ.addr 0) ℓ.cap (.func (.func 18) #[] #[]) w
    change Calls Try.prog 17 _ _ _ at h0
    have hl0 : ℓ.len = 0 := a2
    have hvv : v = .slice (ℓ.addr 0) 0 ℓ.cap := by rw [hv, hl0]
    subst hvv
    refine h0.mono ?_
    rintro e w' ⟨rfl, rfl⟩
    refine ⟨_, .tuple #[], [], Z, fun _ => False, fun b => S b, rfl, hΨ, rfl, rfl, ⟨_, _, fun b => S1 b, fun _ => False, rfl, hS1, fun _ h => h.elim, fun _ _ h => h, ?_, _, _, rfl, trivial⟩, fun _ h _ => h, fun b hb => ?_, fun _ h => h, fun b hb => ⟨hZ b hb, .inl hb⟩, Nat.le_refl _, fun _ _ _ => rfl, Io.refl _⟩
    · show SR w' Z (fun _ => False) (.own (.frz (.pair (.int .i64) (.int .i64)))) _ (List.mergeSort [] plLe) S1
      simp only [SR]
      refine ⟨ℓ, by rw [hl0], hℓ, a1, by simpa using hl0, by simp, by simpa using a4, a5, ?_⟩
      rw [hb]
      exact ⟨by simp, hcap⟩
    · rcases hb with hb | hb
      · exact hb.elim
      · exact ⟨(hS b hb).1, (hS b hb).2, .inl hb⟩
  | some b =>
    rw [hb] at a6
    obtain ⟨c1, c2, N, c3, c4, c5⟩ := a6
    have c5' : ∀ i (h : i < xs.length), CellsAt w b (ℓ.base + i * 2) [.int .i64 xs[i].1, .int .i64 xs[i].2] ∧ (inRange .i64 xs[i].1 = true ∧ inRange .i64 xs[i].2 = true) := by
      intro i hi
      obtain ⟨us, d1, d2, d3⟩ := c5 i hi
      have d3 : Frz w Z (.pair (.int .i64) (.int .i64)) us xs[i] := d3
      simp only [Frz] at d3
      obtain ⟨_, _, rfl, ⟨rfl, e1⟩, rfl, e2⟩ := d3
      rw [a1] at d2
      exact ⟨d2, e1, e2⟩
    obtain ⟨d, hd⟩ := getPl (xs := xs) (fun p hp => by
      obtain ⟨i, hi, rfl⟩ := List.getElem_of_mem hp
      exact (c5' i hi).2)
    have hdl : d.length = xs.length := by rw [← hd]; simp
    have hsz2 : ℓ.sz = 2 := a1
    have hbS : S b := hS1 b (hℓ b c1)
    have hbw : b < w.heap.size := (hS b hbS).1
    obtain ⟨cv, T, fz, f1, f2, f3⟩ := c2
    rw [hsz2] at f2
    have hH : HoldsK encPl 2 w b ℓ.base d.toArray := by
      intro j hj
      rw [size_flatK] at hj
      have hj' : j < xs.length * 2 := by simpa [hdl] using hj
      rw [get_flatK _ _ _ _ hj]
      have hi : j / 2 < xs.length := by omega
      have hid : j / 2 < d.length := by omega
      obtain ⟨k1, _⟩ := c5' (j / 2) hi
      have k2 := k1 (j % 2) (by simp; omega)
      rw [show ℓ.base + j / 2 * 2 + j % 2 = ℓ.base + j by omega] at k2
      have hx : xs[j / 2] = d[j / 2].1 := by
        have h1 : xs[j / 2]? = some d[j / 2].1 := by
          have h2 : (d.map Subtype.val)[j / 2]? = some d[j / 2].1 := by rw [List.getElem?_map, List.getElem?_eq_getElem hid]; rfl
          rw [hd] at h2; exact h2
        rw [List.getElem?_eq_getElem hi] at h1
        exact Option.some.inj h1
      have he : d.toArray[j / 2]! = d[j / 2] := by rw [getElem!_pos _ _ (by simpa using hid)]; simp
      refine ⟨?_, ?_⟩
      · rw [k2, he, hx]
        have hm : j % 2 = 0 ∨ j % 2 = 1 := by omega
        rcases hm with hm | hm <;> simp [hm, encPl]
      · simp only [World.frozen?, f1]
        exact f3 _ (by omega)
    have eg : ∀ args w, (callFunc 18 args).run Try.prog w = .ok (.enter 18 args) w := enters_of Try.func18 (by kernel_rfl) rfl
    have h0 := AnyQ.slices_SortFunc_total L 2 Try.isAgg43 Try.sizeOf43 encPl (fun _ => rfl) (fun x v hv => by simp [encPl] at hv; rcases hv with rfl | rfl <;> rfl) cfPl swoPl 18 #[] b ℓ.base ℓ.cap d.toArray w eg (cmpPl b ℓ.base _ w) hH hbw (by simpa [hdl] using hlen) totPl
    change Calls Try.prog 17 _ _ _ at h0
    have hvv : v = .slice (some ⟨b, ℓ.base, none⟩) d.toArray.size ℓ.cap := by
      rw [hv, ℓ.addr_some a5 hb, Nat.zero_mul, Nat.add_zero, a2]
      simp [hdl]
    subst hvv
    refine h0.mono ?_
    clear h0
    rintro e w' ⟨rfl, m, os, hw'⟩
    -- what lies there
    have hsort : (List.mergeSort d.toArray.toList fun x y => !ltOf cfPl y x).map Subtype.val = xs.mergeSort plLe := by
      rw [← hd]
      exact List.map_mergeSort (fun a _ b _ => leOf a b)
    generalize (List.mergeSort d.toArray.toList fun x y => !ltOf cfPl y x) = ds at hsort hw'
    have hdsl : ds.length = xs.length := by
      have := congrArg List.length hsort
      simpa using this
    have hsz' : w'.heap.size = w.heap.size + os.size := by
      rw [hw']
      show (((putRowK encPl 2 (Go.Sort.ahead w m) b ℓ.base ds.toArray).heap) ++ os).size = _
      rw [Array.size_append]
      show ((Go.Sort.ahead w m).heap.modify b _).size + _ = _
      simp [Go.Sort.ahead]
    have hheap : ∀ q, q < w.heap.size → w'.heap[q]? = (w.heap.modify b (onCells (putCells id ℓ.base (flatK encPl 2 ds.toArray))))[q]? := by
      intro q hq
      rw [hw']
      show ((w.heap.modify b (onCells (putCells id ℓ.base (flatK encPl 2 ds.toArray)))) ++ os)[q]? = _
      rw [Array.getElem?_append_left (by simpa using hq)]
    have hother : ∀ q, q < w.heap.size → q ≠ b → w'.heap[q]? = w.heap[q]? := by
      intro q hq hqb
      rw [hheap q hq, Array.getElem?_modify, if_neg (Ne.symm hqb)]
    have hblk : w'.heap[b]? = some (.cells (putCells id ℓ.base (flatK encPl 2 ds.toArray) cv) T fz) := by
      rw [hheap b hbw, Array.getElem?_modify, if_pos rfl, f1]; rfl
    have hcells : ∀ i (h : i < ds.length), CellsAt w' b (ℓ.base + i * 2) [.int .i64 ds[i].1.1, .int .i64 ds[i].1.2] := by
      intro i hi k hk
      have hk : k < 2 := by simpa using hk
      have hfl : ds.toArray.size = ds.length := by simp
      have hlt : i * 2 + k < ds.length * 2 := by omega
      have hin : ℓ.base + i * 2 + k < cv.size := by omega
      have he : ds.toArray[i]! = ds[i] := by rw [getElem!_pos _ _ (by simpa using hi)]; simp
      simp only [World.cell?, hblk]
      simp only [Option.isSome_none, Bool.false_eq_true, if_false, putCells, Array.getElem?_mapIdx, Array.getElem?_eq_getElem hin, Option.map_some, size_flatK]
      rw [if_pos (by rw [hfl]; omega)]
      rw [get_flatK _ _ _ _ (by rw [hfl]; omega), show (ℓ.base + i * 2 + k - ℓ.base) / 2 = i by omega, show (ℓ.base + i * 2 + k - ℓ.base) % 2 = k by omega, he]
      have hm : k = 0 ∨ k = 1 := by omega
      rcases hm with rfl | rfl <;> simp [encPl]
    refine ⟨_, .tuple #[], [], Z, fun _ => False, fun b => S b, rfl, hΨ, rfl, rfl, ⟨_, _, fun b => S1 b, fun _ => False, rfl, hS1, fun _ h => h.elim, fun _ _ h => h, ?_, _, _, rfl, trivial⟩, fun _ h _ => h, fun b' hb' => ?_, fun _ h => h, fun b' hb' => ⟨by have := hZ b' hb'; omega, .inl hb'⟩, by omega, fun b' hb' hn => hother b' hb' (by rintro rfl; exact hn hbS), ?_⟩
    · show SR w' Z (fun _ => False) (.own (.frz (.pair (.int .i64) (.int .i64)))) _ (xs.mergeSort plLe) S1
      simp only [SR]
      refine ⟨ℓ, ?_, hℓ, a1, by simpa using a2, by simpa using a3, by simpa using a4, a5, ?_⟩
      · rw [ℓ.addr_some a5 hb, Nat.zero_mul, Nat.add_zero, a2]
        simp [hdl]
      rw [hb]
      refine ⟨c1, ⟨_, T, fz, hblk, by rw [hsz2]; simpa [putCells] using f2, fun k hk => f3 k (by simpa [putCells] using hk)⟩, fun _ _ => False, fun _ _ _ h => h.elim, fun _ _ _ _ _ _ h => h.elim, fun i hi => ?_⟩
      have hi2 : i < ds.length := by simp at hi; omega
      have hg : (xs.mergeSort plLe)[i] = ds[i].1 := by
        have : (ds.map Subtype.val)[i]'(by simpa using hi2) = (xs.mergeSort plLe)[i] := by simp only [hsort]
        rw [← this]; simp
      refine ⟨_, rfl, by rw [hsz2]; exact hcells i hi2, ?_⟩
      show Frz w' Z (.pair (.int .i64) (.int .i64)) _ _
      rw [hg]
      exact frz_int2 ds[i].2
    · rcases hb' with hb' | hb'
      · exact hb'.elim
      · exact ⟨by have := (hS b' hb').1; omega, (hS b' hb').2, .inl hb'⟩
    · rw [hw']
      exact ⟨rfl, rfl, rfl, Nat.le_add_right _ _⟩
end Go.Mach

set_option maxRecDepth 100000
set_option linter.unusedVariables false
namespace Go.Mach
open Go.Proofs
theorem wait_New.ok : Contract Try.prog wait_New.spec := contract_of (E := wait_New.env) (sp := wait_New.spec) (fn := Try.f7) (ann := wait_New.ann) mixed (ok_nil _) (by kernel_rfl) (by kernel_rfl) (by kernel_rfl) (by kernel_rfl) (by kernel_rfl) (by kernel_rfl) (by kernel_rfl) (fun _ => wait_New.eq)
theorem wait_Lists_Has_1.ok : Contract Try.prog wait_Lists_Has_1.spec := contract_of (E := wait_Lists_Has_1.env) (sp := wait_Lists_Has_1.spec) (fn := Try.f21) (ann := wait_Lists_Has_1.ann) mixed (ok_nil _) (by kernel_rfl) (by kernel_rfl) (by kernel_rfl) (by kernel_rfl) (by kernel_rfl) (by kernel_rfl) (by kernel_rfl) (fun x => wait_Lists_Has_1.eq x.1 x.2)
theorem slices_IndexFunc_waitWaiter__wait_Lists_Has_1.ok : Contract Try.prog slices_IndexFunc_waitWaiter__wait_Lists_Has_1.spec := contract_of (E := slices_IndexFunc_waitWaiter__wait_Lists_Has_1.env) (sp := slices_IndexFunc_waitWaiter__wait_Lists_Has_1.spec) (fn := Try.f25) (ann := slices_IndexFunc_waitWaiter__wait_Lists_Has_1.ann) mixed (ok_cons wait_Lists_Has_1.ok (ok_nil _)) (by kernel_rfl) (by kernel_rfl) (by kernel_rfl) (by kernel_rfl) (by kernel_rfl) (by kernel_rfl) (by kernel_rfl) (fun x => slices_IndexFunc_waitWaiter__wait_Lists_Has_1.eq x.1 x.2)
theorem slices_ContainsFunc_waitWaiter__wait_Lists_Has_1.ok : Contract Try.prog slices_ContainsFunc_waitWaiter__wait_Lists_Has_1.spec := contract_of (E := slices_ContainsFunc_waitWaiter__wait_Lists_Has_1.env) (sp := slices_ContainsFunc_waitWaiter__wait_Lists_Has_1.spec) (fn := Try.f20) (ann := slices_ContainsFunc_waitWaiter__wait_Lists_Has_1.ann) mixed (ok_cons slices_IndexFunc_waitWaiter__wait_Lists_Has_1.ok (ok_nil _)) (by kernel_rfl) (by kernel_rfl) (by kernel_rfl) (by kernel_rfl) (by kernel_rfl) (by kernel_rfl) (by kernel_rfl) (fun x => slices_ContainsFunc_waitWaiter__wait_Lists_Has_1.eq x.1 x.2)
theorem wait_Lists_Has.ok : Contract Try.prog wait_Lists_Has.spec := contract_of (E := wait_Lists_Has.env) (sp := wait_Lists_Has.spec) (fn := Try.f12) (ann := wait_Lists_Has.ann) mixed (ok_cons slices_ContainsFunc_waitWaiter__wait_Lists_Has_1.ok (ok_nil _)) (by kernel_rfl) (by kernel_rfl) (by kernel_rfl) (by kernel_rfl) (by kernel_rfl) (by kernel_rfl) (by kernel_rfl) (fun x => wait_Lists_Has.eq x.1 x.2)
theorem wait_Lists_Add.ok : Contract Try.prog wait_Lists_Add.spec := contract_of (E := wait_Lists_Add.env) (sp := wait_Lists_Add.spec) (fn := Try.f8) (ann := wait_Lists_Add.ann) mixed (ok_cons wait_Lists_Has.ok (ok_nil _)) (by kernel_rfl) (by kernel_rfl) (by kernel_rfl) (by kernel_rfl) (by kernel_rfl) (by kernel_rfl) (by kernel_rfl) (fun x => wait_Lists_Add.eq x.1 x.2.1 x.2.2.1 x.2.2.2)
theorem wait_Lists_set.ok : Contract Try.prog wait_Lists_set.spec := contract_of (E := wait_Lists_set.env) (sp := wait_Lists_set.spec) (fn := Try.f15) (ann := wait_Lists_set.ann) mixed (ok_nil _) (by kernel_rfl) (by kernel_rfl) (by kernel_rfl) (by kernel_rfl) (by kernel_rfl) (by kernel_rfl) (by kernel_rfl) (fun x => wait_Lists_set.eq x.1 x.2.1 x.2.2)
theorem wait_Lists_Wake.ok : Contract Try.prog wait_Lists_Wake.spec := contract_of (E := wait_Lists_Wake.env) (sp := wait_Lists_Wake.spec) (fn := Try.f9) (ann := wait_Lists_Wake.ann) mixed (ok_cons clone_ok_16 (ok_cons wait_Lists_set.ok (ok_nil _))) (by kernel_rfl) (by kernel_rfl) (by kernel_rfl) (by kernel_rfl) (by kernel_rfl) (by kernel_rfl) (by kernel_rfl) (fun x => wait_Lists_Wake.eq x.1 x.2.1 x.2.2.1 x.2.2.2.1 x.2.2.2.2)
theorem wait_Lists_Places.ok : Contract Try.prog wait_Lists_Places.spec := contract_of (E := wait_Lists_Places.env) (sp := wait_Lists_Places.spec) (fn := Try.f11) (ann := wait_Lists_Places.ann) mixed (ok_cons sort_ok (ok_nil _)) (by kernel_rfl) (by kernel_rfl) (by kernel_rfl) (by kernel_rfl) (by kernel_rfl) (by kernel_rfl) (by kernel_rfl) (fun x => wait_Lists_Places.eq x)
theorem wait_Lists_Expire.ok : Contract Try.prog wait_Lists_Expire.spec := contract_of (E := wait_Lists_Expire.env) (sp := wait_Lists_Expire.spec) (fn := Try.f14) (ann := wait_Lists_Expire.ann) mixed (ok_cons wait_Lists_Places.ok (ok_cons wait_Lists_set.ok (ok_nil _))) (by kernel_rfl) (by kernel_rfl) (by kernel_rfl) (by kernel_rfl) (by kernel_rfl) (by kernel_rfl) (by kernel_rfl) (fun x => wait_Lists_Expire.eq x.1 x.2)
theorem renref_Ints.ok : Contract Try.prog renref_Ints.spec := contract_of (E := renref_Ints.env) (sp := renref_Ints.spec) (fn := Try.f10) (ann := renref_Ints.ann) mixed (ok_nil _) (by kernel_rfl) (by kernel_rfl) (by kernel_rfl) (by kernel_rfl) (by kernel_rfl) (by kernel_rfl) (by kernel_rfl) (fun x => renref_Ints.eq x.1 x.2)
theorem renlaw22_first.ok : Contract Try.prog renlaw22_first.spec := contract_of (E := renlaw22_first.env) (sp := renlaw22_first.spec) (fn := Try.f6) (ann := renlaw22_first.ann) mixed (ok_cons renref_Ints.ok (ok_cons wait_Lists_Add.ok (ok_cons wait_Lists_Expire.ok (ok_cons wait_Lists_Wake.ok (ok_cons wait_New.ok (ok_nil _)))))) (by kernel_rfl) (by kernel_rfl) (by kernel_rfl) (by kernel_rfl) (by kernel_rfl) (by kernel_rfl) (by kernel_rfl) (fun _ => renlaw22_first.eq)
theorem renlaw22_WaitFair.ok : Contract Try.prog renlaw22_WaitFair.spec := contract_of (E := renlaw22_WaitFair.env) (sp := renlaw22_WaitFair.spec) (fn := Try.f3) (ann := renlaw22_WaitFair.ann) mixed (ok_cons renlaw22_first.ok (ok_cons renref_Ints.ok (ok_cons wait_Lists_Add.ok (ok_cons wait_Lists_Places.ok (ok_cons wait_Lists_Wake.ok (ok_cons wait_New.ok (ok_nil _))))))) (by kernel_rfl) (by kernel_rfl) (by kernel_rfl) (by kernel_rfl) (by kernel_rfl) (by kernel_rfl) (by kernel_rfl) (fun x => renlaw22_WaitFair.eq x.1 x.2.1 x.2.2)
theorem wait_Lists_At.ok : Contract Try.prog wait_Lists_At.spec := contract_of (E := wait_Lists_At.env) (sp := wait_Lists_At.spec) (fn := Try.f13) (ann := wait_Lists_At.ann) mixed (ok_cons clone_ok_16 (ok_nil _)) (by kernel_rfl) (by kernel_rfl) (by kernel_rfl) (by kernel_rfl) (by kernel_rfl) (by kernel_rfl) (by kernel_rfl) (fun x => wait_Lists_At.eq x.1 x.2.1 x.2.2)
theorem renlaw22_WaitOnce.ok : Contract Try.prog renlaw22_WaitOnce.spec := contract_of (E := renlaw22_WaitOnce.env) (sp := renlaw22_WaitOnce.spec) (fn := Try.f4) (ann := renlaw22_WaitOnce.ann) mixed (ok_cons renlaw22_first.ok (ok_cons wait_Lists_Add.ok (ok_cons wait_Lists_At.ok (ok_cons wait_Lists_Has.ok (ok_cons wait_Lists_Wake.ok (ok_cons wait_New.ok (ok_nil _))))))) (by kernel_rfl) (by kernel_rfl) (by kernel_rfl) (by kernel_rfl) (by kernel_rfl) (by kernel_rfl) (by kernel_rfl) (fun x => renlaw22_WaitOnce.eq x.1 x.2.1 x.2.2.1 x.2.2.2)
theorem renlaw22_WaitTimes.ok : Contract Try.prog renlaw22_WaitTimes.spec := contract_of (E := renlaw22_WaitTimes.env) (sp := renlaw22_WaitTimes.spec) (fn := Try.f5) (ann := renlaw22_WaitTimes.ann) mixed (ok_cons renlaw22_first.ok (ok_cons wait_Lists_Add.ok (ok_cons wait_Lists_At.ok (ok_cons wait_Lists_Expire.ok (ok_cons wait_Lists_Places.ok (ok_cons wait_New.ok (ok_nil _))))))) (by kernel_rfl) (by kernel_rfl) (by kernel_rfl) (by kernel_rfl) (by kernel_rfl) (by kernel_rfl) (by kernel_rfl) (fun x => renlaw22_WaitTimes.eq x.1 x.2.1 x.2.2)
end Go.Mach
