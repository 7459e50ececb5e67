/-
  Proved here: that an interpreter over plain typed values is sound for the code of the model (on the conditions that each theorem states).
  Part Machd of the texts. By an AI agent; no person has read it.
-/
import Derived.Test.YtediejlokhnldaaDoorMachc
import Derived.ChangeArms
import Derived.DataReads
import Derived.ChangeSame
import Derived.OpenShut
import Derived.RowKit
set_option linter.all false
set_option linter.deprecated false
/-
  Mach: what the statement's reading of an argument gives: plain typed values.
-/
namespace Go.Mach

/-! ### Plain types over Go types -/

def chkParts (ck : TypeId → Ty → Bool) (cells : TypeId → Nat) : List (Nat × TypeId) → Nat → Ty → Bool
  | [], _, .unit => true
  | [p], o, τ => p.1 == o && (cells p.2 == τ.cells && ck p.2 τ)
  | p :: q :: r, o, .pair a b => p.1 == o && (cells p.2 == a.cells && (ck p.2 a && chkParts ck cells (q :: r) (o + a.cells) b))
  | _, _, _ => false

/-- τ is the plain type of the Go type t, laid without gaps. -/
def chkT (P : Program) : Nat → TypeId → Ty → Bool
  | 0, _, _ => false
  | n + 1, t, τ => match P.underlying t, τ with
    | some (.int k), .int j => match IntKind.same j k with
      | some _ => true
      | none => false
    | some .bool, .bool => true
    | some .string, .str => true
    | some (.slice e), .list τ => chkT P n e τ && (P.cellsOf e == τ.cells && (!(τ.cells == 0) && decide (τ.minB ≤ 2 ^ 20)))
    | some (.struct fs), τ => P.cellsOf t == τ.cells && chkParts (chkT P n) P.cellsOf (fs.toList.map fun f => (f.offset, f.type)) 0 τ
    | some (.array k e), τ => P.cellsOf t == τ.cells && chkParts (chkT P n) P.cellsOf ((List.range k).map fun i => (i * P.cellsOf e, e)) 0 τ
    | _, _ => false

/-- Nothing in it is longer than n. -/
def Ty.small (n : Nat) : (t : Ty) → t.den → Prop
  | .unit, _ | .int _, _ | .bool, _ => True
  | .str, s => s.length ≤ n
  | .list e, xs => xs.length ≤ n ∧ ∀ x ∈ xs, e.small n x
  | .pair a b, x => a.small n x.1 ∧ b.small n x.2
  | .rose _, _ => False

/-- What a reading's size tells of its parts. -/
structure Sm {H : Type} (n : Nat) (sm : DataW H → Prop) : Prop where
  str : ∀ b, sm (.lit (.string b)) → b.length ≤ n
  sl : ∀ es sp, sm (.slice es sp) → es.length ≤ n ∧ ∀ d ∈ es, sm d
  agg : ∀ l, sm (.agg l) → ∀ d ∈ l, sm d

theorem inRange_of_wf {k : IntKind} {n : Int} (h : (Lit.int k n).wf = true) : inRange k n = true := by
  unfold inRange
  have h : k.min ≤ n ∧ n ≤ k.max := by simpa [Lit.wf] using h
  cases k <;> simp [IntKind.wrap, IntKind.min, IntKind.max, IntKind.signed, IntKind.bits] at h ⊢ <;> omega

theorem mapM_all {α β : Type} {f : α → Option β} : ∀ {l : List α} {ys : List β}, l.mapM f = some ys → ys.length = l.length ∧ ∀ i (h : i < l.length) (h' : i < ys.length), f l[i] = some ys[i]
  | [], ys, h => by simp at h; subst h; exact ⟨rfl, fun i h => by simp at h⟩
  | a :: l, ys, h => by
    rw [List.mapM_cons] at h
    cases ha : f a with
    | none => rw [ha] at h; cases h
    | some y =>
      cases hl : l.mapM f with
      | none => rw [ha, hl] at h; cases h
      | some ys' =>
        rw [ha, hl] at h
        cases h
        obtain ⟨h1, h2⟩ := mapM_all hl
        refine ⟨by simp [h1], fun i hi hi' => ?_⟩
        cases i with
        | zero => simpa using ha
        | succ i => simpa using h2 i (by simpa using hi) (by simpa using hi')

theorem mapM_again {α β : Type} {f f' : α → Option β} : ∀ {l : List α} {ys : List β}, l.mapM f = some ys → (∀ a ∈ l, ∀ y ∈ ys, f a = some y → f' a = some y) → l.mapM f' = some ys
  | [], ys, h, _ => by simpa using h
  | a :: l, ys, h, hs => by
    rw [List.mapM_cons] at h ⊢
    cases ha : f a with
    | none => rw [ha] at h; cases h
    | some y =>
      cases hl : l.mapM f with
      | none => rw [ha, hl] at h; cases h
      | some ys' =>
        rw [ha, hl] at h
        cases h
        rw [hs a (List.mem_cons_self) y (List.mem_cons_self) ha, mapM_again hl fun b hb z hz => hs b (List.mem_cons_of_mem _ hb) z (List.mem_cons_of_mem _ hz)]
        rfl

theorem list_of {α : Type} (p : Nat → α → Prop) : ∀ (n : Nat), (∀ i, i < n → ∃ x, p i x) → ∃ xs : List α, xs.length = n ∧ ∀ i (h : i < xs.length), p i xs[i]
  | 0, _ => ⟨[], rfl, fun i h => by simp at h⟩
  | n + 1, h => by
    obtain ⟨xs, h1, h2⟩ := list_of p n fun i hi => h i (by omega)
    obtain ⟨x, hx⟩ := h n (by omega)
    refine ⟨xs ++ [x], by simp [h1], fun i hi => ?_⟩
    by_cases he : i < xs.length
    · rw [List.getElem_append_left he]; exact h2 i he
    · have : i = n := by simp at hi; omega
      subst this
      rw [List.getElem_append_right (by omega)]
      simpa using hx

section
variable {H : Type} {enc : TypeId × Value → H} {P : Program} {W : World} {N : Nat} {sm : DataW H → Prop}

abbrev Old (W : World) (b : Nat) : Prop := b < W.heap.size

theorem cell_old {a : Addr} {v : Value} (h : W.cell? a = some v) : a.block < W.heap.size ∧ a.spot = none := by
  unfold World.cell? at h
  split at h
  · rename_i c T fz hb
    split at h
    · cases h
    · rename_i hs
      refine ⟨(Array.getElem?_eq_some_iff.1 hb).1, ?_⟩
      cases hq : a.spot with
      | none => rfl
      | some _ => rw [hq] at hs; exact absurd rfl hs
  · cases h

theorem frz_parts {rec : TypeId → List Value → Option (DataW H × List MemPlace)} {ck : TypeId → Ty → Bool}
    (hrec : ∀ t τ cs y, rec t cs = some y → ck t τ = true → sm y.1 → ∃ x, Frz W (Old W) τ cs x ∧ τ.small N x) (cs : List Value) :
    ∀ (l : List (Nat × TypeId)) (o : Nat) (τ : Ty) (ys : List (DataW H × List MemPlace)), l.mapM (fun p => rec p.2 ((cs.drop p.1).take (P.cellsOf p.2))) = some ys → chkParts ck P.cellsOf l o τ = true →
      (∀ y ∈ ys, sm y.1) → cs.length = o + τ.cells → ∃ x, Frz W (Old W) τ (cs.drop o) x ∧ τ.small N x
  | [], o, τ, ys, h, hc, hs, hl => by
    cases τ <;> simp [chkParts] at hc
    refine ⟨(), ?_, trivial⟩
    simp only [Frz, List.drop_eq_nil_iff]
    simp [Ty.cells] at hl
    omega
  | [p], o, τ, ys, h, hc, hs, hl => by
    have hc : (p.1 == o && (P.cellsOf p.2 == τ.cells && ck p.2 τ)) = true := by
      cases τ <;> exact hc
    simp only [Bool.and_eq_true, beq_iff_eq] at hc
    obtain ⟨h1, h2, h3⟩ := hc
    obtain ⟨h4, h5⟩ := mapM_all h
    match ys, h4 with
    | [y], _ =>
      have h6 := h5 0 (by simp) (by simp)
      simp only [List.getElem_cons_zero] at h6
      obtain ⟨x, hx⟩ := hrec _ _ _ _ h6 h3 (hs y (by simp))
      refine ⟨x, ?_⟩
      rw [h1, h2, List.take_of_length_le (by simp; omega)] at hx
      exact hx
  | p :: q :: r, o, τ, ys, h, hc, hs, hl => by
    cases τ with
    | pair a b =>
      simp only [chkParts, Bool.and_eq_true, beq_iff_eq] at hc
      obtain ⟨h1, h2, h3, h4⟩ := hc
      rw [List.mapM_cons] at h
      cases hy : rec p.2 ((cs.drop p.1).take (P.cellsOf p.2)) with
      | none => rw [hy] at h; cases h
      | some y =>
        cases hl' : (q :: r).mapM (fun p => rec p.2 ((cs.drop p.1).take (P.cellsOf p.2))) with
        | none => rw [hy, hl'] at h; cases h
        | some ys' =>
          rw [hy, hl'] at h
          cases h
          obtain ⟨x, hx⟩ := hrec _ _ _ _ hy h3 (hs y (by simp))
          simp only [Ty.cells] at hl
          obtain ⟨z, hz⟩ := frz_parts hrec cs (q :: r) (o + a.cells) b ys' hl' h4 (fun z hz => hs z (List.mem_cons_of_mem _ hz)) (by omega)
          refine ⟨(x, z), ?_, hx.2, hz.2⟩
          simp only [Frz]
          refine ⟨_, _, ?_, hx.1, hz.1⟩
          rw [h1, h2, show cs.drop (o + a.cells) = (cs.drop o).drop a.cells by rw [List.drop_drop], List.take_append_drop]
    | _ => simp [chkParts] at hc

theorem frz_of_trod (S : Sm N sm) (hN : N ≤ 2 ^ 20) : ∀ (fuel : Nat) {n : Nat} {t : TypeId} {τ : Ty} {cs : List Value} {y : DataW H × List MemPlace}, DataW.trod enc P W 0 (fun _ => true) true fuel t cs = some y →
    chkT P n t τ = true → sm y.1 → ∃ x, Frz W (Old W) τ cs x ∧ τ.small N x
  | 0, _, _, _, _, _, h, _, _ => by simp [DataW.trod] at h
  | fuel + 1, 0, _, _, _, _, _, hc, _ => by simp [chkT] at hc
  | fuel + 1, n + 1, t, τ, cs, y, h, hc, hs => by
    simp only [chkT] at hc
    split at hc
    · rename_i k j hu
      split at hc
      case h_2 => cases hc
      rename_i hk _
      obtain ⟨hk⟩ := hk
      subst hk
      obtain ⟨m, rfl, rfl, hwf⟩ := DataW.trod_int hu h
      exact ⟨m, ⟨rfl, inRange_of_wf hwf⟩, trivial⟩
    · rename_i hu
      obtain ⟨b, rfl, rfl⟩ := DataW.trod_bool hu h
      exact ⟨b, rfl, trivial⟩
    · rename_i hu
      obtain ⟨s, rfl, rfl, _⟩ := DataW.trod_string hu h
      have h3 := S.str _ hs
      exact ⟨s.data.toList, ⟨rfl, by simp only [strOk, decide_eq_true_eq]; omega⟩, h3⟩
    · rename_i e τ hu
      simp only [Bool.and_eq_true, beq_iff_eq, Bool.not_eq_true', beq_eq_false_iff_ne, decide_eq_true_eq] at hc
      obtain ⟨h1, h2, h3, h4⟩ := hc
      rcases DataW.trod_slice hu h with ⟨rfl, rfl⟩ | ⟨a, len, cap, elems, rest, m, hm, rfl, rfl, _, hlen, _, hel, hall, _, _⟩
      · refine ⟨[], ?_, by simp [Ty.small]⟩
        simp only [Frz]
        exact ⟨none, 0, rfl, Nat.le_refl _, by simp [lenOk], .inl trivial⟩
      · obtain ⟨rfl⟩ : fuel = m := by omega
        obtain ⟨s1, s2⟩ := S.sl _ _ hs
        simp only [List.length_map] at s1
        have key : ∀ i, i < len → ∃ x, (∃ us, us.length = τ.cells ∧ (a.block < W.heap.size ∧ a.spot = none) ∧ CellsAt W a.block (a.off + i * τ.cells) us ∧ Frz W (Old W) τ us x) ∧ τ.small N x := by
          intro i hi
          have h5 := hall i hi
          rw [List.getElem?_eq_getElem (by omega)] at h5
          obtain ⟨us, h6, h7⟩ := Option.bind_eq_some_iff.1 h5
          obtain ⟨_, h8, h9⟩ := World.cells?_some h6
          obtain ⟨x, h10, h11⟩ := frz_of_trod S hN fuel h7 h1 (s2 _ (List.mem_map.2 ⟨elems[i], List.getElem_mem _, rfl⟩))
          have hsp : a.block < W.heap.size ∧ a.spot = none := by
            have h12 := hall 0 (by omega)
            rw [List.getElem?_eq_getElem (by omega)] at h12
            obtain ⟨us', h13, _⟩ := Option.bind_eq_some_iff.1 h12
            obtain ⟨_, h14, h15⟩ := World.cells?_some h13
            have h16 := h15 0 (by omega)
            rw [List.getElem?_eq_getElem (by omega)] at h16
            have h17 := cell_old h16
            simpa [Addr.add] using h17
          refine ⟨x, ⟨us, by omega, hsp, fun k hk => ?_, h10⟩, h11⟩
          have h18 := h9 k (by omega)
          rw [List.getElem?_eq_getElem hk, h2] at h18
          rw [← h18]
          congr 1
          obtain ⟨ab, ao, asp⟩ := a
          obtain ⟨_, rfl⟩ := hsp
          unfold Addr.add
          by_cases hz : i * τ.cells = 0 <;> by_cases hz' : k = 0 <;> simp [hz, hz']
        obtain ⟨xs, g1, g2⟩ := list_of _ len key
        refine ⟨xs, ?_, by omega, fun x hx => ?_⟩
        · simp only [Frz]
          refine ⟨some a, cap, by rw [g1], by omega, ?_, ?_⟩
          · have : xs.length * τ.minB ≤ 2 ^ 20 * 2 ^ 20 := Nat.mul_le_mul (by omega) h4
            simp only [lenOk, decide_eq_true_eq]
            omega
          · by_cases hx : xs = []
            · exact .inl hx
            · have h0 : 0 < xs.length := List.length_pos_iff.2 hx
              obtain ⟨⟨_, _, hsp, _⟩, _⟩ := g2 0 h0
              refine .inr ⟨a.block, a.off, ?_, hsp.1, fun i hi => ?_⟩
              · obtain ⟨ab, ao, asp⟩ := a
                obtain ⟨_, rfl⟩ := hsp
                rfl
              · obtain ⟨⟨us, q1, _, q3, q4⟩, _⟩ := g2 i hi
                exact ⟨us, q1, q3, q4⟩
        · obtain ⟨i, hi, rfl⟩ := List.getElem_of_mem hx
          exact (g2 i hi).2
    · rename_i _ _ fs hu
      simp only [Bool.and_eq_true, beq_iff_eq] at hc
      have h' : (if cs.length = P.cellsOf t then (fs.toList.mapM fun f => DataW.trod enc P W 0 (fun _ => true) true fuel f.type ((cs.drop f.offset).take (P.cellsOf f.type))).map fun xs => (DataW.agg (xs.map (·.1)), xs.flatMap (·.2)) else none) = some y := by
        unfold DataW.trod at h
        rw [hu] at h
        split at h <;> simp_all
      split at h'
      case isFalse => cases h'
      rename_i hlen
      obtain ⟨ys, q1, q2⟩ := Option.map_eq_some_iff.1 h'
      subst q2
      have q3 : (fs.toList.map fun f => (f.offset, f.type)).mapM (fun p => DataW.trod enc P W 0 (fun _ => true) true fuel p.2 ((cs.drop p.1).take (P.cellsOf p.2))) = some ys := by
        rw [List.mapM_map]; exact q1
      obtain ⟨x, hx⟩ := frz_parts (P := P) (ck := chkT P n) (fun t τ cs y a b c => frz_of_trod S hN fuel a b c) cs _ 0 _ ys q3 hc.2 (fun y hy => S.agg _ hs _ (List.mem_map.2 ⟨y, hy, rfl⟩)) (by rw [hlen, hc.1]; exact (Nat.zero_add _).symm)
      exact ⟨x, by simpa using hx⟩
    · rename_i _ _ k e hu
      simp only [Bool.and_eq_true, beq_iff_eq] at hc
      have h' : (if cs.length = P.cellsOf t then ((List.range k).mapM fun i => DataW.trod enc P W 0 (fun _ => true) true fuel e ((cs.drop (i * P.cellsOf e)).take (P.cellsOf e))).map fun xs => (DataW.agg (xs.map (·.1)), xs.flatMap (·.2)) else none) = some y := by
        unfold DataW.trod at h
        rw [hu] at h
        split at h <;> simp_all
      split at h'
      case isFalse => cases h'
      rename_i hlen
      obtain ⟨ys, q1, q2⟩ := Option.map_eq_some_iff.1 h'
      subst q2
      have q3 : ((List.range k).map fun i => (i * P.cellsOf e, e)).mapM (fun p => DataW.trod enc P W 0 (fun _ => true) true fuel p.2 ((cs.drop p.1).take (P.cellsOf p.2))) = some ys := by
        rw [List.mapM_map]; exact q1
      obtain ⟨x, hx⟩ := frz_parts (P := P) (ck := chkT P n) (fun t τ cs y a b c => frz_of_trod S hN fuel a b c) cs _ 0 _ ys q3 hc.2 (fun y hy => S.agg _ hs _ (List.mem_map.2 ⟨y, hy, rfl⟩)) (by rw [hlen, hc.1]; exact (Nat.zero_add _).symm)
      exact ⟨x, by simpa using hx⟩
    · cases hc

/-! ### The same reading behind the call -/

theorem row_block {a : Addr} {n : Nat} {p : MemPlace} (h : p ∈ MemPlace.row a n) : p.block = a.block := by
  simp only [MemPlace.row, List.mem_map] at h
  obtain ⟨i, _, rfl⟩ := h
  rfl

theorem cells_again {W' : World} (hw : ∀ b, b < W.heap.size → W'.heap[b]? = W.heap[b]?) {a : Addr} {n : Nat} {us : List Value} (h : W.cells? 0 a n = some us) : W'.cells? 0 a n = some us := by
  unfold World.cells? at h ⊢
  simp only [Nat.zero_le, if_true] at h ⊢
  refine mapM_again h fun i _ v _ hv => ?_
  have h1 := cell_old hv
  rw [← hv]
  simp only [World.cell?, hw _ h1.1]

theorem parts_again {rec rec' : TypeId → List Value → Option (DataW H × List MemPlace)} {ck : TypeId → Ty → Bool} {ok : DataW H × List MemPlace → Prop}
    (hrec : ∀ t τ cs y, rec t cs = some y → ck t τ = true → ok y → rec' t cs = some y) (cs : List Value) :
    ∀ (l : List (Nat × TypeId)) (o : Nat) (τ : Ty) (ys : List (DataW H × List MemPlace)), l.mapM (fun p => rec p.2 ((cs.drop p.1).take (P.cellsOf p.2))) = some ys → chkParts ck P.cellsOf l o τ = true →
      (∀ y ∈ ys, ok y) → l.mapM (fun p => rec' p.2 ((cs.drop p.1).take (P.cellsOf p.2))) = some ys
  | [], o, τ, ys, h, _, _ => by simpa using h
  | [p], o, τ, ys, h, hc, hs => by
    have hc : (p.1 == o && (P.cellsOf p.2 == τ.cells && ck p.2 τ)) = true := by
      cases τ <;> exact hc
    simp only [Bool.and_eq_true, beq_iff_eq] at hc
    refine mapM_again h fun q hq y hy hr => ?_
    obtain rfl := List.mem_singleton.1 hq
    exact hrec _ _ _ _ hr hc.2.2 (hs y hy)
  | p :: q :: r, o, τ, ys, h, hc, hs => by
    cases τ with
    | pair a b =>
      simp only [chkParts, Bool.and_eq_true, beq_iff_eq] at hc
      obtain ⟨h1, h2, h3, h4⟩ := hc
      rw [List.mapM_cons] at h ⊢
      cases hy : rec p.2 ((cs.drop p.1).take (P.cellsOf p.2)) with
      | none => rw [hy] at h; cases h
      | some y =>
        cases hl' : (q :: r).mapM (fun p => rec p.2 ((cs.drop p.1).take (P.cellsOf p.2))) with
        | none => rw [hy, hl'] at h; cases h
        | some ys' =>
          rw [hy, hl'] at h
          cases h
          rw [hrec _ _ _ _ hy h3 (hs y (by simp)), parts_again hrec cs (q :: r) _ b ys' hl' h4 fun z hz => hs z (List.mem_cons_of_mem _ hz)]
          rfl
    | _ => simp [chkParts] at hc

theorem trod_again {W' : World} {sp : Nat → Bool} (hw : ∀ b, b < W.heap.size → W'.heap[b]? = W.heap[b]?) : ∀ (fuel : Nat) {n : Nat} {t : TypeId} {τ : Ty} {cs : List Value} {y : DataW H × List MemPlace}, DataW.trod enc P W 0 (fun _ => true) true fuel t cs = some y →
    chkT P n t τ = true → (∀ p ∈ y.2, sp p.block = true) → DataW.trod enc P W' 0 sp true fuel t cs = some y
  | 0, _, _, _, _, _, h, _, _ => by simp [DataW.trod] at h
  | fuel + 1, 0, _, _, _, _, _, hc, _ => by simp [chkT] at hc
  | fuel + 1, n + 1, t, τ, cs, y, h, hc, hs => by
    simp only [chkT] at hc
    split at hc
    · rename_i k j hu
      obtain ⟨m, rfl, rfl, hwf⟩ := DataW.trod_int hu h
      unfold DataW.trod at h ⊢
      simpa [hu] using h
    · rename_i hu
      obtain ⟨b, rfl, rfl⟩ := DataW.trod_bool hu h
      unfold DataW.trod at h ⊢
      simpa [hu] using h
    · rename_i hu
      obtain ⟨s, rfl, rfl, _⟩ := DataW.trod_string hu h
      unfold DataW.trod at h ⊢
      simpa [hu] using h
    · rename_i e τ hu
      simp only [Bool.and_eq_true, beq_iff_eq, Bool.not_eq_true', beq_eq_false_iff_ne, decide_eq_true_eq] at hc
      obtain ⟨h1, h2, h3, h4⟩ := hc
      have h0 := h
      rcases DataW.trod_slice hu h with ⟨rfl, rfl⟩ | ⟨a, len, cap, elems0, rest0, m, hm, rfl, rfl, _, hlen, _, hel, hall, hsp, _⟩
      · unfold DataW.trod at h ⊢
        simpa [hu] using h
      · obtain ⟨rfl⟩ : fuel = m := by omega
        have hrl := (hsp rfl).1
        have hspa : elems0.length + rest0.length ≠ 0 → sp a.block = true := fun hne => by
          have hpos : 0 < (elems0.length + rest0.length) * P.cellsOf e := Nat.mul_pos (by omega) (by omega)
          refine hs (.cell a.block (a.off + 0)) (List.mem_append_left _ ?_)
          exact List.mem_map.2 ⟨0, List.mem_range.2 hpos, rfl⟩
        unfold DataW.trod at h ⊢
        simp only [hu, Nat.zero_le, true_and] at h ⊢
        split at h
        case isFalse => cases h
        rename_i hb
        rw [if_pos hb]
        simp only [Option.bind_eq_some_iff, Option.map_eq_some_iff] at h
        obtain ⟨elems, he, rest, hr, hy⟩ := h
        simp only [Prod.mk.injEq, DataW.slice.injEq] at hy
        have hel' : ∀ (l : List Nat) (ys : List (DataW H × List MemPlace)) (g : Nat → Nat), (∀ z ∈ ys, ∀ p ∈ z.2, sp p.block = true) → l.mapM (fun i => (W.cells? 0 (a.add (g i * P.cellsOf e)) (P.cellsOf e)).bind (DataW.trod enc P W 0 (fun _ => true) true fuel e)) = some ys →
            l.mapM (fun i => (W'.cells? 0 (a.add (g i * P.cellsOf e)) (P.cellsOf e)).bind (DataW.trod enc P W' 0 sp true fuel e)) = some ys := fun l ys g hz h => by
          refine mapM_again h fun i _ z hz' hi => ?_
          obtain ⟨us, q1, q2⟩ := Option.bind_eq_some_iff.1 hi
          rw [cells_again hw q1]
          exact trod_again hw fuel q2 h1 (hz z hz')
        have hplaces : ∀ z ∈ elems ++ rest, ∀ p ∈ z.2, sp p.block = true := fun z hz p hp => hs p (by
          rw [← hy.2]
          exact List.mem_append_right _ (List.mem_flatMap.2 ⟨z, hz, hp⟩))
        have hr' : (List.range (cap - len)).mapM (fun j => (W.cells? 0 (a.add ((len + j) * P.cellsOf e)) (P.cellsOf e)).bind (DataW.trod enc P W 0 (fun _ => true) true fuel e)) = some rest := by simpa using hr
        rw [hel' _ elems (fun i => i) (fun z hz => hplaces z (List.mem_append_left _ hz)) he]
        have hr2 := hel' _ rest (fun j => len + j) (fun z hz => hplaces z (List.mem_append_right _ hz)) hr'
        have hsel : (if sp a.block = true then (List.range (cap - len)).mapM (fun j => (W'.cells? 0 (a.add ((len + j) * P.cellsOf e)) (P.cellsOf e)).bind (DataW.trod enc P W' 0 sp true fuel e)) else some []) = some rest := by
          by_cases hq : sp a.block = true
          · rw [if_pos hq]; exact hr2
          · rw [if_neg hq]
            have : rest = [] := by
              by_cases hz : elems0.length + rest0.length = 0
              · have h5 : cap - len = 0 := by omega
                rw [h5] at hr'
                simpa using hr'.symm
              · exact absurd (hspa hz) hq
            rw [this]
        simp only [Option.bind_some, hsel, Option.map_some]
        rw [hy.1.1, hy.1.2, hy.2]
    · rename_i _ _ fs hu
      simp only [Bool.and_eq_true, beq_iff_eq] at hc
      have h' : (if cs.length = P.cellsOf t then (fs.toList.mapM fun f => DataW.trod enc P W 0 (fun _ => true) true fuel f.type ((cs.drop f.offset).take (P.cellsOf f.type))).map fun xs => (DataW.agg (xs.map (·.1)), xs.flatMap (·.2)) else none) = some y := by
        unfold DataW.trod at h
        rw [hu] at h
        split at h <;> simp_all
      split at h'
      case isFalse => cases h'
      rename_i hlen
      obtain ⟨ys, q1, q2⟩ := Option.map_eq_some_iff.1 h'
      have q3 : (fs.toList.map fun f => (f.offset, f.type)).mapM (fun p => DataW.trod enc P W 0 (fun _ => true) true fuel p.2 ((cs.drop p.1).take (P.cellsOf p.2))) = some ys := by
        rw [List.mapM_map]; exact q1
      have q4 := parts_again (P := P) (ck := chkT P n) (rec' := DataW.trod enc P W' 0 sp true fuel) (ok := fun y => ∀ p ∈ y.2, sp p.block = true) (fun t τ cs y a b c => trod_again hw fuel a b c) cs _ 0 _ ys q3 hc.2
        (fun y hy p hp => hs p (by rw [← q2]; exact List.mem_flatMap.2 ⟨y, hy, hp⟩))
      rw [List.mapM_map] at q4
      have q5 : (fs.toList.mapM fun f => DataW.trod enc P W' 0 sp true fuel f.type ((cs.drop f.offset).take (P.cellsOf f.type))) = some ys := q4
      unfold DataW.trod
      rw [hu]
      rw [← q2]
      split <;> simp_all
    · rename_i _ _ k e hu
      simp only [Bool.and_eq_true, beq_iff_eq] at hc
      have h' : (if cs.length = P.cellsOf t then ((List.range k).mapM fun i => DataW.trod enc P W 0 (fun _ => true) true fuel e ((cs.drop (i * P.cellsOf e)).take (P.cellsOf e))).map fun xs => (DataW.agg (xs.map (·.1)), xs.flatMap (·.2)) else none) = some y := by
        unfold DataW.trod at h
        rw [hu] at h
        split at h <;> simp_all
      split at h'
      case isFalse => cases h'
      rename_i hlen
      obtain ⟨ys, q1, q2⟩ := Option.map_eq_some_iff.1 h'
      have q3 : ((List.range k).map fun i => (i * P.cellsOf e, e)).mapM (fun p => DataW.trod enc P W 0 (fun _ => true) true fuel p.2 ((cs.drop p.1).take (P.cellsOf p.2))) = some ys := by
        rw [List.mapM_map]; exact q1
      have q4 := parts_again (P := P) (ck := chkT P n) (rec' := DataW.trod enc P W' 0 sp true fuel) (ok := fun y => ∀ p ∈ y.2, sp p.block = true) (fun t τ cs y a b c => trod_again hw fuel a b c) cs _ 0 _ ys q3 hc.2
        (fun y hy p hp => hs p (by rw [← q2]; exact List.mem_flatMap.2 ⟨y, hy, hp⟩))
      rw [List.mapM_map] at q4
      have q5 : ((List.range k).mapM fun i => DataW.trod enc P W' 0 sp true fuel e ((cs.drop (i * P.cellsOf e)).take (P.cellsOf e))) = some ys := q4
      unfold DataW.trod
      rw [hu]
      rw [← q2]
      split <;> simp_all
    · cases hc
end
end Go.Mach

/-
  Mach: from a contract to a row's statement.
-/
namespace Go.Mach
open Go.ChangeShapes Go.RowKit

/-- A shape that a plain value can be handed over as: frozen or lent. -/
def Sh.lend : Sh → Bool
  | .frz _ => true
  | .own s => s.lend
  | .seq a b => a.lend && b.lend
  | _ => false

/-- A parameter that fits its Go type. -/
def chkPar (P : Program) (t : TypeId) : Par → Bool
  | .val g (.frz τ) => (g == aggT P t) && chkT P 20 t τ
  | .val g (.bor s) => (g == aggT P t) && (s.lend && chkT P 20 t s.ty)
  | _ => false
def chkPars (P : Program) : List TypeId → List Par → Bool
  | [], [] => true
  | t :: ts, p :: ps => chkPar P t p && chkPars P ts ps
  | _, _ => false

/-- All arguments are small. -/
def smalls (n : Nat) : (ps : List VSh) → dens ps → Prop
  | [], _ => True
  | [a], x => a.2.ty.small n x
  | a :: b :: r, x => a.2.ty.small n x.1 ∧ smalls n (b :: r) x.2

section
variable {W : World} {Z V : Nat → Prop}

theorem lend_cells : ∀ {s : Sh}, s.lend = true → s.cells = s.ty.cells
  | .frz _, _ => rfl
  | .own _, _ => rfl
  | .seq a b, h => by
    simp only [Sh.lend, Bool.and_eq_true] at h
    simp only [Sh.cells, Sh.ty, Ty.cells, lend_cells h.1, lend_cells h.2]
theorem lend_minB : ∀ {s : Sh}, s.lend = true → s.minB = s.ty.minB
  | .frz _, _ => rfl
  | .own _, _ => rfl
  | .seq a b, h => by
    simp only [Sh.lend, Bool.and_eq_true] at h
    simp only [Sh.minB, Sh.ty, Ty.minB, lend_minB h.1, lend_minB h.2]

/-- What is frozen may be lent. -/
theorem lend_of_frz (hz : ∀ b, Z b → V b) : ∀ {s : Sh} {us : List Value} {x : s.den}, s.lend = true → Frz W Z s.ty us x → BR W Z V s us x
  | .frz _, _, _, _, h => h
  | .own s, us, xs, hl, h => by
    simp only [Sh.ty, Frz] at h
    simp only [BR]
    obtain ⟨a, cap, h1, h2, h3, h4⟩ := h
    refine ⟨a, cap, h1, h2, ?_, h4.imp id ?_⟩
    · simpa [lenOkS, lenOk, lend_minB (s := s) hl] using h3
    · rintro ⟨b, o, h5, h6, h7⟩
      refine ⟨b, o, h5, hz b h6, fun i hi => ?_⟩
      obtain ⟨us, h8, h9, h10⟩ := h7 i hi
      rw [lend_cells (s := s) hl]
      exact ⟨us, h8, h9, lend_of_frz hz (s := s) hl h10⟩
  | .seq a b, us, x, hl, h => by
    simp only [Sh.lend, Bool.and_eq_true] at hl
    simp only [Sh.ty, Frz] at h
    simp only [BR]
    obtain ⟨u1, u2, h1, h2, h3⟩ := h
    exact ⟨u1, u2, h1, lend_of_frz hz hl.1 h2, lend_of_frz hz hl.2 h3⟩
end

section
variable {H : Type} {enc : TypeId × Value → H} {P : Program} {W : World} {N : Nat} {sm : DataW H → Prop}

/-- An argument's value has the form of its type. -/
theorem form_of_ok {r : Reach} {b0 : Nat} {t : TypeId} {τ : Ty} {v : Value} (hc : chkT P 20 t τ = true) (h : Value.okWide P W r b0 t v) : FormR (aggT P t) v.cells.toList v := by
  unfold aggT
  unfold Value.okWide at h
  have hc : chkT P (19 + 1) t τ = true := hc
  unfold chkT at hc
  cases hu : P.underlying t with
  | none => simp [hu] at hc
  | some D =>
    rw [hu] at hc h
    have one : ∀ {w : Value}, Cell.okWide P W r b0 t w → (∀ cs, w ≠ .agg cs) → FormR false w.cells.toList w := fun {w} _ hw => by
      cases w <;> simp [FormR, Value.cells] at hw ⊢
    have noagg : ∀ {cs : Array Value}, (D = .bool ∨ D = .string ∨ (∃ k, D = .int k) ∨ ∃ e, D = .slice e) → ¬ Cell.okWide P W r b0 t (.agg cs) := fun {cs} hd h => by
      unfold Cell.okWide Cell.ok at h
      rw [hu] at h
      rcases hd with rfl | rfl | ⟨k, rfl⟩ | ⟨e, rfl⟩ <;> simp at h
    cases D with
    | bool => exact one h fun cs he => noagg (.inl rfl) (he ▸ h)
    | string => exact one h fun cs he => noagg (.inr (.inl rfl)) (he ▸ h)
    | int k => exact one h fun cs he => noagg (.inr (.inr (.inl ⟨k, rfl⟩))) (he ▸ h)
    | slice e => exact one h fun cs he => noagg (.inr (.inr (.inr ⟨e, rfl⟩))) (he ▸ h)
    | struct fs => obtain ⟨cs, rfl, _⟩ := h; simp [FormR, Value.cells]
    | array n e => obtain ⟨cs, rfl, _⟩ := h; simp [FormR, Value.cells]
    | _ => cases τ <;> cases hc

theorem val_of_trod (S : Sm N sm) (hN : N ≤ 2 ^ 20) {r : Reach} {b0 : Nat} {t : TypeId} {v : Value} {d : DataW H} {ps : List MemPlace} {p : Par} (h : DataW.Trod enc P W 0 (fun _ => true) true t v d ps) (hv : Value.okWide P W r b0 t v)
    (hc : chkPar P t p = true) (hs : sm d) (T : Nat → Prop) : ∃ x : p.v.2.den, ValR W (Old W) (fun _ => False) p.v v x T ∧ p.v.2.ty.small N x := by
  obtain ⟨fuel, h⟩ := h
  match p with
  | .obj _ => simp [chkPar] at hc
  | .val g s =>
    cases s with
    | frz τ =>
      simp only [chkPar, Bool.and_eq_true, beq_iff_eq] at hc
      obtain ⟨rfl, hc⟩ := hc
      obtain ⟨x, h1, h2⟩ := frz_of_trod S hN fuel h hc hs
      exact ⟨x, ⟨_, form_of_ok hc hv, h1.length, h1⟩, h2⟩
    | bor s =>
      simp only [chkPar, Bool.and_eq_true, beq_iff_eq] at hc
      obtain ⟨rfl, hl, hc⟩ := hc
      obtain ⟨x, h1, h2⟩ := frz_of_trod S hN fuel h hc hs
      refine ⟨x, ⟨_, form_of_ok hc hv, ?_, ?_⟩, h2⟩
      · exact h1.length.trans (lend_cells hl).symm
      · exact lend_of_frz (fun b hb => .inr hb) hl h1
    | _ => simp [chkPar] at hc

theorem vals_of_trod (S : Sm N sm) (hN : N ≤ 2 ^ 20) {r : Reach} {b0 : Nat} : ∀ {ts : List TypeId} {vs : List Value} {ds : List (DataW H)} {q : List MemPlace} {ps : List Par}, DataW.TrodAll enc P W 0 (fun _ => true) true ts vs ds q →
    (∀ (j : Nat) t v, ts[j]? = some t → vs[j]? = some v → Value.okWide P W r b0 t v) → chkPars P ts ps = true → (∀ d ∈ ds, sm d) →
    ∃ x : dens (ps.map Par.v), ValsR W (Old W) (fun _ => False) (ps.map Par.v) vs x (fun _ => False) ∧ smalls N (ps.map Par.v) x
  | [], vs, ds, q, ps, h, hv, hc, hs => by
    obtain ⟨rfl, rfl, rfl⟩ := trodAll_nil h
    match ps, hc with
    | [], _ => exact ⟨(), rfl, trivial⟩
  | t :: ts, vs, ds, q, ps, h, hv, hc, hs => by
    obtain ⟨v, vs', d, ds', p1, p2, rfl, rfl, rfl, h1, h2⟩ := trodAll_cons h
    match ps, hc with
    | p :: ps, hc =>
      simp only [chkPars, Bool.and_eq_true] at hc
      obtain ⟨x, g1, g2⟩ := val_of_trod S hN h1 (hv 0 t v rfl rfl) hc.1 (hs d (by simp)) (fun _ => False)
      obtain ⟨y, g3, g4⟩ := vals_of_trod S hN h2 (fun j t v ht hv' => hv (j + 1) t v (by simpa using ht) (by simpa using hv')) hc.2 (fun d hd => hs d (List.mem_cons_of_mem _ hd))
      match ps, y, g3, g4 with
      | [], y, g3, g4 =>
        obtain rfl : vs' = [] := g3
        exact ⟨x, ⟨v, rfl, g1⟩, g2⟩
      | p' :: r, y, g3, g4 => exact ⟨(x, y), ⟨v, vs', fun _ => False, fun _ => False, rfl, fun _ h => h, fun _ h => h, fun _ h _ => h, g1, g3⟩, g2, g4⟩

theorem trodAll_again {W' : World} {sp : Nat → Bool} (hw : ∀ b, b < W.heap.size → W'.heap[b]? = W.heap[b]?) : ∀ {ts : List TypeId} {vs : List Value} {ds : List (DataW H)} {q : List MemPlace} {ps : List Par}, DataW.TrodAll enc P W 0 (fun _ => true) true ts vs ds q →
    chkPars P ts ps = true → (∀ p ∈ q, sp p.block = true) → DataW.TrodAll enc P W' 0 sp true ts vs ds q
  | [], vs, ds, q, ps, h, hc, hs => by
    obtain ⟨rfl, rfl, rfl⟩ := trodAll_nil h
    exact trodAll_mk0
  | t :: ts, vs, ds, q, ps, h, hc, hs => by
    obtain ⟨v, vs', d, ds', p1, p2, rfl, rfl, rfl, ⟨fuel, h1⟩, h2⟩ := trodAll_cons h
    match ps, hc with
    | p :: ps, hc =>
      simp only [chkPars, Bool.and_eq_true] at hc
      have hck : ∃ τ, chkT P 20 t τ = true := by
        match p, hc.1 with
        | .val g (.frz τ), hc => simp only [chkPar, Bool.and_eq_true] at hc; exact ⟨_, hc.2⟩
        | .val g (.bor s), hc => simp only [chkPar, Bool.and_eq_true] at hc; exact ⟨_, hc.2.2⟩
      obtain ⟨τ, hck⟩ := hck
      exact ⟨p1, p2, ⟨fuel, trod_again hw fuel h1 hck fun p hp => hs p (List.mem_append_left _ hp)⟩, trodAll_again hw h2 hc.2 fun p hp => hs p (List.mem_append_right _ hp), rfl⟩

theorem chkPars_boxes : ∀ {ts : List TypeId} {ps : List Par}, chkPars P ts ps = true → boxes ps = []
  | [], [], _ => rfl
  | t :: ts, p :: ps, h => by
    simp only [chkPars, Bool.and_eq_true] at h
    match p, h.1 with
    | .val g s, _ => exact chkPars_boxes (ps := ps) h.2

/-- 'post_of_same', where new blocks may be marked. -/
theorem post_of_same_old {f : Func} {s : ChangeSpec} {apart fresh handsOn again : Bool} {W W' : World} {args : Array Value} {v : Value} {ds gs : List (DataW H)} {before pa pv : List MemPlace}
    (hW : DataW.Whole enc P f.params.toList s.vars apart W args.toList ds gs before)
    (hres : ∀ (b : Nat) (sp : Nat → Bool) (hd : Bool), DataW.TrodAll enc P W' b sp hd f.resultTypes.toList (v.resultList f.resultTypes.size) (s.fn H (ds ++ gs)).results [])
    (hargs : ∀ sp : Nat → Bool, (∀ p ∈ before, sp p.block = true) → DataW.TrodAll enc P W' 0 sp true f.params.toList args.toList (s.fn H (ds ++ gs)).args pa)
    (hvars : ∀ sp : Nat → Bool, (∀ p ∈ before, sp p.block = true) → DataW.TrodVars enc P W' sp s.vars (s.fn H (ds ++ gs)).vars pv)
    (hps : before = pa ++ pv) (hk : W.keptBut W' (· ∈ before)) (hfz : ∀ a, a.block < W.heap.size → W'.frozen? a = W.frozen? a)
    (hok : ∀ (j : Nat) (t : TypeId) (r : Value), f.resultTypes[j]? = some t → (v.resultList f.resultTypes.size)[j]? = some r → Value.okWide P W' .any 0 t r) :
    s.post enc P f apart fresh handsOn again W args v W' := by
  have hold : ∀ p ∈ before, (fun b => decide (b < W.heap.size)) p.block = true := fun p hp => by simpa using hW.lt p hp
  have hlt := hW.lt
  refine ⟨ds, gs, before, [], pa, pv, hW, hres _ _ _, hargs _ hold, hvars _ hold, World.keptBut_mono (fun p hp => ⟨hp, ?_⟩) hk, fun _ => ?_⟩
  · rw [hps, List.mem_append] at hp
    exact Or.inr hp
  · obtain ⟨_, _, _, _, _, hz, hn⟩ := hW
    refine ⟨hok, _, _, ([] ++ pa) ++ pv, ⟨[] ++ pa, pv, trodAll_append (hargs _ (fun _ _ => rfl)) (hres _ _ _), hvars _ (fun _ _ => rfl), rfl, ?_, ?_⟩, ?_⟩
    · intro b off hp
      have hp' : MemPlace.cell b off ∈ before := by rw [hps]; simpa using hp
      rw [hfz _ (hlt _ hp')]
      exact hz b off hp'
    · intro ha
      have := hn ha
      rw [hps] at this
      simpa using this
    · intro p hp _
      rw [hps]
      simpa using hp

theorem frozen_same {W' : World} {a : Addr} (hw : W'.heap[a.block]? = W.heap[a.block]?) : W'.frozen? a = W.frozen? a := by
  simp only [World.frozen?, hw]

/-- A law's function, its contract, its plain law: what the row asks of a call. -/
theorem law_post {f : FuncId} {fn : Func} {ps : List Par} {run : dens (ps.map Par.v) → Res (outs Bool (boxes ps))} {s : ChangeSpec} {apart fresh handsOn again : Bool} {tb : TypeId}
    {G : Glob} (hct : Contract P G ⟨f, ps, [(false, .frz .bool)], run⟩) (hck : chkPars P fn.params.toList ps = true) (hN : N ≤ 2 ^ 20) (hvars : s.vars = []) (hrt : fn.resultTypes = #[tb]) (htb : P.underlying tb = some .bool)
    (hspec : ∀ ds : List (DataW H), ds.length = fn.params.toList.length → s.fn H ds = { results := [.lit (.bool true)], args := ds })
    (hlaw : ∀ x, smalls N (ps.map Par.v) x → (run x).sat fun y => outFst (boxes ps) y = true)
    (S : Sm N sm) (hG : G.At W (Old W)) {base : Nat} {args : Array Value} {ds gs : List (DataW H)} {before : List MemPlace}
    (hval : ∀ (j : Nat) t v, fn.params[j]? = some t → args[j]? = some v → Value.okWide P W .any base t v)
    (hW : DataW.Whole enc P fn.params.toList s.vars apart W args.toList ds gs before) (hsm : ∀ d ∈ ds, sm d) :
    Calls P f args W fun e W' => ∃ v, e = .returned v ∧ s.post enc P fn apart fresh handsOn again W args v W' := by
  have hW' := hW
  obtain ⟨p, q, hA, hV, hpq, _, _⟩ := hW
  rw [hvars] at hV
  obtain ⟨hgs, hq⟩ := trodVars_none hV
  obtain ⟨x, hx, hxs⟩ := vals_of_trod S hN hA (fun j t v ht hv => hval j t v (by simpa using ht) (by simpa using hv)) hck hsm
  have hlen : ds.length = fn.params.toList.length := by
    have : ∀ {ts : List TypeId} {vs : List Value} {ds : List (DataW H)} {ps : List MemPlace}, DataW.TrodAll enc P W 0 (fun _ => true) true ts vs ds ps → ds.length = ts.length := by
      intro ts
      induction ts with
      | nil => intro vs ds ps h; obtain ⟨_, rfl, _⟩ := trodAll_nil h; rfl
      | cons t ts ih => intro vs ds ps h; obtain ⟨_, _, _, _, _, _, _, rfl, _, _, h2⟩ := trodAll_cons h; simp [ih h2]
    exact this hA
  have hsp := hspec ds hlen
  have hcall := hct.run W (Old W) (fun _ => False) (fun _ => False) args.toList x _ (hlaw x hxs) hG (fun _ h => h) (fun _ h => h.elim) (fun _ h => h.elim) hx
  have harr : args.toList.toArray = args := by simp
  rw [harr] at hcall
  refine hcall.mono ?_
  rintro e W' ⟨y, v, vals, Z', S1, S2, rfl, hy, hret, hv1, _, _, _, _, _, hsz, hkeep, hio⟩
  have hkeep' : ∀ b, b < W.heap.size → W'.heap[b]? = W.heap[b]? := fun b hb => hkeep b hb fun h => h
  have hvb : v = .bool true := by
    obtain ⟨v', rfl, us, hf, _, hsr⟩ := hv1
    have hret : [v'] = [v] := hret
    cases hret
    have hf : us = [v] := hf
    have hsr : us = [.bool (outFst (boxes ps) y)] := hsr
    rw [hf, hy] at hsr
    simpa using hsr
  subst hvb
  refine ⟨_, rfl, post_of_same_old (pa := p) (pv := q) hW' ?_ ?_ ?_ hpq ⟨hio.1, hio.2.1, fun i hi => ?_⟩ (fun a ha => frozen_same (hkeep' _ ha)) (ok_one hrt rfl (okWide_bool_mk htb _))⟩
  · intro b sp hd
    rw [hgs, List.append_nil, hsp, hrt]
    exact trodAll_mk1 (shut_bool htb _)
  · intro sp hsp'
    rw [hgs, List.append_nil, hsp]
    exact trodAll_again hkeep' hA hck fun p hp => hsp' p (by rw [hpq]; exact List.mem_append_left _ hp)
  · intro sp _
    rw [hgs, List.append_nil, hsp, hvars, hq]
    rfl
  · rw [hkeep' i hi]
    split <;> simp_all
end
end Go.Mach

/-
  Mach: reasoning about results.
-/
namespace Go.Mach
namespace Res
variable {α β γ : Type} {Q : β → Prop}

theorem law_ok {Q : α → Prop} {a : α} (h : Q a) : (Res.ok a).sat Q := h
theorem law_mono {Q Q' : α → Prop} {m : Res α} (h : m.sat Q) (hq : ∀ a, Q a → Q' a) : m.sat Q' := by
  cases m <;> simp_all [sat]
theorem law_bind {m : Res α} {k : α → Res β} (h : m.sat fun a => (k a).sat Q) : (m.bind k).sat Q := by
  cases m <;> simp_all [sat, bind]
theorem law_bind' {m : Res α} {k : α → Res β} {R : α → Prop} (h : m.sat R) (hk : ∀ a, R a → (k a).sat Q) : (m.bind k).sat Q := law_bind (law_mono h hk)
theorem law_bind_eq {m : Res α} {k : α → Res β} {a : α} (h : m.sat (· = a)) (hk : (k a).sat Q) : (m.bind k).sat Q := law_bind' h fun _ e => e ▸ hk
theorem law_given {b : Bool} {k : Res β} (h : b = true → k.sat Q) : (given b k).sat Q := by
  cases b <;> simp_all [sat, given]
theorem law_need {b : Bool} {k : Res β} (hb : b = true) (h : k.sat Q) : (need b k).sat Q := by
  subst hb; exact h
theorem law_br {b : Bool} {x y : Res β} (h1 : b = true → x.sat Q) (h2 : b = false → y.sat Q) : (br b x y).sat Q := by
  cases b <;> simp_all [br]
theorem law_idx {t : Ty} {xs : List t.den} {i : Int} {k : t.den → Res β} (h0 : 0 ≤ i) (h1 : i.toNat < xs.length) (h : ∀ x, xs[i.toNat]? = some x → t.ok x = true → (k x).sat Q) : (idx t xs i k).sat Q := by
  unfold idx
  rw [decide_eq_true h0, List.getElem?_eq_getElem h1]
  exact law_given fun hk => h _ (List.getElem?_eq_getElem h1) hk
theorem law_idxS {s : Sh} {xs : List s.den} {i : Int} {k : s.den → Res β} (h0 : 0 ≤ i) (h1 : i.toNat < xs.length) (h : ∀ x, xs[i.toNat]? = some x → s.ok x = true → (k x).sat Q) : (idxS s xs i k).sat Q := by
  unfold idxS
  rw [decide_eq_true h0, List.getElem?_eq_getElem h1]
  exact law_given fun hk => h _ (List.getElem?_eq_getElem h1) hk

/-- A loop: I: what holds at its head, with a number that falls. -/
theorem law_loop {f : α → Res (Step α β)} (I : Nat → α → Prop) (h : ∀ k a, I k a → (f a).sat fun
      | .next a' => ∃ k', k' < k ∧ I k' a'
      | .done b => Q b) : ∀ (n k : Nat) (a : α), k < n → I k a → (loop f n a).sat Q
  | 0, _, _, hk, _ => by omega
  | n + 1, k, a, hk, hI => by
    unfold loop
    refine law_bind' (h k a hI) fun s hs => ?_
    cases s with
    | next a' =>
      obtain ⟨k', h1, h2⟩ := hs
      exact law_loop I h n k' a' (by omega) h2
    | done b => exact hs

/-- A loop over i up to n: I at i. -/
theorem law_for {f : α → Res (Step α β)} (ix : α → Int) (n : Nat) (hn : n < 2 ^ 69) (I : α → Prop) {a : α} (ha : I a) (hix : ∀ a, I a → 0 ≤ ix a ∧ ix a ≤ n)
    (h : ∀ a, I a → (f a).sat fun
      | .next a' => ix a' = ix a + 1 ∧ I a'
      | .done b => Q b) : (loop f fuel a).sat Q := by
  refine law_loop (fun k a => I a ∧ k = n - (ix a).toNat) (fun k a ⟨hI, hk⟩ => ?_) _ (n - (ix a).toNat) a (Nat.lt_of_le_of_lt (Nat.sub_le _ _) (Nat.lt_trans hn (by decide))) ⟨ha, rfl⟩
  refine law_mono (h a hI) fun s hs => ?_
  cases s with
  | next a' =>
    obtain ⟨h1, h2⟩ := hs
    have h3 := hix a hI
    have h4 := hix a' h2
    exact ⟨_, by omega, h2, rfl⟩
  | done b => exact hs
end Res

theorem wrap64 {n : Int} (h : -9223372036854775808 ≤ n ∧ n < 9223372036854775808) : IntKind.wrap .i64 n = n := by
  simp [IntKind.wrap, IntKind.signed, IntKind.bits]
  omega
theorem ilt_true {a b : Int} : (ilt a b = true) = (a < b) := by simp [ilt]
theorem ile_true {a b : Int} : (ile a b = true) = (a ≤ b) := by simp [ile]
theorem ilt_false {a b : Int} : (ilt a b = false) = (b ≤ a) := by simp [ilt]
theorem ile_false {a b : Int} : (ile a b = false) = (b < a) := by simp [ile]
theorem minI_eq (x y : Int) : minI x y = min x y := by unfold minI; split <;> omega
theorem maxI_eq (x y : Int) : maxI x y = max x y := by unfold maxI; split <;> omega
theorem idx0 (i : Int) : ((0 : Int) + (i.toNat : Int)).toNat = i.toNat := by omega
theorem range64 {n : Int} : (inRange .i64 n = true) = (-9223372036854775808 ≤ n ∧ n < 9223372036854775808) := by
  simp [inRange, IntKind.wrap, IntKind.signed, IntKind.bits]
  omega
theorem set_self {α : Type} {xs : List α} {i : Nat} {x : α} (h : xs[i]? = some x) : xs.set i x = xs := by
  apply List.ext_getElem?
  intro j
  rw [List.getElem?_set]
  split
  · subst_vars; split
    · exact h.symm
    · rename_i hl; rw [List.getElem?_eq_none (by omega)]
  · rfl
end Go.Mach
namespace Go.Mach
namespace Res
variable {α β : Type} {Q : β → Prop}
theorem law_bind_iff {m : Res α} {k : α → Res β} : (m.bind k).sat Q = m.sat fun a => (k a).sat Q := by cases m <;> rfl
theorem law_given_iff {b : Bool} {k : Res β} : (given b k).sat Q = (b = true → k.sat Q) := by cases b <;> simp [given, sat]
theorem law_need_iff {b : Bool} {k : Res β} : (need b k).sat Q = (b = true ∧ k.sat Q) := by cases b <;> simp [need, sat]
theorem law_br_iff {b : Bool} {x y : Res β} : (br b x y).sat Q = ((b = true → x.sat Q) ∧ (b = false → y.sat Q)) := by cases b <;> simp [br]
theorem law_ok_iff {Q : α → Prop} {a : α} : (Res.ok a).sat Q = Q a := rfl
theorem law_idx_iff {t : Ty} {xs : List t.den} {i : Int} {k : t.den → Res β} : (idx t xs i k).sat Q = (0 ≤ i ∧ ∃ x, xs[i.toNat]? = some x ∧ (t.ok x = true → (k x).sat Q)) := by
  unfold idx
  by_cases h : 0 ≤ i
  · rw [decide_eq_true h]
    cases hx : xs[i.toNat]? with
    | none => simp [sat]
    | some x => simp only [law_given_iff]; simp [h]
  · rw [decide_eq_false h]
    simp [h, sat]
theorem law_idxS_iff {s : Sh} {xs : List s.den} {i : Int} {k : s.den → Res β} : (idxS s xs i k).sat Q = (0 ≤ i ∧ ∃ x, xs[i.toNat]? = some x ∧ (s.ok x = true → (k x).sat Q)) := by
  unfold idxS
  by_cases h : 0 ≤ i
  · rw [decide_eq_true h]
    cases hx : xs[i.toNat]? with
    | none => simp [sat]
    | some x => simp only [law_given_iff]; simp [h]
  · rw [decide_eq_false h]
    simp [h, sat]
theorem law_sum_iff {γ δ : Type} {x : γ ⊕ δ} {f : γ → Res β} {g : δ → Res β} : (sum x f g).sat Q = match x with | .inl a => (f a).sat Q | .inr c => (g c).sat Q := by cases x <;> rfl
theorem law_t {b : Bool} {x y : Res β} (h : b = true) (hx : x.sat Q) : (br b x y).sat Q := by subst h; exact hx
theorem law_f {b : Bool} {x y : Res β} (h : b = false) (hx : y.sat Q) : (br b x y).sat Q := by subst h; exact hx
theorem law_bind_ok {m : Res α} {k : α → Res β} {a : α} (h : m = .ok a) (hk : (k a).sat Q) : (m.bind k).sat Q := by subst h; exact hk
theorem law_inl {γ δ : Type} {a : γ} {f : γ → Res β} {g : δ → Res β} (h : (f a).sat Q) : (sum (.inl a) f g).sat Q := h
theorem law_inr {γ δ : Type} {a : δ} {f : γ → Res β} {g : δ → Res β} (h : (g a).sat Q) : (sum (.inr a) f g).sat Q := h
theorem law_call {Q : α → Prop} {m : Res α} {a : α} (h : m.sat (· = a)) (hq : Q a) : m.sat Q := law_mono h fun _ e => e ▸ hq
end Res

namespace Res
theorem law_order {α β : Type} {xs : List α} {F : List α → Res β} {Q : β → Prop} (y : β) (h : ∀ p, p.Perm xs → (F p).sat (· = y)) (hq : Q y) : (order xs F).sat Q := by
  unfold order
  have hex : ∃ y, ∀ p, p.Perm xs → (F p).sat (· = y) := ⟨y, h⟩
  rw [dif_pos hex]
  split
  · rename_i hp
    obtain ⟨p, hp, hn⟩ := hp
    have h1 := h p hp
    have h2 := hex.choose_spec p hp
    cases hF : F p with
    | ok a =>
      rw [hF] at h1 h2
      have h1 : a = y := h1
      have h2 : a = hex.choose := h2
      show Q hex.choose
      rw [← h2, h1]; exact hq
    | stuck => rw [hF] at h1; exact h1.elim
    | void => exact absurd hF hn
  · trivial
theorem law_each {α β γ : Type} {f : γ → List γ → α → Res (Step α β)} {Q : Step α β → Prop} (I : List γ → α → Prop) (h : ∀ x xs a, I (x :: xs) a → (f x xs a).sat fun
      | .next a' => I xs a'
      | .done b => Q (.done b)) (hend : ∀ a, I [] a → Q (.next a)) : ∀ (xs : List γ) (a : α), I xs a → (each f xs a).sat Q
  | [], a, hI => hend a hI
  | x :: xs, a, hI => by
    unfold each
    refine law_bind' (h x xs a hI) fun s hs => ?_
    cases s with
    | next a' => exact law_each I h hend xs a' hs
    | done b => exact hs
theorem law_look {β γ : Type} {xs : List (List Int × γ)} {l : List Int} {f : Nat → γ → Res β} {g : Res β} {Q : β → Prop} (h : ∀ i (x : List Int × γ), keyIx xs l = some i → xs[i]? = some x → x.1 = l → (f i x.2).sat Q) (h' : keyIx xs l = none → g.sat Q) : (look xs l f g).sat Q := by
  unfold look
  split
  · rename_i i hi
    have h1 := List.findIdx?_eq_some_iff_getElem.1 hi
    obtain ⟨hlt, h2, _⟩ := h1
    rw [List.getElem?_eq_getElem hlt]
    exact h i xs[i] hi (List.getElem?_eq_getElem hlt) (by simpa using h2)
  · rename_i hi
    exact h' hi
end Res
end Go.Mach
