/-
  Proved here: the law renlaw12.EvalArrays returns true for every input of the stated bulk and leaves its arguments as they were; no further condition.
  By an AI agent; no person has read it.
-/
import Derived.Test.YtimhplnifencnaaGreatDoorPartk
import Derived.Lib.ItoaLen
set_option linter.all false
set_option linter.deprecated false

set_option maxRecDepth 100000
namespace Go.Mach
open Res
instance (n) : Safe (pb n) := ⟨trivial⟩
instance (n) : Safe (vL n) := by unfold vL; split <;> exact ⟨trivial⟩
instance (n c) : Safe (ixbRun n c) := ⟨trivial⟩
theorem fh {a} (hl : List.length a ≤ 2 ^ 40) : (R.ah a).sat (fun r => r.length = a.length) := by
  unfold R.ah
  refine aN fun h => ?_
  have hn : List.length (α := (Ty.int IntKind.u8).den) (kO a) = a.length := by simp [kO]
  refine bC (q_for (Q := fun r => r.length = a.length) (fun i => i.2) a.length (by omega) (fun x => x.1.length = x.2.toNat) (by simp) (by simp) (by simp) fun i h0 h1 hI => ?_) fun x hx => ?_ <;> repeat' (first | with_reducible (first | refine aI ?_ | refine aN fun _ => ?_ | refine ln ?_ | refine qI (fun _ => ?_) fun _ => ?_ | refine sW (fun _ => ?_) fun _ => ?_ | refine lH (fun _ => ?_) fun _ => ?_ | refine bj rfl ?_ | refine aM rfl ?_ | refine fl (fun _ => ?_) fun _ => ?_ | refine yJ ?_ | refine yG ?_ | refine tL ?_ | refine q_e ?_ | refine q_p fun _ _ => ?_ | refine q_b fun _ => ?_ | refine jG ?_ ?_ fun _ _ _ => ?_ | refine jz ?_ ?_ fun _ _ _ => ?_ | refine nr ?_ | refine bC (fh ?_) fun _ _ => ?_ | refine pd ?_ ?_ | refine tc ?_ ?_ | refine xx ?_ ?_ | refine n_d ?_ ?_ | refine s5 (fun _ => ?_) fun _ => ?_ | exact safe | refine bd ?_) | exact trivial | dsimp only [Nx, Dn] | with_reducible (first | rfl | refine And.intro ?_ ?_ | intro _ | contradiction) | omega | refine eQ (by decide) ?_ | (simp (disch := omega) only [wrap64, kH, kV, List.length_append, List.length_cons, List.length_nil, List.length_take, List.length_drop, List.length_set, List.length_replicate, List.length_reverse] <;> omega) | (simp (disch := omega) only [wrap64, kH, kV, List.length_append, List.length_cons, List.length_nil, List.length_take, List.length_drop, List.length_set, List.length_replicate, List.length_reverse] at * <;> omega) | exact Int.tmod_nonneg _ (by omega) | (simp_all [jN, l0, ia, kA] <;> omega))
instance sf_num_as {a} : o8 (R.cn a) (fun r : Int × Int => (r.1 = 0 → -9007199254740991 ≤ r.2 ∧ r.2 ≤ 9007199254740991) ∧ (r.1 ≠ 0 → 1 ≤ r.1 ∧ r.1 ≤ 4 ∧ r.2 = 0)) := ⟨by
  unfold R.cn R.gp R.dY
  refine aN fun _ => bd (aN fun _ => lH (fun _ => sW (fun _ => ?_) fun _ => ?_) fun _ => bC (R := fun x => x = true → 1 ≤ a.1 ∧ a.1 ≤ 4) (by repeat' (first | with_reducible (first | refine aI ?_ | refine aN fun _ => ?_ | refine ln ?_ | refine qI (fun _ => ?_) fun _ => ?_ | refine sW (fun _ => ?_) fun _ => ?_ | refine lH (fun _ => ?_) fun _ => ?_ | refine bj rfl ?_ | refine aM rfl ?_ | refine fl (fun _ => ?_) fun _ => ?_ | refine yJ ?_ | refine yG ?_ | refine tL ?_ | refine q_e ?_ | refine q_p fun _ _ => ?_ | refine q_b fun _ => ?_ | refine jG ?_ ?_ fun _ _ _ => ?_ | refine jz ?_ ?_ fun _ _ _ => ?_ | refine nr ?_ | refine bC (fh ?_) fun _ _ => ?_ | refine pd ?_ ?_ | refine tc ?_ ?_ | refine xx ?_ ?_ | refine n_d ?_ ?_ | refine s5 (fun _ => ?_) fun _ => ?_ | exact safe | refine bd ?_) | exact trivial | dsimp only [Nx, Dn] | with_reducible (first | rfl | refine And.intro ?_ ?_ | intro _ | contradiction) | omega | refine eQ (by decide) ?_ | (simp (disch := omega) only [wrap64, kH, kV, List.length_append, List.length_cons, List.length_nil, List.length_take, List.length_drop, List.length_set, List.length_replicate, List.length_reverse] <;> omega) | (simp (disch := omega) only [wrap64, kH, kV, List.length_append, List.length_cons, List.length_nil, List.length_take, List.length_drop, List.length_set, List.length_replicate, List.length_reverse] at * <;> omega) | exact Int.tmod_nonneg _ (by omega) | (simp_all [jN, l0, ia, kA] <;> omega))) fun _ _ => ?_)
  · refine aI (ln (sW (fun _ => aI ?_) fun _ => bd (aN fun _ => aI (aN fun _ => aI ?_)))) <;> constructor <;> intro _ <;> simp_all
  · refine aI (ln (aM rfl (bd (aN fun _ => aI (aN fun _ => aI ?_))))); simp
  · refine fl (fun hx => aI (ln (lH (fun _ => aI ?_) fun _ => bd (aN fun _ => aI (aN fun _ => aI ?_))))) fun _ => aI (ln (aM rfl (bd (aN fun _ => aI (aN fun _ => aI ?_))))) <;> simp_all⟩
instance AA {a} : o8 (R.gA a) (fun r => r = true → (a.2.length : Int) ≤ 8) := by
  unfold R.gA
  refine ⟨aN fun h => ?_⟩
  simp only [Sg.i, oks, Sh.ok, Ty.ok, List.map, Par.v, Bool.and_eq_true] at h
  repeat' (first | with_reducible (first | refine aI ?_ | refine aN fun _ => ?_ | refine ln ?_ | refine qI (fun _ => ?_) fun _ => ?_ | refine sW (fun _ => ?_) fun _ => ?_ | refine lH (fun _ => ?_) fun _ => ?_ | refine bj rfl ?_ | refine aM rfl ?_ | refine fl (fun _ => ?_) fun _ => ?_ | refine yJ ?_ | refine yG ?_ | refine tL ?_ | refine q_e ?_ | refine q_p fun _ _ => ?_ | refine q_b fun _ => ?_ | refine jG ?_ ?_ fun _ _ _ => ?_ | refine jz ?_ ?_ fun _ _ _ => ?_ | refine nr ?_ | refine bC (fh ?_) fun _ _ => ?_ | refine pd ?_ ?_ | refine tc ?_ ?_ | refine xx ?_ ?_ | refine n_d ?_ ?_ | refine s5 (fun _ => ?_) fun _ => ?_ | exact safe | refine bd ?_) | exact trivial | dsimp only [Nx, Dn] | with_reducible (first | rfl | refine And.intro ?_ ?_ | intro _ | contradiction) | omega | refine eQ (by decide) ?_ | (simp (disch := omega) only [wrap64, kH, kV, List.length_append, List.length_cons, List.length_nil, List.length_take, List.length_drop, List.length_set, List.length_replicate, List.length_reverse] <;> omega) | (simp (disch := omega) only [wrap64, kH, kV, List.length_append, List.length_cons, List.length_nil, List.length_take, List.length_drop, List.length_set, List.length_replicate, List.length_reverse] at * <;> omega) | exact Int.tmod_nonneg _ (by omega) | (simp_all [jN, l0, ia, kA] <;> omega))
instance AB {a_0} : Safe (R.eD a_0) := by unfold R.eD; repeat' (first | with_reducible (first | apply Safe.g' | apply Safe.br' | apply Safe.bd' | apply Safe.sm' | intro _ | infer_instance))
instance zz {a} : o8 (R.fD a) (fun r => r.length ≤ a.length) := by
  unfold R.fD
  refine ⟨aN fun h => ?_⟩
  simp only [Sg.i, oks, Sh.ok, Ty.ok, List.map, Par.v, Bool.and_eq_true] at h
  have := uR h
  refine bC (o6 (fun m => m.length) (by omega) (fun m => m.length ≤ a.length) (Nat.le_refl _) fun m hm => ?_) fun x hx => hx
  repeat' (first | with_reducible (first | refine aI ?_ | refine aN fun _ => ?_ | refine ln ?_ | refine qI (fun _ => ?_) fun _ => ?_ | refine sW (fun _ => ?_) fun _ => ?_ | refine lH (fun _ => ?_) fun _ => ?_ | refine bj rfl ?_ | refine aM rfl ?_ | refine fl (fun _ => ?_) fun _ => ?_ | refine yJ ?_ | refine yG ?_ | refine tL ?_ | refine q_e ?_ | refine q_p fun _ _ => ?_ | refine q_b fun _ => ?_ | refine jG ?_ ?_ fun _ _ _ => ?_ | refine jz ?_ ?_ fun _ _ _ => ?_ | refine nr ?_ | refine bC (fh ?_) fun _ _ => ?_ | refine pd ?_ ?_ | refine tc ?_ ?_ | refine xx ?_ ?_ | refine n_d ?_ ?_ | refine s5 (fun _ => ?_) fun _ => ?_ | exact safe | refine bd ?_) | exact trivial | dsimp only [Nx, Dn] | with_reducible (first | rfl | refine And.intro ?_ ?_ | intro _ | contradiction) | omega | refine eQ (by decide) ?_ | (simp (disch := omega) only [wrap64, kH, kV, List.length_append, List.length_cons, List.length_nil, List.length_take, List.length_drop, List.length_set, List.length_replicate, List.length_reverse] <;> omega) | (simp (disch := omega) only [wrap64, kH, kV, List.length_append, List.length_cons, List.length_nil, List.length_take, List.length_drop, List.length_set, List.length_replicate, List.length_reverse] at * <;> omega) | exact Int.tmod_nonneg _ (by omega) | (simp_all [jN, l0, ia, kA] <;> omega))
instance zw {a} : o8 (R.iS a) (fun r => r.length ≤ 2 ^ 40) := by
  unfold R.iS
  refine ⟨aN fun _ => q_p fun (x : Int × Int) hx => aN fun _ => lH (fun _ => aI (by simp)) fun _ => lH (fun _ => aI (by simp)) fun _ => lH (fun _ => aI (by simp)) fun _ => aP (a := Lib.itoa x.2) rfl (aN fun _ => aI ?_)⟩
  have h : -9223372036854775808 ≤ x.2 ∧ x.2 ≤ 9223372036854775807 := by
    have h3 := hx
    by_cases h0 : x.1 = 0
    · have := h3.1 h0; omega
    · have := h3.2 h0; omega
  exact Nat.le_trans (Lib.itoa_length_le x.2 h.1 h.2) (by decide)
theorem qj {a : List Int} : (R.bT a).sat (fun r => List.length r.2 = a.length) := by
  unfold R.bT
  refine aN fun h => ?_
  simp only [Sg.i, oks, Sh.ok, Ty.ok, List.map, Par.v, Bool.and_eq_true] at h
  have := uR h
  rw [wrap64 (by omega)]
  refine bC (o6 (Q := fun r => r.length = a.length) (fun i => (i.2.1 - i.1 + 1).toNat) (by simp; omega) (fun i => 0 ≤ i.1 ∧ i.1 ≤ i.2.1 + 1 ∧ i.2.1 < a.length ∧ i.2.2.length = a.length) (by simp <;> omega) fun i ⟨i1, i2, i3, i4⟩ => ?_) fun x hx => ?_ <;> repeat' (first | with_reducible (first | refine aI ?_ | refine aN fun _ => ?_ | refine ln ?_ | refine qI (fun _ => ?_) fun _ => ?_ | refine sW (fun _ => ?_) fun _ => ?_ | refine lH (fun _ => ?_) fun _ => ?_ | refine bj rfl ?_ | refine aM rfl ?_ | refine fl (fun _ => ?_) fun _ => ?_ | refine yJ ?_ | refine yG ?_ | refine tL ?_ | refine q_e ?_ | refine q_p fun _ _ => ?_ | refine q_b fun _ => ?_ | refine jG ?_ ?_ fun _ _ _ => ?_ | refine jz ?_ ?_ fun _ _ _ => ?_ | refine nr ?_ | refine bC (fh ?_) fun _ _ => ?_ | refine pd ?_ ?_ | refine tc ?_ ?_ | refine xx ?_ ?_ | refine n_d ?_ ?_ | refine s5 (fun _ => ?_) fun _ => ?_ | exact safe | refine bd ?_) | exact trivial | dsimp only [Nx, Dn] | with_reducible (first | rfl | refine And.intro ?_ ?_ | intro _ | contradiction) | omega | refine eQ (by decide) ?_ | (simp (disch := omega) only [wrap64, kH, kV, List.length_append, List.length_cons, List.length_nil, List.length_take, List.length_drop, List.length_set, List.length_replicate, List.length_reverse] <;> omega) | (simp (disch := omega) only [wrap64, kH, kV, List.length_append, List.length_cons, List.length_nil, List.length_take, List.length_drop, List.length_set, List.length_replicate, List.length_reverse] at * <;> omega) | exact Int.tmod_nonneg _ (by omega) | (simp_all [jN, l0, ia, kA] <;> omega))
theorem vN (l : List Int) : (nh l).length = l.length := by simp [nh]
theorem or_zero {x : Int} (h0 : 0 ≤ x) (h1 : x < 4294967296) : fT .or .u64 (qC .u64 0 32) (IntKind.wrap .u64 x) = x := by
  have e1 : qC .u64 0 32 = 0 := by simp [qC, IntKind.wrap, IntKind.signed, IntKind.bits]
  have e2 : IntKind.wrap .u64 x = x := by simp [IntKind.wrap, IntKind.signed, IntKind.bits]; omega
  rw [e1, e2]
  unfold fT
  have e3 : BitVec.ofInt IntKind.u64.bits 0 = 0#64 := rfl
  simp only [e3]
  show IntKind.wrap .u64 ((0#64 ||| BitVec.ofInt 64 x).toNat : Int) = x
  rw [BitVec.zero_or, BitVec.toNat_ofInt]
  simp [IntKind.wrap, IntKind.signed, IntKind.bits]
  omega
theorem tenth {x : Int} (h0 : 0 ≤ x) (h1 : x < 4294967296) : IntKind.wrap .u32 (IntKind.wrap .u64 (Int.tdiv x 10)) = x / 10 := by
  rw [Int.tdiv_eq_ediv_of_nonneg h0]
  simp [IntKind.wrap, IntKind.signed, IntKind.bits]
  omega
def rV (m : List Int) : Prop := ∀ e : Int, m[m.length - 1]? = some e → e ≠ 0
theorem pr {m : List Int} (h : (m.length : Int) ≤ 0) : rV m := fun e he => by
  have : m = [] := List.length_eq_zero_iff.1 (by omega)
  subst this; cases he
theorem vw {a : List Int} : (R.fD a).sat (fun r : List Int => r.length ≤ a.length ∧ r = a.take r.length ∧ rV r) := by
  unfold R.fD
  refine aN fun h => ?_
  simp only [Sg.i, oks, Sh.ok, Ty.ok, List.map, Par.v, Bool.and_eq_true] at h
  have := uR h
  refine bC (o6 (Q := fun m : List Int => m.length ≤ a.length ∧ m = a.take m.length ∧ rV m) (fun m => m.length) (by omega) (fun m => m.length ≤ a.length ∧ m = a.take m.length) ⟨Nat.le_refl _, by simp⟩ fun m ⟨hm, ht⟩ => ?_) fun x hx => aI hx
  refine bd (qI (fun h0 => ?_) fun h0 => aI (aM rfl (aI ⟨hm, ht, pr h0⟩)))
  have hw : IntKind.wrap .i64 ((m.length : Int) - 1) = (m.length : Int) - 1 := wrap64 (by omega)
  have hn : ((m.length : Int) - 1).toNat = m.length - 1 := by omega
  rw [hw]
  refine nr (pd (by omega) (tc (by omega) (jz (by omega) (by omega) fun (e : Int) he _ => aI (lH (fun h => ?_) fun h => aI ⟨hm, ht, ?_⟩))))
  · refine nr (pd (by omega) (pd (by omega) (aI ⟨?_, ?_, ?_⟩)))
    · simp only [List.length_take, List.length_drop]; omega
    · simp only [List.length_take, List.length_drop]; omega
    · rw [List.drop_zero, hn, List.length_take, Nat.min_eq_left (by omega)]
      have : List.take (m.length - 1) m = List.take (m.length - 1) (List.take m.length a) := by rw [← ht]
      rw [this, List.take_take, Nat.min_eq_left (by omega)]
  · intro e' he'
    rw [idx0, hn, he'] at he
    cases he
    exact h
theorem yX {a} : (R.gA a).sat (fun r => r = true → (a.2.length : Int) ≤ 8 ∧ rV a.2) := by
  unfold R.gA
  refine aN fun h => sW (fun h8 => ?_) fun _ => aI (by simp)
  have hw (h : 0 < (a.2.length : Int)) : IntKind.wrap .i64 ((a.2.length : Int) - 1) = (a.2.length : Int) - 1 := wrap64 (by omega)
  have hn (h : 0 < (a.2.length : Int)) : ((a.2.length : Int) - 1).toNat = a.2.length - 1 := by omega
  have hk : (Res.br (ilt 0 (a.2.length : Int)) (Res.dP .w a.2 (IntKind.wrap .i64 ((a.2.length : Int) - 1)) fun e2 => Res.ok ((!(e2 == 0)))) (Res.ok (false))).sat (fun r => r = true → (a.2.length : Int) ≤ 8 ∧ rV a.2) := by
    refine qI (fun h0 => ?_) fun _ => aI (by simp)
    rw [hw h0]
    refine jG (by omega) (by omega) fun (e : Int) he _ => aI fun hr => ⟨h8, fun e' he' => ?_⟩
    rw [hn h0, he'] at he
    cases he
    simpa using hr
  exact lH (fun h0 => ln (fl (fun _ => hk) fun _ => aI fun _ => ⟨h8, pr (by omega)⟩)) fun _ => hk
theorem xW {a} : (R.cA a).sat (fun r : List Int => r.length ≤ 8 ∧ rV r) := by
  unfold R.cA
  refine aN fun _ => bC yX fun b hb => ln (fl (fun h => bd (aI (aN fun _ => aI ?_))) fun _ => aI ⟨by simp, pr (by simp)⟩)
  have := hb h
  exact ⟨by show List.length a.2 ≤ 8; omega, this.2⟩
def mz (m : List Int) : Nat := match m[m.length - 1]? with
  | some e => m.length * 4294967296 + min e.toNat 4294967295
  | none => 0
theorem mz_lt {r m : List Int} (h : r.length < m.length) : mz r < mz m := by
  unfold mz
  have hm : ∃ e, m[m.length - 1]? = some e := ⟨_, List.getElem?_eq_getElem (by omega)⟩
  obtain ⟨e, he⟩ := hm
  rw [he]
  cases r[r.length - 1]? with
  | none => simp only []; omega
  | some x => simp only []; omega
theorem mz_le {m : List Int} (h : m.length ≤ 8) : mz m ≤ 9 * 4294967296 := by
  unfold mz
  cases m[m.length - 1]? with
  | none => simp only []; omega
  | some x => simp only []; omega
theorem yE {e : Int} (h : (Ty.int IntKind.u32).ok e = true) : 0 ≤ e ∧ e < 4294967296 := by
  simp [Ty.ok, cZ, IntKind.wrap, IntKind.signed, IntKind.bits] at h
  omega
instance zy {a} : o8 (R.iW a) (fun r => r.length ≤ 2 ^ 40) := by
  unfold R.iW
  refine ⟨aN fun _ => bC xW fun m ⟨hm, ht⟩ => aN fun _ => lH (fun _ => aI (by simp)) fun hne => bC (R := fun l : List Int => l.length ≤ 2 ^ 39) ?_ fun l hl => q_b fun _ => fl (fun _ => ?_) fun _ => ?_⟩
  · refine o6 (fun s => mz s.1) (Nat.le_trans (mz_le hm) (by decide)) (fun s => s.1.length ≤ 8 ∧ rV s.1 ∧ s.2.length + mz s.1 ≤ 9 * 4294967296) ⟨hm, ht, by have := mz_le hm; simp; omega⟩ fun ⟨m, l⟩ ⟨h1, h2, h3⟩ => ?_
    simp only at h1 h2 h3 ⊢
    refine qI (fun hp => ?_) fun _ => aI (by show l.length ≤ 2 ^ 39; omega)
    rw [wrap64 (by omega)]
    obtain ⟨top, htop⟩ : ∃ e, m[m.length - 1]? = some e := ⟨_, List.getElem?_eq_getElem (by omega)⟩
    refine bC (R := fun r : Int × List Int => r.2.length = m.length ∧ r.2[m.length - 1]? = some (top / 10) ∧ 0 ≤ top ∧ top < 4294967296) ?_ fun ⟨r, m'⟩ ⟨g1, g2, g3, g4⟩ => ?_
    · refine o6 (fun s => (s.2.1 + 1).toNat) (by simp; omega) (fun s => -1 ≤ s.2.1 ∧ s.2.1 < m.length ∧ s.2.2.length = m.length ∧ (s.2.1 = m.length - 1 → s.1 = 0 ∧ s.2.2 = m) ∧ (s.2.1 < m.length - 1 → s.2.2[m.length - 1]? = some (top / 10) ∧ 0 ≤ top ∧ top < 4294967296)) ⟨by simp only; omega, by simp only; omega, rfl, fun _ => ⟨rfl, rfl⟩, fun h => by simp only at h; omega⟩ fun ⟨r, i, q⟩ ⟨i1, i2, i3, i4, i5⟩ => ?_
      simp only at i1 i2 i3 i4 i5 ⊢
      refine sW (fun i0 => ?_) fun i0 => aI ?_
      · refine pd (by omega) (nr (pd (by omega) (tc (by omega) (jz (by omega) (by omega) fun (e : Int) he hok => eQ (by decide) (nr (pd (by omega) (tc (by omega) (jz (by omega) (by omega) fun _ _ _ => eQ (by decide) (aI ?_)))))))))
        have hw : IntKind.wrap .i64 (i - 1) = i - 1 := wrap64 (by omega)
        have hix : (0 + (i.toNat : Int)).toNat = i.toNat := by omega
        rw [hix] at he
        have hr := yE hok
        refine ⟨?_, ?_, ?_, ?_, ?_, ?_⟩
        · simp only [hw]; omega
        · simp only [hw]; omega
        · simp only [hw]; omega
        · simp only [List.length_set]; exact i3
        · simp only [hw]; omega
        · intro hlt
          simp only [hw] at hlt
          by_cases hi : i = m.length - 1
          · obtain ⟨e1, e2⟩ := i4 hi
            subst e1 e2
            have hin : i.toNat = q.length - 1 := by omega
            rw [hin] at he
            rw [he] at htop
            cases htop
            refine ⟨?_, hr⟩
            simp only [or_zero hr.1 hr.2, tenth hr.1 hr.2]
            rw [show 0 + i.toNat = q.length - 1 by omega, List.getElem?_set_self (by omega)]
          · obtain ⟨e1, e2⟩ := i5 (by omega)
            refine ⟨?_, e2⟩
            simp only
            rw [List.getElem?_set_ne (by omega)]
            exact e1
      · have := i5 (by omega)
        exact ⟨i3, this.1, this.2.1, this.2.2⟩
    · simp only at g1 g2 ⊢
      refine n_d (by simp only [List.length_cons, List.length_nil]; omega) (bC vw fun s ⟨s1, s2, s3⟩ => aN fun _ => aI ?_)
      have hlt : mz s < mz m := by
        by_cases hs : s.length = m.length
        · have e : s = m' := by rw [s2, hs, ← g1, List.take_length]
          subst e
          unfold mz
          rw [hs, g2, htop]
          have := h2 top htop
          simp only []
          omega
        · exact mz_lt (by omega)
      exact ⟨hlt, by show s.length ≤ 8; omega, s3, by simp only [List.length_append, List.length_cons, List.length_nil]; omega⟩
  · refine n_d (by simp only [List.length_cons, List.length_nil]; omega) (bC qj fun r hr => aN fun _ => aI ?_)
    rw [vN, hr]; simp; omega
  · refine bC qj fun r hr => aN fun _ => aI ?_
    rw [vN, hr]; omega
end Go.Mach
namespace Go.Mach
namespace Res
variable {α β : Type} {Q : β → Prop}
theorem aq {m : Res α} {k : α → Res β} (h : m.strip.isSome = true) (hk : (k (m.strip.get h)).sat Q) : (m.bind k).sat Q := aP (ec (Option.some_get h).symm rfl) hk
theorem fJ {t : Ty} {xs : List t.den} {i : Int} {k : t.den → Res β} (h0 : decide (0 ≤ i) = true) (h : (xs[i.toNat]?).isSome = true) (hk : (k ((xs[i.toNat]?).get h)).sat Q) : (idx t xs i k).sat Q := by
  refine jz (of_decide_eq_true h0) (by simpa using h) fun x hx _ => ?_
  simp only [hx, Option.get_some] at hk
  exact hk
theorem yp {t : Ty} {xs : List t.den} {i : Int} {k : t.den → Res β} {l : Option t.den} {y : t.den} (h : l = some y) (h0 : decide (0 ≤ i) = true) (e : xs[i.toNat]? = l) (hk : (k y).sat Q) : (idx t xs i k).sat Q := by
  rw [h] at e
  obtain ⟨h1, _⟩ := List.getElem?_eq_some_iff.1 e
  refine jz (of_decide_eq_true h0) h1 fun x hx _ => ?_
  rw [e] at hx
  cases hx
  exact hk
theorem sy {γ δ : Type} {x : γ ⊕ δ} {f : γ → Res β} {g : δ → Res β} (h : x.getLeft?.isSome = true) (hk : (f (x.getLeft?.get h)).sat Q) : (sum x f g).sat Q := by
  cases x
  · exact hk
  · cases h
theorem w_inr {γ δ : Type} {x : γ ⊕ δ} {f : γ → Res β} {g : δ → Res β} (h : x.getRight?.isSome = true) (hk : (g (x.getRight?.get h)).sat Q) : (sum x f g).sat Q := by
  cases x
  · cases h
  · exact hk
theorem aE {b : Bool} {k : Res β} (h : k.sat Q) : (given b k).sat Q := fun _ => h
theorem w_brf {b e : Bool} {x y : Res β} (h : e = false) (hb : b = e) (hy : y.sat Q) : (br b x y).sat Q := aM (hb.trans h) hy
theorem ql {m m' : Res α} {a : α} {k : α → Res β} (h : m'.sat (· = a)) (e : m = m') (hk : (k a).sat Q) : (m.bind k).sat Q := e ▸ aP h hk
def w9 (f : α → Res (Step α β)) (n : Nat) (Q : β → Prop) : Step α β → Prop
  | .next a => (loop f n a).sat Q
  | .done b => Q b
theorem tx {f : α → Res (Step α β)} {n : Nat} {a : α} (h : (loop f n a).sat Q) : w9 f n Q (.next a) := h
theorem py {f : α → Res (Step α β)} {n : Nat} {b : β} (h : Q b) : w9 f n Q (.done b) := h
theorem nY {f : α → Res (Step α β)} {a : α} {n : Nat} (h : (f a).sat (w9 f n Q)) : (loop f (n + 1) a).sat Q := by
  unfold loop
  refine bC h fun s hs => ?_
  cases s with
  | next a' => exact hs
  | done b => exact hs
theorem nk {f : α → Res (Step α β)} {a : α} {k : Nat} (hk : fuel = k + 40) (h : (f a).sat (w9 f (k + 39) Q)) : (loop f fuel a).sat Q := by
  rw [hk]
  exact nY h
end Res
end Go.Mach
set_option maxRecDepth 100000
namespace Go.Mach
open Res
variable {n : Nat} {β : Type} {Q : β → Prop}
theorem kY {x0 x1 x2} {k : _ → Res β} (h : (R.eval_run_list (bV n) x0 x1 x2).sat fun a => (k a).sat Q) : (((bV (n + 1)).eval_run_list x0 x1 x2).bind k).sat Q := bd h
theorem iq {x0 x1 x2 x3} {k : _ → Res β} (h : (R.eval_run_statement (bV n) x0 x1 x2 x3).sat fun a => (k a).sat Q) : (((bV (n + 1)).eval_run_statement x0 x1 x2 x3).bind k).sat Q := bd h
theorem kn {x0 x1 x2 x3} {k : _ → Res β} (h : (R.eval_run_act (bV n) x0 x1 x2 x3).sat fun a => (k a).sat Q) : (((bV (n + 1)).eval_run_act x0 x1 x2 x3).bind k).sat Q := bd h
theorem bk {x0 x1 x2} {k : _ → Res β} (h : (R.eval_run_expression (bV n) x0 x1 x2).sat fun a => (k a).sat Q) : (((bV (n + 1)).eval_run_expression x0 x1 x2).bind k).sat Q := bd h
theorem ct {x0 x1 x2} {k : _ → Res β} (h : (R.eval_run_value (bV n) x0 x1 x2).sat fun a => (k a).sat Q) : (((bV (n + 1)).eval_run_value x0 x1 x2).bind k).sat Q := bd h
theorem eO {x0 x1 x2 x3} {k : _ → Res β} (h : (R.eval_run_operation (bV n) x0 x1 x2 x3).sat fun a => (k a).sat Q) : (((bV (n + 1)).eval_run_operation x0 x1 x2 x3).bind k).sat Q := bd h
theorem jl {x0 x1 x2} {k : _ → Res β} (h : (R.eval_run_callee (bV n) x0 x1 x2).sat fun a => (k a).sat Q) : (((bV (n + 1)).eval_run_callee x0 x1 x2).bind k).sat Q := bd h
theorem iu {x0 x1 x2} {k : _ → Res β} (h : (R.eval_run_arguments (bV n) x0 x1 x2).sat fun a => (k a).sat Q) : (((bV (n + 1)).eval_run_arguments x0 x1 x2).bind k).sat Q := bd h
theorem jD {x0 x1 x2} {k : _ → Res β} (h : (R.eval_run_property (bV n) x0 x1 x2).sat fun a => (k a).sat Q) : (((bV (n + 1)).eval_run_property x0 x1 x2).bind k).sat Q := bd h
theorem kG {x0 x1 x2} {k : _ → Res β} (h : (R.eval_run_parts (bV n) x0 x1 x2).sat fun a => (k a).sat Q) : (((bV (n + 1)).eval_run_parts x0 x1 x2).bind k).sat Q := bd h
theorem kX {x0 x1 x2 x3} {k : _ → Res β} (h : (R.eval_run_call (bV n) x0 x1 x2 x3).sat fun a => (k a).sat Q) : (((bV (n + 1)).eval_run_call x0 x1 x2 x3).bind k).sat Q := bd h
theorem kT {x0 x1 x2 x3} {k : _ → Res β} (h : (R.eval_run_does (bV n) x0 x1 x2 x3).sat fun a => (k a).sat Q) : (((bV (n + 1)).eval_run_does x0 x1 x2 x3).bind k).sat Q := bd h
theorem kU {x0 x1 x2} {k : _ → Res β} (h : (R.eval_run_host (bV n) x0 x1 x2).sat fun a => (k a).sat Q) : (((bV (n + 1)).eval_run_host x0 x1 x2).bind k).sat Q := bd h
end Go.Mach
