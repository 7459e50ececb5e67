/-
  Proved here: the law renlaw12.EvalElements returns true for every input of the stated bulk and leaves its arguments as they were; no further condition.
  By an AI agent; no person has read it.
-/
import Derived.Test.YtdmjcmcdgepoeaaGreatDoorPartj
import Derived.Lib.ItoaLen
set_option linter.all false
set_option linter.deprecated false

set_option maxRecDepth 100000
namespace Go.Mach
open Res
theorem dw0 {P : Prop} (h : P := by repeat' (first | with_reducible (first | apply Safe.g' | apply Safe.br' | apply Safe.bd' | apply Safe.sm' | intro _ | infer_instance))) : P := h
theorem dw1 {P : Prop} (h : P := by repeat' (first | with_reducible (first | refine aH ?_ | refine aD fun _ => ?_ | refine ik ?_ | refine nv (fun _ => ?_) fun _ => ?_ | refine pB (fun _ => ?_) fun _ => ?_ | refine ja (fun _ => ?_) fun _ => ?_ | refine bM rfl ?_ | refine aL rfl ?_ | refine dZ (fun _ => ?_) fun _ => ?_ | refine tH ?_ | refine tK ?_ | refine ov ?_ | refine q_e ?_ | refine q_p fun _ _ => ?_ | refine q_b fun _ => ?_ | refine fq ?_ ?_ fun _ _ _ => ?_ | refine gV ?_ ?_ fun _ _ _ => ?_ | refine ke ?_ | refine aP (fI ?_) fun _ _ => ?_ | refine ln ?_ ?_ | refine qi ?_ ?_ | refine tN ?_ ?_ | refine n_d ?_ ?_ | refine oz (fun _ => ?_) fun _ => ?_ | exact safe | refine bF ?_) | exact trivial | dsimp only [Nx, Dn] | with_reducible (first | rfl | refine And.intro ?_ ?_ | intro _ | contradiction) | omega | refine bC (by decide) ?_ | (simp (disch := omega) only [wrap64, ij, iu, List.length_append, List.length_cons, List.length_nil, List.length_take, List.length_drop, List.length_set, List.length_replicate, List.length_reverse] <;> omega) | (simp (disch := omega) only [wrap64, ij, iu, List.length_append, List.length_cons, List.length_nil, List.length_take, List.length_drop, List.length_set, List.length_replicate, List.length_reverse] at * <;> omega) | exact Int.tmod_nonneg _ (by omega) | (simp_all [ib, jV, iq, jX] <;> omega))) : P := h
theorem dw2 {P : Prop} (h : P := by repeat' (first | with_reducible (first | refine aH ?_ | refine aD fun _ => ?_ | refine ik ?_ | refine nv (fun _ => ?_) fun _ => ?_ | refine pB (fun _ => ?_) fun _ => ?_ | refine ja (fun _ => ?_) fun _ => ?_ | refine bM rfl ?_ | refine aL rfl ?_ | refine dZ (fun _ => ?_) fun _ => ?_ | refine tH ?_ | refine tK ?_ | refine ov ?_ | refine q_e ?_ | refine q_p fun _ _ => ?_ | refine q_b fun _ => ?_ | refine fq ?_ ?_ fun _ _ _ => ?_ | refine gV ?_ ?_ fun _ _ _ => ?_ | refine ke ?_ | refine aP (fI ?_) fun _ _ => ?_ | refine aP (sj ?_ ?_) fun _ _ => ?_ | refine aP (u3 ?_ ?_) fun _ _ => ?_ | refine ln ?_ ?_ | refine qi ?_ ?_ | refine tN ?_ ?_ | refine n_d ?_ ?_ | refine oz (fun _ => ?_) fun _ => ?_ | exact safe | refine bF ?_) | exact trivial | dsimp only [Nx, Dn] | with_reducible (first | rfl | refine And.intro ?_ ?_ | intro _ | contradiction) | omega | refine bC (by decide) ?_ | (simp (disch := omega) only [wrap64, ij, iu, List.length_append, List.length_cons, List.length_nil, List.length_take, List.length_drop, List.length_set, List.length_replicate, List.length_reverse] <;> omega) | (simp (disch := omega) only [wrap64, ij, iu, List.length_append, List.length_cons, List.length_nil, List.length_take, List.length_drop, List.length_set, List.length_replicate, List.length_reverse] at * <;> omega) | exact Int.tmod_nonneg _ (by omega) | (simp_all [ib, jV, iq, jX] <;> omega))) : P := h
instance (n) : Safe (si n) := ⟨trivial⟩
instance (n) : Safe (vN n) := by unfold vN; split <;> exact ⟨trivial⟩
instance (n c) : Safe (ixbRun n c) := ⟨trivial⟩
theorem fI {a} (hl : List.length a ≤ 2 ^ 40) : (R.ah a).sat (fun r => r.length = a.length) := by
  unfold R.ah
  refine aD fun h => ?_
  have hn : List.length (α := (Ty.int IntKind.u8).den) (jA a) = a.length := by simp [jA]
  refine aP (rB (Q := fun r => r.length = a.length) (fun i => i.2) a.length (by omega) (fun x => x.1.length = x.2.toNat) (by simp) (by simp) (by simp) fun i h0 h1 hI => ?_) fun x hx => ?_ <;> exact dw1
instance Az {x_0} : Safe (R.fl x_0) := by unfold R.fl; exact dw0
instance Ao {x_0} : Safe (R.eV x_0) := by unfold R.eV; exact dw0
instance uY {a b} : Safe (R.cA a b) := by
  unfold R.cA
  refine ⟨aD fun h => ?_⟩
  simp only [Sg.i, oks, Sh.ok, Ty.ok, List.map, Par.v, Bool.and_eq_true] at h
  have := lH h.1
  refine aP (mc (fun i => i) a.length (by omega) (by omega) (by omega) fun i h0 h1 => ?_).ok fun x _ => ?_ <;> exact dw1
instance tF {s_0 v_1} : Safe (R.bh s_0 v_1) := by unfold R.bh; exact dw0
instance zM {a} : Safe (R.er a) := by
  unfold R.er
  refine ⟨aD fun h => ?_⟩
  simp only [Sg.i, oks, Sh.ok, Ty.ok, List.map, Par.v, Bool.and_eq_true] at h
  have := lH h
  refine aP (mc (fun i => i.2) a.length (by omega) (by omega) (by simp) fun i h0 h1 => ?_).ok fun x _ => ?_ <;> exact dw1
instance uu {a b} : Safe (R.cI a b) := by
  unfold R.cI
  refine ⟨aD fun h => ?_⟩
  simp only [Sg.i, oks, Sh.ok, Ty.ok, List.map, Par.v, Bool.and_eq_true] at h
  have := lH h.1
  refine ik (ja (fun _ => ?_) fun _ => ?_) <;> try exact aH trivial
  refine aP (mc (fun i => i) a.length (by omega) (by omega) (by omega) fun i h0 h1 => ?_).ok fun x _ => ?_ <;> exact dw1
instance BU {a_0 b_1} : Safe (R.gO a_0 b_1) := by unfold R.gO; exact dw0
instance yI {x_0} : Safe (R.eR x_0) := by unfold R.eR; exact dw0
instance nP {a b} : Safe (R.aT a b) := by
  unfold R.aT
  refine ⟨aD fun h => ?_⟩
  simp only [Sg.i, oks, Sh.ok, Ty.ok, List.map, Par.v, Bool.and_eq_true] at h
  have := lH h.1
  refine aP (mc (fun i => i) a.length (by omega) (by omega) (by omega) fun i h0 h1 => ?_).ok fun x _ => ?_ <;> exact dw1
instance mN {s_0 f_1} : Safe (R.aS s_0 f_1) := by unfold R.aS; exact dw0
instance Al {a} : Safe (R.fg a) := by
  unfold R.fg
  refine ⟨aD fun h => ?_⟩
  simp only [Sg.i, oks, Sh.ok, Ty.ok, List.map, Par.v, Bool.and_eq_true] at h
  have := lH h
  refine aP (mc (fun i => i.2) a.length (by omega) (by omega) (by simp) fun i h0 h1 => ?_).ok fun x _ => ?_ <;> exact dw1
instance B4 {a_0} : Safe (R.gI a_0) := by unfold R.gI; exact dw0
instance sf_num_as {a} : jf (R.fh a) (fun r : Int × Int => (r.1 = 0 → -9007199254740991 ≤ r.2 ∧ r.2 ≤ 9007199254740991) ∧ (r.1 ≠ 0 → 1 ≤ r.1 ∧ r.1 ≤ 4 ∧ r.2 = 0)) := ⟨by
  unfold R.fh R.gI R.ff
  refine aD fun _ => bF (aD fun _ => ja (fun _ => pB (fun _ => ?_) fun _ => ?_) fun _ => aP (R := fun x => x = true → 1 ≤ a.1 ∧ a.1 ≤ 4) (by exact dw1) fun _ _ => ?_)
  · refine aH (ik (pB (fun _ => aH ?_) fun _ => bF (aD fun _ => aH (aD fun _ => aH ?_)))) <;> constructor <;> intro _ <;> simp_all
  · refine aH (ik (aL rfl (bF (aD fun _ => aH (aD fun _ => aH ?_))))); simp
  · refine dZ (fun hx => aH (ik (ja (fun _ => aH ?_) fun _ => bF (aD fun _ => aH (aD fun _ => aH ?_))))) fun _ => aH (ik (aL rfl (bF (aD fun _ => aH (aD fun _ => aH ?_))))) <;> simp_all⟩
instance B0 {neg_0} : Safe (R.ic neg_0) := by unfold R.ic; exact dw0
instance A6 {n_0} : Safe (R.dQ n_0) := by unfold R.dQ; exact dw0
instance Am {neg_0} : Safe (R.eh neg_0) := by unfold R.eh; exact dw0
instance B5 {a_0} : Safe (R.jS a_0) := by unfold R.jS; exact dw0
instance zy {a} : Safe (R.eB a) := by
  unfold R.eB
  refine ⟨aD fun h => ?_⟩
  simp only [Sg.i, oks, Sh.ok, Ty.ok, List.map, Par.v, Bool.and_eq_true] at h
  have := lH h
  refine aP (kU (Q := fun m => m.length ≤ a.length) (fun m => m.length) (by omega) (fun m => m.length ≤ a.length) (Nat.le_refl _) fun m hm => ?_) fun u hu => aP (kU (Q := fun m => m.length ≤ a.length) (fun m => m.length) (by omega) (fun m => m.length ≤ a.length) hu fun m hm => ?_) fun x hx => ja (fun _ => aH trivial) fun hne => fq (by omega) (by omega) fun e he _ => ?_
  · exact dw1
  · exact dw1
  · refine aP (R := fun _ => True) (by exact dw1) fun _ _ => ?_
    exact dw1
instance Aq {a} : Safe (R.dx a) := by
  unfold R.dx
  refine ⟨aD fun h => ?_⟩
  simp only [Sg.i, oks, Sh.ok, Ty.ok, List.map, Par.v, Bool.and_eq_true] at h
  have := uB h
  simp only [Sh.gY, Ty.gY, IntKind.gY] at this
  refine aP (rB (Q := fun _ => True) (fun i => i.2) a.length (by omega) (fun x => x.1.length = x.2.toNat) (by simp) (by simp) (by simp) fun i h0 h1 hI => ?_) fun x hx => ?_ <;> exact dw1
instance Bx {a} : jf (R.gC a) (fun r => r = true → (a.2.length : Int) ≤ 8) := by
  unfold R.gC
  refine ⟨aD fun h => ?_⟩
  simp only [Sg.i, oks, Sh.ok, Ty.ok, List.map, Par.v, Bool.and_eq_true] at h
  exact dw1
instance Bo {a_0} : Safe (R.cZ a_0) := by unfold R.cZ; exact dw0
instance BW {a} : jf (R.ef a) (fun r => r = true → (a.2.2.1.2.length : Int) = 0 ∧ (a.2.2.2.1.length : Int) = 0) := by
  unfold R.ef
  refine ⟨?_⟩
  exact dw1
instance Bk {a} : jf (R.fB a) (fun r => r = true → (a.2.2.1.2.length : Int) ≤ 8 ∧ (a.2.2.2.1.length : Int) ≤ 4096) := by
  unfold R.fB
  refine ⟨?_⟩
  exact dw1
instance Av {a} : jf (R.bx a) (fun r => (r.2.2.1.2.length : Int) ≤ 8 ∧ (r.2.2.2.1.length : Int) ≤ 4096) := by
  unfold R.bx
  refine ⟨aD fun _ => q_p fun b hb => ik (dZ (fun h => aH (hb h)) fun _ => aH (by simp))⟩
instance Bt {b_0} : Safe (R.gW b_0) := by unfold R.gW; exact dw0
instance Bv {a} : jf (R.iZ a) (fun r => r.length ≤ 4096) := by
  unfold R.iZ
  refine ⟨aD fun _ => q_p fun (x : Int × Int) hx => aD fun _ => ja (fun _ => aH (by simp)) fun _ => ja (fun _ => aH (by simp)) fun _ => ja (fun _ => aH (by simp)) fun _ => aG (a := Lib.itoa x.2) rfl (aD fun _ => aH ?_)⟩
  have h : -9223372036854775808 ≤ x.2 ∧ x.2 ≤ 9223372036854775807 := by
    have h3 := hx
    by_cases h0 : x.1 = 0
    · have := h3.1 h0; omega
    · have := h3.2 h0; omega
  exact Nat.le_trans (Lib.itoa_length_le x.2 h.1 h.2) (by decide)
instance B1 {a} : jf (R.gK a) (fun r => r.length ≤ 8) := by
  unfold R.gK
  refine ⟨aD fun _ => q_p fun b hb => ik (dZ (fun h => bF (aH (aD fun _ => aH ?_))) fun _ => aH (by simp))⟩
  have := hb h
  show List.length a.2 ≤ 8
  omega
instance Aw {a} : jf (R.fm a) (fun r => r.length ≤ a.length) := by
  unfold R.fm
  refine ⟨aD fun h => ?_⟩
  simp only [Sg.i, oks, Sh.ok, Ty.ok, List.map, Par.v, Bool.and_eq_true] at h
  have := ua h
  refine aP (kU (fun m => m.length) (by omega) (fun m => m.length ≤ a.length) (Nat.le_refl _) fun m hm => ?_) fun x hx => hx
  exact dw1
instance Bu {a} : jf (R.fE a) (fun r => r.length ≤ a.length) := by
  unfold R.fE
  refine ⟨aD fun h => ?_⟩
  simp only [Sg.i, oks, Sh.ok, Ty.ok, List.map, Par.v, Bool.and_eq_true] at h
  have := lH h
  refine aP (kU (fun m => m.length) (by omega) (fun m => m.length ≤ a.length) (Nat.le_refl _) fun m hm => ?_) fun x hx => hx
  exact dw1
instance Bz {a_0} : Safe (R.ig a_0) := by unfold R.ig; exact dw0
theorem qx {a : List Int} : (R.ba a).sat (fun r => List.length r.2 = a.length) := by
  unfold R.ba
  refine aD fun h => ?_
  simp only [Sg.i, oks, Sh.ok, Ty.ok, List.map, Par.v, Bool.and_eq_true] at h
  have := lH h
  rw [wrap64 (by omega)]
  refine aP (kU (Q := fun r => r.length = a.length) (fun i => (i.2.1 - i.1 + 1).toNat) (by simp; omega) (fun i => 0 ≤ i.1 ∧ i.1 ≤ i.2.1 + 1 ∧ i.2.1 < a.length ∧ i.2.2.length = a.length) (by simp <;> omega) fun i ⟨i1, i2, i3, i4⟩ => ?_) fun x hx => ?_ <;> exact dw1
theorem vE (l : List Int) : (nq l).length = l.length := by simp [nq]
theorem or_zero {x : Int} (h0 : 0 ≤ x) (h1 : x < 4294967296) : gF .or .u64 (nW .u64 0 32) (IntKind.wrap .u64 x) = x := by
  have e1 : nW .u64 0 32 = 0 := by simp [nW, IntKind.wrap, IntKind.signed, IntKind.bits]
  have e2 : IntKind.wrap .u64 x = x := by simp [IntKind.wrap, IntKind.signed, IntKind.bits]; omega
  rw [e1, e2]
  unfold gF
  have e3 : BitVec.ofInt IntKind.u64.bits 0 = 0#64 := rfl
  simp only [e3]
  show IntKind.wrap .u64 ((0#64 ||| BitVec.ofInt 64 x).toNat : Int) = x
  rw [BitVec.zero_or, BitVec.toNat_ofInt]
  simp [IntKind.wrap, IntKind.signed, IntKind.bits]
  omega
theorem tenth {x : Int} (h0 : 0 ≤ x) (h1 : x < 4294967296) : IntKind.wrap .u32 (IntKind.wrap .u64 (Int.tdiv x 10)) = x / 10 := by
  rw [Int.tdiv_eq_ediv_of_nonneg h0]
  simp [IntKind.wrap, IntKind.signed, IntKind.bits]
  omega
def sS (m : List Int) : Prop := ∀ e : Int, m[m.length - 1]? = some e → e ≠ 0
theorem qM {m : List Int} (h : (m.length : Int) ≤ 0) : sS m := fun e he => by
  have : m = [] := List.length_eq_zero_iff.1 (by omega)
  subst this; cases he
theorem wc {a : List Int} : (R.fE a).sat (fun r : List Int => r.length ≤ a.length ∧ r = a.take r.length ∧ sS r) := by
  unfold R.fE
  refine aD fun h => ?_
  simp only [Sg.i, oks, Sh.ok, Ty.ok, List.map, Par.v, Bool.and_eq_true] at h
  have := lH h
  refine aP (kU (Q := fun m : List Int => m.length ≤ a.length ∧ m = a.take m.length ∧ sS m) (fun m => m.length) (by omega) (fun m => m.length ≤ a.length ∧ m = a.take m.length) ⟨Nat.le_refl _, by simp⟩ fun m ⟨hm, ht⟩ => ?_) fun x hx => aH hx
  refine bF (nv (fun h0 => ?_) fun h0 => aH (aL rfl (aH ⟨hm, ht, qM h0⟩)))
  have hw : IntKind.wrap .i64 ((m.length : Int) - 1) = (m.length : Int) - 1 := wrap64 (by omega)
  have hn : ((m.length : Int) - 1).toNat = m.length - 1 := by omega
  rw [hw]
  refine ke (ln (by omega) (qi (by omega) (gV (by omega) (by omega) fun (e : Int) he _ => aH (ja (fun h => ?_) fun h => aH ⟨hm, ht, ?_⟩))))
  · refine ke (ln (by omega) (ln (by omega) (aH ⟨?_, ?_, ?_⟩)))
    · simp only [List.length_take, List.length_drop]; omega
    · simp only [List.length_take, List.length_drop]; omega
    · rw [List.drop_zero, hn, List.length_take, Nat.min_eq_left (by omega)]
      have : List.take (m.length - 1) m = List.take (m.length - 1) (List.take m.length a) := by rw [← ht]
      rw [this, List.take_take, Nat.min_eq_left (by omega)]
  · intro e' he'
    rw [idx0, hn, he'] at he
    cases he
    exact h
theorem yS {a} : (R.gC a).sat (fun r => r = true → (a.2.length : Int) ≤ 8 ∧ sS a.2) := by
  unfold R.gC
  refine aD fun h => pB (fun h8 => ?_) fun _ => aH (by simp)
  have hw (h : 0 < (a.2.length : Int)) : IntKind.wrap .i64 ((a.2.length : Int) - 1) = (a.2.length : Int) - 1 := wrap64 (by omega)
  have hn (h : 0 < (a.2.length : Int)) : ((a.2.length : Int) - 1).toNat = a.2.length - 1 := by omega
  have hk : (Res.br (ilt 0 (a.2.length : Int)) (Res.eF .w a.2 (IntKind.wrap .i64 ((a.2.length : Int) - 1)) fun e2 => Res.ok ((!(e2 == 0)))) (Res.ok (false))).sat (fun r => r = true → (a.2.length : Int) ≤ 8 ∧ sS a.2) := by
    refine nv (fun h0 => ?_) fun _ => aH (by simp)
    rw [hw h0]
    refine fq (by omega) (by omega) fun (e : Int) he _ => aH fun hr => ⟨h8, fun e' he' => ?_⟩
    rw [hn h0, he'] at he
    cases he
    simpa using hr
  exact ja (fun h0 => ik (dZ (fun _ => hk) fun _ => aH fun _ => ⟨h8, qM (by omega)⟩)) fun _ => hk
theorem zB {a} : (R.gK a).sat (fun r : List Int => r.length ≤ 8 ∧ sS r) := by
  unfold R.gK
  refine aD fun _ => aP yS fun b hb => ik (dZ (fun h => bF (aH (aD fun _ => aH ?_))) fun _ => aH ⟨by simp, qM (by simp)⟩)
  have := hb h
  exact ⟨by show List.length a.2 ≤ 8; omega, this.2⟩
def dgF : Nat → Nat → Nat
  | 0, _ => 0
  | k + 1, e => if e = 0 then 0 else 1 + dgF k (e / 10)
def dg (e : Nat) : Nat := dgF 10 e
theorem zT : ∀ k e : Nat, dgF k e ≤ k
  | 0, _ => Nat.le_refl 0
  | k + 1, e => by
    have := zT k (e / 10)
    show (if e = 0 then 0 else 1 + dgF k (e / 10)) ≤ k + 1
    split <;> omega
theorem dg_le (e : Nat) : dg e ≤ 10 := zT 10 e
theorem ze : ∀ k e : Nat, e < 10 ^ k → dgF (k + 1) e = dgF k e
  | 0, e, h => by
    have : e = 0 := by simpa using h
    subst this
    rfl
  | k + 1, e, h => by
    show (if e = 0 then 0 else 1 + dgF (k + 1) (e / 10)) = (if e = 0 then 0 else 1 + dgF k (e / 10))
    rw [ze k (e / 10) (by rw [Nat.pow_succ] at h; omega)]
theorem dg_lt {e : Int} (h0 : 0 < e) (h1 : e < 4294967296) : dg (e / 10).toNat < dg e.toNat := by
  have h2 : (e / 10).toNat = e.toNat / 10 := by omega
  have h3 : 0 < e.toNat ∧ e.toNat < 4294967296 := by omega
  rw [h2]
  generalize e.toNat = n at h3
  unfold dg
  rw [ze 9 (n / 10) (by show n / 10 < 1000000000; omega)]
  show dgF 9 (n / 10) < if n = 0 then 0 else 1 + dgF 9 (n / 10)
  rw [if_neg (by omega)]
  omega
def mz (m : List Int) : Nat := match m[m.length - 1]? with
  | some e => m.length * 11 + dg e.toNat
  | none => 0
theorem mz_lt {r m : List Int} (h : r.length < m.length) : mz r < mz m := by
  unfold mz
  have hm : ∃ e, m[m.length - 1]? = some e := ⟨_, List.getElem?_eq_getElem (by omega)⟩
  obtain ⟨e, he⟩ := hm
  rw [he]
  cases r[r.length - 1]? with
  | none => simp only []; omega
  | some x => have := dg_le x.toNat; simp only []; omega
theorem mz_le {m : List Int} (h : m.length ≤ 8) : mz m ≤ 98 := by
  unfold mz
  cases m[m.length - 1]? with
  | none => simp only []; omega
  | some x => have := dg_le x.toNat; simp only []; omega
theorem yo {e : Int} (h : (Ty.int IntKind.u32).ok e = true) : 0 ≤ e ∧ e < 4294967296 := by
  simp [Ty.ok, cP, IntKind.wrap, IntKind.signed, IntKind.bits] at h
  omega
instance Bn {a} : jf (R.ia a) (fun r => r.length ≤ 4096) := by
  unfold R.ia
  refine ⟨aD fun _ => aP zB fun m ⟨hm, ht⟩ => aD fun _ => ja (fun _ => aH (by simp)) fun hne => aP (R := fun l : List Int => l.length ≤ 98) ?_ fun l hl => q_b fun _ => dZ (fun _ => ?_) fun _ => ?_⟩
  · refine kU (fun s => mz s.1) (Nat.le_trans (mz_le hm) (by decide)) (fun s => s.1.length ≤ 8 ∧ sS s.1 ∧ s.2.length + mz s.1 ≤ 98) ⟨hm, ht, by have := mz_le hm; simp; omega⟩ fun ⟨m, l⟩ ⟨h1, h2, h3⟩ => ?_
    simp only at h1 h2 h3 ⊢
    refine nv (fun hp => ?_) fun _ => aH (by show l.length ≤ 98; omega)
    rw [wrap64 (by omega)]
    obtain ⟨top, htop⟩ : ∃ e, m[m.length - 1]? = some e := ⟨_, List.getElem?_eq_getElem (by omega)⟩
    refine aP (R := fun r : Int × List Int => r.2.length = m.length ∧ r.2[m.length - 1]? = some (top / 10) ∧ 0 ≤ top ∧ top < 4294967296) ?_ fun ⟨r, m'⟩ ⟨g1, g2, g3, g4⟩ => ?_
    · refine kU (fun s => (s.2.1 + 1).toNat) (by simp; omega) (fun s => -1 ≤ s.2.1 ∧ s.2.1 < m.length ∧ s.2.2.length = m.length ∧ (s.2.1 = m.length - 1 → s.1 = 0 ∧ s.2.2 = m) ∧ (s.2.1 < m.length - 1 → s.2.2[m.length - 1]? = some (top / 10) ∧ 0 ≤ top ∧ top < 4294967296)) ⟨by simp only; omega, by simp only; omega, rfl, fun _ => ⟨rfl, rfl⟩, fun h => by simp only at h; omega⟩ fun ⟨r, i, q⟩ ⟨i1, i2, i3, i4, i5⟩ => ?_
      simp only at i1 i2 i3 i4 i5 ⊢
      refine pB (fun i0 => ?_) fun i0 => aH ?_
      · refine ln (by omega) (ke (ln (by omega) (qi (by omega) (gV (by omega) (by omega) fun (e : Int) he hok => bC (by decide) (ke (ln (by omega) (qi (by omega) (gV (by omega) (by omega) fun _ _ _ => bC (by decide) (aH ?_)))))))))
        have hw : IntKind.wrap .i64 (i - 1) = i - 1 := wrap64 (by omega)
        have hix : (0 + (i.toNat : Int)).toNat = i.toNat := by omega
        rw [hix] at he
        have hr := yo hok
        refine ⟨?_, ?_, ?_, ?_, ?_, ?_⟩
        · simp only [hw]; omega
        · simp only [hw]; omega
        · simp only [hw]; omega
        · simp only [List.length_set]; exact i3
        · simp only [hw]; omega
        · intro hlt
          simp only [hw] at hlt
          by_cases hi : i = m.length - 1
          · obtain ⟨e1, e2⟩ := i4 hi
            subst e1 e2
            have hin : i.toNat = q.length - 1 := by omega
            rw [hin] at he
            rw [he] at htop
            cases htop
            refine ⟨?_, hr⟩
            simp only [or_zero hr.1 hr.2, tenth hr.1 hr.2]
            rw [show 0 + i.toNat = q.length - 1 by omega, List.getElem?_set_self (by omega)]
          · obtain ⟨e1, e2⟩ := i5 (by omega)
            refine ⟨?_, e2⟩
            simp only
            rw [List.getElem?_set_ne (by omega)]
            exact e1
      · have := i5 (by omega)
        exact ⟨i3, this.1, this.2.1, this.2.2⟩
    · simp only at g1 g2 ⊢
      refine n_d (by simp only [List.length_cons, List.length_nil]; omega) (aP wc fun s ⟨s1, s2, s3⟩ => aD fun _ => aH ?_)
      have hlt : mz s < mz m := by
        by_cases hs : s.length = m.length
        · have e : s = m' := by rw [s2, hs, ← g1, List.take_length]
          subst e
          unfold mz
          rw [hs, g2, htop]
          have := dg_lt (e := top) (by have := h2 top htop; omega) g4
          simp only []
          omega
        · exact mz_lt (by omega)
      exact ⟨hlt, by show s.length ≤ 8; omega, s3, by simp only [List.length_append, List.length_cons, List.length_nil]; omega⟩
  · refine n_d (by simp only [List.length_cons, List.length_nil]; omega) (aP qx fun r hr => aD fun _ => aH ?_)
    rw [vE, hr]; simp; omega
  · refine aP qx fun r hr => aD fun _ => aH ?_
    rw [vE, hr]; omega
instance Ap {kind_0} : Safe (R.aw kind_0) := by unfold R.aw; exact dw0
instance Bl {a b} : jf (R.dq a b) (fun r => r.2.length ≤ a.length) := by
  unfold R.dq
  refine ⟨?_⟩
  exact dw1
instance sf_big_Of {n_0} : Safe (R.kD n_0) := by
  unfold R.kD
  refine ⟨?_⟩
  exact dw1
instance Ar {x_0} : Safe (R.fi x_0) := by unfold R.fi; exact dw0
instance BO {a} : jf (R.gu a) (fun r => r.length ≤ a.length) := by
  unfold R.gu
  refine ⟨aD fun h => ?_⟩
  simp only [Sg.i, oks, Sh.ok, Ty.ok, List.map, Par.v, Bool.and_eq_true] at h
  have := ua h
  refine aP (kU (Q := fun m => m.length ≤ a.length) (fun m => m.length) (by omega) (fun m => m.length ≤ a.length) (Nat.le_refl _) fun m hm => ?_) fun u hu => aP (kU (Q := fun m => m.length ≤ a.length) (fun m => m.length) (by omega) (fun m => m.length ≤ a.length) hu fun m hm => ?_) fun x hx => hx <;> exact dw1
instance Ay {x_0} : Safe (R.ez x_0) := by unfold R.ez; exact dw0
instance Ag {a} : Safe (R.fX a) := by
  unfold R.fX
  refine ⟨aD fun h => ?_⟩
  simp only [Sg.i, oks, Sh.ok, Ty.ok, List.map, Par.v, Bool.and_eq_true] at h
  have := lH h
  refine aP (mc (fun i => i) a.length (by omega) (by omega) (by omega) fun i h0 h1 => ?_).ok fun x _ => ?_ <;> exact dw1
instance Ak {a} : Safe (R.gG a) := by
  unfold R.gG
  refine ⟨aD fun h => ?_⟩
  simp only [Sg.i, oks, Sh.ok, Ty.ok, List.map, Par.v, Bool.and_eq_true] at h
  have := tx h
  have hn : (jA a).length = a.length := by simp [jA]
  refine aP (mc (fun i => i) a.length (by omega) (by omega) (by omega) fun i h0 h1 => ?_).ok fun x _ => ?_
  · exact dw1
  · cases a with
    | nil => cases x <;> exact trivial
    | cons => rw [List.length_cons] at hn; exact dw1
instance Bg {a} : jf (R.gf a) (fun r => r.1.2.length ≤ 8) := by
  unfold R.gf
  refine ⟨aD fun h => ?_⟩
  simp only [Sg.i, oks, Sh.ok, Ty.ok, List.map, Par.v, Bool.and_eq_true] at h
  have := tx h
  have hn (a : List UInt8) : List.length (α := (Ty.int IntKind.u8).den) (jA a) = a.length := by simp [jA]
  have hn1 := hn a
  refine aP (R := fun d : List UInt8 × Bool => d.1 = a ∧ (d.2 = true → 0 < a.length)) ?_ fun d ⟨hd, hd2⟩ => aP (R := fun d : List UInt8 => d.length ≤ a.length) ?_ fun t ht => ?_
  · refine nv (fun h0 => gV (by omega) (by omega) fun _ _ _ => aH ⟨rfl, fun _ => by omega⟩) fun _ => aH ⟨rfl, fun h => by cases h⟩
  · refine dZ (fun h => ?_) fun _ => aH (by rw [hd]; exact Nat.le_refl _)
    have := hd2 h
    exact ke (ln (by omega) (ln (by omega) (aH (by simp))))
  · have hn2 := hn t
    refine aP (R := fun _ => True) (by exact dw1) fun _ _ => dZ (fun _ => aH (by simp)) fun _ => ?_
    refine aP (rB (Q := fun m : List Int ⊕ (Int × bl.den) => match m with | .inl m => m.length ≤ 8 | .inr m => m.2.2.length ≤ 8) (fun i => i.2) t.length (by omega) (fun x => x.1.length ≤ 8) (by simp) (by simp) (by simp) fun i h0 h1 hI => nv (fun hi => gV (by omega) (by omega) fun _ _ _ => aP (rB (Q := fun r => r.2.length = i.1.length) (fun i => i.2.1) i.1.length (by omega) (fun x => x.2.2.length = i.1.length) (by simp) (by simp) (by simp) fun k k0 k1 hK => ?_) fun m hm => ?_) fun _ => ?_) fun x hx => ?_
    · exact dw1
    · exact dw1
    · exact aH hI
    · cases x with
      | inl m => exact rR (by have h8 : List.length m ≤ 8 := hx; exact dw1)
      | inr m => exact BV (aH hx)
instance B3 {a_0} : Safe (R.jN a_0) := by unfold R.jN; exact dw0
instance zN {a} : Safe (R.ep a) := by
  unfold R.ep
  refine ⟨aD fun h => ?_⟩
  simp only [Sg.i, oks, Sh.ok, Ty.ok, List.map, Par.v, Bool.and_eq_true] at h
  have := lH h
  refine aP (mc (fun i => i.2) a.length (by omega) (by omega) (by simp) fun i h0 h1 => ?_).ok fun x _ => ?_
  · refine nv (fun _ => fq (by omega) (by omega) fun _ _ _ => aP (R := fun _ => True) (by exact dw1) fun _ _ => aP (R := fun _ => True) (by exact dw1) fun _ _ => ?_) fun _ => ?_ <;> exact dw1
  · exact dw1
theorem sj {a n} (h0 : 0 ≤ n) (h1 : n ≤ 1000) : (R.jP a n).sat (fun r => r.length = 8) := by
  unfold R.jP
  refine aD fun _ => ?_
  have e8 : Int.toNat 8 = 8 := rfl
  have hl : (List.take 0 (List.replicate (Int.toNat 8) (0 : Int)) ++ (List.take (min (List.length a) (List.replicate (Int.toNat 8) (0 : Int)).length) a ++ List.drop (0 + (min (List.length a) (List.replicate (Int.toNat 8) (0 : Int)).length)) (List.replicate (Int.toNat 8) (0 : Int)))).length = 8 := by
    simp only [List.length_append, List.length_take, List.length_drop, List.length_replicate, e8]; omega
  rw [hl]
  refine ke (ln (by omega) (ke (ln (by omega) (n_d (by omega) ?_))))
  refine aP (rB (Q := fun r => r.length = 8) (fun i => i.1) 8 (by omega) (fun x => x.2.length = 8) (by simp) (by simp) hl fun i h0 h1 hI => ?_) fun x hx => ?_ <;> repeat' (first | with_reducible (first | refine aH ?_ | refine aD fun _ => ?_ | refine ik ?_ | refine nv (fun _ => ?_) fun _ => ?_ | refine pB (fun _ => ?_) fun _ => ?_ | refine ja (fun _ => ?_) fun _ => ?_ | refine bM rfl ?_ | refine aL rfl ?_ | refine dZ (fun _ => ?_) fun _ => ?_ | refine tH ?_ | refine tK ?_ | refine ov ?_ | refine q_e ?_ | refine q_p fun _ _ => ?_ | refine q_b fun _ => ?_ | refine fq ?_ ?_ fun _ _ _ => ?_ | refine gV ?_ ?_ fun _ _ _ => ?_ | refine ke ?_ | refine aP (fI ?_) fun _ _ => ?_ | refine aP (sj ?_ ?_) fun _ _ => ?_ | refine ln ?_ ?_ | refine qi ?_ ?_ | refine tN ?_ ?_ | refine n_d ?_ ?_ | refine oz (fun _ => ?_) fun _ => ?_ | exact safe | refine bF ?_) | exact trivial | dsimp only [Nx, Dn] | with_reducible (first | rfl | refine And.intro ?_ ?_ | intro _ | contradiction) | omega | refine bC (by decide) ?_ | (simp (disch := omega) only [wrap64, ij, iu, List.length_append, List.length_cons, List.length_nil, List.length_take, List.length_drop, List.length_set, List.length_replicate, List.length_reverse] <;> omega) | (simp (disch := omega) only [wrap64, ij, iu, List.length_append, List.length_cons, List.length_nil, List.length_take, List.length_drop, List.length_set, List.length_replicate, List.length_reverse] at * <;> omega) | exact Int.tmod_nonneg _ (by omega) | (simp_all [ib, jV, iq, jX] <;> omega))
theorem u3 {n} (h0 : 0 ≤ n) (h1 : n ≤ 1000) : (R.gl n).sat (fun r => (r.length : Int) = n / 32 + 1) := by
  unfold R.gl
  have e1 : n.tdiv 32 = n / 32 := Int.tdiv_eq_ediv_of_nonneg h0
  have e2 : n.tmod 32 = n % 32 := Int.tmod_eq_emod_of_nonneg h0
  rw [e1, e2]
  exact dw2
instance An {x_0 y_1 borrow_2} : Safe (R.fk x_0 y_1 borrow_2) := by
  unfold R.fk
  refine ⟨?_⟩
  exact dw2
instance Br {a b} : jf (R.iV a b) (fun r => r.length = a.length) := by
  unfold R.iV
  refine ⟨aD fun h => ?_⟩
  simp only [Sg.i, oks, Sh.ok, Ty.ok, List.map, Par.v, Bool.and_eq_true] at h
  have := uB h.1
  simp only [Sh.gY, Ty.gY, IntKind.gY] at this
  refine aP (rB (Q := fun r => r.length = a.length) (fun i => i.2.2) a.length (by omega) (fun x => x.1.length = x.2.2.toNat) (by simp) (by simp) (by simp) fun i h0 h1 hI => ?_) fun x hx => ?_ <;> exact dw2
theorem tQ {n a} (hn : 0 ≤ n → n ≤ 256 → n ≤ 256) : (R.fU n a).sat (fun r => r.1.2.length ≤ 9) := by
  unfold R.fU
  refine aD fun _ => aP (R := fun c => c = false → 0 ≤ n ∧ n ≤ 256) (by exact dw2) fun c hc => dZ (fun _ => aH (by simp)) fun hc' => ?_
  have hn := hc hc'
  exact dw2
instance Ax {n a} : jf (R.fU n a) (fun r => r.1.2.length ≤ 9) := ⟨tQ fun _ h => h⟩
instance Bq {a} : Safe (R.iG a) := by
  unfold R.iG
  refine ⟨aD fun _ => q_p fun r hr => aD fun _ => ?_⟩
  refine aP (mc (fun i => i.2) (List.length r.1.2) (by omega) (by simp) (by simp) fun i h0 h1 => ?_).ok fun x _ => ?_ <;> exact dw2
instance BD {a} : jf (R.bG a) (fun r => 0 ≤ r ∧ r ≤ 8) := by
  unfold R.bG
  refine ⟨?_⟩
  exact dw2
instance Bp {kind_0 w_1} : Safe (R.gJ kind_0 w_1) := by
  unfold R.gJ
  refine ⟨?_⟩
  exact dw2
instance zL {w_0 signed_1} : Safe (R.eY w_0 signed_1) := by
  unfold R.eY
  refine ⟨?_⟩
  exact dw2
instance Au {kind_0 w_1} : Safe (R.dY kind_0 w_1) := by unfold R.dY; exact dw0
instance As {kind_0 w_1} : Safe (R.da kind_0 w_1) := by unfold R.da; exact dw0
end Go.Mach
namespace Go.Mach
namespace Res
variable {α β : Type} {Q : β → Prop}
theorem af {m : Res α} {k : α → Res β} (h : m.strip.isSome = true) (hk : (k (m.strip.get h)).sat Q) : (m.bind k).sat Q := aG (bA (Option.some_get h).symm rfl) hk
theorem dP {t : Ty} {xs : List t.den} {i : Int} {k : t.den → Res β} (h0 : decide (0 ≤ i) = true) (h : (xs[i.toNat]?).isSome = true) (hk : (k ((xs[i.toNat]?).get h)).sat Q) : (idx t xs i k).sat Q := by
  refine gV (of_decide_eq_true h0) (by simpa using h) fun x hx _ => ?_
  simp only [hx, Option.get_some] at hk
  exact hk
theorem na {s : Sh} {xs : List s.den} {i : Int} {k : s.den → Res β} (h0 : decide (0 ≤ i) = true) (h : (xs[i.toNat]?).isSome = true) (hk : (k ((xs[i.toNat]?).get h)).sat Q) : (eF s xs i k).sat Q := by
  refine fq (of_decide_eq_true h0) (by simpa using h) fun x hx _ => ?_
  simp only [hx, Option.get_some] at hk
  exact hk
theorem tw {γ δ : Type} {x : γ ⊕ δ} {f : γ → Res β} {g : δ → Res β} (h : x.getLeft?.isSome = true) (hk : (f (x.getLeft?.get h)).sat Q) : (sum x f g).sat Q := by
  cases x
  · exact hk
  · cases h
theorem vI {γ δ : Type} {x : γ ⊕ δ} {f : γ → Res β} {g : δ → Res β} (h : x.getRight?.isSome = true) (hk : (g (x.getRight?.get h)).sat Q) : (sum x f g).sat Q := by
  cases x
  · cases h
  · exact hk
theorem aE {b : Bool} {k : Res β} (h : k.sat Q) : (given b k).sat Q := fun _ => h
theorem nT {b e : Bool} {x y : Res β} (h : e = false) (hb : b = e) (hy : y.sat Q) : (br b x y).sat Q := aL (hb.trans h) hy
theorem kI {m m' : Res α} {a : α} {k : α → Res β} (h : m'.sat (· = a)) (e : m = m') (hk : (k a).sat Q) : (m.bind k).sat Q := e ▸ aG h hk
theorem uW {m m' : Res α} {P : α → Prop} {k : α → Res β} (h : m'.sat P) (e : m = m') (hk : ∀ a, P a → (k a).sat Q) : (m.bind k).sat Q := e ▸ aP h hk
def xu (f : α → Res (Step α β)) (n : Nat) (Q : β → Prop) : Step α β → Prop
  | .next a => (loop f n a).sat Q
  | .done b => Q b
theorem nr {f : α → Res (Step α β)} {n : Nat} {a : α} (h : (loop f n a).sat Q) : xu f n Q (.next a) := h
theorem uN {f : α → Res (Step α β)} {n : Nat} {b : β} (h : Q b) : xu f n Q (.done b) := h
theorem kQ {f : α → Res (Step α β)} {a : α} {n : Nat} (h : (f a).sat (xu f n Q)) : (loop f (n + 1) a).sat Q := by
  unfold loop
  refine aP h fun s hs => ?_
  cases s with
  | next a' => exact hs
  | done b => exact hs
theorem o8 {f : α → Res (Step α β)} {a : α} {k : Nat} (hk : fuel = k + 40) (h : (f a).sat (xu f (k + 39) Q)) : (loop f fuel a).sat Q := by
  rw [hk]
  exact kQ h
end Res
end Go.Mach
set_option maxRecDepth 100000
namespace Go.Mach
open Res
variable {n : Nat} {β : Type} {Q : β → Prop}
theorem kA {x0 x1 x2} {k : _ → Res β} (h : (R.eval_run_list (bH n) x0 x1 x2).sat fun a => (k a).sat Q) : (((bH (n + 1)).eval_run_list x0 x1 x2).bind k).sat Q := bF h
theorem jG {x0 x1 x2 x3} {k : _ → Res β} (h : (R.eval_run_act (bH n) x0 x1 x2 x3).sat fun a => (k a).sat Q) : (((bH (n + 1)).eval_run_act x0 x1 x2 x3).bind k).sat Q := bF h
theorem cO {x0 x1 x2} {k : _ → Res β} (h : (R.eval_run_expression (bH n) x0 x1 x2).sat fun a => (k a).sat Q) : (((bH (n + 1)).eval_run_expression x0 x1 x2).bind k).sat Q := bF h
theorem fP {x0 x1 x2} {k : _ → Res β} (h : (R.eval_run_value (bH n) x0 x1 x2).sat fun a => (k a).sat Q) : (((bH (n + 1)).eval_run_value x0 x1 x2).bind k).sat Q := bF h
theorem dp {x0 x1 x2 x3} {k : _ → Res β} (h : (R.eval_run_operation (bH n) x0 x1 x2 x3).sat fun a => (k a).sat Q) : (((bH (n + 1)).eval_run_operation x0 x1 x2 x3).bind k).sat Q := bF h
theorem kX {x0 x1 x2} {k : _ → Res β} (h : (R.eval_run_assign (bH n) x0 x1 x2).sat fun a => (k a).sat Q) : (((bH (n + 1)).eval_run_assign x0 x1 x2).bind k).sat Q := bF h
theorem kV {x0 x1 x2} {k : _ → Res β} (h : (R.eval_run_callee (bH n) x0 x1 x2).sat fun a => (k a).sat Q) : (((bH (n + 1)).eval_run_callee x0 x1 x2).bind k).sat Q := bF h
theorem jh {x0 x1 x2} {k : _ → Res β} (h : (R.eval_run_arguments (bH n) x0 x1 x2).sat fun a => (k a).sat Q) : (((bH (n + 1)).eval_run_arguments x0 x1 x2).bind k).sat Q := bF h
theorem jz {x0 x1 x2} {k : _ → Res β} (h : (R.eval_run_property (bH n) x0 x1 x2).sat fun a => (k a).sat Q) : (((bH (n + 1)).eval_run_property x0 x1 x2).bind k).sat Q := bF h
theorem nL {x0 x1 x2 x3} {k : _ → Res β} (h : (R.eval_run_call (bH n) x0 x1 x2 x3).sat fun a => (k a).sat Q) : (((bH (n + 1)).eval_run_call x0 x1 x2 x3).bind k).sat Q := bF h
theorem nM {x0 x1 x2 x3} {k : _ → Res β} (h : (R.eval_run_does (bH n) x0 x1 x2 x3).sat fun a => (k a).sat Q) : (((bH (n + 1)).eval_run_does x0 x1 x2 x3).bind k).sat Q := bF h
theorem nR {x0 x1 x2} {k : _ → Res β} (h : (R.eval_run_host (bH n) x0 x1 x2).sat fun a => (k a).sat Q) : (((bH (n + 1)).eval_run_host x0 x1 x2).bind k).sat Q := bF h
end Go.Mach
