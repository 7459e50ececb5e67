/-
  Proved here: the law renlaw12.EvalOpers returns true for every input of the stated bulk and leaves its arguments as they were; no further condition.
  By an AI agent; no person has read it.
-/
import Derived.Test.YtimhplnifencnaaGreatDoorPartk
import Derived.Lib.ItoaLen
set_option linter.all false
set_option linter.deprecated false

set_option maxRecDepth 100000
namespace Go.Mach
open Res
theorem dw0 {P : Prop} (h : P := by repeat' (first | with_reducible (first | apply Safe.g' | apply Safe.br' | apply Safe.bd' | apply Safe.sm' | intro _ | infer_instance))) : P := h
theorem dw1 {P : Prop} (h : P := by repeat' (first | with_reducible (first | refine aD ?_ | refine aG fun _ => ?_ | refine ga ?_ | refine ky (fun _ => ?_) fun _ => ?_ | refine ko (fun _ => ?_) fun _ => ?_ | refine iq (fun _ => ?_) fun _ => ?_ | refine aZ rfl ?_ | refine aJ rfl ?_ | refine bf (fun _ => ?_) fun _ => ?_ | refine ld ?_ | refine q_e ?_ | refine q_p fun _ _ => ?_ | refine q_b fun _ => ?_ | refine jy (fun _ => ?_) fun _ => ?_ | refine cT ?_ ?_ fun _ _ _ => ?_ | refine fJ ?_ ?_ fun _ _ _ => ?_ | refine ik ?_ | refine kF ?_ ?_ | refine lL ?_ ?_ | refine lh ?_ ?_ | refine n_d ?_ ?_ | exact safe | refine aY ?_) | exact trivial | dsimp only [Nx, Dn] | with_reducible (first | rfl | refine And.intro ?_ ?_ | intro _ | contradiction) | omega | (simp (disch := omega) only [wrap64, fP, fK, List.length_append, List.length_cons, List.length_nil, List.length_take, List.length_drop, List.length_set, List.length_replicate, List.length_reverse] <;> omega))) : P := h
theorem dw2 {P : Prop} (h : P := by repeat' (first | with_reducible (first | refine aD ?_ | refine aG fun _ => ?_ | refine ga ?_ | refine ky (fun _ => ?_) fun _ => ?_ | refine ko (fun _ => ?_) fun _ => ?_ | refine iq (fun _ => ?_) fun _ => ?_ | refine aZ rfl ?_ | refine aJ rfl ?_ | refine bf (fun _ => ?_) fun _ => ?_ | refine ld ?_ | refine mY ?_ | refine kc ?_ | refine q_e ?_ | refine q_p fun _ _ => ?_ | refine q_b fun _ => ?_ | refine cT ?_ ?_ fun _ _ _ => ?_ | refine fJ ?_ ?_ fun _ _ _ => ?_ | refine ik ?_ | refine aV (gH ?_) fun _ _ => ?_ | refine aV (nx ?_ ?_) fun _ _ => ?_ | refine aV (o4 ?_) fun _ _ => ?_ | refine aV (tB ?_ ?_) fun _ _ => ?_ | refine kF ?_ ?_ | refine lL ?_ ?_ | refine lh ?_ ?_ | refine n_d ?_ ?_ | refine jy (fun _ => ?_) fun _ => ?_ | exact safe | refine aY ?_) | exact trivial | dsimp only [Nx, Dn] | with_reducible (first | rfl | refine And.intro ?_ ?_ | intro _ | contradiction) | omega | refine cd (by decide) ?_ | (simp (disch := omega) only [wrap64, fP, fK, List.length_append, List.length_cons, List.length_nil, List.length_take, List.length_drop, List.length_set, List.length_replicate, List.length_reverse] <;> omega) | (simp (disch := omega) only [wrap64, fP, fK, List.length_append, List.length_cons, List.length_nil, List.length_take, List.length_drop, List.length_set, List.length_replicate, List.length_reverse] at * <;> omega) | exact Int.tmod_nonneg _ (by omega) | (simp_all [ei, fo, dq, fC] <;> omega))) : P := h
theorem dw3 {P : Prop} (h : P := by repeat' (first | with_reducible (first | refine aD ?_ | refine aG fun _ => ?_ | refine ga ?_ | refine ky (fun _ => ?_) fun _ => ?_ | refine ko (fun _ => ?_) fun _ => ?_ | refine iq (fun _ => ?_) fun _ => ?_ | refine aZ rfl ?_ | refine aJ rfl ?_ | refine bf (fun _ => ?_) fun _ => ?_ | refine ld ?_ | refine q_e ?_ | refine q_p fun _ _ => ?_ | refine q_b fun _ => ?_ | refine jy (fun _ => ?_) fun _ => ?_ | refine cT ?_ ?_ fun _ _ _ => ?_ | refine fJ ?_ ?_ fun _ _ _ => ?_ | refine ik ?_ | refine kF ?_ ?_ | refine lL ?_ ?_ | refine lh ?_ ?_ | refine n_d ?_ ?_ | exact safe | refine aY ?_) | exact trivial | dsimp only [Nx, Dn] | with_reducible (first | rfl | refine And.intro ?_ ?_ | intro _ | contradiction) | omega)) : P := h
theorem dw4 {P : Prop} (h : P := by repeat' (first | with_reducible (first | refine aD ?_ | refine aG fun _ => ?_ | refine ga ?_ | refine ky (fun _ => ?_) fun _ => ?_ | refine ko (fun _ => ?_) fun _ => ?_ | refine iq (fun _ => ?_) fun _ => ?_ | refine aZ rfl ?_ | refine aJ rfl ?_ | refine bf (fun _ => ?_) fun _ => ?_ | refine ld ?_ | refine mY ?_ | refine kc ?_ | refine q_e ?_ | refine q_p fun _ _ => ?_ | refine q_b fun _ => ?_ | refine cT ?_ ?_ fun _ _ _ => ?_ | refine fJ ?_ ?_ fun _ _ _ => ?_ | refine ik ?_ | refine aV (gH ?_) fun _ _ => ?_ | refine kF ?_ ?_ | refine lL ?_ ?_ | refine lh ?_ ?_ | refine n_d ?_ ?_ | refine jy (fun _ => ?_) fun _ => ?_ | exact safe | refine aY ?_) | exact trivial | dsimp only [Nx, Dn] | with_reducible (first | rfl | refine And.intro ?_ ?_ | intro _ | contradiction) | omega | refine cd (by decide) ?_ | (simp (disch := omega) only [wrap64, fP, fK, List.length_append, List.length_cons, List.length_nil, List.length_take, List.length_drop, List.length_set, List.length_replicate, List.length_reverse] <;> omega) | (simp (disch := omega) only [wrap64, fP, fK, List.length_append, List.length_cons, List.length_nil, List.length_take, List.length_drop, List.length_set, List.length_replicate, List.length_reverse] at * <;> omega) | exact Int.tmod_nonneg _ (by omega) | (simp_all [ei, fo, dq, fC] <;> omega))) : P := h
theorem dw5 {P : Prop} (h : P := by repeat' (first | with_reducible (first | refine aD ?_ | refine aG fun _ => ?_ | refine ga ?_ | refine ky (fun _ => ?_) fun _ => ?_ | refine ko (fun _ => ?_) fun _ => ?_ | refine iq (fun _ => ?_) fun _ => ?_ | refine aZ rfl ?_ | refine aJ rfl ?_ | refine bf (fun _ => ?_) fun _ => ?_ | refine ld ?_ | refine q_e ?_ | refine q_p fun _ _ => ?_ | refine q_b fun _ => ?_ | refine jy (fun _ => ?_) fun _ => ?_ | exact safe | refine aY ?_) | exact trivial | dsimp only [Nx, Dn] | with_reducible (first | rfl | refine And.intro ?_ ?_ | intro _ | contradiction) | omega)) : P := h
theorem dw6 {P : Prop} (h : P := by repeat' (first | with_reducible (first | refine aD ?_ | refine aG fun _ => ?_ | refine ga ?_ | refine aZ rfl ?_ | refine aJ rfl ?_ | refine bf (fun _ => ?_) fun _ => ?_ | refine ld ?_ | refine q_e ?_ | refine q_p fun _ _ => ?_ | refine q_b fun _ => ?_ | refine jy (fun _ => ?_) fun _ => ?_ | exact safe | refine aY ?_) | exact trivial)) : P := h
instance (n) : Safe (pf n) := ⟨trivial⟩
instance (n) : Safe (vC n) := by unfold vC; split <;> exact ⟨trivial⟩
instance (n c) : Safe (ixbRun n c) := ⟨trivial⟩
theorem gH {a} (hl : List.length a ≤ 2 ^ 40) : (R.aq a).sat (fun r => r.length = a.length) := by
  unfold R.aq
  refine aG fun h => ?_
  have hn : List.length (α := (Ty.int IntKind.u8).den) (ka a) = a.length := by simp [ka]
  refine aV (qp (Q := fun r => r.length = a.length) (fun i => i.2) a.length (by omega) (fun x => x.1.length = x.2.toNat) (by simp) (by simp) (by simp) fun i h0 h1 hI => ?_) fun x hx => ?_ <;> exact dw1
instance zm {x_0} : Safe (R.gO x_0) := by unfold R.gO; exact dw0
instance zp {x_0} : Safe (R.eo x_0) := by unfold R.eo; exact dw0
instance uW {a b} : Safe (R.cC a b) := by
  unfold R.cC
  refine ⟨aG fun h => ?_⟩
  simp only [Sg.i, oks, Sh.ok, Ty.ok, List.map, Par.v, Bool.and_eq_true] at h
  have := lI h.1
  refine aV (pA (fun i => i) a.length (by omega) (by omega) (by omega) fun i h0 h1 => ?_).ok fun x _ => ?_ <;> exact dw3
instance ss {s_0 v_1} : Safe (R.bh s_0 v_1) := by unfold R.bh; exact dw0
instance ye {a} : Safe (R.fI a) := by
  unfold R.fI
  refine ⟨aG fun h => ?_⟩
  simp only [Sg.i, oks, Sh.ok, Ty.ok, List.map, Par.v, Bool.and_eq_true] at h
  have := lI h
  refine aV (pA (fun i => i.2) a.length (by omega) (by omega) (by simp) fun i h0 h1 => ?_).ok fun x _ => ?_ <;> exact dw4
instance uX {a b} : Safe (R.bw a b) := by
  unfold R.bw
  refine ⟨aG fun h => ?_⟩
  simp only [Sg.i, oks, Sh.ok, Ty.ok, List.map, Par.v, Bool.and_eq_true] at h
  have := lI h.1
  refine ga (iq (fun _ => ?_) fun _ => ?_) <;> try exact aD trivial
  refine aV (pA (fun i => i) a.length (by omega) (by omega) (by omega) fun i h0 h1 => ?_).ok fun x _ => ?_ <;> exact dw3
instance Ae {a_0 b_1} : Safe (R.gp a_0 b_1) := by unfold R.gp; exact dw0
instance xT {x_0} : Safe (R.ec x_0) := by unfold R.ec; exact dw0
instance nZ {a b} : Safe (R.aW a b) := by
  unfold R.aW
  refine ⟨aG fun h => ?_⟩
  simp only [Sg.i, oks, Sh.ok, Ty.ok, List.map, Par.v, Bool.and_eq_true] at h
  have := lI h.1
  refine aV (pA (fun i => i) a.length (by omega) (by omega) (by omega) fun i h0 h1 => ?_).ok fun x _ => ?_ <;> exact dw3
instance mh {s_0 f_1} : Safe (R.aU s_0 f_1) := by unfold R.aU; exact dw0
instance zq {a} : Safe (R.gN a) := by
  unfold R.gN
  refine ⟨aG fun h => ?_⟩
  simp only [Sg.i, oks, Sh.ok, Ty.ok, List.map, Par.v, Bool.and_eq_true] at h
  have := lI h
  refine aV (pA (fun i => i.2) a.length (by omega) (by omega) (by simp) fun i h0 h1 => ?_).ok fun x _ => ?_ <;> exact dw3
instance BX {a_0} : Safe (R.gd a_0) := by unfold R.gd; exact dw0
instance BG : Safe (R.dU) := by unfold R.dU; exact dw0
instance sf_num_as {a} : iL (R.cz a) (fun r : Int × Int => (r.1 = 0 → -9007199254740991 ≤ r.2 ∧ r.2 ≤ 9007199254740991) ∧ (r.1 ≠ 0 → 1 ≤ r.1 ∧ r.1 ≤ 4 ∧ r.2 = 0)) := ⟨by
  unfold R.cz R.gd R.dU
  refine aG fun _ => aY (aG fun _ => iq (fun _ => ko (fun _ => ?_) fun _ => ?_) fun _ => aV (R := fun x => x = true → 1 ≤ a.1 ∧ a.1 ≤ 4) (by exact dw4) fun _ _ => ?_)
  · refine aD (ga (ko (fun _ => aD ?_) fun _ => aY (aG fun _ => aD (aG fun _ => aD ?_)))) <;> constructor <;> intro _ <;> simp_all
  · refine aD (ga (aJ rfl (aY (aG fun _ => aD (aG fun _ => aD ?_))))); simp
  · refine bf (fun hx => aD (ga (iq (fun _ => aD ?_) fun _ => aY (aG fun _ => aD (aG fun _ => aD ?_))))) fun _ => aD (ga (aJ rfl (aY (aG fun _ => aD (aG fun _ => aD ?_))))) <;> simp_all⟩
instance BU {neg_0} : Safe (R.iP neg_0) := by unfold R.iP; exact dw0
instance Aq {n_0} : Safe (R.bS n_0) := by unfold R.bS; exact dw0
instance ze {neg_0} : Safe (R.dN neg_0) := by unfold R.dN; exact dw0
instance BW {a_0} : Safe (R.iO a_0) := by unfold R.iO; exact dw0
instance yg {a} : Safe (R.eK a) := by
  unfold R.eK
  refine ⟨aG fun h => ?_⟩
  simp only [Sg.i, oks, Sh.ok, Ty.ok, List.map, Par.v, Bool.and_eq_true] at h
  have := lI h
  refine aV (lB (Q := fun m => m.length ≤ a.length) (fun m => m.length) (by omega) (fun m => m.length ≤ a.length) (Nat.le_refl _) fun m hm => ?_) fun u hu => aV (lB (Q := fun m => m.length ≤ a.length) (fun m => m.length) (by omega) (fun m => m.length ≤ a.length) hu fun m hm => ?_) fun x hx => iq (fun _ => aD trivial) fun hne => cT (by omega) (by omega) fun e he _ => ?_
  · exact dw4
  · exact dw4
  · refine aV (R := fun _ => True) (by exact dw4) fun _ _ => ?_
    exact dw4
instance BL {a} : iL (R.gZ a) (fun r => r = true → (a.2.length : Int) ≤ 8) := by
  unfold R.gZ
  refine ⟨aG fun h => ?_⟩
  simp only [Sg.i, oks, Sh.ok, Ty.ok, List.map, Par.v, Bool.and_eq_true] at h
  exact dw1
instance BC {a_0} : Safe (R.cE a_0) := by unfold R.cE; exact dw0
instance Aa {a} : iL (R.eu a) (fun r => r = true → (a.2.2.1.2.length : Int) = 0 ∧ (a.2.2.2.1.length : Int) = 0) := by
  unfold R.eu
  refine ⟨?_⟩
  exact dw5
instance Aw {a} : iL (R.fL a) (fun r => r = true → (a.2.2.1.2.length : Int) ≤ 8 ∧ (a.2.2.2.1.length : Int) ≤ 4096) := by
  unfold R.fL
  refine ⟨?_⟩
  exact dw4
instance zo {a} : iL (R.bH a) (fun r => (r.2.2.1.2.length : Int) ≤ 8 ∧ (r.2.2.2.1.length : Int) ≤ 4096) := by
  unfold R.bH
  refine ⟨aG fun _ => q_p fun b hb => ga (bf (fun h => aD (hb h)) fun _ => aD (by simp))⟩
instance Ac {a} : u9 (R.dD a) (a.1 == 2) := ⟨aG fun _ => aD rfl⟩
instance A7 {a_0} : Safe (R.fm a_0) := by unfold R.fm; exact dw0
instance zt {a_0 b_1} : Safe (R.fO a_0 b_1) := by unfold R.fO; exact dw0
instance A8 {b_0} : Safe (R.jD b_0) := by unfold R.jD; exact dw0
instance BO {a} : iL (R.cD a) (fun r => r.length ≤ 8) := by
  unfold R.cD
  refine ⟨aG fun _ => q_p fun b hb => ga (bf (fun h => aY (aD (aG fun _ => aD ?_))) fun _ => aD (by simp))⟩
  have := hb h
  show List.length a.2 ≤ 8
  omega
instance BN {a_0} : Safe (R.eP a_0) := by unfold R.eP; exact dw0
instance zs {a} : iL (R.fG a) (fun r => r.length ≤ a.length) := by
  unfold R.fG
  refine ⟨aG fun h => ?_⟩
  simp only [Sg.i, oks, Sh.ok, Ty.ok, List.map, Par.v, Bool.and_eq_true] at h
  have := Af h
  refine aV (lB (fun m => m.length) (by omega) (fun m => m.length ≤ a.length) (Nat.le_refl _) fun m hm => ?_) fun x hx => hx
  exact dw1
instance A1 {a} : iL (R.fY a) (fun r => r.length ≤ a.length) := by
  unfold R.fY
  refine ⟨aG fun h => ?_⟩
  simp only [Sg.i, oks, Sh.ok, Ty.ok, List.map, Par.v, Bool.and_eq_true] at h
  have := lI h
  refine aV (lB (fun m => m.length) (by omega) (fun m => m.length ≤ a.length) (Nat.le_refl _) fun m hm => ?_) fun x hx => hx
  exact dw1
instance A9 {a b} : iL (R.eY a b) (fun r => r.2.length ≤ a.length) := by
  unfold R.eY
  refine ⟨?_⟩
  exact dw1
instance BS {a_0} : Safe (R.jI a_0) := by unfold R.jI; exact dw0
instance zn {a} : iL (R.ea a) (fun r => 0 ≤ r ∧ r < 4294967296) := ⟨by
  unfold R.ea
  refine aG fun _ => q_p fun x hx => aG fun _ => ga (iq (fun _ => aD ?_) fun _ => aD ?_)
  · have := wrap_u32 x.2
    rw [wrap64 (by omega)]; omega
  · omega⟩
instance As {a_0} : Safe (R.gR a_0) := by unfold R.gR; exact dw0
instance BM {op_0 a_1 b_2} : Safe (R.jG op_0 a_1 b_2) := by
  unfold R.jG
  refine ⟨?_⟩
  exact dw4
instance Ax {a} : iL (R.i6 a) (fun r => r.length ≤ 2 ^ 40) := by
  unfold R.i6
  refine ⟨aG fun _ => q_p fun (x : Int × Int) hx => aG fun _ => iq (fun _ => aD (by simp)) fun _ => iq (fun _ => aD (by simp)) fun _ => iq (fun _ => aD (by simp)) fun _ => aQ (a := Lib.itoa x.2) rfl (aG fun _ => aD ?_)⟩
  have h : -9223372036854775808 ≤ x.2 ∧ x.2 ≤ 9223372036854775807 := by
    have h3 := hx
    by_cases h0 : x.1 = 0
    · have := h3.1 h0; omega
    · have := h3.2 h0; omega
  exact Nat.le_trans (Lib.itoa_length_le x.2 h.1 h.2) (by decide)
theorem qy {a : List Int} : (R.bc a).sat (fun r => List.length r.2 = a.length) := by
  unfold R.bc
  refine aG fun h => ?_
  simp only [Sg.i, oks, Sh.ok, Ty.ok, List.map, Par.v, Bool.and_eq_true] at h
  have := lI h
  rw [wrap64 (by omega)]
  refine aV (lB (Q := fun r => r.length = a.length) (fun i => (i.2.1 - i.1 + 1).toNat) (by simp; omega) (fun i => 0 ≤ i.1 ∧ i.1 ≤ i.2.1 + 1 ∧ i.2.1 < a.length ∧ i.2.2.length = a.length) (by simp <;> omega) fun i ⟨i1, i2, i3, i4⟩ => ?_) fun x hx => ?_ <;> exact dw1
theorem vZ (l : List Int) : (oH l).length = l.length := by simp [oH]
theorem or_zero {x : Int} (h0 : 0 ≤ x) (h1 : x < 4294967296) : fq .or .u64 (qA .u64 0 32) (IntKind.wrap .u64 x) = x := by
  have e1 : qA .u64 0 32 = 0 := by simp [qA, IntKind.wrap, IntKind.signed, IntKind.bits]
  have e2 : IntKind.wrap .u64 x = x := by simp [IntKind.wrap, IntKind.signed, IntKind.bits]; omega
  rw [e1, e2]
  unfold fq
  have e3 : BitVec.ofInt IntKind.u64.bits 0 = 0#64 := rfl
  simp only [e3]
  show IntKind.wrap .u64 ((0#64 ||| BitVec.ofInt 64 x).toNat : Int) = x
  rw [BitVec.zero_or, BitVec.toNat_ofInt]
  simp [IntKind.wrap, IntKind.signed, IntKind.bits]
  omega
theorem tenth {x : Int} (h0 : 0 ≤ x) (h1 : x < 4294967296) : IntKind.wrap .u32 (IntKind.wrap .u64 (Int.tdiv x 10)) = x / 10 := by
  rw [Int.tdiv_eq_ediv_of_nonneg h0]
  simp [IntKind.wrap, IntKind.signed, IntKind.bits]
  omega
def rh (m : List Int) : Prop := ∀ e : Int, m[m.length - 1]? = some e → e ≠ 0
theorem qe {m : List Int} (h : (m.length : Int) ≤ 0) : rh m := fun e he => by
  have : m = [] := List.length_eq_zero_iff.1 (by omega)
  subst this; cases he
theorem wt {a : List Int} : (R.fY a).sat (fun r : List Int => r.length ≤ a.length ∧ r = a.take r.length ∧ rh r) := by
  unfold R.fY
  refine aG fun h => ?_
  simp only [Sg.i, oks, Sh.ok, Ty.ok, List.map, Par.v, Bool.and_eq_true] at h
  have := lI h
  refine aV (lB (Q := fun m : List Int => m.length ≤ a.length ∧ m = a.take m.length ∧ rh m) (fun m => m.length) (by omega) (fun m => m.length ≤ a.length ∧ m = a.take m.length) ⟨Nat.le_refl _, by simp⟩ fun m ⟨hm, ht⟩ => ?_) fun x hx => aD hx
  refine aY (ky (fun h0 => ?_) fun h0 => aD (aJ rfl (aD ⟨hm, ht, qe h0⟩)))
  have hw : IntKind.wrap .i64 ((m.length : Int) - 1) = (m.length : Int) - 1 := wrap64 (by omega)
  have hn : ((m.length : Int) - 1).toNat = m.length - 1 := by omega
  rw [hw]
  refine ik (kF (by omega) (lL (by omega) (fJ (by omega) (by omega) fun (e : Int) he _ => aD (iq (fun h => ?_) fun h => aD ⟨hm, ht, ?_⟩))))
  · refine ik (kF (by omega) (kF (by omega) (aD ⟨?_, ?_, ?_⟩)))
    · simp only [List.length_take, List.length_drop]; omega
    · simp only [List.length_take, List.length_drop]; omega
    · rw [List.drop_zero, hn, List.length_take, Nat.min_eq_left (by omega)]
      have : List.take (m.length - 1) m = List.take (m.length - 1) (List.take m.length a) := by rw [← ht]
      rw [this, List.take_take, Nat.min_eq_left (by omega)]
  · intro e' he'
    rw [idx0, hn, he'] at he
    cases he
    exact h
theorem xQ {a} : (R.gZ a).sat (fun r => r = true → (a.2.length : Int) ≤ 8 ∧ rh a.2) := by
  unfold R.gZ
  refine aG fun h => ko (fun h8 => ?_) fun _ => aD (by simp)
  have hw (h : 0 < (a.2.length : Int)) : IntKind.wrap .i64 ((a.2.length : Int) - 1) = (a.2.length : Int) - 1 := wrap64 (by omega)
  have hn (h : 0 < (a.2.length : Int)) : ((a.2.length : Int) - 1).toNat = a.2.length - 1 := by omega
  have hk : (Res.br (ilt 0 (a.2.length : Int)) (Res.dY .w a.2 (IntKind.wrap .i64 ((a.2.length : Int) - 1)) fun e2 => Res.ok ((!(e2 == 0)))) (Res.ok (false))).sat (fun r => r = true → (a.2.length : Int) ≤ 8 ∧ rh a.2) := by
    refine ky (fun h0 => ?_) fun _ => aD (by simp)
    rw [hw h0]
    refine cT (by omega) (by omega) fun (e : Int) he _ => aD fun hr => ⟨h8, fun e' he' => ?_⟩
    rw [hn h0, he'] at he
    cases he
    simpa using hr
  exact iq (fun h0 => ga (bf (fun _ => hk) fun _ => aD fun _ => ⟨h8, qe (by omega)⟩)) fun _ => hk
theorem xl {a} : (R.cD a).sat (fun r : List Int => r.length ≤ 8 ∧ rh r) := by
  unfold R.cD
  refine aG fun _ => aV xQ fun b hb => ga (bf (fun h => aY (aD (aG fun _ => aD ?_))) fun _ => aD ⟨by simp, qe (by simp)⟩)
  have := hb h
  exact ⟨by show List.length a.2 ≤ 8; omega, this.2⟩
def mz (m : List Int) : Nat := match m[m.length - 1]? with
  | some e => m.length * 4294967296 + min e.toNat 4294967295
  | none => 0
theorem mz_lt {r m : List Int} (h : r.length < m.length) : mz r < mz m := by
  unfold mz
  have hm : ∃ e, m[m.length - 1]? = some e := ⟨_, List.getElem?_eq_getElem (by omega)⟩
  obtain ⟨e, he⟩ := hm
  rw [he]
  cases r[r.length - 1]? with
  | none => simp only []; omega
  | some x => simp only []; omega
theorem mz_le {m : List Int} (h : m.length ≤ 8) : mz m ≤ 9 * 4294967296 := by
  unfold mz
  cases m[m.length - 1]? with
  | none => simp only []; omega
  | some x => simp only []; omega
theorem xY {e : Int} (h : (Ty.int IntKind.u32).ok e = true) : 0 ≤ e ∧ e < 4294967296 := by
  simp [Ty.ok, cm, IntKind.wrap, IntKind.signed, IntKind.bits] at h
  omega
instance A5 {a} : iL (R.iy a) (fun r => r.length ≤ 2 ^ 40) := by
  unfold R.iy
  refine ⟨aG fun _ => aV xl fun m ⟨hm, ht⟩ => aG fun _ => iq (fun _ => aD (by simp)) fun hne => aV (R := fun l : List Int => l.length ≤ 2 ^ 39) ?_ fun l hl => q_b fun _ => bf (fun _ => ?_) fun _ => ?_⟩
  · refine lB (fun s => mz s.1) (Nat.le_trans (mz_le hm) (by decide)) (fun s => s.1.length ≤ 8 ∧ rh s.1 ∧ s.2.length + mz s.1 ≤ 9 * 4294967296) ⟨hm, ht, by have := mz_le hm; simp; omega⟩ fun ⟨m, l⟩ ⟨h1, h2, h3⟩ => ?_
    simp only at h1 h2 h3 ⊢
    refine ky (fun hp => ?_) fun _ => aD (by show l.length ≤ 2 ^ 39; omega)
    rw [wrap64 (by omega)]
    obtain ⟨top, htop⟩ : ∃ e, m[m.length - 1]? = some e := ⟨_, List.getElem?_eq_getElem (by omega)⟩
    refine aV (R := fun r : Int × List Int => r.2.length = m.length ∧ r.2[m.length - 1]? = some (top / 10) ∧ 0 ≤ top ∧ top < 4294967296) ?_ fun ⟨r, m'⟩ ⟨g1, g2, g3, g4⟩ => ?_
    · refine lB (fun s => (s.2.1 + 1).toNat) (by simp; omega) (fun s => -1 ≤ s.2.1 ∧ s.2.1 < m.length ∧ s.2.2.length = m.length ∧ (s.2.1 = m.length - 1 → s.1 = 0 ∧ s.2.2 = m) ∧ (s.2.1 < m.length - 1 → s.2.2[m.length - 1]? = some (top / 10) ∧ 0 ≤ top ∧ top < 4294967296)) ⟨by simp only; omega, by simp only; omega, rfl, fun _ => ⟨rfl, rfl⟩, fun h => by simp only at h; omega⟩ fun ⟨r, i, q⟩ ⟨i1, i2, i3, i4, i5⟩ => ?_
      simp only at i1 i2 i3 i4 i5 ⊢
      refine ko (fun i0 => ?_) fun i0 => aD ?_
      · refine kF (by omega) (ik (kF (by omega) (lL (by omega) (fJ (by omega) (by omega) fun (e : Int) he hok => cd (by decide) (ik (kF (by omega) (lL (by omega) (fJ (by omega) (by omega) fun _ _ _ => cd (by decide) (aD ?_)))))))))
        have hw : IntKind.wrap .i64 (i - 1) = i - 1 := wrap64 (by omega)
        have hix : (0 + (i.toNat : Int)).toNat = i.toNat := by omega
        rw [hix] at he
        have hr := xY hok
        refine ⟨?_, ?_, ?_, ?_, ?_, ?_⟩
        · simp only [hw]; omega
        · simp only [hw]; omega
        · simp only [hw]; omega
        · simp only [List.length_set]; exact i3
        · simp only [hw]; omega
        · intro hlt
          simp only [hw] at hlt
          by_cases hi : i = m.length - 1
          · obtain ⟨e1, e2⟩ := i4 hi
            subst e1 e2
            have hin : i.toNat = q.length - 1 := by omega
            rw [hin] at he
            rw [he] at htop
            cases htop
            refine ⟨?_, hr⟩
            simp only [or_zero hr.1 hr.2, tenth hr.1 hr.2]
            rw [show 0 + i.toNat = q.length - 1 by omega, List.getElem?_set_self (by omega)]
          · obtain ⟨e1, e2⟩ := i5 (by omega)
            refine ⟨?_, e2⟩
            simp only
            rw [List.getElem?_set_ne (by omega)]
            exact e1
      · have := i5 (by omega)
        exact ⟨i3, this.1, this.2.1, this.2.2⟩
    · simp only at g1 g2 ⊢
      refine n_d (by simp only [List.length_cons, List.length_nil]; omega) (aV wt fun s ⟨s1, s2, s3⟩ => aG fun _ => aD ?_)
      have hlt : mz s < mz m := by
        by_cases hs : s.length = m.length
        · have e : s = m' := by rw [s2, hs, ← g1, List.take_length]
          subst e
          unfold mz
          rw [hs, g2, htop]
          have := h2 top htop
          simp only []
          omega
        · exact mz_lt (by omega)
      exact ⟨hlt, by show s.length ≤ 8; omega, s3, by simp only [List.length_append, List.length_cons, List.length_nil]; omega⟩
  · refine n_d (by simp only [List.length_cons, List.length_nil]; omega) (aV qy fun r hr => aG fun _ => aD ?_)
    rw [vZ, hr]; simp; omega
  · refine aV qy fun r hr => aG fun _ => aD ?_
    rw [vZ, hr]; omega
theorem nx {a b} (ha : List.length a ≤ 2 ^ 40) (hb : List.length b ≤ 2 ^ 40) : (R.iz a b).sat (fun r => (r.length : Int) = max (a.length : Int) b.length + 1) := by
  unfold R.iz
  refine aG fun h => ?_
  rw [fK]
  refine aV (qp (Q := fun r => r.1.length = max a.length b.length) (fun i => i.2.2) (max a.length b.length) (by omega) (fun x => x.1.length = x.2.2.toNat) (by simp) (by simp <;> omega) (by simp) fun i h0 h1 hI => ?_) fun x hx => ?_ <;> exact dw1
instance BB {m_0 neg_1} : Safe (R.fw m_0 neg_1) := by unfold R.fw; exact dw0
instance Az {n_0} : Safe (R.iR n_0) := by unfold R.iR; exact dw0
instance BT {a b} : Safe (R.gj a b) := by
  unfold R.gj
  refine ⟨aG fun h => ?_⟩
  simp only [Sg.i, oks, Sh.ok, Ty.ok, List.map, Par.v, Bool.and_eq_true] at h
  have := lI h.1
  refine ga (iq (fun _ => ?_) fun _ => ?_)
  · rw [wrap64 (by omega)]
    refine aV (lB (Q := fun _ => True) (fun i => (i + 1).toNat) (by omega) (fun i : Int => -1 ≤ i ∧ i < a.length) (by omega) fun i hi => ?_) fun x hx => ?_ <;> exact dw1
  · exact dw1
instance zg {x_0 y_1 borrow_2} : Safe (R.gJ x_0 y_1 borrow_2) := by
  unfold R.gJ
  refine ⟨?_⟩
  exact dw6
instance Av {a b} : iL (R.gV a b) (fun r => r.length = a.length) := by
  unfold R.gV
  refine ⟨aG fun h => ?_⟩
  simp only [Sg.i, oks, Sh.ok, Ty.ok, List.map, Par.v, Bool.and_eq_true] at h
  have := yG h.1
  simp only [Sh.iT, Ty.iT, IntKind.iT] at this
  refine aV (qp (Q := fun r => r.length = a.length) (fun i => i.2.2) a.length (by omega) (fun x => x.1.length = x.2.2.toNat) (by simp) (by simp) (by simp) fun i h0 h1 hI => ?_) fun x hx => ?_ <;> exact dw1
instance BK {a_0 b_1} : Safe (R.jF a_0 b_1) := by
  unfold R.jF
  refine ⟨?_⟩
  repeat' (first | with_reducible (first | refine aD ?_ | refine aG fun _ => ?_ | refine ga ?_ | refine ky (fun _ => ?_) fun _ => ?_ | refine ko (fun _ => ?_) fun _ => ?_ | refine iq (fun _ => ?_) fun _ => ?_ | refine aZ rfl ?_ | refine aJ rfl ?_ | refine bf (fun _ => ?_) fun _ => ?_ | refine ld ?_ | refine mY ?_ | refine kc ?_ | refine q_e ?_ | refine q_p fun _ _ => ?_ | refine q_b fun _ => ?_ | refine cT ?_ ?_ fun _ _ _ => ?_ | refine fJ ?_ ?_ fun _ _ _ => ?_ | refine ik ?_ | refine aV (gH ?_) fun _ _ => ?_ | refine aV (nx ?_ ?_) fun _ _ => ?_ | refine kF ?_ ?_ | refine lL ?_ ?_ | refine lh ?_ ?_ | refine n_d ?_ ?_ | refine jy (fun _ => ?_) fun _ => ?_ | exact safe | refine aY ?_) | exact trivial | dsimp only [Nx, Dn] | with_reducible (first | rfl | refine And.intro ?_ ?_ | intro _ | contradiction) | omega | refine cd (by decide) ?_ | (simp (disch := omega) only [wrap64, fP, fK, List.length_append, List.length_cons, List.length_nil, List.length_take, List.length_drop, List.length_set, List.length_replicate, List.length_reverse] <;> omega) | (simp (disch := omega) only [wrap64, fP, fK, List.length_append, List.length_cons, List.length_nil, List.length_take, List.length_drop, List.length_set, List.length_replicate, List.length_reverse] at * <;> omega) | exact Int.tmod_nonneg _ (by omega) | (simp_all [ei, fo, dq, fC] <;> omega))
instance BE {a_0 b_1} : Safe (R.jv a_0 b_1) := by unfold R.jv; exact dw0
instance BV {a b} : Safe (R.jm a b) := by
  unfold R.jm
  refine ⟨aG fun _ => q_p fun x hx => aG fun _ => q_p fun y hy => aG fun _ => ?_⟩
  rw [wrap64 (by omega)]
  refine ik (kF (by omega) (ik (kF (by omega) (n_d (by omega) ?_))))
  refine aV (qp (Q := fun _ => True) (fun i => i.1) x.length (by omega) (fun s => s.2.length = x.length + y.length) (by simp) (by simp) (by simp; omega) fun i h0 h1 hI => ky (fun hi => ik (kF (by omega) (lL (by omega) (fJ (by omega) (by omega) fun e _ _ => ?_)))) fun _ => ?_) fun x hx => ?_
  · refine aV (qp (Q := fun r => r.2.length = x.length + y.length) (fun i => i.2.1) y.length (by omega) (fun s => s.2.2.length = x.length + y.length) (by simp) (by simp) (by simp; omega) fun k k0 k1 hK => ky (fun hk => ?_) fun _ => ?_) fun s hs => ?_
    · have hw : IntKind.wrap .i64 (i.1 + k.2.1) = i.1 + k.2.1 := wrap64 (by omega)
      rw [hw]
      exact dw1
    · exact dw1
    · have hw : IntKind.wrap .i64 (i.1 + (y.length : Int)) = i.1 + (y.length : Int) := wrap64 (by omega)
      rw [hw]
      exact dw1
  · exact dw1
  · exact dw1
theorem o4 {a b} (ha : List.length a ≤ 2 ^ 40) : (R.gL a b).sat (fun r => r.length ≤ a.length + 1) := by
  unfold R.gL
  refine aG fun h => ?_
  refine aV (qp (Q := fun r => r.2.length = a.length) (fun i => i.2.2) a.length (by omega) (fun x => x.2.1.length = x.2.2.toNat) (by simp) (by simp) (by simp) fun i h0 h1 hI => ?_) fun x hx => ?_ <;> repeat' (first | with_reducible (first | refine aD ?_ | refine aG fun _ => ?_ | refine ga ?_ | refine ky (fun _ => ?_) fun _ => ?_ | refine ko (fun _ => ?_) fun _ => ?_ | refine iq (fun _ => ?_) fun _ => ?_ | refine aZ rfl ?_ | refine aJ rfl ?_ | refine bf (fun _ => ?_) fun _ => ?_ | refine ld ?_ | refine mY ?_ | refine kc ?_ | refine q_e ?_ | refine q_p fun _ _ => ?_ | refine q_b fun _ => ?_ | refine cT ?_ ?_ fun _ _ _ => ?_ | refine fJ ?_ ?_ fun _ _ _ => ?_ | refine ik ?_ | refine aV (gH ?_) fun _ _ => ?_ | refine aV (nx ?_ ?_) fun _ _ => ?_ | refine aV (o4 ?_) fun _ _ => ?_ | refine kF ?_ ?_ | refine lL ?_ ?_ | refine lh ?_ ?_ | refine n_d ?_ ?_ | refine jy (fun _ => ?_) fun _ => ?_ | exact safe | refine aY ?_) | exact trivial | dsimp only [Nx, Dn] | with_reducible (first | rfl | refine And.intro ?_ ?_ | intro _ | contradiction) | omega | refine cd (by decide) ?_ | (simp (disch := omega) only [wrap64, fP, fK, List.length_append, List.length_cons, List.length_nil, List.length_take, List.length_drop, List.length_set, List.length_replicate, List.length_reverse] <;> omega) | (simp (disch := omega) only [wrap64, fP, fK, List.length_append, List.length_cons, List.length_nil, List.length_take, List.length_drop, List.length_set, List.length_replicate, List.length_reverse] at * <;> omega) | exact Int.tmod_nonneg _ (by omega) | (simp_all [ei, fo, dq, fC] <;> omega))
theorem tB {a b} (ha : List.length a ≤ 8) (hb : List.length b ≤ 8) : (R.fE a b).sat (fun r => r.1.length ≤ 8 ∧ r.2.length ≤ 300) := by
  unfold R.fE
  refine aG fun _ => ik (kF (by omega) (ik (kF (by omega) (n_d (by omega) ?_))))
  rw [wrap64 (by omega)]
  refine aV (lB (Q := fun r => r.2.length = a.length ∧ r.1.length ≤ 300) (fun i => (i.2.1 + 1).toNat) (by simp; omega) (fun x => -1 ≤ x.2.1 ∧ x.2.1 < a.length ∧ x.2.2.length = a.length ∧ (x.1.length : Int) + 32 * (x.2.1 + 1) ≤ 32 * a.length) (by simp; omega) fun i ⟨i1, i2, i3, i4⟩ => ko (fun hi => ?_) fun _ => ?_) fun x hx => ?_
  · refine aV (lB (Q := fun r => r.2.length = a.length ∧ (r.1.length : Int) + 32 * i.2.1 ≤ 32 * a.length) (fun k => (k.2.1 + 1).toNat) (by simp) (fun x => -1 ≤ x.2.1 ∧ x.2.1 ≤ 31 ∧ x.2.2.length = a.length ∧ (x.1.length : Int) + 32 * i.2.1 + (x.2.1 + 1) ≤ 32 * a.length) (by simp; omega) fun k ⟨k1, k2, k3, k4⟩ => ko (fun hk => ?_) fun _ => ?_) fun x hx => ?_ <;> exact dw2
  · exact dw2
  · exact dw2
instance BI {a_0 b_1} : Safe (R.jr a_0 b_1) := by
  unfold R.jr
  refine ⟨?_⟩
  exact dw2
instance BJ {a_0 b_1} : Safe (R.jo a_0 b_1) := by
  unfold R.jo
  refine ⟨?_⟩
  exact dw2
instance AN {a} : u9 (R.cu a) (a.1 == 3 || a.1 == 4) := ⟨by unfold R.cu; refine aG fun _ => bf (fun h => ?_) fun h => ?_ <;> exact aD (by simp [h])⟩
instance sf_num_Of {n_0} : Safe (R.kn n_0) := by unfold R.kn; exact dw0
instance BP {a_0 b_1} : Safe (R.jH a_0 b_1) := by unfold R.jH; exact dw0
instance BF {a_0 b_1} : Safe (R.jt a_0 b_1) := by unfold R.jt; exact dw0
instance Ap {a_0} : Safe (R.gE a_0) := by unfold R.gE; exact dw0
instance yf {a} : u9 (R.bu a) (a.1 == 1 || a.1 == 0 && a.2 == 0) := ⟨by
  unfold R.bu; refine aG fun _ => bf (fun h => ?_) fun h => ?_
  · exact aD (by simp [h])
  · refine bf (fun h2 => ?_) fun h2 => ?_ <;> exact aD (by simp [h, h2])⟩
instance A4 {a} : iL (R.dZ a) (fun r => -9007199254740991 ≤ a → a ≤ 9007199254740991 → r = max a (-a)) := ⟨by
  unfold R.dZ
  refine aG fun _ => aD fun h1 h2 => ?_
  rw [wrap64 (by omega), fK]
  simp [IntKind.wrap, IntKind.signed, IntKind.bits]
  omega⟩
instance zl {x_0 y_1} : Safe (R.gM x_0 y_1) := by
  unfold R.gM
  refine ⟨?_⟩
  exact dw6
instance zj {n_0 neg_1} : Safe (R.eI n_0 neg_1) := by unfold R.eI; exact dw0
instance BQ {a_0 b_1} : Safe (R.jn a_0 b_1) := by unfold R.jn; exact dw0
instance BD {a b} : Safe (R.ju a b) := by
  unfold R.ju
  refine ⟨aG fun _ => q_p fun (x : Int × Int) hx => aG fun _ => q_p fun (y : Int × Int) hy => aG fun _ => ?_⟩
  refine q_b fun s1 => q_b fun s2 => ?_
  refine aV (R := fun c => c = false → y.1 ≠ 2) (by exact dw2) fun c hc => bf (fun _ => (by exact dw2)) fun hc' => ?_
  have h1 := hc hc'
  refine aV (R := fun c => c = false → y.1 ≠ 1 ∧ (y.1 = 0 → y.2 ≠ 0)) (by exact dw2) fun d hd => bf (fun _ => (by exact dw2)) fun hd' => ?_
  have h2 := hd hd'
  refine aV (R := fun c => c = false → y.1 ≠ 3 ∧ y.1 ≠ 4) (by exact dw2) fun d hd => bf (fun _ => (by exact dw2)) fun hd' => ?_
  have h5 := hd hd'
  have h3 := hx; have h4 := hy
  have hk : ∀ v : Int, (-9007199254740991 ≤ y.2 → y.2 ≤ 9007199254740991 → v = max y.2 (-y.2)) → v ≠ 0 := fun v hv => by
    by_cases h0 : y.1 = 0
    · have := h4.1 h0; have := hv this.1 this.2; have := h2.2 h0; omega
    · have := h4.2 h0; omega
  refine q_p fun u hu => aG fun _ => q_p fun (v : Int) hv => aG fun _ => ?_
  have hv0 := hk v hv
  refine lh hv0 (bf (fun _ => (by exact dw2)) fun _ => ?_)
  refine q_p fun u hu => aG fun _ => q_p fun (v : Int) hv => aG fun _ => ?_
  have hv0 := hk v hv
  exact dw2
instance BZ {a b} : Safe (R.jl a b) := by
  unfold R.jl
  refine ⟨aG fun _ => q_p fun (x : Int × Int) hx => aG fun _ => q_p fun (y : Int × Int) hy => aG fun _ => ?_⟩
  refine aV (R := fun c => c = false → y.1 ≠ 2 ∧ y.1 ≠ 1 ∧ (y.1 = 0 → y.2 ≠ 0)) (by exact dw2) fun c hc => bf (fun _ => (by exact dw2)) fun hc' => ?_
  have h1 := hc hc'
  refine aV (R := fun c => c = false → y.1 ≠ 3 ∧ y.1 ≠ 4) (by exact dw2) fun d hd => bf (fun _ => (by exact dw2)) fun hd' => ?_
  have h2 := hd hd'
  have h3 := hx; have h4 := hy
  refine q_p fun u hu => aG fun _ => q_p fun (v : Int) (hv : -9007199254740991 ≤ y.2 → y.2 ≤ 9007199254740991 → v = max y.2 (-y.2)) => aG fun _ => ?_
  have hv0 : v ≠ 0 := by
    by_cases h0 : y.1 = 0
    · have := h4.1 h0; have := hv this.1 this.2; have := h1.2.2 h0; omega
    · have := h4.2 h0; omega
  exact dw2
instance vt {x_0} : Safe (R.cr x_0) := by unfold R.cr; exact dw0
instance ua {x_0 y_1} : Safe (R.cK x_0 y_1) := by unfold R.cK; exact dw0
instance sv {a b} : Safe (R.bd a b) := by
  unfold R.bd
  refine ⟨aG fun h => ?_⟩
  simp only [Sg.i, oks, Sh.ok, Ty.ok, List.map, Par.v, Bool.and_eq_true] at h
  have := lI h.1
  refine aV (pA (fun i => i) a.length (by omega) (by omega) (by omega) fun i h0 h1 => ?_).ok fun x _ => ?_ <;> exact dw3
instance AF {a_0 b_1} : Safe (R.iY a_0 b_1) := by unfold R.iY; exact dw0
instance BH {a_0 b_1} : Safe (R.iM a_0 b_1) := by unfold R.iM; exact dw0
instance sf_big_Of {n_0} : Safe (R.ja n_0) := by
  unfold R.ja
  refine ⟨?_⟩
  exact dw3
instance zM {b_0 a_1} : Safe (R.eh b_0 a_1) := by unfold R.eh; exact dw0
instance BA {a_0 b_1} : Safe (R.jB a_0 b_1) := by unfold R.jB; exact dw0
instance zd {x_0 y_1} : Safe (R.gI x_0 y_1) := by unfold R.gI; exact dw0
instance tr {a b} : Safe (R.cM a b) := by
  unfold R.cM
  refine ⟨aG fun h => ?_⟩
  simp only [Sg.i, oks, Sh.ok, Ty.ok, List.map, Par.v, Bool.and_eq_true] at h
  have := lI h.1
  refine ga (iq (fun _ => ?_) fun _ => ?_) <;> try exact aD trivial
  refine aV (pA (fun i => i) a.length (by omega) (by omega) (by omega) fun i h0 h1 => ?_).ok fun x _ => ?_ <;> exact dw3
instance zz {a_0 b_1} : Safe (R.iW a_0 b_1) := by unfold R.iW; exact dw0
instance y0 {a_0 b_1} : Safe (R.eL a_0 b_1) := by unfold R.eL; exact dw0
instance Am {v_0} : Safe (R.gW v_0) := by unfold R.gW; exact dw0
instance yd {v_0} : Safe (R.eF v_0) := by unfold R.eF; exact dw0
instance A2 {a_0 b_1} : Safe (R.jA a_0 b_1) := by unfold R.jA; exact dw0
instance zi {b_0 a_1} : Safe (R.gf b_0 a_1) := by unfold R.gf; exact dw0
end Go.Mach
namespace Go.Mach
namespace Res
variable {α β : Type} {Q : β → Prop}
theorem aR {m : Res α} {k : α → Res β} (h : m.strip.isSome = true) (hk : (k (m.strip.get h)).sat Q) : (m.bind k).sat Q := aQ (db (Option.some_get h).symm rfl) hk
theorem cS {t : Ty} {xs : List t.den} {i : Int} {k : t.den → Res β} (h0 : decide (0 ≤ i) = true) (h : (xs[i.toNat]?).isSome = true) (hk : (k ((xs[i.toNat]?).get h)).sat Q) : (idx t xs i k).sat Q := by
  refine fJ (of_decide_eq_true h0) (by simpa using h) fun x hx _ => ?_
  simp only [hx, Option.get_some] at hk
  exact hk
theorem jc {s : Sh} {xs : List s.den} {i : Int} {k : s.den → Res β} (h0 : decide (0 ≤ i) = true) (h : (xs[i.toNat]?).isSome = true) (hk : (k ((xs[i.toNat]?).get h)).sat Q) : (dY s xs i k).sat Q := by
  refine cT (of_decide_eq_true h0) (by simpa using h) fun x hx _ => ?_
  simp only [hx, Option.get_some] at hk
  exact hk
theorem wv {γ δ : Type} {x : γ ⊕ δ} {f : γ → Res β} {g : δ → Res β} (h : x.getLeft?.isSome = true) (hk : (f (x.getLeft?.get h)).sat Q) : (sum x f g).sat Q := by
  cases x
  · exact hk
  · cases h
theorem nu {γ δ : Type} {x : γ ⊕ δ} {f : γ → Res β} {g : δ → Res β} (h : x.getRight?.isSome = true) (hk : (g (x.getRight?.get h)).sat Q) : (sum x f g).sat Q := by
  cases x
  · cases h
  · exact hk
theorem aC {b : Bool} {k : Res β} (h : k.sat Q) : (given b k).sat Q := fun _ => h
theorem jQ {b e : Bool} {x y : Res β} (h : e = false) (hb : b = e) (hy : y.sat Q) : (br b x y).sat Q := aJ (hb.trans h) hy
def w5 (f : α → Res (Step α β)) (n : Nat) (Q : β → Prop) : Step α β → Prop
  | .next a => (loop f n a).sat Q
  | .done b => Q b
theorem jK {f : α → Res (Step α β)} {n : Nat} {a : α} (h : (loop f n a).sat Q) : w5 f n Q (.next a) := h
theorem lC {f : α → Res (Step α β)} {n : Nat} {b : β} (h : Q b) : w5 f n Q (.done b) := h
theorem fR {f : α → Res (Step α β)} {a : α} {n : Nat} (h : (f a).sat (w5 f n Q)) : (loop f (n + 1) a).sat Q := by
  unfold loop
  refine aV h fun s hs => ?_
  cases s with
  | next a' => exact hs
  | done b => exact hs
theorem kI {f : α → Res (Step α β)} {a : α} {k : Nat} (hk : fuel = k + 40) (h : (f a).sat (w5 f (k + 39) Q)) : (loop f fuel a).sat Q := by
  rw [hk]
  exact fR h
end Res
end Go.Mach
set_option maxRecDepth 100000
namespace Go.Mach
open Res
variable {n : Nat} {β : Type} {Q : β → Prop}
theorem gy {x0 x1 x2} {k : _ → Res β} (h : (R.eval_run_list (bz n) x0 x1 x2).sat fun a => (k a).sat Q) : (((bz (n + 1)).eval_run_list x0 x1 x2).bind k).sat Q := aY h
theorem ef {x0 x1 x2 x3} {k : _ → Res β} (h : (R.eval_run_statement (bz n) x0 x1 x2 x3).sat fun a => (k a).sat Q) : (((bz (n + 1)).eval_run_statement x0 x1 x2 x3).bind k).sat Q := aY h
theorem iS {x0 x1 x2 x3} {k : _ → Res β} (h : (R.eval_run_act (bz n) x0 x1 x2 x3).sat fun a => (k a).sat Q) : (((bz (n + 1)).eval_run_act x0 x1 x2 x3).bind k).sat Q := aY h
theorem aP {x0 x1 x2} {k : _ → Res β} (h : (R.eval_run_expression (bz n) x0 x1 x2).sat fun a => (k a).sat Q) : (((bz (n + 1)).eval_run_expression x0 x1 x2).bind k).sat Q := aY h
theorem cb {x0 x1 x2} {k : _ → Res β} (h : (R.eval_run_value (bz n) x0 x1 x2).sat fun a => (k a).sat Q) : (((bz (n + 1)).eval_run_value x0 x1 x2).bind k).sat Q := aY h
theorem bX {x0 x1 x2 x3} {k : _ → Res β} (h : (R.eval_run_operation (bz n) x0 x1 x2 x3).sat fun a => (k a).sat Q) : (((bz (n + 1)).eval_run_operation x0 x1 x2 x3).bind k).sat Q := aY h
theorem gB {x0 x1 x2} {k : _ → Res β} (h : (R.eval_run_binary (bz n) x0 x1 x2).sat fun a => (k a).sat Q) : (((bz (n + 1)).eval_run_binary x0 x1 x2).bind k).sat Q := aY h
theorem gA {x0 x1 x2} {k : _ → Res β} (h : (R.eval_run_callee (bz n) x0 x1 x2).sat fun a => (k a).sat Q) : (((bz (n + 1)).eval_run_callee x0 x1 x2).bind k).sat Q := aY h
theorem ed {x0 x1 x2} {k : _ → Res β} (h : (R.eval_run_arguments (bz n) x0 x1 x2).sat fun a => (k a).sat Q) : (((bz (n + 1)).eval_run_arguments x0 x1 x2).bind k).sat Q := aY h
theorem nV {x0 x1 x2 x3} {k : _ → Res β} (h : (R.eval_run_call (bz n) x0 x1 x2 x3).sat fun a => (k a).sat Q) : (((bz (n + 1)).eval_run_call x0 x1 x2 x3).bind k).sat Q := aY h
theorem na {x0 x1 x2 x3} {k : _ → Res β} (h : (R.eval_run_does (bz n) x0 x1 x2 x3).sat fun a => (k a).sat Q) : (((bz (n + 1)).eval_run_does x0 x1 x2 x3).bind k).sat Q := aY h
theorem nU {x0 x1 x2} {k : _ → Res β} (h : (R.eval_run_host (bz n) x0 x1 x2).sat fun a => (k a).sat Q) : (((bz (n + 1)).eval_run_host x0 x1 x2).bind k).sat Q := aY h
end Go.Mach
