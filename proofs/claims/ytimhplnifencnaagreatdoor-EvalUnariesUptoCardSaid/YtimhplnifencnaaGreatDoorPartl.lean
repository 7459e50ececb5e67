/-
  Proved here: the law renlaw12.EvalUnaries returns true for every input of the stated bulk and leaves its arguments as they were; no further condition.
  By an AI agent; no person has read it.
-/
import Derived.Test.YtimhplnifencnaaGreatDoorPartk
import Derived.Lib.ItoaLen
set_option linter.all false
set_option linter.deprecated false

set_option maxRecDepth 100000
namespace Go.Mach
open Res
instance (n) : Safe (pt n) := ⟨trivial⟩
instance (n) : Safe (vE n) := by unfold vE; split <;> exact ⟨trivial⟩
instance (n c) : Safe (ixbRun n c) := ⟨trivial⟩
theorem bu {a} (hl : List.length a ≤ 2 ^ 40) : (R.aq a).sat (fun r => r.length = a.length) := by
  unfold R.aq
  refine aL fun h => ?_
  have hn : List.length (α := (Ty.int IntKind.u8).den) (kU a) = a.length := by simp [kU]
  refine aW (y5 (Q := fun r => r.length = a.length) (fun i => i.2) a.length (by omega) (fun x => x.1.length = x.2.toNat) (by simp) (by simp) (by simp) fun i h0 h1 hI => ?_) fun x hx => ?_ <;> repeat' (first | with_reducible (first | refine aE ?_ | refine aL fun _ => ?_ | refine fN ?_ | refine kg (fun _ => ?_) fun _ => ?_ | refine kZ (fun _ => ?_) fun _ => ?_ | refine iW (fun _ => ?_) fun _ => ?_ | refine al rfl ?_ | refine aJ rfl ?_ | refine cj (fun _ => ?_) fun _ => ?_ | refine lJ ?_ | refine lI ?_ | refine jZ ?_ | refine q_e ?_ | refine q_p fun _ _ => ?_ | refine q_b fun _ => ?_ | refine cG ?_ ?_ fun _ _ _ => ?_ | refine ee ?_ ?_ fun _ _ _ => ?_ | refine iZ ?_ | refine aW (bu ?_) fun _ _ => ?_ | refine jw ?_ ?_ | refine kp ?_ ?_ | refine lF ?_ ?_ | refine n_d ?_ ?_ | refine jS (fun _ => ?_) fun _ => ?_ | exact safe | refine aa ?_) | exact trivial | dsimp only [Nx, Dn] | with_reducible (first | rfl | refine And.intro ?_ ?_ | intro _ | contradiction) | omega | refine cH (by decide) ?_ | (simp (disch := omega) only [wrap64, cS, cZ, List.length_append, List.length_cons, List.length_nil, List.length_take, List.length_drop, List.length_set, List.length_replicate, List.length_reverse] <;> omega) | (simp (disch := omega) only [wrap64, cS, cZ, List.length_append, List.length_cons, List.length_nil, List.length_take, List.length_drop, List.length_set, List.length_replicate, List.length_reverse] at * <;> omega) | exact Int.tmod_nonneg _ (by omega) | (simp_all [dQ, eL, cr, dX] <;> omega))
instance zQ {x_0} : Safe (R.gH x_0) := by unfold R.gH; repeat' (first | with_reducible (first | apply Safe.g' | apply Safe.br' | apply Safe.bd' | apply Safe.sm' | intro _ | infer_instance))
instance zT {x_0} : Safe (R.eu x_0) := by unfold R.eu; repeat' (first | with_reducible (first | apply Safe.g' | apply Safe.br' | apply Safe.bd' | apply Safe.sm' | intro _ | infer_instance))
instance tx {a b} : Safe (R.cA a b) := by
  unfold R.cA
  refine ⟨aL fun h => ?_⟩
  simp only [Sg.i, oks, Sh.ok, Ty.ok, List.map, Par.v, Bool.and_eq_true] at h
  have := mV h.1
  refine aW (sV (fun i => i) a.length (by omega) (by omega) (by omega) fun i h0 h1 => ?_).ok fun x _ => ?_ <;> repeat' (first | with_reducible (first | refine aE ?_ | refine aL fun _ => ?_ | refine fN ?_ | refine kg (fun _ => ?_) fun _ => ?_ | refine kZ (fun _ => ?_) fun _ => ?_ | refine iW (fun _ => ?_) fun _ => ?_ | refine al rfl ?_ | refine aJ rfl ?_ | refine cj (fun _ => ?_) fun _ => ?_ | refine lJ ?_ | refine lI ?_ | refine jZ ?_ | refine q_e ?_ | refine q_p fun _ _ => ?_ | refine q_b fun _ => ?_ | refine cG ?_ ?_ fun _ _ _ => ?_ | refine ee ?_ ?_ fun _ _ _ => ?_ | refine iZ ?_ | refine aW (bu ?_) fun _ _ => ?_ | refine jw ?_ ?_ | refine kp ?_ ?_ | refine lF ?_ ?_ | refine n_d ?_ ?_ | refine jS (fun _ => ?_) fun _ => ?_ | exact safe | refine aa ?_) | exact trivial | dsimp only [Nx, Dn] | with_reducible (first | rfl | refine And.intro ?_ ?_ | intro _ | contradiction) | omega | refine cH (by decide) ?_ | (simp (disch := omega) only [wrap64, cS, cZ, List.length_append, List.length_cons, List.length_nil, List.length_take, List.length_drop, List.length_set, List.length_replicate, List.length_reverse] <;> omega) | (simp (disch := omega) only [wrap64, cS, cZ, List.length_append, List.length_cons, List.length_nil, List.length_take, List.length_drop, List.length_set, List.length_replicate, List.length_reverse] at * <;> omega) | exact Int.tmod_nonneg _ (by omega) | (simp_all [dQ, eL, cr, dX] <;> omega))
instance si {s_0 v_1} : Safe (R.bg s_0 v_1) := by unfold R.bg; repeat' (first | with_reducible (first | apply Safe.g' | apply Safe.br' | apply Safe.bd' | apply Safe.sm' | intro _ | infer_instance))
instance yP {a} : Safe (R.fL a) := by
  unfold R.fL
  refine ⟨aL fun h => ?_⟩
  simp only [Sg.i, oks, Sh.ok, Ty.ok, List.map, Par.v, Bool.and_eq_true] at h
  have := mV h
  refine aW (sV (fun i => i.2) a.length (by omega) (by omega) (by simp) fun i h0 h1 => ?_).ok fun x _ => ?_ <;> repeat' (first | with_reducible (first | refine aE ?_ | refine aL fun _ => ?_ | refine fN ?_ | refine kg (fun _ => ?_) fun _ => ?_ | refine kZ (fun _ => ?_) fun _ => ?_ | refine iW (fun _ => ?_) fun _ => ?_ | refine al rfl ?_ | refine aJ rfl ?_ | refine cj (fun _ => ?_) fun _ => ?_ | refine lJ ?_ | refine lI ?_ | refine jZ ?_ | refine q_e ?_ | refine q_p fun _ _ => ?_ | refine q_b fun _ => ?_ | refine cG ?_ ?_ fun _ _ _ => ?_ | refine ee ?_ ?_ fun _ _ _ => ?_ | refine iZ ?_ | refine aW (bu ?_) fun _ _ => ?_ | refine jw ?_ ?_ | refine kp ?_ ?_ | refine lF ?_ ?_ | refine n_d ?_ ?_ | refine jS (fun _ => ?_) fun _ => ?_ | exact safe | refine aa ?_) | exact trivial | dsimp only [Nx, Dn] | with_reducible (first | rfl | refine And.intro ?_ ?_ | intro _ | contradiction) | omega | refine cH (by decide) ?_ | (simp (disch := omega) only [wrap64, cS, cZ, List.length_append, List.length_cons, List.length_nil, List.length_take, List.length_drop, List.length_set, List.length_replicate, List.length_reverse] <;> omega) | (simp (disch := omega) only [wrap64, cS, cZ, List.length_append, List.length_cons, List.length_nil, List.length_take, List.length_drop, List.length_set, List.length_replicate, List.length_reverse] at * <;> omega) | exact Int.tmod_nonneg _ (by omega) | (simp_all [dQ, eL, cr, dX] <;> omega))
instance tg {a b} : Safe (R.bl a b) := by
  unfold R.bl
  refine ⟨aL fun h => ?_⟩
  simp only [Sg.i, oks, Sh.ok, Ty.ok, List.map, Par.v, Bool.and_eq_true] at h
  have := mV h.1
  refine fN (iW (fun _ => ?_) fun _ => ?_) <;> try exact aE trivial
  refine aW (sV (fun i => i) a.length (by omega) (by omega) (by omega) fun i h0 h1 => ?_).ok fun x _ => ?_ <;> repeat' (first | with_reducible (first | refine aE ?_ | refine aL fun _ => ?_ | refine fN ?_ | refine kg (fun _ => ?_) fun _ => ?_ | refine kZ (fun _ => ?_) fun _ => ?_ | refine iW (fun _ => ?_) fun _ => ?_ | refine al rfl ?_ | refine aJ rfl ?_ | refine cj (fun _ => ?_) fun _ => ?_ | refine lJ ?_ | refine lI ?_ | refine jZ ?_ | refine q_e ?_ | refine q_p fun _ _ => ?_ | refine q_b fun _ => ?_ | refine cG ?_ ?_ fun _ _ _ => ?_ | refine ee ?_ ?_ fun _ _ _ => ?_ | refine iZ ?_ | refine aW (bu ?_) fun _ _ => ?_ | refine jw ?_ ?_ | refine kp ?_ ?_ | refine lF ?_ ?_ | refine n_d ?_ ?_ | refine jS (fun _ => ?_) fun _ => ?_ | exact safe | refine aa ?_) | exact trivial | dsimp only [Nx, Dn] | with_reducible (first | rfl | refine And.intro ?_ ?_ | intro _ | contradiction) | omega | refine cH (by decide) ?_ | (simp (disch := omega) only [wrap64, cS, cZ, List.length_append, List.length_cons, List.length_nil, List.length_take, List.length_drop, List.length_set, List.length_replicate, List.length_reverse] <;> omega) | (simp (disch := omega) only [wrap64, cS, cZ, List.length_append, List.length_cons, List.length_nil, List.length_take, List.length_drop, List.length_set, List.length_replicate, List.length_reverse] at * <;> omega) | exact Int.tmod_nonneg _ (by omega) | (simp_all [dQ, eL, cr, dX] <;> omega))
instance zs {a_0 b_1} : Safe (R.ga a_0 b_1) := by unfold R.ga; repeat' (first | with_reducible (first | apply Safe.g' | apply Safe.br' | apply Safe.bd' | apply Safe.sm' | intro _ | infer_instance))
instance xt {x_0} : Safe (R.ef x_0) := by unfold R.ef; repeat' (first | with_reducible (first | apply Safe.g' | apply Safe.br' | apply Safe.bd' | apply Safe.sm' | intro _ | infer_instance))
instance nS {a b} : Safe (R.aS a b) := by
  unfold R.aS
  refine ⟨aL fun h => ?_⟩
  simp only [Sg.i, oks, Sh.ok, Ty.ok, List.map, Par.v, Bool.and_eq_true] at h
  have := mV h.1
  refine aW (sV (fun i => i) a.length (by omega) (by omega) (by omega) fun i h0 h1 => ?_).ok fun x _ => ?_ <;> repeat' (first | with_reducible (first | refine aE ?_ | refine aL fun _ => ?_ | refine fN ?_ | refine kg (fun _ => ?_) fun _ => ?_ | refine kZ (fun _ => ?_) fun _ => ?_ | refine iW (fun _ => ?_) fun _ => ?_ | refine al rfl ?_ | refine aJ rfl ?_ | refine cj (fun _ => ?_) fun _ => ?_ | refine lJ ?_ | refine lI ?_ | refine jZ ?_ | refine q_e ?_ | refine q_p fun _ _ => ?_ | refine q_b fun _ => ?_ | refine cG ?_ ?_ fun _ _ _ => ?_ | refine ee ?_ ?_ fun _ _ _ => ?_ | refine iZ ?_ | refine aW (bu ?_) fun _ _ => ?_ | refine jw ?_ ?_ | refine kp ?_ ?_ | refine lF ?_ ?_ | refine n_d ?_ ?_ | refine jS (fun _ => ?_) fun _ => ?_ | exact safe | refine aa ?_) | exact trivial | dsimp only [Nx, Dn] | with_reducible (first | rfl | refine And.intro ?_ ?_ | intro _ | contradiction) | omega | refine cH (by decide) ?_ | (simp (disch := omega) only [wrap64, cS, cZ, List.length_append, List.length_cons, List.length_nil, List.length_take, List.length_drop, List.length_set, List.length_replicate, List.length_reverse] <;> omega) | (simp (disch := omega) only [wrap64, cS, cZ, List.length_append, List.length_cons, List.length_nil, List.length_take, List.length_drop, List.length_set, List.length_replicate, List.length_reverse] at * <;> omega) | exact Int.tmod_nonneg _ (by omega) | (simp_all [dQ, eL, cr, dX] <;> omega))
instance mY {s_0 f_1} : Safe (R.aR s_0 f_1) := by unfold R.aR; repeat' (first | with_reducible (first | apply Safe.g' | apply Safe.br' | apply Safe.bd' | apply Safe.sm' | intro _ | infer_instance))
instance zM {a} : Safe (R.gJ a) := by
  unfold R.gJ
  refine ⟨aL fun h => ?_⟩
  simp only [Sg.i, oks, Sh.ok, Ty.ok, List.map, Par.v, Bool.and_eq_true] at h
  have := mV h
  refine aW (sV (fun i => i.2) a.length (by omega) (by omega) (by simp) fun i h0 h1 => ?_).ok fun x _ => ?_ <;> repeat' (first | with_reducible (first | refine aE ?_ | refine aL fun _ => ?_ | refine fN ?_ | refine kg (fun _ => ?_) fun _ => ?_ | refine kZ (fun _ => ?_) fun _ => ?_ | refine iW (fun _ => ?_) fun _ => ?_ | refine al rfl ?_ | refine aJ rfl ?_ | refine cj (fun _ => ?_) fun _ => ?_ | refine lJ ?_ | refine lI ?_ | refine jZ ?_ | refine q_e ?_ | refine q_p fun _ _ => ?_ | refine q_b fun _ => ?_ | refine cG ?_ ?_ fun _ _ _ => ?_ | refine ee ?_ ?_ fun _ _ _ => ?_ | refine iZ ?_ | refine aW (bu ?_) fun _ _ => ?_ | refine jw ?_ ?_ | refine kp ?_ ?_ | refine lF ?_ ?_ | refine n_d ?_ ?_ | refine jS (fun _ => ?_) fun _ => ?_ | exact safe | refine aa ?_) | exact trivial | dsimp only [Nx, Dn] | with_reducible (first | rfl | refine And.intro ?_ ?_ | intro _ | contradiction) | omega | refine cH (by decide) ?_ | (simp (disch := omega) only [wrap64, cS, cZ, List.length_append, List.length_cons, List.length_nil, List.length_take, List.length_drop, List.length_set, List.length_replicate, List.length_reverse] <;> omega) | (simp (disch := omega) only [wrap64, cS, cZ, List.length_append, List.length_cons, List.length_nil, List.length_take, List.length_drop, List.length_set, List.length_replicate, List.length_reverse] at * <;> omega) | exact Int.tmod_nonneg _ (by omega) | (simp_all [dQ, eL, cr, dX] <;> omega))
instance AX {a_0} : Safe (R.gV a_0) := by unfold R.gV; repeat' (first | with_reducible (first | apply Safe.g' | apply Safe.br' | apply Safe.bd' | apply Safe.sm' | intro _ | infer_instance))
instance Ad : Safe (R.dc) := by unfold R.dc; repeat' (first | with_reducible (first | apply Safe.g' | apply Safe.br' | apply Safe.bd' | apply Safe.sm' | intro _ | infer_instance))
instance sf_num_as {a} : jt (R.dA a) (fun r : Int × Int => (r.1 = 0 → -9007199254740991 ≤ r.2 ∧ r.2 ≤ 9007199254740991) ∧ (r.1 ≠ 0 → 1 ≤ r.1 ∧ r.1 ≤ 4 ∧ r.2 = 0)) := ⟨by
  unfold R.dA R.gV R.dc
  refine aL fun _ => aa (aL fun _ => iW (fun _ => kZ (fun _ => ?_) fun _ => ?_) fun _ => aW (R := fun x => x = true → 1 ≤ a.1 ∧ a.1 ≤ 4) (by repeat' (first | with_reducible (first | refine aE ?_ | refine aL fun _ => ?_ | refine fN ?_ | refine kg (fun _ => ?_) fun _ => ?_ | refine kZ (fun _ => ?_) fun _ => ?_ | refine iW (fun _ => ?_) fun _ => ?_ | refine al rfl ?_ | refine aJ rfl ?_ | refine cj (fun _ => ?_) fun _ => ?_ | refine lJ ?_ | refine lI ?_ | refine jZ ?_ | refine q_e ?_ | refine q_p fun _ _ => ?_ | refine q_b fun _ => ?_ | refine cG ?_ ?_ fun _ _ _ => ?_ | refine ee ?_ ?_ fun _ _ _ => ?_ | refine iZ ?_ | refine aW (bu ?_) fun _ _ => ?_ | refine jw ?_ ?_ | refine kp ?_ ?_ | refine lF ?_ ?_ | refine n_d ?_ ?_ | refine jS (fun _ => ?_) fun _ => ?_ | exact safe | refine aa ?_) | exact trivial | dsimp only [Nx, Dn] | with_reducible (first | rfl | refine And.intro ?_ ?_ | intro _ | contradiction) | omega | refine cH (by decide) ?_ | (simp (disch := omega) only [wrap64, cS, cZ, List.length_append, List.length_cons, List.length_nil, List.length_take, List.length_drop, List.length_set, List.length_replicate, List.length_reverse] <;> omega) | (simp (disch := omega) only [wrap64, cS, cZ, List.length_append, List.length_cons, List.length_nil, List.length_take, List.length_drop, List.length_set, List.length_replicate, List.length_reverse] at * <;> omega) | exact Int.tmod_nonneg _ (by omega) | (simp_all [dQ, eL, cr, dX] <;> omega))) fun _ _ => ?_)
  · refine aE (fN (kZ (fun _ => aE ?_) fun _ => aa (aL fun _ => aE (aL fun _ => aE ?_)))) <;> constructor <;> intro _ <;> simp_all
  · refine aE (fN (aJ rfl (aa (aL fun _ => aE (aL fun _ => aE ?_))))); simp
  · refine cj (fun hx => aE (fN (iW (fun _ => aE ?_) fun _ => aa (aL fun _ => aE (aL fun _ => aE ?_))))) fun _ => aE (fN (aJ rfl (aa (aL fun _ => aE (aL fun _ => aE ?_))))) <;> simp_all⟩
instance Ac {neg_0} : Safe (R.iE neg_0) := by unfold R.iE; repeat' (first | with_reducible (first | apply Safe.g' | apply Safe.br' | apply Safe.bd' | apply Safe.sm' | intro _ | infer_instance))
instance AG {n_0} : Safe (R.bQ n_0) := by unfold R.bQ; repeat' (first | with_reducible (first | apply Safe.g' | apply Safe.br' | apply Safe.bd' | apply Safe.sm' | intro _ | infer_instance))
instance zL {neg_0} : Safe (R.dP neg_0) := by unfold R.dP; repeat' (first | with_reducible (first | apply Safe.g' | apply Safe.br' | apply Safe.bd' | apply Safe.sm' | intro _ | infer_instance))
instance AY {a_0} : Safe (R.iG a_0) := by unfold R.iG; repeat' (first | with_reducible (first | apply Safe.g' | apply Safe.br' | apply Safe.bd' | apply Safe.sm' | intro _ | infer_instance))
instance yq {a} : Safe (R.eN a) := by
  unfold R.eN
  refine ⟨aL fun h => ?_⟩
  simp only [Sg.i, oks, Sh.ok, Ty.ok, List.map, Par.v, Bool.and_eq_true] at h
  have := mV h
  refine aW (mK (Q := fun m => m.length ≤ a.length) (fun m => m.length) (by omega) (fun m => m.length ≤ a.length) (Nat.le_refl _) fun m hm => ?_) fun u hu => aW (mK (Q := fun m => m.length ≤ a.length) (fun m => m.length) (by omega) (fun m => m.length ≤ a.length) hu fun m hm => ?_) fun x hx => iW (fun _ => aE trivial) fun hne => cG (by omega) (by omega) fun e he _ => ?_
  · repeat' (first | with_reducible (first | refine aE ?_ | refine aL fun _ => ?_ | refine fN ?_ | refine kg (fun _ => ?_) fun _ => ?_ | refine kZ (fun _ => ?_) fun _ => ?_ | refine iW (fun _ => ?_) fun _ => ?_ | refine al rfl ?_ | refine aJ rfl ?_ | refine cj (fun _ => ?_) fun _ => ?_ | refine lJ ?_ | refine lI ?_ | refine jZ ?_ | refine q_e ?_ | refine q_p fun _ _ => ?_ | refine q_b fun _ => ?_ | refine cG ?_ ?_ fun _ _ _ => ?_ | refine ee ?_ ?_ fun _ _ _ => ?_ | refine iZ ?_ | refine aW (bu ?_) fun _ _ => ?_ | refine jw ?_ ?_ | refine kp ?_ ?_ | refine lF ?_ ?_ | refine n_d ?_ ?_ | refine jS (fun _ => ?_) fun _ => ?_ | exact safe | refine aa ?_) | exact trivial | dsimp only [Nx, Dn] | with_reducible (first | rfl | refine And.intro ?_ ?_ | intro _ | contradiction) | omega | refine cH (by decide) ?_ | (simp (disch := omega) only [wrap64, cS, cZ, List.length_append, List.length_cons, List.length_nil, List.length_take, List.length_drop, List.length_set, List.length_replicate, List.length_reverse] <;> omega) | (simp (disch := omega) only [wrap64, cS, cZ, List.length_append, List.length_cons, List.length_nil, List.length_take, List.length_drop, List.length_set, List.length_replicate, List.length_reverse] at * <;> omega) | exact Int.tmod_nonneg _ (by omega) | (simp_all [dQ, eL, cr, dX] <;> omega))
  · repeat' (first | with_reducible (first | refine aE ?_ | refine aL fun _ => ?_ | refine fN ?_ | refine kg (fun _ => ?_) fun _ => ?_ | refine kZ (fun _ => ?_) fun _ => ?_ | refine iW (fun _ => ?_) fun _ => ?_ | refine al rfl ?_ | refine aJ rfl ?_ | refine cj (fun _ => ?_) fun _ => ?_ | refine lJ ?_ | refine lI ?_ | refine jZ ?_ | refine q_e ?_ | refine q_p fun _ _ => ?_ | refine q_b fun _ => ?_ | refine cG ?_ ?_ fun _ _ _ => ?_ | refine ee ?_ ?_ fun _ _ _ => ?_ | refine iZ ?_ | refine aW (bu ?_) fun _ _ => ?_ | refine jw ?_ ?_ | refine kp ?_ ?_ | refine lF ?_ ?_ | refine n_d ?_ ?_ | refine jS (fun _ => ?_) fun _ => ?_ | exact safe | refine aa ?_) | exact trivial | dsimp only [Nx, Dn] | with_reducible (first | rfl | refine And.intro ?_ ?_ | intro _ | contradiction) | omega | refine cH (by decide) ?_ | (simp (disch := omega) only [wrap64, cS, cZ, List.length_append, List.length_cons, List.length_nil, List.length_take, List.length_drop, List.length_set, List.length_replicate, List.length_reverse] <;> omega) | (simp (disch := omega) only [wrap64, cS, cZ, List.length_append, List.length_cons, List.length_nil, List.length_take, List.length_drop, List.length_set, List.length_replicate, List.length_reverse] at * <;> omega) | exact Int.tmod_nonneg _ (by omega) | (simp_all [dQ, eL, cr, dX] <;> omega))
  · refine aW (R := fun _ => True) (by repeat' (first | with_reducible (first | refine aE ?_ | refine aL fun _ => ?_ | refine fN ?_ | refine kg (fun _ => ?_) fun _ => ?_ | refine kZ (fun _ => ?_) fun _ => ?_ | refine iW (fun _ => ?_) fun _ => ?_ | refine al rfl ?_ | refine aJ rfl ?_ | refine cj (fun _ => ?_) fun _ => ?_ | refine lJ ?_ | refine lI ?_ | refine jZ ?_ | refine q_e ?_ | refine q_p fun _ _ => ?_ | refine q_b fun _ => ?_ | refine cG ?_ ?_ fun _ _ _ => ?_ | refine ee ?_ ?_ fun _ _ _ => ?_ | refine iZ ?_ | refine aW (bu ?_) fun _ _ => ?_ | refine jw ?_ ?_ | refine kp ?_ ?_ | refine lF ?_ ?_ | refine n_d ?_ ?_ | refine jS (fun _ => ?_) fun _ => ?_ | exact safe | refine aa ?_) | exact trivial | dsimp only [Nx, Dn] | with_reducible (first | rfl | refine And.intro ?_ ?_ | intro _ | contradiction) | omega | refine cH (by decide) ?_ | (simp (disch := omega) only [wrap64, cS, cZ, List.length_append, List.length_cons, List.length_nil, List.length_take, List.length_drop, List.length_set, List.length_replicate, List.length_reverse] <;> omega) | (simp (disch := omega) only [wrap64, cS, cZ, List.length_append, List.length_cons, List.length_nil, List.length_take, List.length_drop, List.length_set, List.length_replicate, List.length_reverse] at * <;> omega) | exact Int.tmod_nonneg _ (by omega) | (simp_all [dQ, eL, cr, dX] <;> omega))) fun _ _ => ?_
    repeat' (first | with_reducible (first | refine aE ?_ | refine aL fun _ => ?_ | refine fN ?_ | refine kg (fun _ => ?_) fun _ => ?_ | refine kZ (fun _ => ?_) fun _ => ?_ | refine iW (fun _ => ?_) fun _ => ?_ | refine al rfl ?_ | refine aJ rfl ?_ | refine cj (fun _ => ?_) fun _ => ?_ | refine lJ ?_ | refine lI ?_ | refine jZ ?_ | refine q_e ?_ | refine q_p fun _ _ => ?_ | refine q_b fun _ => ?_ | refine cG ?_ ?_ fun _ _ _ => ?_ | refine ee ?_ ?_ fun _ _ _ => ?_ | refine iZ ?_ | refine aW (bu ?_) fun _ _ => ?_ | refine jw ?_ ?_ | refine kp ?_ ?_ | refine lF ?_ ?_ | refine n_d ?_ ?_ | refine jS (fun _ => ?_) fun _ => ?_ | exact safe | refine aa ?_) | exact trivial | dsimp only [Nx, Dn] | with_reducible (first | rfl | refine And.intro ?_ ?_ | intro _ | contradiction) | omega | refine cH (by decide) ?_ | (simp (disch := omega) only [wrap64, cS, cZ, List.length_append, List.length_cons, List.length_nil, List.length_take, List.length_drop, List.length_set, List.length_replicate, List.length_reverse] <;> omega) | (simp (disch := omega) only [wrap64, cS, cZ, List.length_append, List.length_cons, List.length_nil, List.length_take, List.length_drop, List.length_set, List.length_replicate, List.length_reverse] at * <;> omega) | exact Int.tmod_nonneg _ (by omega) | (simp_all [dQ, eL, cr, dX] <;> omega))
instance AZ {a} : jt (R.gR a) (fun r => r = true → (a.2.length : Int) ≤ 8) := by
  unfold R.gR
  refine ⟨aL fun h => ?_⟩
  simp only [Sg.i, oks, Sh.ok, Ty.ok, List.map, Par.v, Bool.and_eq_true] at h
  repeat' (first | with_reducible (first | refine aE ?_ | refine aL fun _ => ?_ | refine fN ?_ | refine kg (fun _ => ?_) fun _ => ?_ | refine kZ (fun _ => ?_) fun _ => ?_ | refine iW (fun _ => ?_) fun _ => ?_ | refine al rfl ?_ | refine aJ rfl ?_ | refine cj (fun _ => ?_) fun _ => ?_ | refine lJ ?_ | refine lI ?_ | refine jZ ?_ | refine q_e ?_ | refine q_p fun _ _ => ?_ | refine q_b fun _ => ?_ | refine cG ?_ ?_ fun _ _ _ => ?_ | refine ee ?_ ?_ fun _ _ _ => ?_ | refine iZ ?_ | refine aW (bu ?_) fun _ _ => ?_ | refine jw ?_ ?_ | refine kp ?_ ?_ | refine lF ?_ ?_ | refine n_d ?_ ?_ | refine jS (fun _ => ?_) fun _ => ?_ | exact safe | refine aa ?_) | exact trivial | dsimp only [Nx, Dn] | with_reducible (first | rfl | refine And.intro ?_ ?_ | intro _ | contradiction) | omega | refine cH (by decide) ?_ | (simp (disch := omega) only [wrap64, cS, cZ, List.length_append, List.length_cons, List.length_nil, List.length_take, List.length_drop, List.length_set, List.length_replicate, List.length_reverse] <;> omega) | (simp (disch := omega) only [wrap64, cS, cZ, List.length_append, List.length_cons, List.length_nil, List.length_take, List.length_drop, List.length_set, List.length_replicate, List.length_reverse] at * <;> omega) | exact Int.tmod_nonneg _ (by omega) | (simp_all [dQ, eL, cr, dX] <;> omega))
instance zr {a} : jt (R.fB a) (fun r => r = true → (a.2.2.1.2.length : Int) = 0 ∧ (a.2.2.2.1.length : Int) = 0) := by
  unfold R.fB
  refine ⟨?_⟩
  repeat' (first | with_reducible (first | refine aE ?_ | refine aL fun _ => ?_ | refine fN ?_ | refine kg (fun _ => ?_) fun _ => ?_ | refine kZ (fun _ => ?_) fun _ => ?_ | refine iW (fun _ => ?_) fun _ => ?_ | refine al rfl ?_ | refine aJ rfl ?_ | refine cj (fun _ => ?_) fun _ => ?_ | refine lJ ?_ | refine lI ?_ | refine jZ ?_ | refine q_e ?_ | refine q_p fun _ _ => ?_ | refine q_b fun _ => ?_ | refine cG ?_ ?_ fun _ _ _ => ?_ | refine ee ?_ ?_ fun _ _ _ => ?_ | refine iZ ?_ | refine aW (bu ?_) fun _ _ => ?_ | refine jw ?_ ?_ | refine kp ?_ ?_ | refine lF ?_ ?_ | refine n_d ?_ ?_ | refine jS (fun _ => ?_) fun _ => ?_ | exact safe | refine aa ?_) | exact trivial | dsimp only [Nx, Dn] | with_reducible (first | rfl | refine And.intro ?_ ?_ | intro _ | contradiction) | omega | refine cH (by decide) ?_ | (simp (disch := omega) only [wrap64, cS, cZ, List.length_append, List.length_cons, List.length_nil, List.length_take, List.length_drop, List.length_set, List.length_replicate, List.length_reverse] <;> omega) | (simp (disch := omega) only [wrap64, cS, cZ, List.length_append, List.length_cons, List.length_nil, List.length_take, List.length_drop, List.length_set, List.length_replicate, List.length_reverse] at * <;> omega) | exact Int.tmod_nonneg _ (by omega) | (simp_all [dQ, eL, cr, dX] <;> omega))
instance AL {a} : jt (R.fa a) (fun r => r = true → (a.2.2.1.2.length : Int) ≤ 8 ∧ (a.2.2.2.1.length : Int) ≤ 4096) := by
  unfold R.fa
  refine ⟨?_⟩
  repeat' (first | with_reducible (first | refine aE ?_ | refine aL fun _ => ?_ | refine fN ?_ | refine kg (fun _ => ?_) fun _ => ?_ | refine kZ (fun _ => ?_) fun _ => ?_ | refine iW (fun _ => ?_) fun _ => ?_ | refine al rfl ?_ | refine aJ rfl ?_ | refine cj (fun _ => ?_) fun _ => ?_ | refine lJ ?_ | refine lI ?_ | refine jZ ?_ | refine q_e ?_ | refine q_p fun _ _ => ?_ | refine q_b fun _ => ?_ | refine cG ?_ ?_ fun _ _ _ => ?_ | refine ee ?_ ?_ fun _ _ _ => ?_ | refine iZ ?_ | refine aW (bu ?_) fun _ _ => ?_ | refine jw ?_ ?_ | refine kp ?_ ?_ | refine lF ?_ ?_ | refine n_d ?_ ?_ | refine jS (fun _ => ?_) fun _ => ?_ | exact safe | refine aa ?_) | exact trivial | dsimp only [Nx, Dn] | with_reducible (first | rfl | refine And.intro ?_ ?_ | intro _ | contradiction) | omega | refine cH (by decide) ?_ | (simp (disch := omega) only [wrap64, cS, cZ, List.length_append, List.length_cons, List.length_nil, List.length_take, List.length_drop, List.length_set, List.length_replicate, List.length_reverse] <;> omega) | (simp (disch := omega) only [wrap64, cS, cZ, List.length_append, List.length_cons, List.length_nil, List.length_take, List.length_drop, List.length_set, List.length_replicate, List.length_reverse] at * <;> omega) | exact Int.tmod_nonneg _ (by omega) | (simp_all [dQ, eL, cr, dX] <;> omega))
instance zP {a} : jt (R.bF a) (fun r => (r.2.2.1.2.length : Int) ≤ 8 ∧ (r.2.2.2.1.length : Int) ≤ 4096) := by
  unfold R.bF
  refine ⟨aL fun _ => q_p fun b hb => fN (cj (fun h => aE (hb h)) fun _ => aE (by simp))⟩
instance zl {a} : yl (R.dC a) (a.1 == 2) := ⟨aL fun _ => aE rfl⟩
instance AP {a_0} : Safe (R.fw a_0) := by unfold R.fw; repeat' (first | with_reducible (first | apply Safe.g' | apply Safe.br' | apply Safe.bd' | apply Safe.sm' | intro _ | infer_instance))
instance zy {a_0 b_1} : Safe (R.fO a_0 b_1) := by unfold R.fO; repeat' (first | with_reducible (first | apply Safe.g' | apply Safe.br' | apply Safe.bd' | apply Safe.sm' | intro _ | infer_instance))
instance zi {v_0} : Safe (R.gG v_0) := by unfold R.gG; repeat' (first | with_reducible (first | apply Safe.g' | apply Safe.br' | apply Safe.bd' | apply Safe.sm' | intro _ | infer_instance))
instance AQ {b_0} : Safe (R.iv b_0) := by unfold R.iv; repeat' (first | with_reducible (first | apply Safe.g' | apply Safe.br' | apply Safe.bd' | apply Safe.sm' | intro _ | infer_instance))
instance Af {a} : jt (R.cC a) (fun r => r.length ≤ 8) := by
  unfold R.cC
  refine ⟨aL fun _ => q_p fun b hb => fN (cj (fun h => aa (aE (aL fun _ => aE ?_))) fun _ => aE (by simp))⟩
  have := hb h
  show List.length a.2 ≤ 8
  omega
instance Aa {a_0} : Safe (R.eP a_0) := by unfold R.eP; repeat' (first | with_reducible (first | apply Safe.g' | apply Safe.br' | apply Safe.bd' | apply Safe.sm' | intro _ | infer_instance))
instance zN {a} : jt (R.fK a) (fun r => r.length ≤ a.length) := by
  unfold R.fK
  refine ⟨aL fun h => ?_⟩
  simp only [Sg.i, oks, Sh.ok, Ty.ok, List.map, Par.v, Bool.and_eq_true] at h
  have := zm h
  refine aW (mK (fun m => m.length) (by omega) (fun m => m.length ≤ a.length) (Nat.le_refl _) fun m hm => ?_) fun x hx => hx
  repeat' (first | with_reducible (first | refine aE ?_ | refine aL fun _ => ?_ | refine fN ?_ | refine kg (fun _ => ?_) fun _ => ?_ | refine kZ (fun _ => ?_) fun _ => ?_ | refine iW (fun _ => ?_) fun _ => ?_ | refine al rfl ?_ | refine aJ rfl ?_ | refine cj (fun _ => ?_) fun _ => ?_ | refine lJ ?_ | refine lI ?_ | refine jZ ?_ | refine q_e ?_ | refine q_p fun _ _ => ?_ | refine q_b fun _ => ?_ | refine cG ?_ ?_ fun _ _ _ => ?_ | refine ee ?_ ?_ fun _ _ _ => ?_ | refine iZ ?_ | refine aW (bu ?_) fun _ _ => ?_ | refine jw ?_ ?_ | refine kp ?_ ?_ | refine lF ?_ ?_ | refine n_d ?_ ?_ | refine jS (fun _ => ?_) fun _ => ?_ | exact safe | refine aa ?_) | exact trivial | dsimp only [Nx, Dn] | with_reducible (first | rfl | refine And.intro ?_ ?_ | intro _ | contradiction) | omega | refine cH (by decide) ?_ | (simp (disch := omega) only [wrap64, cS, cZ, List.length_append, List.length_cons, List.length_nil, List.length_take, List.length_drop, List.length_set, List.length_replicate, List.length_reverse] <;> omega) | (simp (disch := omega) only [wrap64, cS, cZ, List.length_append, List.length_cons, List.length_nil, List.length_take, List.length_drop, List.length_set, List.length_replicate, List.length_reverse] at * <;> omega) | exact Int.tmod_nonneg _ (by omega) | (simp_all [dQ, eL, cr, dX] <;> omega))
instance AU {a} : jt (R.fR a) (fun r => r.length ≤ a.length) := by
  unfold R.fR
  refine ⟨aL fun h => ?_⟩
  simp only [Sg.i, oks, Sh.ok, Ty.ok, List.map, Par.v, Bool.and_eq_true] at h
  have := mV h
  refine aW (mK (fun m => m.length) (by omega) (fun m => m.length ≤ a.length) (Nat.le_refl _) fun m hm => ?_) fun x hx => hx
  repeat' (first | with_reducible (first | refine aE ?_ | refine aL fun _ => ?_ | refine fN ?_ | refine kg (fun _ => ?_) fun _ => ?_ | refine kZ (fun _ => ?_) fun _ => ?_ | refine iW (fun _ => ?_) fun _ => ?_ | refine al rfl ?_ | refine aJ rfl ?_ | refine cj (fun _ => ?_) fun _ => ?_ | refine lJ ?_ | refine lI ?_ | refine jZ ?_ | refine q_e ?_ | refine q_p fun _ _ => ?_ | refine q_b fun _ => ?_ | refine cG ?_ ?_ fun _ _ _ => ?_ | refine ee ?_ ?_ fun _ _ _ => ?_ | refine iZ ?_ | refine aW (bu ?_) fun _ _ => ?_ | refine jw ?_ ?_ | refine kp ?_ ?_ | refine lF ?_ ?_ | refine n_d ?_ ?_ | refine jS (fun _ => ?_) fun _ => ?_ | exact safe | refine aa ?_) | exact trivial | dsimp only [Nx, Dn] | with_reducible (first | rfl | refine And.intro ?_ ?_ | intro _ | contradiction) | omega | refine cH (by decide) ?_ | (simp (disch := omega) only [wrap64, cS, cZ, List.length_append, List.length_cons, List.length_nil, List.length_take, List.length_drop, List.length_set, List.length_replicate, List.length_reverse] <;> omega) | (simp (disch := omega) only [wrap64, cS, cZ, List.length_append, List.length_cons, List.length_nil, List.length_take, List.length_drop, List.length_set, List.length_replicate, List.length_reverse] at * <;> omega) | exact Int.tmod_nonneg _ (by omega) | (simp_all [dQ, eL, cr, dX] <;> omega))
instance AN {a b} : jt (R.eZ a b) (fun r => r.2.length ≤ a.length) := by
  unfold R.eZ
  refine ⟨?_⟩
  repeat' (first | with_reducible (first | refine aE ?_ | refine aL fun _ => ?_ | refine fN ?_ | refine kg (fun _ => ?_) fun _ => ?_ | refine kZ (fun _ => ?_) fun _ => ?_ | refine iW (fun _ => ?_) fun _ => ?_ | refine al rfl ?_ | refine aJ rfl ?_ | refine cj (fun _ => ?_) fun _ => ?_ | refine lJ ?_ | refine lI ?_ | refine jZ ?_ | refine q_e ?_ | refine q_p fun _ _ => ?_ | refine q_b fun _ => ?_ | refine cG ?_ ?_ fun _ _ _ => ?_ | refine ee ?_ ?_ fun _ _ _ => ?_ | refine iZ ?_ | refine aW (bu ?_) fun _ _ => ?_ | refine jw ?_ ?_ | refine kp ?_ ?_ | refine lF ?_ ?_ | refine n_d ?_ ?_ | refine jS (fun _ => ?_) fun _ => ?_ | exact safe | refine aa ?_) | exact trivial | dsimp only [Nx, Dn] | with_reducible (first | rfl | refine And.intro ?_ ?_ | intro _ | contradiction) | omega | refine cH (by decide) ?_ | (simp (disch := omega) only [wrap64, cS, cZ, List.length_append, List.length_cons, List.length_nil, List.length_take, List.length_drop, List.length_set, List.length_replicate, List.length_reverse] <;> omega) | (simp (disch := omega) only [wrap64, cS, cZ, List.length_append, List.length_cons, List.length_nil, List.length_take, List.length_drop, List.length_set, List.length_replicate, List.length_reverse] at * <;> omega) | exact Int.tmod_nonneg _ (by omega) | (simp_all [dQ, eL, cr, dX] <;> omega))
instance Ab {a_0} : Safe (R.iz a_0) := by unfold R.iz; repeat' (first | with_reducible (first | apply Safe.g' | apply Safe.br' | apply Safe.bd' | apply Safe.sm' | intro _ | infer_instance))
instance zO {a} : jt (R.ea a) (fun r => 0 ≤ r ∧ r < 4294967296) := ⟨by
  unfold R.ea
  refine aL fun _ => q_p fun x hx => aL fun _ => fN (iW (fun _ => aE ?_) fun _ => aE ?_)
  · have := wrap_u32 x.2
    rw [wrap64 (by omega)]; omega
  · omega⟩
instance AH {a_0} : Safe (R.gK a_0) := by unfold R.gK; repeat' (first | with_reducible (first | apply Safe.g' | apply Safe.br' | apply Safe.bd' | apply Safe.sm' | intro _ | infer_instance))
instance Ae {op_0 a_1 b_2} : Safe (R.i6 op_0 a_1 b_2) := by
  unfold R.i6
  refine ⟨?_⟩
  repeat' (first | with_reducible (first | refine aE ?_ | refine aL fun _ => ?_ | refine fN ?_ | refine kg (fun _ => ?_) fun _ => ?_ | refine kZ (fun _ => ?_) fun _ => ?_ | refine iW (fun _ => ?_) fun _ => ?_ | refine al rfl ?_ | refine aJ rfl ?_ | refine cj (fun _ => ?_) fun _ => ?_ | refine lJ ?_ | refine lI ?_ | refine jZ ?_ | refine q_e ?_ | refine q_p fun _ _ => ?_ | refine q_b fun _ => ?_ | refine cG ?_ ?_ fun _ _ _ => ?_ | refine ee ?_ ?_ fun _ _ _ => ?_ | refine iZ ?_ | refine aW (bu ?_) fun _ _ => ?_ | refine jw ?_ ?_ | refine kp ?_ ?_ | refine lF ?_ ?_ | refine n_d ?_ ?_ | refine jS (fun _ => ?_) fun _ => ?_ | exact safe | refine aa ?_) | exact trivial | dsimp only [Nx, Dn] | with_reducible (first | rfl | refine And.intro ?_ ?_ | intro _ | contradiction) | omega | refine cH (by decide) ?_ | (simp (disch := omega) only [wrap64, cS, cZ, List.length_append, List.length_cons, List.length_nil, List.length_take, List.length_drop, List.length_set, List.length_replicate, List.length_reverse] <;> omega) | (simp (disch := omega) only [wrap64, cS, cZ, List.length_append, List.length_cons, List.length_nil, List.length_take, List.length_drop, List.length_set, List.length_replicate, List.length_reverse] at * <;> omega) | exact Int.tmod_nonneg _ (by omega) | (simp_all [dQ, eL, cr, dX] <;> omega))
instance AW {a} : jt (R.iu a) (fun r => r.length ≤ 2 ^ 40) := by
  unfold R.iu
  refine ⟨aL fun _ => q_p fun (x : Int × Int) hx => aL fun _ => iW (fun _ => aE (by simp)) fun _ => iW (fun _ => aE (by simp)) fun _ => iW (fun _ => aE (by simp)) fun _ => aT (a := Lib.itoa x.2) rfl (aL fun _ => aE ?_)⟩
  have h : -9223372036854775808 ≤ x.2 ∧ x.2 ≤ 9223372036854775807 := by
    have h3 := hx
    by_cases h0 : x.1 = 0
    · have := h3.1 h0; omega
    · have := h3.2 h0; omega
  exact Nat.le_trans (Lib.itoa_length_le x.2 h.1 h.2) (by decide)
theorem qf {a : List Int} : (R.bX a).sat (fun r => List.length r.2 = a.length) := by
  unfold R.bX
  refine aL fun h => ?_
  simp only [Sg.i, oks, Sh.ok, Ty.ok, List.map, Par.v, Bool.and_eq_true] at h
  have := mV h
  rw [wrap64 (by omega)]
  refine aW (mK (Q := fun r => r.length = a.length) (fun i => (i.2.1 - i.1 + 1).toNat) (by simp; omega) (fun i => 0 ≤ i.1 ∧ i.1 ≤ i.2.1 + 1 ∧ i.2.1 < a.length ∧ i.2.2.length = a.length) (by simp <;> omega) fun i ⟨i1, i2, i3, i4⟩ => ?_) fun x hx => ?_ <;> repeat' (first | with_reducible (first | refine aE ?_ | refine aL fun _ => ?_ | refine fN ?_ | refine kg (fun _ => ?_) fun _ => ?_ | refine kZ (fun _ => ?_) fun _ => ?_ | refine iW (fun _ => ?_) fun _ => ?_ | refine al rfl ?_ | refine aJ rfl ?_ | refine cj (fun _ => ?_) fun _ => ?_ | refine lJ ?_ | refine lI ?_ | refine jZ ?_ | refine q_e ?_ | refine q_p fun _ _ => ?_ | refine q_b fun _ => ?_ | refine cG ?_ ?_ fun _ _ _ => ?_ | refine ee ?_ ?_ fun _ _ _ => ?_ | refine iZ ?_ | refine aW (bu ?_) fun _ _ => ?_ | refine jw ?_ ?_ | refine kp ?_ ?_ | refine lF ?_ ?_ | refine n_d ?_ ?_ | refine jS (fun _ => ?_) fun _ => ?_ | exact safe | refine aa ?_) | exact trivial | dsimp only [Nx, Dn] | with_reducible (first | rfl | refine And.intro ?_ ?_ | intro _ | contradiction) | omega | refine cH (by decide) ?_ | (simp (disch := omega) only [wrap64, cS, cZ, List.length_append, List.length_cons, List.length_nil, List.length_take, List.length_drop, List.length_set, List.length_replicate, List.length_reverse] <;> omega) | (simp (disch := omega) only [wrap64, cS, cZ, List.length_append, List.length_cons, List.length_nil, List.length_take, List.length_drop, List.length_set, List.length_replicate, List.length_reverse] at * <;> omega) | exact Int.tmod_nonneg _ (by omega) | (simp_all [dQ, eL, cr, dX] <;> omega))
theorem vV (l : List Int) : (nv l).length = l.length := by simp [nv]
theorem or_zero {x : Int} (h0 : 0 ≤ x) (h1 : x < 4294967296) : fq .or .u64 (qP .u64 0 32) (IntKind.wrap .u64 x) = x := by
  have e1 : qP .u64 0 32 = 0 := by simp [qP, IntKind.wrap, IntKind.signed, IntKind.bits]
  have e2 : IntKind.wrap .u64 x = x := by simp [IntKind.wrap, IntKind.signed, IntKind.bits]; omega
  rw [e1, e2]
  unfold fq
  have e3 : BitVec.ofInt IntKind.u64.bits 0 = 0#64 := rfl
  simp only [e3]
  show IntKind.wrap .u64 ((0#64 ||| BitVec.ofInt 64 x).toNat : Int) = x
  rw [BitVec.zero_or, BitVec.toNat_ofInt]
  simp [IntKind.wrap, IntKind.signed, IntKind.bits]
  omega
theorem tenth {x : Int} (h0 : 0 ≤ x) (h1 : x < 4294967296) : IntKind.wrap .u32 (IntKind.wrap .u64 (Int.tdiv x 10)) = x / 10 := by
  rw [Int.tdiv_eq_ediv_of_nonneg h0]
  simp [IntKind.wrap, IntKind.signed, IntKind.bits]
  omega
def sd (m : List Int) : Prop := ∀ e : Int, m[m.length - 1]? = some e → e ≠ 0
theorem qV {m : List Int} (h : (m.length : Int) ≤ 0) : sd m := fun e he => by
  have : m = [] := List.length_eq_zero_iff.1 (by omega)
  subst this; cases he
theorem wF {a : List Int} : (R.fR a).sat (fun r : List Int => r.length ≤ a.length ∧ r = a.take r.length ∧ sd r) := by
  unfold R.fR
  refine aL fun h => ?_
  simp only [Sg.i, oks, Sh.ok, Ty.ok, List.map, Par.v, Bool.and_eq_true] at h
  have := mV h
  refine aW (mK (Q := fun m : List Int => m.length ≤ a.length ∧ m = a.take m.length ∧ sd m) (fun m => m.length) (by omega) (fun m => m.length ≤ a.length ∧ m = a.take m.length) ⟨Nat.le_refl _, by simp⟩ fun m ⟨hm, ht⟩ => ?_) fun x hx => aE hx
  refine aa (kg (fun h0 => ?_) fun h0 => aE (aJ rfl (aE ⟨hm, ht, qV h0⟩)))
  have hw : IntKind.wrap .i64 ((m.length : Int) - 1) = (m.length : Int) - 1 := wrap64 (by omega)
  have hn : ((m.length : Int) - 1).toNat = m.length - 1 := by omega
  rw [hw]
  refine iZ (jw (by omega) (kp (by omega) (ee (by omega) (by omega) fun (e : Int) he _ => aE (iW (fun h => ?_) fun h => aE ⟨hm, ht, ?_⟩))))
  · refine iZ (jw (by omega) (jw (by omega) (aE ⟨?_, ?_, ?_⟩)))
    · simp only [List.length_take, List.length_drop]; omega
    · simp only [List.length_take, List.length_drop]; omega
    · rw [List.drop_zero, hn, List.length_take, Nat.min_eq_left (by omega)]
      have : List.take (m.length - 1) m = List.take (m.length - 1) (List.take m.length a) := by rw [← ht]
      rw [this, List.take_take, Nat.min_eq_left (by omega)]
  · intro e' he'
    rw [idx0, hn, he'] at he
    cases he
    exact h
theorem yB {a} : (R.gR a).sat (fun r => r = true → (a.2.length : Int) ≤ 8 ∧ sd a.2) := by
  unfold R.gR
  refine aL fun h => kZ (fun h8 => ?_) fun _ => aE (by simp)
  have hw (h : 0 < (a.2.length : Int)) : IntKind.wrap .i64 ((a.2.length : Int) - 1) = (a.2.length : Int) - 1 := wrap64 (by omega)
  have hn (h : 0 < (a.2.length : Int)) : ((a.2.length : Int) - 1).toNat = a.2.length - 1 := by omega
  have hk : (Res.br (ilt 0 (a.2.length : Int)) (Res.dd .w a.2 (IntKind.wrap .i64 ((a.2.length : Int) - 1)) fun e2 => Res.ok ((!(e2 == 0)))) (Res.ok (false))).sat (fun r => r = true → (a.2.length : Int) ≤ 8 ∧ sd a.2) := by
    refine kg (fun h0 => ?_) fun _ => aE (by simp)
    rw [hw h0]
    refine cG (by omega) (by omega) fun (e : Int) he _ => aE fun hr => ⟨h8, fun e' he' => ?_⟩
    rw [hn h0, he'] at he
    cases he
    simpa using hr
  exact iW (fun h0 => fN (cj (fun _ => hk) fun _ => aE fun _ => ⟨h8, qV (by omega)⟩)) fun _ => hk
theorem xc {a} : (R.cC a).sat (fun r : List Int => r.length ≤ 8 ∧ sd r) := by
  unfold R.cC
  refine aL fun _ => aW yB fun b hb => fN (cj (fun h => aa (aE (aL fun _ => aE ?_))) fun _ => aE ⟨by simp, qV (by simp)⟩)
  have := hb h
  exact ⟨by show List.length a.2 ≤ 8; omega, this.2⟩
def mz (m : List Int) : Nat := match m[m.length - 1]? with
  | some e => m.length * 4294967296 + min e.toNat 4294967295
  | none => 0
theorem mz_lt {r m : List Int} (h : r.length < m.length) : mz r < mz m := by
  unfold mz
  have hm : ∃ e, m[m.length - 1]? = some e := ⟨_, List.getElem?_eq_getElem (by omega)⟩
  obtain ⟨e, he⟩ := hm
  rw [he]
  cases r[r.length - 1]? with
  | none => simp only []; omega
  | some x => simp only []; omega
theorem mz_le {m : List Int} (h : m.length ≤ 8) : mz m ≤ 9 * 4294967296 := by
  unfold mz
  cases m[m.length - 1]? with
  | none => simp only []; omega
  | some x => simp only []; omega
theorem yN {e : Int} (h : (Ty.int IntKind.u32).ok e = true) : 0 ≤ e ∧ e < 4294967296 := by
  simp [Ty.ok, cn, IntKind.wrap, IntKind.signed, IntKind.bits] at h
  omega
instance AM {a} : jt (R.iy a) (fun r => r.length ≤ 2 ^ 40) := by
  unfold R.iy
  refine ⟨aL fun _ => aW xc fun m ⟨hm, ht⟩ => aL fun _ => iW (fun _ => aE (by simp)) fun hne => aW (R := fun l : List Int => l.length ≤ 2 ^ 39) ?_ fun l hl => q_b fun _ => cj (fun _ => ?_) fun _ => ?_⟩
  · refine mK (fun s => mz s.1) (Nat.le_trans (mz_le hm) (by decide)) (fun s => s.1.length ≤ 8 ∧ sd s.1 ∧ s.2.length + mz s.1 ≤ 9 * 4294967296) ⟨hm, ht, by have := mz_le hm; simp; omega⟩ fun ⟨m, l⟩ ⟨h1, h2, h3⟩ => ?_
    simp only at h1 h2 h3 ⊢
    refine kg (fun hp => ?_) fun _ => aE (by show l.length ≤ 2 ^ 39; omega)
    rw [wrap64 (by omega)]
    obtain ⟨top, htop⟩ : ∃ e, m[m.length - 1]? = some e := ⟨_, List.getElem?_eq_getElem (by omega)⟩
    refine aW (R := fun r : Int × List Int => r.2.length = m.length ∧ r.2[m.length - 1]? = some (top / 10) ∧ 0 ≤ top ∧ top < 4294967296) ?_ fun ⟨r, m'⟩ ⟨g1, g2, g3, g4⟩ => ?_
    · refine mK (fun s => (s.2.1 + 1).toNat) (by simp; omega) (fun s => -1 ≤ s.2.1 ∧ s.2.1 < m.length ∧ s.2.2.length = m.length ∧ (s.2.1 = m.length - 1 → s.1 = 0 ∧ s.2.2 = m) ∧ (s.2.1 < m.length - 1 → s.2.2[m.length - 1]? = some (top / 10) ∧ 0 ≤ top ∧ top < 4294967296)) ⟨by simp only; omega, by simp only; omega, rfl, fun _ => ⟨rfl, rfl⟩, fun h => by simp only at h; omega⟩ fun ⟨r, i, q⟩ ⟨i1, i2, i3, i4, i5⟩ => ?_
      simp only at i1 i2 i3 i4 i5 ⊢
      refine kZ (fun i0 => ?_) fun i0 => aE ?_
      · refine jw (by omega) (iZ (jw (by omega) (kp (by omega) (ee (by omega) (by omega) fun (e : Int) he hok => cH (by decide) (iZ (jw (by omega) (kp (by omega) (ee (by omega) (by omega) fun _ _ _ => cH (by decide) (aE ?_)))))))))
        have hw : IntKind.wrap .i64 (i - 1) = i - 1 := wrap64 (by omega)
        have hix : (0 + (i.toNat : Int)).toNat = i.toNat := by omega
        rw [hix] at he
        have hr := yN hok
        refine ⟨?_, ?_, ?_, ?_, ?_, ?_⟩
        · simp only [hw]; omega
        · simp only [hw]; omega
        · simp only [hw]; omega
        · simp only [List.length_set]; exact i3
        · simp only [hw]; omega
        · intro hlt
          simp only [hw] at hlt
          by_cases hi : i = m.length - 1
          · obtain ⟨e1, e2⟩ := i4 hi
            subst e1 e2
            have hin : i.toNat = q.length - 1 := by omega
            rw [hin] at he
            rw [he] at htop
            cases htop
            refine ⟨?_, hr⟩
            simp only [or_zero hr.1 hr.2, tenth hr.1 hr.2]
            rw [show 0 + i.toNat = q.length - 1 by omega, List.getElem?_set_self (by omega)]
          · obtain ⟨e1, e2⟩ := i5 (by omega)
            refine ⟨?_, e2⟩
            simp only
            rw [List.getElem?_set_ne (by omega)]
            exact e1
      · have := i5 (by omega)
        exact ⟨i3, this.1, this.2.1, this.2.2⟩
    · simp only at g1 g2 ⊢
      refine n_d (by simp only [List.length_cons, List.length_nil]; omega) (aW wF fun s ⟨s1, s2, s3⟩ => aL fun _ => aE ?_)
      have hlt : mz s < mz m := by
        by_cases hs : s.length = m.length
        · have e : s = m' := by rw [s2, hs, ← g1, List.take_length]
          subst e
          unfold mz
          rw [hs, g2, htop]
          have := h2 top htop
          simp only []
          omega
        · exact mz_lt (by omega)
      exact ⟨hlt, by show s.length ≤ 8; omega, s3, by simp only [List.length_append, List.length_cons, List.length_nil]; omega⟩
  · refine n_d (by simp only [List.length_cons, List.length_nil]; omega) (aW qf fun r hr => aL fun _ => aE ?_)
    rw [vV, hr]; simp; omega
  · refine aW qf fun r hr => aL fun _ => aE ?_
    rw [vV, hr]; omega
end Go.Mach
namespace Go.Mach
namespace Res
variable {α β : Type} {Q : β → Prop}
theorem aV {m : Res α} {k : α → Res β} (h : m.strip.isSome = true) (hk : (k (m.strip.get h)).sat Q) : (m.bind k).sat Q := aT (dh (Option.some_get h).symm rfl) hk
theorem dB {t : Ty} {xs : List t.den} {i : Int} {k : t.den → Res β} (h0 : decide (0 ≤ i) = true) (h : (xs[i.toNat]?).isSome = true) (hk : (k ((xs[i.toNat]?).get h)).sat Q) : (idx t xs i k).sat Q := by
  refine ee (of_decide_eq_true h0) (by simpa using h) fun x hx _ => ?_
  simp only [hx, Option.get_some] at hk
  exact hk
theorem qH {s : Sh} {xs : List s.den} {i : Int} {k : s.den → Res β} (h0 : decide (0 ≤ i) = true) (h : (xs[i.toNat]?).isSome = true) (hk : (k ((xs[i.toNat]?).get h)).sat Q) : (dd s xs i k).sat Q := by
  refine cG (of_decide_eq_true h0) (by simpa using h) fun x hx _ => ?_
  simp only [hx, Option.get_some] at hk
  exact hk
theorem w8 {γ δ : Type} {x : γ ⊕ δ} {f : γ → Res β} {g : δ → Res β} (h : x.getLeft?.isSome = true) (hk : (f (x.getLeft?.get h)).sat Q) : (sum x f g).sat Q := by
  cases x
  · exact hk
  · cases h
theorem nk {γ δ : Type} {x : γ ⊕ δ} {f : γ → Res β} {g : δ → Res β} (h : x.getRight?.isSome = true) (hk : (g (x.getRight?.get h)).sat Q) : (sum x f g).sat Q := by
  cases x
  · cases h
  · exact hk
theorem aC {b : Bool} {k : Res β} (h : k.sat Q) : (given b k).sat Q := fun _ => h
theorem mD {b e : Bool} {x y : Res β} (h : e = false) (hb : b = e) (hy : y.sat Q) : (br b x y).sat Q := aJ (hb.trans h) hy
def wg (f : α → Res (Step α β)) (n : Nat) (Q : β → Prop) : Step α β → Prop
  | .next a => (loop f n a).sat Q
  | .done b => Q b
theorem nn {f : α → Res (Step α β)} {n : Nat} {a : α} (h : (loop f n a).sat Q) : wg f n Q (.next a) := h
theorem kz {f : α → Res (Step α β)} {n : Nat} {b : β} (h : Q b) : wg f n Q (.done b) := h
theorem kx {f : α → Res (Step α β)} {a : α} {n : Nat} (h : (f a).sat (wg f n Q)) : (loop f (n + 1) a).sat Q := by
  unfold loop
  refine aW h fun s hs => ?_
  cases s with
  | next a' => exact hs
  | done b => exact hs
theorem jz {f : α → Res (Step α β)} {a : α} {k : Nat} (hk : fuel = k + 40) (h : (f a).sat (wg f (k + 39) Q)) : (loop f fuel a).sat Q := by
  rw [hk]
  exact kx h
end Res
end Go.Mach
set_option maxRecDepth 100000
namespace Go.Mach
open Res
variable {n : Nat} {β : Type} {Q : β → Prop}
theorem gj {x0 x1 x2} {k : _ → Res β} (h : (R.eval_run_list (bo n) x0 x1 x2).sat fun a => (k a).sat Q) : (((bo (n + 1)).eval_run_list x0 x1 x2).bind k).sat Q := aa h
theorem ej {x0 x1 x2 x3} {k : _ → Res β} (h : (R.eval_run_statement (bo n) x0 x1 x2 x3).sat fun a => (k a).sat Q) : (((bo (n + 1)).eval_run_statement x0 x1 x2 x3).bind k).sat Q := aa h
theorem iI {x0 x1 x2 x3} {k : _ → Res β} (h : (R.eval_run_act (bo n) x0 x1 x2 x3).sat fun a => (k a).sat Q) : (((bo (n + 1)).eval_run_act x0 x1 x2 x3).bind k).sat Q := aa h
theorem aj {x0 x1 x2} {k : _ → Res β} (h : (R.eval_run_expression (bo n) x0 x1 x2).sat fun a => (k a).sat Q) : (((bo (n + 1)).eval_run_expression x0 x1 x2).bind k).sat Q := aa h
theorem cb {x0 x1 x2} {k : _ → Res β} (h : (R.eval_run_value (bo n) x0 x1 x2).sat fun a => (k a).sat Q) : (((bo (n + 1)).eval_run_value x0 x1 x2).bind k).sat Q := aa h
theorem bY {x0 x1 x2 x3} {k : _ → Res β} (h : (R.eval_run_operation (bo n) x0 x1 x2 x3).sat fun a => (k a).sat Q) : (((bo (n + 1)).eval_run_operation x0 x1 x2 x3).bind k).sat Q := aa h
theorem gO {x0 x1 x2 x3} {k : _ → Res β} (h : (R.eval_run_unary (bo n) x0 x1 x2 x3).sat fun a => (k a).sat Q) : (((bo (n + 1)).eval_run_unary x0 x1 x2 x3).bind k).sat Q := aa h
theorem gC {x0 x1 x2} {k : _ → Res β} (h : (R.eval_run_callee (bo n) x0 x1 x2).sat fun a => (k a).sat Q) : (((bo (n + 1)).eval_run_callee x0 x1 x2).bind k).sat Q := aa h
theorem eh {x0 x1 x2} {k : _ → Res β} (h : (R.eval_run_arguments (bo n) x0 x1 x2).sat fun a => (k a).sat Q) : (((bo (n + 1)).eval_run_arguments x0 x1 x2).bind k).sat Q := aa h
theorem nY {x0 x1 x2 x3} {k : _ → Res β} (h : (R.eval_run_call (bo n) x0 x1 x2 x3).sat fun a => (k a).sat Q) : (((bo (n + 1)).eval_run_call x0 x1 x2 x3).bind k).sat Q := aa h
theorem nW {x0 x1 x2 x3} {k : _ → Res β} (h : (R.eval_run_does (bo n) x0 x1 x2 x3).sat fun a => (k a).sat Q) : (((bo (n + 1)).eval_run_does x0 x1 x2 x3).bind k).sat Q := aa h
theorem nX {x0 x1 x2} {k : _ → Res β} (h : (R.eval_run_host (bo n) x0 x1 x2).sat fun a => (k a).sat Q) : (((bo (n + 1)).eval_run_host x0 x1 x2).bind k).sat Q := aa h
end Go.Mach
