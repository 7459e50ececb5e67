/-
  Proved here: the law renlaw12.EvalElements returns true for every input of the stated bulk and leaves its arguments as they were; no further condition.
  By an AI agent; no person has read it.
-/
import Derived.Test.YtdmjcmcdgepoeaaGreatDoorPartk
import Derived.KernelRfl
import GoSem.ClaimGoes
set_option linter.all false
set_option linter.deprecated false
set_option maxRecDepth 1000000
namespace Go.Mach
theorem tf : R.cJ.strip = some true := by kernel_rfl
theorem mK : R.cJ.sat (· = true) := by
  have h := tf
  generalize R.cJ = m at h
  exact Res.bA h rfl
end Go.Mach
set_option maxRecDepth 100000
namespace Go.Mach
open Res
theorem aY {α : Type} {m : Res α} {a : α} (h : m.strip = some a) : m.sat (· = a) := Res.bA h rfl
abbrev sG := aB.den
abbrev AD := List sG
theorem vy {t : AD} {e0 : sG} (hl : t.length ≤ 4096) (h0 : t[0]? = some e0) (hk0 : e0.1 = 1) (ho : (R.fC t).sat (· = true)) (h1 : ∀ (n : Nat) (e : sG), 0 < n → t[n]? = some e → e.1 ≠ 1) (hf : ∀ (n : Nat) (e : sG), t[n]? = some e → (R.cL e).sat (· = true))
    (hk : ∀ n : Nat, n < t.length → (R.fK t n).sat (· = true)) (hd : (R.eU t).sat fun d => (R.b9 d).sat fun m => m ≤ 48) : (R.gH t).sat (· = true) := by
  unfold R.gH
  have hpos : 0 < t.length := (List.getElem?_eq_some_iff.1 h0).1
  refine aD fun _ => aG (a := false) ?_ (aL rfl ?_)
  · refine aL (by rw [beq_eq_false_iff_ne]; omega) (aL (by rw [iq]; omega) (fq (by omega) (by simpa using hpos) fun e he _ => ?_))
    have he : t[0]? = some e := he
    rw [h0] at he; cases he
    exact aL (by simp [hk0]) (aG ho (aH rfl))
  refine aG (a := .inl ()) ?_ (rR (aP hd fun d hd => aD fun _ => aP hd fun m hm => aD fun _ => aH (by rw [jV]; exact hm)))
  refine rX (fun i : Int => i) t.length (by omega) (fun i : Int => 0 ≤ i ∧ i ≤ t.length) ⟨by omega, by omega⟩ (fun i h => h) ?_
  rintro i ⟨i0, i1⟩
  refine dZ (fun h => ?_) fun _ => aH rfl
  rw [ib] at h
  have hi : i.toNat < t.length := by omega
  have hin : ((i.toNat : Nat) : Int) = i := by omega
  have w : IntKind.wrap .i64 (i + 1) = i + 1 := wrap64 ⟨by omega, by omega⟩
  refine aG (a := false) (dZ (fun hp => ?_) fun hp => ?_) (aL rfl (aH ⟨w, by rw [w]; omega, by rw [w]; omega⟩))
  · rw [ib] at hp
    refine fq i0 hi fun e he _ => ?_
    refine aL (by simpa using h1 _ e (by omega) he) (fq i0 hi fun e' he' _ => aG (hf _ _ he') (aL rfl (aG (a := true) ?_ (aH rfl))))
    have := hk _ hi
    rwa [hin] at this
  · refine fq i0 hi fun e' he' _ => aG (hf _ _ he') (aL rfl (aG (a := true) ?_ (aH rfl)))
    have := hk _ hi
    rwa [hin] at this
theorem sf {t : AD} (hl : t.length ≤ 4096) (hm : (R.gH t).sat (· = true)) {up : List Int} (hp : (R.dy t).sat (· = up)) (hw : ∀ n : Nat, n < t.length → (R.fW t up n).sat (· = false)) : (R.dS t).sat (· = (0, 0)) := by
  unfold R.dS
  refine aD fun _ => aG hm (aL rfl (aG hp (aD fun _ => aG (a := .inl ()) ?_ (rR (aH rfl)))))
  refine rX (fun i : Int => i) t.length (by omega) (fun i : Int => 0 ≤ i ∧ i ≤ t.length) ⟨by omega, by omega⟩ (fun i h => h) ?_
  rintro i ⟨i0, i1⟩
  refine dZ (fun h => ?_) fun _ => aH rfl
  rw [ib] at h
  have hi : i.toNat < t.length := by omega
  have hin : ((i.toNat : Nat) : Int) = i := by omega
  have w : IntKind.wrap .i64 (i + 1) = i + 1 := wrap64 ⟨by omega, by omega⟩
  have := hw _ hi
  rw [hin] at this
  exact aG this (aL rfl (aH ⟨w, by rw [w]; omega, by rw [w]; omega⟩))
end Go.Mach
set_option maxRecDepth 1000000
namespace Go.Mach
open Res
abbrev gq := aA.den
abbrev gA := aB.den
theorem mu : ∃ k, fuel = k + 40 := ⟨2 ^ 70 - 40, by decide⟩
theorem nc {α β : Type} {Q : β → Prop} {m m' : Res α} {P : α → Prop} {k : α → Res β} (h : m = m') (h2 : m'.sat P) (hk : ∀ a, P a → (k a).sat Q) : (m.bind k).sat Q := h ▸ aP h2 hk
theorem BB {α β : Type} {Q : β → Prop} {m m' : Res α} {a : α} {k : α → Res β} (h : m = m') (h2 : m'.sat (· = a)) (hk : (k a).sat Q) : (m.bind k).sat Q := h ▸ aG h2 hk
theorem rO {α β : Type} {Q : β → Prop} {m : Res α} {P : α → Prop} {k : α → Res β} (h : m.sat P) (hk : ∀ u, m.strip = some u → P u → (k u).sat Q) : (m.bind k).sat Q := by
  by_cases hf : m.facts
  · obtain ⟨u, h1, h2⟩ := oY h hf
    exact aG (bA h1 rfl) (hk u h1 h2)
  · exact bF (iT hf)
abbrev vz : gq := (0, ((0, 0), ((false, []), ([], 0))))
abbrev vnum (n : Int) : gq := (3, ((0, n), ((false, []), ([], 0))))
abbrev vbig (m : List Int) : gq := (4, ((0, 0), ((false, m), ([], 0))))
abbrev vstr (s : List Int) : gq := (5, ((0, 0), ((false, []), (s, 0))))
inductive qa : gq → Prop
  | und : qa vz
  | null : qa (1, vz.2)
  | xg (b : Int) : b = 0 ∨ b = 1 → qa (2, ((0, 0), ((false, []), ([], b))))
  | num (n : Int × Int) : (n.1 = 0 → -9007199254740991 ≤ n.2 ∧ n.2 ≤ 9007199254740991) → qa (3, (n, vz.2.2))
  | big (b : Bool × List Int) : (R.gC b).strip = some true → qa (4, ((0, 0), (b, ([], 0))))
  | str (s : List Int) : s.length ≤ 4096 → qa (vstr s)
  | obj (r : Int) : 0 ≤ r → qa (6, ((0, 0), ((false, []), ([], r))))
theorem kM {a : gq} : (R.ef a).sat (fun r => r = true → a = (a.1, vz.2)) := by
  obtain ⟨k, ⟨n1, n2⟩, ⟨ng, mg⟩, s, ref⟩ := a
  unfold R.ef
  refine aD fun _ => dZ (fun h1 => ik (dZ (fun _ => aH fun h => by cases h) fun h2 => ja (fun h3 => ja (fun h4 => aH fun h5 => ?_) fun _ => aH fun h => by cases h) fun _ => aH fun h => by cases h)) fun _ => aH fun h => by cases h
  simp only [Bool.and_true, Bool.and_eq_true, beq_iff_eq] at h1 h2 h5
  have e3 : mg = [] := List.length_eq_zero_iff.1 (by simpa using h3)
  have e4 : s = [] := List.length_eq_zero_iff.1 (by simpa using h4)
  obtain ⟨rfl, rfl⟩ := h1
  subst h2 e3 e4 h5
  rfl
theorem zA {a : Int × Int} : (R.gI a).sat (fun r => r = true → a.1 = 0 → -9007199254740991 ≤ a.2 ∧ a.2 ≤ 9007199254740991) := by
  unfold R.gI
  refine aD fun _ => ja (fun h => pB (fun h1 => aH fun h2 _ => ⟨h1, of_decide_eq_true h2⟩) fun _ => aH fun h => by cases h) fun h => ?_
  refine aP (R := fun _ => True) (by repeat' (first | with_reducible (first | refine aH ?_ | refine aD fun _ => ?_ | refine ik ?_ | refine nv (fun _ => ?_) fun _ => ?_ | refine pB (fun _ => ?_) fun _ => ?_ | refine ja (fun _ => ?_) fun _ => ?_ | refine bM rfl ?_ | refine aL rfl ?_ | refine dZ (fun _ => ?_) fun _ => ?_ | refine tH ?_ | refine tK ?_ | refine ov ?_ | refine q_e ?_ | refine q_p fun _ _ => ?_ | refine q_b fun _ => ?_ | refine fq ?_ ?_ fun _ _ _ => ?_ | refine gV ?_ ?_ fun _ _ _ => ?_ | refine ke ?_| refine ln ?_ ?_ | refine qi ?_ ?_ | refine tN ?_ ?_ | refine n_d ?_ ?_ | refine oz (fun _ => ?_) fun _ => ?_ | exact safe | refine bF ?_) | exact trivial | dsimp only [Nx, Dn] | with_reducible (first | rfl | refine And.intro ?_ ?_ | intro _ | contradiction) | omega | refine bC (by decide) ?_ | (simp (disch := omega) only [wrap64, ij, iu, List.length_append, List.length_cons, List.length_nil, List.length_take, List.length_drop, List.length_set, List.length_replicate, List.length_reverse] <;> omega) | (simp (disch := omega) only [wrap64, ij, iu, List.length_append, List.length_cons, List.length_nil, List.length_take, List.length_drop, List.length_set, List.length_replicate, List.length_reverse] at * <;> omega) | exact Int.tmod_nonneg _ (by omega) | (simp_all [ib, jV, iq, jX] <;> omega))) fun _ _ => dZ (fun _ => aH fun _ h0 => absurd h0 h) fun _ => aH fun _ h0 => absurd h0 h
theorem se {a : gq} : (R.fB a).sat (fun r => r = true → qa a) := by
  obtain ⟨k, n, b, s, ref⟩ := a
  unfold R.fB
  refine aD fun _ => aP (R := fun c => c = true → k = 0 ∨ k = 1) (ja (fun h => aH fun _ => .inl h) fun _ => aH fun h => .inr (eq_of_beq h)) fun c hc => dZ (fun h => ?_) fun _ => ?_
  · refine aP kM fun r hr => aH fun h2 => ?_
    have e : (k, n, b, s, ref) = (k, vz.2) := hr h2
    cases e
    rcases hc h with rfl | rfl
    · exact .und
    · exact .null
  refine ja (fun h => ?_) fun _ => ja (fun h => ?_) fun _ => ja (fun h => ?_) fun _ => ja (fun h => ?_) fun _ => ja (fun h => ?_) fun _ => aH fun h => by cases h
  · refine aP kM fun r hr => dZ (fun h1 => ?_) fun _ => aH fun h => by cases h
    have e : (k, n, b, s, (0 : Int)) = (k, vz.2) := hr h1
    cases e
    subst h
    exact ja (fun h => aH fun _ => .xg _ (.inl h)) fun _ => aH fun h => .xg _ (.inr (eq_of_beq h))
  · refine aP kM fun r hr => dZ (fun h1 => ?_) fun _ => aH fun h => by cases h
    have e : (k, ((0 : Int), (0 : Int)), b, s, ref) = (k, vz.2) := hr h1
    cases e
    subst h
    exact aP zA fun r hr => aH fun h2 => .num n (hr h2)
  · refine aP kM fun r hr => dZ (fun h1 => ?_) fun _ => aH fun h => by cases h
    have e : (k, n, ((false, []) : Bool × List Int), s, ref) = (k, vz.2) := hr h1
    cases e
    subst h
    exact rO (P := fun _ => True) safe fun c hc _ => aH fun h2 => .big b (by rw [hc, h2])
  · refine aP kM fun r hr => dZ (fun h1 => ?_) fun _ => aH fun h => by cases h
    have e : (k, n, b, ([] : List Int), ref) = (k, vz.2) := hr h1
    cases e
    subst h
    exact aH fun h2 => .str s (by have h3 : (List.length s : Int) ≤ 4096 := of_decide_eq_true h2; omega)
  · refine aP kM fun r hr => dZ (fun h1 => ?_) fun _ => aH fun h => by cases h
    have e : (k, n, b, s, (0 : Int)) = (k, vz.2) := hr h1
    cases e
    subst h
    exact aH fun h2 => .obj ref (of_decide_eq_true h2)
inductive kZ : gA → gq → Prop
  | null : kZ (36, ([], ([], ((0, 0), ((false, []), []))))) (1, vz.2)
  | tru : kZ (34, ([], ([], ((0, 0), ((false, []), []))))) (2, ((0, 0), ((false, []), ([], 1))))
  | fls : kZ (35, ([], ([], ((0, 0), ((false, []), []))))) (2, ((0, 0), ((false, []), ([], 0))))
  | num (n : Int) : 0 ≤ n → n ≤ 9007199254740991 → kZ (30, ([], ([], ((0, n), ((false, []), []))))) (vnum n)
  | big (m : List Int) : (R.gC (false, m)).strip = some true → kZ (31, ([], ([], ((0, 0), ((false, m), []))))) (vbig m)
  | str (s : List Int) : s.length ≤ 4096 → kZ (32, ([], (s, ((0, 0), ((false, []), []))))) (vstr s)
theorem vx {b : List Int} (h : b.length ≤ 4096) : (R.cg b).sat (· = vstr b) := by
  unfold R.cg
  refine aD fun _ => ?_
  rw [ij, show min (List.length b : Int) 4096 = List.length b by omega]
  refine ke (ln (by omega) (ln (by omega) (bF (aH (aD fun _ => aH ?_)))))
  rw [Int.toNat_natCast, List.drop_zero, List.take_length]
theorem BS {x : gA} {a : gq} (h : kZ x a) (G : bU) (r : aM.den) (i : Int) (e : ai.den) (h0 : decide (0 ≤ i) = true) (hx : r.1[i.toNat]? = some x) : (R.eval_run_value G r i e).sat (· = ((a, 0), r)) := by
  unfold R.eval_run_value
  have hi : i.toNat < List.length r.1 := (List.getElem?_eq_some_iff.1 hx).1
  refine aD fun _ => gV (of_decide_eq_true h0) hi fun y hy _ => ?_
  rw [hx] at hy
  cases hy
  cases h with
  | null => exact aY (by kernel_rfl)
  | tru => exact aY (by kernel_rfl)
  | fls => exact aY (by kernel_rfl)
  | num n h0 h1 => exact aY (by kernel_rfl)
  | big m hm => exact aY (by kernel_rfl)
  | str s hs => exact aL rfl (aL rfl (bM rfl (aG (vx hs) (aD fun _ => aH rfl))))
theorem tB {x : gA} {a : gq} (h : kZ x a) : (R.cL x).sat (· = true) := by
  cases h with
  | null => exact aY (by kernel_rfl)
  | tru => exact aY (by kernel_rfl)
  | fls => exact aY (by kernel_rfl)
  | num n h0 h1 =>
    unfold R.cL
    refine aD fun _ => aG (a := false) (aY (by kernel_rfl)) (aL rfl (aG (a := false) (aY (by kernel_rfl)) (aL rfl (bM rfl (bM rfl (bM rfl (aG (a := true) ?_ (bM rfl (aH (decide_eq_true h0))))))))))
    unfold R.gI
    exact aD fun _ => bM rfl (bM (decide_eq_true (by show (-9007199254740991 : Int) ≤ n; omega)) (aH (decide_eq_true h1)))
  | big m hm =>
    unfold R.cL
    exact aD fun _ => aG (a := false) (aY (by kernel_rfl)) (aL rfl (aG (a := false) (aY (by kernel_rfl)) (aL rfl (aL rfl (bM rfl (bM rfl (aG (bA hm rfl) (bM rfl (aH rfl)))))))))
  | str s hs =>
    unfold R.cL
    exact aD fun _ => aG (a := false) (aY (by kernel_rfl)) (aL rfl (aG (a := true) (aY (by kernel_rfl)) (bM rfl (bM rfl (aH (decide_eq_true (by show (List.length s : Int) ≤ 4096; omega)))))))
theorem tq {x : gA} {a : gq} (h : kZ x a) : (R.fB a).sat (· = true) := by
  cases h with
  | null => exact aY (by kernel_rfl)
  | tru => exact aY (by kernel_rfl)
  | fls => exact aY (by kernel_rfl)
  | num n h0 h1 =>
    unfold R.fB
    refine aD fun _ => aG (a := false) (aY (by kernel_rfl)) (aL rfl (aL rfl (bM rfl (aG (a := true) (aY (by kernel_rfl)) (bM rfl (aG (a := true) ?_ (aH rfl)))))))
    unfold R.gI
    exact aD fun _ => bM rfl (bM (decide_eq_true (by show (-9007199254740991 : Int) ≤ n; omega)) (aH (decide_eq_true h1)))
  | big m hm =>
    unfold R.fB
    exact aD fun _ => aG (a := false) (aY (by kernel_rfl)) (aL rfl (aL rfl (aL rfl (bM rfl (aG (a := true) (aY (by kernel_rfl)) (bM rfl (aG (bA hm rfl) (aH rfl))))))))
  | str s hs =>
    unfold R.fB
    exact aD fun _ => aG (a := false) (aY (by kernel_rfl)) (aL rfl (aL rfl (aL rfl (aL rfl (bM rfl (aG (a := true) (aY (by kernel_rfl)) (bM rfl (aH (decide_eq_true (by show (List.length s : Int) ≤ 4096; omega))))))))))
theorem xb {a : List Int} : (R.dn a a).sat (· = true) := by
  unfold R.dn
  refine aD fun h => ?_
  simp only [Sg.i, oks, Sh.ok, Ty.ok, List.map, Par.v, Bool.and_eq_true] at h
  have := lH h.1
  refine ik (ja (fun _ => ?_) fun h => absurd rfl h)
  refine aP (rB (Q := fun x : Unit ⊕ Bool => x = .inl ()) (fun i => i) a.length (by omega) (fun _ => True) (by omega) (by omega) trivial fun i h0 h1 _ => nv (fun hi => fq h0 (by omega) fun e he _ => fq h0 (by omega) fun e' he' _ => ?_) fun _ => aH rfl) fun x hx => ?_
  · rw [he] at he'; cases he'
    exact ik (bM (by simp) (aH ⟨rfl, hi, trivial⟩))
  · subst hx
    exact aH rfl
end Go.Mach
set_option maxRecDepth 1000000
namespace Go.Mach
open Res
noncomputable def yD (t : List gA) : Bool :=
  decide (t.length ≤ 4096) && ((R.fC t).strip == some true && ((List.range t.length).all (fun n => (R.fK t n).strip == some true) && match ((R.eU t).bind R.b9).strip with
    | some m => ile m 48
    | none => false))
theorem yg {e0 : gA} {rest : List gA} (hb : yD (e0 :: rest) = true) (hk0 : e0.1 = 1) (h1 : ∀ e ∈ rest, e.1 ≠ 1) (hf : ∀ e ∈ e0 :: rest, (R.cL e).sat (· = true)) : (R.gH (e0 :: rest)).sat (· = true) := by
  simp only [yD, Bool.and_eq_true, decide_eq_true_eq, beq_iff_eq, List.all_eq_true, List.mem_range] at hb
  obtain ⟨b1, b2, b3, b4⟩ := hb
  refine vy (e0 := e0) b1 rfl hk0 (bA b2 rfl) (fun n e hn he => ?_) (fun n e he => hf e (List.mem_of_getElem? he)) (fun n hn => bA (b3 n hn) rfl) ?_
  · obtain ⟨m, rfl⟩ : ∃ m, n = m + 1 := ⟨n - 1, by omega⟩
    exact h1 e (List.mem_of_getElem? (by simpa using he))
  · rw [← qA]
    split at b4
    · rename_i m hm
      exact bA hm (of_decide_eq_true b4)
    · cases b4
noncomputable def yB (t : List gA) : Bool := match (R.dy t).strip with
  | some up => (List.range t.length).all fun n => (R.fW t up n).strip == some false
  | none => false
theorem wv {t : List gA} (hl : t.length ≤ 4096) (hm : (R.gH t).sat (· = true)) (hb : yB t = true) : (R.dS t).sat (· = (0, 0)) := by
  unfold yB at hb
  split at hb
  · rename_i up hup
    simp only [List.all_eq_true, List.mem_range, beq_iff_eq] at hb
    exact sf hl hm (bA hup rfl) fun n hn => bA (hb n hn) rfl
  · cases hb
abbrev nd (k : Int) (name : List UInt8) (kids : List Int) : gA := (k, (name, ([], ((0, 0), ((false, []), kids)))))
abbrev wt (t : List gA) : aM.den := (t, ((20, (20, 50)), ([], (0, ((20, []), (0, (0, ((0, (0, (0, (0, (0, (false, (false, (0, (0, ((0, 0), ([], 0))))))))))), (0, [])))))))))
abbrev uX : dC.den := (0, (0, (0, (0, (0, (false, (false, (0, (0, ((0, 0), ([], 0)))))))))))
theorem yH {t : List gA} {Q : dC.den × eW.den → Prop} (hc : (R.dS t).sat (· = (0, 0))) (hr : (R.bo t (20, (20, 50)) []).sat Q) : (R.dH t (20, (20, 50)) []).sat Q := by
  unfold R.dH
  exact aD fun _ => aG hc (aD fun _ => aG (a := false) (aY (by kernel_rfl)) (aL rfl (aP hr fun x hx => aD fun _ => aH hx)))
theorem qs {t : List gA} {q : dC.den} {e : eW.den} (hp : (R.bI (wt t)).sat fun x => x.1.1 = 5 ∧ x.2.2.2.2.2.2.2.2 = (q, e)) : (R.bo t (20, (20, 50)) []).sat (· = (q, e)) := by
  unfold R.bo
  refine aD fun _ => aG (a := (20, [])) (aY (by kernel_rfl)) (aD fun _ => aP hp fun ⟨o, r⟩ hx => aD fun _ => ?_)
  obtain ⟨h1, h2⟩ := hx
  have h1 : o.1 = 5 := h1
  exact bM (by rw [show (o, r).1.1 = 5 from h1]; rfl) (aH h2)
theorem zf {x : gA} {a : gq} (h : kZ x a) : x.1 ≠ 1 := by cases h <;> simp
theorem Af {x : gA} {a : gq} (h : kZ x a) {n : Nat} {r : aM.den} {i : Int} {e : ai.den} {β : Type} {Q : β → Prop} {k : (gq × Int) × aM.den → Res β} (h0 : decide (0 ≤ i) = true) (hx : r.1[i.toNat]? = some x) (hk : (k ((a, 0), r)).sat Q) : (((bH (n + 1)).eval_run_value r i e).bind k).sat Q := aG (BS h (bH n) r i e h0 hx) hk
end Go.Mach
set_option maxRecDepth 1000000
namespace Go.Mach
open Res
end Go.Mach
set_option maxRecDepth 100000
namespace Go.Mach
open Res
instance vT {a} : jf (R.cZ a) (fun r => r.1 ≠ 6) := by
  unfold R.cZ
  refine ⟨?_⟩
  repeat' (first | with_reducible (first | refine aH ?_ | refine aD fun _ => ?_ | refine ik ?_ | refine nv (fun _ => ?_) fun _ => ?_ | refine pB (fun _ => ?_) fun _ => ?_ | refine ja (fun _ => ?_) fun _ => ?_ | refine bM rfl ?_ | refine aL rfl ?_ | refine dZ (fun _ => ?_) fun _ => ?_ | refine tH ?_ | refine tK ?_ | refine ov ?_ | refine q_e ?_ | refine q_p fun _ _ => ?_ | refine q_b fun _ => ?_ | refine fq ?_ ?_ fun _ _ _ => ?_ | refine gV ?_ ?_ fun _ _ _ => ?_ | refine ke ?_ | refine ln ?_ ?_ | refine qi ?_ ?_ | refine tN ?_ ?_ | refine n_d ?_ ?_ | refine oz (fun _ => ?_) fun _ => ?_ | exact safe | refine bF ?_) | exact trivial | dsimp only [Nx, Dn] | with_reducible (first | rfl | refine And.intro ?_ ?_ | intro _ | contradiction) | omega | refine bC (by decide) ?_ | (simp (disch := omega) only [wrap64, ij, iu, List.length_append, List.length_cons, List.length_nil] <;> omega) | (simp_all [ib, jV, iq, jX] <;> omega))
instance vl {a} : jf (R.fc a) (fun r => r.1 ≠ 6) := by
  unfold R.fc
  refine ⟨?_⟩
  repeat' (first | with_reducible (first | refine aH ?_ | refine aD fun _ => ?_ | refine ik ?_ | refine nv (fun _ => ?_) fun _ => ?_ | refine pB (fun _ => ?_) fun _ => ?_ | refine ja (fun _ => ?_) fun _ => ?_ | refine bM rfl ?_ | refine aL rfl ?_ | refine dZ (fun _ => ?_) fun _ => ?_ | refine tH ?_ | refine tK ?_ | refine ov ?_ | refine q_e ?_ | refine q_p fun _ _ => ?_ | refine q_b fun _ => ?_ | refine fq ?_ ?_ fun _ _ _ => ?_ | refine gV ?_ ?_ fun _ _ _ => ?_ | refine ke ?_ | refine ln ?_ ?_ | refine qi ?_ ?_ | refine tN ?_ ?_ | refine n_d ?_ ?_ | refine oz (fun _ => ?_) fun _ => ?_ | exact safe | refine bF ?_) | exact trivial | dsimp only [Nx, Dn] | with_reducible (first | rfl | refine And.intro ?_ ?_ | intro _ | contradiction) | omega | refine bC (by decide) ?_ | (simp (disch := omega) only [wrap64, ij, iu, List.length_append, List.length_cons, List.length_nil] <;> omega) | (simp_all [ib, jV, iq, jX] <;> omega))
instance sc {a} : jf (R.bR a) (fun r => 0 ≤ r.2 ∧ r.2 ≤ 5) := by
  unfold R.bR
  refine ⟨?_⟩
  repeat' (first | with_reducible (first | refine aH ?_ | refine aD fun _ => ?_ | refine ik ?_ | refine nv (fun _ => ?_) fun _ => ?_ | refine pB (fun _ => ?_) fun _ => ?_ | refine ja (fun _ => ?_) fun _ => ?_ | refine bM rfl ?_ | refine aL rfl ?_ | refine dZ (fun _ => ?_) fun _ => ?_ | refine tH ?_ | refine tK ?_ | refine ov ?_ | refine q_e ?_ | refine q_p fun _ _ => ?_ | refine q_b fun _ => ?_ | refine fq ?_ ?_ fun _ _ _ => ?_ | refine gV ?_ ?_ fun _ _ _ => ?_ | refine ke ?_ | refine ln ?_ ?_ | refine qi ?_ ?_ | refine tN ?_ ?_ | refine n_d ?_ ?_ | refine oz (fun _ => ?_) fun _ => ?_ | exact safe | refine bF ?_) | exact trivial | dsimp only [Nx, Dn] | with_reducible (first | rfl | refine And.intro ?_ ?_ | intro _ | contradiction) | omega | refine bC (by decide) ?_ | (simp (disch := omega) only [wrap64, ij, iu, List.length_append, List.length_cons, List.length_nil] <;> omega) | (simp_all [ib, jV, iq, jX] <;> omega))
end Go.Mach
set_option maxRecDepth 1000000
namespace Go.Mach
open Res
theorem w_nof {α β : Type} {Q : β → Prop} {m m' : Res α} {k : α → Res β} (e : m = m') (h : ¬ m'.facts) : (m.bind k).sat Q := e ▸ bF (iT h)
theorem rh {α : Type} {m : Res α} {P : α → Prop} (h : m.sat P) : ¬ m.facts ∨ ∃ u, m.strip = some u ∧ P u := by
  by_cases hf : m.facts
  · obtain ⟨u, h1, h2⟩ := oY h hf
    exact .inr ⟨u, h1, h2⟩
  · exact .inl hf
theorem Ba {v : gq} (hv : v.1 ≠ 6) : (R.bu v).sat (fun r => r.2 = 0) := by
  unfold R.bu
  have hc : (R.bx v).sat (fun c => qa c ∧ c.1 ≠ 6) := by
    unfold R.bx
    refine aD fun _ => aP se fun r hr => dZ (fun _ => aH ⟨.und, by simp⟩) fun h => aH ⟨hr ?_, hv⟩
    cases r
    · cases h
    · rfl
  have e : ∀ r : List Int, (given (ah.g.o r) (Res.ok ((r, (0 : Int))))).sat (fun r : List Int × Int => r.2 = 0) := fun r => aD fun _ => aH rfl
  refine aD fun _ => aP hc fun c ⟨hm, h6⟩ => aD fun _ => ?_
  cases hm with
  | und => exact bM rfl (aP (fI (by decide)) fun r _ => e r)
  | null => exact aL rfl (bM rfl (aP (fI (by decide)) fun r _ => e r))
  | xg b hb => exact aL rfl (aL rfl (bM rfl (dZ (fun _ => aP (fI (by decide)) fun r _ => e r) fun _ => aP (fI (by decide)) fun r _ => e r)))
  | num n hn => exact aL rfl (aL rfl (aL rfl (bM rfl (q_p fun t ht => aD fun _ => aP (fI (Nat.le_trans ht (by decide))) fun r _ => e r))))
  | big b hb => exact aL rfl (aL rfl (aL rfl (aL rfl (bM rfl (q_p fun t ht => aD fun _ => aP (fI (Nat.le_trans ht (by decide))) fun r _ => e r)))))
  | str s hs => exact aL rfl (aL rfl (aL rfl (aL rfl (aL rfl (bM rfl (aG (a := s) rfl (aD fun _ => aH rfl)))))))
  | obj r hr => exact absurd rfl h6
abbrev asks (l : List Int) : dC.den × eW.den := ((11, (0, (0, (0, (0, (false, (false, (0, (0, ((0, 0), (l, 0))))))))))), (0, []))
abbrev wY (s : Int) : List Int := if s = 1 then [84, 121, 112, 101, 69, 114, 114, 111, 114] else if s = 2 then [82, 97, 110, 103, 101, 69, 114, 114, 111, 114] else if s = 4 then [82, 101, 102, 101, 114, 101, 110, 99, 101, 69, 114, 114, 111, 114] else [83, 121, 110, 116, 97, 120, 69, 114, 114, 111, 114]
inductive Out (v : gq) : Int → dC.den × eW.den → Prop
  | asks (l : List Int) : (R.bu v).strip = some (l, 0) → Out v 0 (asks l)
  | exit (q : dC.den) (e : List Int) : Out v 3 (q, (3, e))
  | rf (q : dC.den) (s : Int) : s = 1 ∨ s = 2 ∨ s = 4 ∨ s = 5 → Out v s (q, (2, wY s))
theorem y6 {s : Int} (h : 0 ≤ s ∧ s ≤ 5) : s = 0 ∨ s = 1 ∨ s = 2 ∨ s = 3 ∨ s = 4 ∨ s = 5 := by omega
theorem uK {v : gq} {s : Int} {r : dC.den × eW.den} (h : Out v s r) : (R.cr r.1 r.2 v s).sat (· = true) := by
  cases h with
  | asks l hu =>
    unfold R.cr
    exact aD fun _ => bM rfl (aG (bA hu rfl) (aD fun _ => bM rfl (bM rfl (bM rfl (aG xb (aH rfl))))))
  | exit q e => exact aY (by kernel_rfl)
  | rf q s hs => rcases hs with rfl | rfl | rfl | rfl <;> exact aY (by kernel_rfl)
theorem zd {t : List gA} {P : dC.den × eW.den → Prop} (hm : (R.gH t).sat (· = true)) (hl : t.length ≤ 4096) (hb : yB t = true) (hr : (R.bo t (20, (20, 50)) []).sat P) : (R.dH t (20, (20, 50)) []).sat P := yH (wv hl hm hb) hr
end Go.Mach
set_option maxRecDepth 1000000
namespace Go.Mach
open Res
end Go.Mach
set_option maxRecDepth 1000000
namespace Go.Mach
open Res
abbrev nN (n : Int) : gA := (30, ([], ([], ((0, n), ((false, []), [])))))
abbrev elT (nm : List UInt8) (x : gA) : List gA := [nd 1 [] [1, 6, 12], nd 5 [] [2], nd 7 [116] [3], nd 51 [] [4, 5], nd 33 nm [], nN 2, nd 3 [] [7], nd 49 [61] [8, 11], nd 53 [] [9, 10], nd 33 [116] [], nN 1, x,
  nd 3 [] [13], nd 50 [] [14, 17], nd 52 [114, 101, 112, 111, 114, 116] [15], nd 52 [97, 103, 101, 110, 116] [16], nd 33 [36, 50, 54, 50] [], nd 53 [] [18, 19], nd 33 [116] [], nN 1]
abbrev vob (n : Int) : gq := (6, ((0, 0), ((false, []), ([], n))))
abbrev tL (v : gq) (r : Bool) : fo.den := (9, (0, ([], ([([116], (v, (r, false)))], ([], (0, (-1, (vz, (0, (0, (0, (0, []))))))))))))
abbrev celB (B : List Int) : fo.den := (5, (0, ([], ([], ([], (0, (0, (vz, (0, (0, (0, (0, B))))))))))))
abbrev celT (K : Int) : fo.den := (7, (0, ([], ([], ([], (0, (0, (vz, (K, (1, (0, (2, []))))))))))))
abbrev pX (K : Int) : km.den := (7, (0, ((), ((), ([], (0, (0, (vz, (K, (1, (0, (2, ()))))))))))))
abbrev kf : ai.den := (0, (vz, false))
abbrev gy (t : List gA) (h : List fo.den) (d b : Int) : aM.den := (t, ((20, (20, 50)), ([], (0, ((20, h), (d, (b, (uX, (0, [])))))))))
abbrev hpE (K : Int) (B : List Int) : List fo.den := [tL (vob 2) true, celB B, celT K]
def oK : Int → List UInt8
  | 1 => [73, 110, 116, 56, 65, 114, 114, 97, 121]
  | 2 => [85, 105, 110, 116, 56, 65, 114, 114, 97, 121]
  | 3 => [73, 110, 116, 49, 54, 65, 114, 114, 97, 121]
  | 4 => [85, 105, 110, 116, 49, 54, 65, 114, 114, 97, 121]
  | 5 => [73, 110, 116, 51, 50, 65, 114, 114, 97, 121]
  | 6 => [85, 105, 110, 116, 51, 50, 65, 114, 114, 97, 121]
  | 7 => [66, 105, 103, 73, 110, 116, 54, 52, 65, 114, 114, 97, 121]
  | _ => [66, 105, 103, 85, 105, 110, 116, 54, 52, 65, 114, 114, 97, 121]
inductive iy : Int → Nat → Prop
  | k1 : iy 1 1
  | k2 : iy 2 1
  | k3 : iy 3 2
  | k4 : iy 4 2
  | k5 : iy 5 4
  | k6 : iy 6 4
  | k7 : iy 7 8
  | k8 : iy 8 8
theorem p8 {K : Int} {z : Nat} (h : iy K z) (x : gA) (n : Nat) : (R.eval_run_statement (bH (n + 30)) (gy (elT (oK K) x) [tL vz false] 0 0) 1 kf []).strip = some ((0, ([], vz)), gy (elT (oK K) x) (hpE K (List.replicate (2 * z) 0)) 0 4) := by
  cases h
  all_goals kernel_rfl
end Go.Mach
set_option maxRecDepth 1000000
namespace Go.Mach
open Res
theorem zo {K : Int} {B B' : List Int} {nm : List UInt8} {x : gA} {a v : gq} (h0 : kZ x a) (n : Nat) (hput : (R.bf (gy (elT nm x) (hpE K B) 2 9) (pX K) 1 a).sat (· = ((v, 0), gy (elT nm x) (hpE K B') 2 9))) :
    (R.eval_run_statement (bH (n + 30)) (gy (elT nm x) (hpE K B) 0 4) 6 kf []).sat (· = ((0, ([], vz)), gy (elT nm x) (hpE K B') 0 9)) := by
  unfold R.eval_run_statement
  with_reducible refine aE ?_
  with_reducible refine af (by kernel_rfl) ?_
  with_reducible refine aE ?_
  with_reducible refine aL (by kernel_rfl) ?_
  with_reducible refine jG ?_; delta R.eval_run_act
  with_reducible refine aE ?_
  with_reducible refine dP (by kernel_rfl) (by kernel_rfl) ?_
  with_reducible refine bM (by kernel_rfl) ?_
  with_reducible refine dP (by kernel_rfl) (by kernel_rfl) ?_
  with_reducible refine cO ?_; delta R.eval_run_expression
  with_reducible refine aE ?_
  with_reducible refine af (by kernel_rfl) ?_
  with_reducible refine aE ?_
  with_reducible refine aL (by kernel_rfl) ?_
  with_reducible refine fP ?_; delta R.eval_run_value
  with_reducible refine aE ?_
  with_reducible refine dP (by kernel_rfl) (by kernel_rfl) ?_
  iterate 4 (with_reducible refine aL (by kernel_rfl) ?_)
  with_reducible refine af (by kernel_rfl) ?_
  iterate 5 (with_reducible refine aL (by kernel_rfl) ?_)
  with_reducible refine af (by kernel_rfl) ?_
  with_reducible refine aL (by kernel_rfl) ?_
  with_reducible refine dp ?_; delta R.eval_run_operation
  with_reducible refine aE ?_
  with_reducible refine aL (by kernel_rfl) ?_
  with_reducible refine af (by kernel_rfl) ?_
  iterate 4 (with_reducible refine aL (by kernel_rfl) ?_)
  with_reducible refine bM (by kernel_rfl) ?_
  with_reducible refine kX ?_; delta R.eval_run_assign
  with_reducible refine aE ?_
  with_reducible refine dP (by kernel_rfl) (by kernel_rfl) ?_
  with_reducible refine af (by kernel_rfl) ?_
  with_reducible refine aE ?_
  with_reducible refine aL (by kernel_rfl) ?_
  with_reducible refine bC (by kernel_rfl) ?_
  with_reducible refine af (by kernel_rfl) ?_
  with_reducible refine dP (by kernel_rfl) (by kernel_rfl) ?_
  with_reducible refine cO ?_; delta R.eval_run_expression
  with_reducible refine aE ?_
  with_reducible refine af (by kernel_rfl) ?_
  with_reducible refine aE ?_
  with_reducible refine aL (by kernel_rfl) ?_
  with_reducible refine Af h0 (by kernel_rfl) (by kernel_rfl) ?_
  with_reducible refine aE ?_
  with_reducible refine aH ?_
  with_reducible refine aE ?_
  with_reducible refine aL (by kernel_rfl) ?_
  with_reducible refine af (by kernel_rfl) ?_
  with_reducible refine tw (by kernel_rfl) ?_
  with_reducible refine bF ?_; delta R.eE
  with_reducible refine aE ?_
  with_reducible refine aL (by kernel_rfl) ?_
  with_reducible refine bF ?_; delta R.eG
  with_reducible refine aE ?_
  with_reducible refine af (by kernel_rfl) ?_
  with_reducible refine aL (by kernel_rfl) ?_
  with_reducible refine af (by kernel_rfl) ?_
  with_reducible refine aE ?_
  iterate 2 (with_reducible refine aL (by kernel_rfl) ?_)
  with_reducible refine af (by kernel_rfl) ?_
  with_reducible refine aE ?_
  with_reducible refine af (by kernel_rfl) ?_
  with_reducible refine aE ?_
  with_reducible refine bF ?_
  iterate 3 (with_reducible refine aL (by kernel_rfl) ?_)
  with_reducible refine bM (by kernel_rfl) ?_
  with_reducible refine aL (by kernel_rfl) ?_
  with_reducible refine kI hput (by kernel_rfl) ?_
  with_reducible refine aE ?_
  with_reducible refine aH ?_
  with_reducible refine vI (by kernel_rfl) ?_
  with_reducible refine aH ?_
  with_reducible refine aE ?_
  with_reducible refine aH ?_
  with_reducible refine aE ?_
  with_reducible refine aL (by kernel_rfl) ?_
  with_reducible refine aH ?_
  with_reducible refine aE ?_
  with_reducible refine aH ?_
  with_reducible refine aE ?_
  with_reducible refine aH ?_
  with_reducible refine aE ?_
  with_reducible refine aH ?_
  with_reducible refine aE ?_
  with_reducible refine aL (by kernel_rfl) ?_
  with_reducible refine aH ?_
  with_reducible refine aE ?_
  with_reducible refine aH ?_
  kernel_rfl
theorem ry {K : Int} {B : List Int} {nm : List UInt8} {x : gA} {a v : gq} {q : Int} {s' : aM.den} (h0 : kZ x a) (n : Nat) (hq : (!(q == 0)) = true) (hq' : (q == 0) = false) (hput : (R.bf (gy (elT nm x) (hpE K B) 2 9) (pX K) 1 a).sat (· = ((v, q), s'))) :
    (R.eval_run_statement (bH (n + 30)) (gy (elT nm x) (hpE K B) 0 4) 6 kf []).sat (· = ((q, ([], v)), (s'.1, (s'.2.1, (s'.2.2.1, (s'.2.2.2.1, (s'.2.2.2.2.1, (IntKind.wrap .i64 (IntKind.wrap .i64 (s'.2.2.2.2.2.1 - 1) - 1), s'.2.2.2.2.2.2)))))))) := by
  unfold R.eval_run_statement
  with_reducible refine aE ?_
  with_reducible refine af (by kernel_rfl) ?_
  with_reducible refine aE ?_
  with_reducible refine aL (by kernel_rfl) ?_
  with_reducible refine jG ?_; delta R.eval_run_act
  with_reducible refine aE ?_
  with_reducible refine dP (by kernel_rfl) (by kernel_rfl) ?_
  with_reducible refine bM (by kernel_rfl) ?_
  with_reducible refine dP (by kernel_rfl) (by kernel_rfl) ?_
  with_reducible refine cO ?_; delta R.eval_run_expression
  with_reducible refine aE ?_
  with_reducible refine af (by kernel_rfl) ?_
  with_reducible refine aE ?_
  with_reducible refine aL (by kernel_rfl) ?_
  with_reducible refine fP ?_; delta R.eval_run_value
  with_reducible refine aE ?_
  with_reducible refine dP (by kernel_rfl) (by kernel_rfl) ?_
  iterate 4 (with_reducible refine aL (by kernel_rfl) ?_)
  with_reducible refine af (by kernel_rfl) ?_
  iterate 5 (with_reducible refine aL (by kernel_rfl) ?_)
  with_reducible refine af (by kernel_rfl) ?_
  with_reducible refine aL (by kernel_rfl) ?_
  with_reducible refine dp ?_; delta R.eval_run_operation
  with_reducible refine aE ?_
  with_reducible refine aL (by kernel_rfl) ?_
  with_reducible refine af (by kernel_rfl) ?_
  iterate 4 (with_reducible refine aL (by kernel_rfl) ?_)
  with_reducible refine bM (by kernel_rfl) ?_
  with_reducible refine kX ?_; delta R.eval_run_assign
  with_reducible refine aE ?_
  with_reducible refine dP (by kernel_rfl) (by kernel_rfl) ?_
  with_reducible refine af (by kernel_rfl) ?_
  with_reducible refine aE ?_
  with_reducible refine aL (by kernel_rfl) ?_
  with_reducible refine bC (by kernel_rfl) ?_
  with_reducible refine af (by kernel_rfl) ?_
  with_reducible refine dP (by kernel_rfl) (by kernel_rfl) ?_
  with_reducible refine cO ?_; delta R.eval_run_expression
  with_reducible refine aE ?_
  with_reducible refine af (by kernel_rfl) ?_
  with_reducible refine aE ?_
  with_reducible refine aL (by kernel_rfl) ?_
  with_reducible refine Af h0 (by kernel_rfl) (by kernel_rfl) ?_
  with_reducible refine aE ?_
  with_reducible refine aH ?_
  with_reducible refine aE ?_
  with_reducible refine aL (by kernel_rfl) ?_
  with_reducible refine af (by kernel_rfl) ?_
  with_reducible refine tw (by kernel_rfl) ?_
  with_reducible refine bF ?_; delta R.eE
  with_reducible refine aE ?_
  with_reducible refine aL (by kernel_rfl) ?_
  with_reducible refine bF ?_; delta R.eG
  with_reducible refine aE ?_
  with_reducible refine af (by kernel_rfl) ?_
  with_reducible refine aL (by kernel_rfl) ?_
  with_reducible refine af (by kernel_rfl) ?_
  with_reducible refine aE ?_
  iterate 2 (with_reducible refine aL (by kernel_rfl) ?_)
  with_reducible refine af (by kernel_rfl) ?_
  with_reducible refine aE ?_
  with_reducible refine af (by kernel_rfl) ?_
  with_reducible refine aE ?_
  with_reducible refine bF ?_
  iterate 3 (with_reducible refine aL (by kernel_rfl) ?_)
  with_reducible refine bM (by kernel_rfl) ?_
  with_reducible refine aL (by kernel_rfl) ?_
  with_reducible refine kI hput (by kernel_rfl) ?_
  with_reducible refine aE ?_
  with_reducible refine aH ?_
  with_reducible refine vI (by kernel_rfl) ?_
  with_reducible refine aH ?_
  with_reducible refine aE ?_
  with_reducible refine aH ?_
  with_reducible refine aE ?_
  with_reducible refine ik ?_
  with_reducible refine nT hq' (by kernel_rfl) ?_
  with_reducible refine aH ?_
  with_reducible refine aE ?_
  with_reducible refine aH ?_
  with_reducible refine aE ?_
  with_reducible refine aH ?_
  with_reducible refine aE ?_
  with_reducible refine aH ?_
  with_reducible refine aE ?_
  with_reducible refine ik ?_
  with_reducible refine nT hq' (by kernel_rfl) ?_
  with_reducible refine aH ?_
  with_reducible refine aE ?_
  with_reducible refine aH ?_
  kernel_rfl
theorem st3_E {K : Int} {B : List Int} {nm : List UInt8} {x : gA} {v : gq} (n : Nat) {l : List Int} (hu : (R.bu v).strip = some (l, 0)) (hel : (R.bz (gy (elT nm x) (hpE K B) 3 17) (pX K) 1).sat (· = ((v, 0), gy (elT nm x) (hpE K B) 3 17))) :
    (R.eval_run_statement (bH (n + 30)) (gy (elT nm x) (hpE K B) 0 9) 12 kf []).sat (· = ((5, ([], vz)), (elT nm x, ((20, (20, 50)), ([], (0, ((20, hpE K B), (0, (17, asks l))))))))) := by
  unfold R.eval_run_statement
  obtain ⟨k, hk⟩ := mu
  with_reducible refine aE ?_
  with_reducible refine af (by kernel_rfl) ?_
  with_reducible refine aE ?_
  with_reducible refine aL (by kernel_rfl) ?_
  with_reducible refine jG ?_; delta R.eval_run_act
  with_reducible refine aE ?_
  with_reducible refine dP (by kernel_rfl) (by kernel_rfl) ?_
  with_reducible refine bM (by kernel_rfl) ?_
  with_reducible refine dP (by kernel_rfl) (by kernel_rfl) ?_
  with_reducible refine cO ?_; delta R.eval_run_expression
  with_reducible refine aE ?_
  with_reducible refine af (by kernel_rfl) ?_
  with_reducible refine aE ?_
  with_reducible refine aL (by kernel_rfl) ?_
  with_reducible refine fP ?_; delta R.eval_run_value
  with_reducible refine aE ?_
  with_reducible refine dP (by kernel_rfl) (by kernel_rfl) ?_
  iterate 4 (with_reducible refine aL (by kernel_rfl) ?_)
  with_reducible refine af (by kernel_rfl) ?_
  iterate 5 (with_reducible refine aL (by kernel_rfl) ?_)
  with_reducible refine af (by kernel_rfl) ?_
  with_reducible refine aL (by kernel_rfl) ?_
  with_reducible refine dp ?_; delta R.eval_run_operation
  with_reducible refine aE ?_
  with_reducible refine aL (by kernel_rfl) ?_
  with_reducible refine af (by kernel_rfl) ?_
  iterate 5 (with_reducible refine aL (by kernel_rfl) ?_)
  with_reducible refine bM (by kernel_rfl) ?_
  with_reducible refine kV ?_; delta R.eval_run_callee
  with_reducible refine aE ?_
  with_reducible refine dP (by kernel_rfl) (by kernel_rfl) ?_
  with_reducible refine af (by kernel_rfl) ?_
  with_reducible refine aE ?_
  with_reducible refine aL (by kernel_rfl) ?_
  with_reducible refine bC (by kernel_rfl) ?_
  with_reducible refine jh ?_; delta R.eval_run_arguments
  with_reducible refine aE ?_
  with_reducible refine bF ?_
  with_reducible refine o8 hk ?_
  with_reducible refine bM (by kernel_rfl) ?_
  with_reducible refine dP (by kernel_rfl) (by kernel_rfl) ?_
  with_reducible refine cO ?_; delta R.eval_run_expression
  with_reducible refine aE ?_
  with_reducible refine af (by kernel_rfl) ?_
  with_reducible refine aE ?_
  with_reducible refine aL (by kernel_rfl) ?_
  with_reducible refine fP ?_; delta R.eval_run_value
  with_reducible refine aE ?_
  with_reducible refine dP (by kernel_rfl) (by kernel_rfl) ?_
  iterate 4 (with_reducible refine aL (by kernel_rfl) ?_)
  with_reducible refine af (by kernel_rfl) ?_
  iterate 5 (with_reducible refine aL (by kernel_rfl) ?_)
  with_reducible refine af (by kernel_rfl) ?_
  with_reducible refine aL (by kernel_rfl) ?_
  with_reducible refine dp ?_; delta R.eval_run_operation
  with_reducible refine aE ?_
  with_reducible refine aL (by kernel_rfl) ?_
  with_reducible refine af (by kernel_rfl) ?_
  iterate 7 (with_reducible refine aL (by kernel_rfl) ?_)
  with_reducible refine jz ?_; delta R.eval_run_property
  with_reducible refine aE ?_
  with_reducible refine af (by kernel_rfl) ?_
  with_reducible refine aE ?_
  with_reducible refine aL (by kernel_rfl) ?_
  with_reducible refine bF ?_; delta R.dI
  with_reducible refine aE ?_
  with_reducible refine af (by kernel_rfl) ?_
  with_reducible refine aL (by kernel_rfl) ?_
  with_reducible refine af (by kernel_rfl) ?_
  with_reducible refine aE ?_
  iterate 2 (with_reducible refine aL (by kernel_rfl) ?_)
  with_reducible refine bM (by kernel_rfl) ?_
  with_reducible refine bF ?_; delta R.cm
  with_reducible refine aE ?_
  with_reducible refine af (by kernel_rfl) ?_
  with_reducible refine aE ?_
  iterate 2 (with_reducible refine af (by kernel_rfl) ?_)
  with_reducible refine aE ?_
  with_reducible refine aL (by kernel_rfl) ?_
  with_reducible refine af (by kernel_rfl) ?_
  with_reducible refine aE ?_
  iterate 4 (with_reducible refine aL (by kernel_rfl) ?_)
  with_reducible refine af (by kernel_rfl) ?_
  with_reducible refine aL (by kernel_rfl) ?_
  iterate 2 (with_reducible refine bM (by kernel_rfl) ?_)
  with_reducible refine aL (by kernel_rfl) ?_
  with_reducible refine kI hel (by kernel_rfl) ?_
  with_reducible refine aE ?_
  with_reducible refine aH ?_
  with_reducible refine aE ?_
  with_reducible refine aH ?_
  with_reducible refine aE ?_
  with_reducible refine aH ?_
  with_reducible refine aE ?_
  with_reducible refine aH ?_
  with_reducible refine aE ?_
  with_reducible refine aH ?_
  with_reducible refine aE ?_
  with_reducible refine aH ?_
  with_reducible refine aE ?_
  with_reducible refine aL (by kernel_rfl) ?_
  with_reducible refine bC (by kernel_rfl) ?_
  with_reducible refine aH ?_
  with_reducible refine nr ?_
  with_reducible refine kQ ?_
  with_reducible refine aL (by kernel_rfl) ?_
  with_reducible refine aH ?_
  with_reducible refine uN ?_
  with_reducible refine tw (by kernel_rfl) ?_
  with_reducible refine aH ?_
  with_reducible refine aE ?_
  with_reducible refine aL (by kernel_rfl) ?_
  with_reducible refine nL ?_; delta R.eval_run_call
  with_reducible refine aE ?_
  with_reducible refine aL (by kernel_rfl) ?_
  with_reducible refine af (by kernel_rfl) ?_
  with_reducible refine aE ?_
  with_reducible refine af (by kernel_rfl) ?_
  with_reducible refine bM (by kernel_rfl) ?_
  with_reducible refine nM ?_; delta R.eval_run_does
  with_reducible refine aE ?_
  with_reducible refine af (by kernel_rfl) ?_
  with_reducible refine aE ?_
  with_reducible refine af (by kernel_rfl) ?_
  iterate 10 (with_reducible refine aL (by kernel_rfl) ?_)
  with_reducible refine af (by kernel_rfl) ?_
  with_reducible refine aL (by kernel_rfl) ?_
  with_reducible refine af (by kernel_rfl) ?_
  with_reducible refine aL (by kernel_rfl) ?_
  with_reducible refine af (by kernel_rfl) ?_
  with_reducible refine aL (by kernel_rfl) ?_
  with_reducible refine af (by kernel_rfl) ?_
  with_reducible refine bM (by kernel_rfl) ?_
  with_reducible refine af (by kernel_rfl) ?_
  with_reducible refine aE ?_
  with_reducible refine nR ?_; delta R.eval_run_host
  with_reducible refine aE ?_
  with_reducible refine bF ?_
  iterate 3 (with_reducible refine aL (by kernel_rfl) ?_)
  with_reducible refine bM (by kernel_rfl) ?_
  with_reducible refine BB (m' := R.bu v) (by kernel_rfl) (bA hu rfl) ?_
  with_reducible refine aE ?_
  with_reducible refine aL (by kernel_rfl) ?_
  with_reducible refine aH ?_
  with_reducible refine tw (by kernel_rfl) ?_
  with_reducible refine af (by kernel_rfl) ?_
  with_reducible refine aE ?_
  with_reducible refine bM (by kernel_rfl) ?_
  with_reducible refine aH ?_
  with_reducible refine aE ?_
  with_reducible refine aH ?_
  with_reducible refine aE ?_
  with_reducible refine aH ?_
  with_reducible refine aE ?_
  with_reducible refine aH ?_
  with_reducible refine aE ?_
  with_reducible refine aH ?_
  with_reducible refine aE ?_
  with_reducible refine aH ?_
  with_reducible refine aE ?_
  with_reducible refine aH ?_
  with_reducible refine aE ?_
  with_reducible refine bM (by kernel_rfl) ?_
  with_reducible refine aH ?_
  with_reducible refine aE ?_
  with_reducible refine aH ?_
  kernel_rfl
theorem st3_En {K : Int} {B : List Int} {nm : List UInt8} {x : gA} {v : gq} (n : Nat) (hn : ¬ (R.bu v).facts) (hel : (R.bz (gy (elT nm x) (hpE K B) 3 17) (pX K) 1).sat (· = ((v, 0), gy (elT nm x) (hpE K B) 3 17))) {Q : bW.den × aM.den → Prop} :
    (R.eval_run_statement (bH (n + 30)) (gy (elT nm x) (hpE K B) 0 9) 12 kf []).sat Q := by
  unfold R.eval_run_statement
  obtain ⟨k, hk⟩ := mu
  with_reducible refine aE ?_
  with_reducible refine af (by kernel_rfl) ?_
  with_reducible refine aE ?_
  with_reducible refine aL (by kernel_rfl) ?_
  with_reducible refine jG ?_; delta R.eval_run_act
  with_reducible refine aE ?_
  with_reducible refine dP (by kernel_rfl) (by kernel_rfl) ?_
  with_reducible refine bM (by kernel_rfl) ?_
  with_reducible refine dP (by kernel_rfl) (by kernel_rfl) ?_
  with_reducible refine cO ?_; delta R.eval_run_expression
  with_reducible refine aE ?_
  with_reducible refine af (by kernel_rfl) ?_
  with_reducible refine aE ?_
  with_reducible refine aL (by kernel_rfl) ?_
  with_reducible refine fP ?_; delta R.eval_run_value
  with_reducible refine aE ?_
  with_reducible refine dP (by kernel_rfl) (by kernel_rfl) ?_
  iterate 4 (with_reducible refine aL (by kernel_rfl) ?_)
  with_reducible refine af (by kernel_rfl) ?_
  iterate 5 (with_reducible refine aL (by kernel_rfl) ?_)
  with_reducible refine af (by kernel_rfl) ?_
  with_reducible refine aL (by kernel_rfl) ?_
  with_reducible refine dp ?_; delta R.eval_run_operation
  with_reducible refine aE ?_
  with_reducible refine aL (by kernel_rfl) ?_
  with_reducible refine af (by kernel_rfl) ?_
  iterate 5 (with_reducible refine aL (by kernel_rfl) ?_)
  with_reducible refine bM (by kernel_rfl) ?_
  with_reducible refine kV ?_; delta R.eval_run_callee
  with_reducible refine aE ?_
  with_reducible refine dP (by kernel_rfl) (by kernel_rfl) ?_
  with_reducible refine af (by kernel_rfl) ?_
  with_reducible refine aE ?_
  with_reducible refine aL (by kernel_rfl) ?_
  with_reducible refine bC (by kernel_rfl) ?_
  with_reducible refine jh ?_; delta R.eval_run_arguments
  with_reducible refine aE ?_
  with_reducible refine bF ?_
  with_reducible refine o8 hk ?_
  with_reducible refine bM (by kernel_rfl) ?_
  with_reducible refine dP (by kernel_rfl) (by kernel_rfl) ?_
  with_reducible refine cO ?_; delta R.eval_run_expression
  with_reducible refine aE ?_
  with_reducible refine af (by kernel_rfl) ?_
  with_reducible refine aE ?_
  with_reducible refine aL (by kernel_rfl) ?_
  with_reducible refine fP ?_; delta R.eval_run_value
  with_reducible refine aE ?_
  with_reducible refine dP (by kernel_rfl) (by kernel_rfl) ?_
  iterate 4 (with_reducible refine aL (by kernel_rfl) ?_)
  with_reducible refine af (by kernel_rfl) ?_
  iterate 5 (with_reducible refine aL (by kernel_rfl) ?_)
  with_reducible refine af (by kernel_rfl) ?_
  with_reducible refine aL (by kernel_rfl) ?_
  with_reducible refine dp ?_; delta R.eval_run_operation
  with_reducible refine aE ?_
  with_reducible refine aL (by kernel_rfl) ?_
  with_reducible refine af (by kernel_rfl) ?_
  iterate 7 (with_reducible refine aL (by kernel_rfl) ?_)
  with_reducible refine jz ?_; delta R.eval_run_property
  with_reducible refine aE ?_
  with_reducible refine af (by kernel_rfl) ?_
  with_reducible refine aE ?_
  with_reducible refine aL (by kernel_rfl) ?_
  with_reducible refine bF ?_; delta R.dI
  with_reducible refine aE ?_
  with_reducible refine af (by kernel_rfl) ?_
  with_reducible refine aL (by kernel_rfl) ?_
  with_reducible refine af (by kernel_rfl) ?_
  with_reducible refine aE ?_
  iterate 2 (with_reducible refine aL (by kernel_rfl) ?_)
  with_reducible refine bM (by kernel_rfl) ?_
  with_reducible refine bF ?_; delta R.cm
  with_reducible refine aE ?_
  with_reducible refine af (by kernel_rfl) ?_
  with_reducible refine aE ?_
  iterate 2 (with_reducible refine af (by kernel_rfl) ?_)
  with_reducible refine aE ?_
  with_reducible refine aL (by kernel_rfl) ?_
  with_reducible refine af (by kernel_rfl) ?_
  with_reducible refine aE ?_
  iterate 4 (with_reducible refine aL (by kernel_rfl) ?_)
  with_reducible refine af (by kernel_rfl) ?_
  with_reducible refine aL (by kernel_rfl) ?_
  iterate 2 (with_reducible refine bM (by kernel_rfl) ?_)
  with_reducible refine aL (by kernel_rfl) ?_
  with_reducible refine kI hel (by kernel_rfl) ?_
  with_reducible refine aE ?_
  with_reducible refine aH ?_
  with_reducible refine aE ?_
  with_reducible refine aH ?_
  with_reducible refine aE ?_
  with_reducible refine aH ?_
  with_reducible refine aE ?_
  with_reducible refine aH ?_
  with_reducible refine aE ?_
  with_reducible refine aH ?_
  with_reducible refine aE ?_
  with_reducible refine aH ?_
  with_reducible refine aE ?_
  with_reducible refine aL (by kernel_rfl) ?_
  with_reducible refine bC (by kernel_rfl) ?_
  with_reducible refine aH ?_
  with_reducible refine nr ?_
  with_reducible refine kQ ?_
  with_reducible refine aL (by kernel_rfl) ?_
  with_reducible refine aH ?_
  with_reducible refine uN ?_
  with_reducible refine tw (by kernel_rfl) ?_
  with_reducible refine aH ?_
  with_reducible refine aE ?_
  with_reducible refine aL (by kernel_rfl) ?_
  with_reducible refine nL ?_; delta R.eval_run_call
  with_reducible refine aE ?_
  with_reducible refine aL (by kernel_rfl) ?_
  with_reducible refine af (by kernel_rfl) ?_
  with_reducible refine aE ?_
  with_reducible refine af (by kernel_rfl) ?_
  with_reducible refine bM (by kernel_rfl) ?_
  with_reducible refine nM ?_; delta R.eval_run_does
  with_reducible refine aE ?_
  with_reducible refine af (by kernel_rfl) ?_
  with_reducible refine aE ?_
  with_reducible refine af (by kernel_rfl) ?_
  iterate 10 (with_reducible refine aL (by kernel_rfl) ?_)
  with_reducible refine af (by kernel_rfl) ?_
  with_reducible refine aL (by kernel_rfl) ?_
  with_reducible refine af (by kernel_rfl) ?_
  with_reducible refine aL (by kernel_rfl) ?_
  with_reducible refine af (by kernel_rfl) ?_
  with_reducible refine aL (by kernel_rfl) ?_
  with_reducible refine af (by kernel_rfl) ?_
  with_reducible refine bM (by kernel_rfl) ?_
  with_reducible refine af (by kernel_rfl) ?_
  with_reducible refine aE ?_
  with_reducible refine nR ?_; delta R.eval_run_host
  with_reducible refine aE ?_
  with_reducible refine bF ?_
  iterate 3 (with_reducible refine aL (by kernel_rfl) ?_)
  with_reducible refine bM (by kernel_rfl) ?_
  with_reducible exact w_nof (m' := R.bu v) (by kernel_rfl) hn
end Go.Mach
set_option maxRecDepth 1000000
namespace Go.Mach
open Res
theorem or_nat {n m : Nat} (hn : n < 2 ^ 64) (hm : m < 2 ^ 64) : gF .or .u64 (n : Int) (m : Int) = ((n ||| m : Nat) : Int) := by
  have h : n ||| m < 2 ^ 64 := Nat.or_lt_two_pow hn hm
  show IntKind.wrap .u64 ((BitVec.ofInt 64 (n : Int) ||| BitVec.ofInt 64 (m : Int)).toNat : Int) = _
  rw [BitVec.ofInt_natCast, BitVec.ofInt_natCast, BitVec.toNat_or, BitVec.toNat_ofNat, BitVec.toNat_ofNat, Nat.mod_eq_of_lt hn, Nat.mod_eq_of_lt hm]
  simp only [IntKind.wrap, IntKind.signed, IntKind.bits]
  simp
  omega
theorem or_add {a b : Int} (s : Nat) (hs : s ≤ 56) (ha : 0 ≤ a) (ha2 : a < 2 ^ s) (hb : 0 ≤ b) (hb2 : b < 256) : gF .or .u64 a (nW .u64 (IntKind.wrap .u64 b) (s : Int)) = a + 2 ^ s * b := by
  obtain ⟨n, rfl⟩ := Int.eq_ofNat_of_zero_le ha
  obtain ⟨m, rfl⟩ := Int.eq_ofNat_of_zero_le hb
  have hn : n < 2 ^ s := by exact_mod_cast ha2
  have hm : m < 256 := by omega
  have h1 : (2 : Nat) ^ s * m < 2 ^ 64 := by
    have : (2 : Nat) ^ s ≤ 2 ^ 56 := Nat.pow_le_pow_right (by decide) hs
    calc 2 ^ s * m ≤ 2 ^ 56 * m := Nat.mul_le_mul_right _ this
      _ < 2 ^ 64 := by omega
  have h2 : n < 2 ^ 64 := Nat.lt_of_lt_of_le hn (Nat.pow_le_pow_right (by decide) (by omega))
  have hw : IntKind.wrap .u64 (m : Int) = (m : Int) := by simp [IntKind.wrap, IntKind.signed, IntKind.bits]; omega
  have hsh : nW .u64 (IntKind.wrap .u64 (m : Int)) (s : Int) = ((2 ^ s * m : Nat) : Int) := by
    rw [hw]
    unfold nW
    have e : min (s : Int).toNat IntKind.u64.bits = s := by simp only [IntKind.bits]; omega
    rw [e]
    have e2 : (m : Int) * 2 ^ s = ((2 ^ s * m : Nat) : Int) := by push_cast; rw [Int.mul_comm]
    rw [e2]
    generalize 2 ^ s * m = q at h1 ⊢
    simp only [IntKind.wrap, IntKind.signed, IntKind.bits]
    simp
    omega
  rw [hsh, or_nat h2 h1, Nat.or_comm, ← Nat.two_pow_add_eq_or_of_lt hn]
  push_cast
  rw [Int.add_comm]
abbrev bE (w : Int) (i : Int) : Int := IntKind.wrap .u8 (pD .u64 w i)
theorem bE_eq {w : Int} (s : Nat) (hs : s ≤ 56) : bE w (s : Int) = w / 2 ^ s % 256 := by
  unfold bE pD
  have e : min (s : Int).toNat IntKind.u64.bits = s := by simp only [IntKind.bits]; omega
  rw [e, Int.fdiv_eq_ediv_of_nonneg _ (by exact_mod_cast Nat.zero_le _)]
  simp [IntKind.wrap, IntKind.signed, IntKind.bits]
def bsE : Nat → Int → List Int
  | 1, w => [bE w 0]
  | 2, w => [bE w 0, bE w 8]
  | 4, w => [bE w 0, bE w 8, bE w 16, bE w 24]
  | 8, w => [bE w 0, bE w 8, bE w 16, bE w 24, bE w 32, bE w 40, bE w 48, bE w 56]
  | _, _ => []
def orE (a w s : Int) : Int := gF .or .u64 a (nW .u64 (IntKind.wrap .u64 (bE w s)) s)
theorem oB {a w : Int} (s : Nat) (hs : s ≤ 56) (ha : 0 ≤ a) (ha2 : a < 2 ^ s) : orE a w s = a + 2 ^ s * (w / 2 ^ s % 256) := by
  unfold orE
  rw [bE_eq s hs]
  exact or_add s hs ha ha2 (Int.emod_nonneg _ (by decide)) (Int.emod_lt_of_pos _ (by decide))
def wE : Nat → Int → Int
  | 1, w => orE 0 w 0
  | 2, w => orE (orE 0 w 0) w 8
  | 4, w => orE (orE (orE (orE 0 w 0) w 8) w 16) w 24
  | 8, w => orE (orE (orE (orE (orE (orE (orE (orE 0 w 0) w 8) w 16) w 24) w 32) w 40) w 48) w 56
  | _, _ => 0
theorem wE_eq {K w : Int} {z : Nat} (h : iy K z) (h0 : 0 ≤ w) (h1 : w < 2 ^ (8 * z)) : wE z w = w := by
  have a1 : orE 0 w 0 = w % 256 := by have := oB (a := 0) (w := w) 0 (by omega) (by omega) (by decide); simpa using this
  have a2 : orE (w % 256) w 8 = w % 65536 := by
    have := oB (a := w % 256) (w := w) 8 (by omega) (by omega) (by omega)
    rw [show orE (w % 256) w 8 = orE (w % 256) w ((8 : Nat) : Int) from rfl, this]; omega
  have a3 : orE (w % 65536) w 16 = w % 16777216 := by
    have := oB (a := w % 65536) (w := w) 16 (by omega) (by omega) (by omega)
    rw [show orE (w % 65536) w 16 = orE (w % 65536) w ((16 : Nat) : Int) from rfl, this]; omega
  have a4 : orE (w % 16777216) w 24 = w % 4294967296 := by
    have := oB (a := w % 16777216) (w := w) 24 (by omega) (by omega) (by omega)
    rw [show orE (w % 16777216) w 24 = orE (w % 16777216) w ((24 : Nat) : Int) from rfl, this]; omega
  have a5 : orE (w % 4294967296) w 32 = w % 1099511627776 := by
    have := oB (a := w % 4294967296) (w := w) 32 (by omega) (by omega) (by omega)
    rw [show orE (w % 4294967296) w 32 = orE (w % 4294967296) w ((32 : Nat) : Int) from rfl, this]; omega
  have a6 : orE (w % 1099511627776) w 40 = w % 281474976710656 := by
    have := oB (a := w % 1099511627776) (w := w) 40 (by omega) (by omega) (by omega)
    rw [show orE (w % 1099511627776) w 40 = orE (w % 1099511627776) w ((40 : Nat) : Int) from rfl, this]; omega
  have a7 : orE (w % 281474976710656) w 48 = w % 72057594037927936 := by
    have := oB (a := w % 281474976710656) (w := w) 48 (by omega) (by omega) (by omega)
    rw [show orE (w % 281474976710656) w 48 = orE (w % 281474976710656) w ((48 : Nat) : Int) from rfl, this]; omega
  have a8 : orE (w % 72057594037927936) w 56 = w % 18446744073709551616 := by
    have := oB (a := w % 72057594037927936) (w := w) 56 (by omega) (by omega) (by omega)
    rw [show orE (w % 72057594037927936) w 56 = orE (w % 72057594037927936) w ((56 : Nat) : Int) from rfl, this]; omega
  cases h <;> simp only [wE, a1, a2, a3, a4, a5, a6, a7, a8] <;> omega
theorem za {K w : Int} {z : Nat} (h : iy K z) {t : List gA} {d b : Int} {v : gq} (hw : (R.cG K v).strip = some (w, 0)) : (R.bf (gy t (hpE K (List.replicate (2 * z) 0)) d b) (pX K) 1 v).sat (· = ((v, 0), gy t (hpE K (List.replicate z 0 ++ bsE z w)) d b)) := by
  unfold R.bf
  refine aD fun _ => aG (bA hw rfl) (aD fun _ => aL rfl (bM rfl ?_))
  cases h <;> exact bA (by kernel_rfl) rfl
theorem AW {K w : Int} {z : Nat} (h : iy K z) {t : List gA} {d b : Int} : (R.dJ (gy t (hpE K (List.replicate z 0 ++ bsE z w)) d b) (pX K) z z false (!(K == 7 || K == 8))).strip = some ((wE z w, 0), gy t (hpE K (List.replicate z 0 ++ bsE z w)) d b) := by
  cases h <;> kernel_rfl
end Go.Mach
set_option maxRecDepth 1000000
namespace Go.Mach
open Res
theorem sy {a} : jf (R.fG a) (fun r => 0 ≤ r.2 ∧ r.2 ≤ 5) := by
  unfold R.fG
  refine ⟨aD fun h => ?_⟩
  simp only [Sg.i, oks, Sh.ok, Ty.ok, List.map, Par.v, Bool.and_eq_true] at h
  have := ua h
  refine q_p fun t (ht : t.length ≤ a.length) => aD fun _ => ja (fun _ => aH (by decide)) fun _ => gV (by omega) (by omega) fun e _ _ => aP (R := fun d : List Int => d.length ≤ a.length) (by repeat' (first | with_reducible (first | refine aH ?_ | refine aD fun _ => ?_ | refine ik ?_ | refine nv (fun _ => ?_) fun _ => ?_ | refine pB (fun _ => ?_) fun _ => ?_ | refine ja (fun _ => ?_) fun _ => ?_ | refine bM rfl ?_ | refine aL rfl ?_ | refine dZ (fun _ => ?_) fun _ => ?_ | refine tH ?_ | refine tK ?_ | refine ov ?_ | refine q_e ?_ | refine q_p fun _ _ => ?_ | refine q_b fun _ => ?_ | refine fq ?_ ?_ fun _ _ _ => ?_ | refine gV ?_ ?_ fun _ _ _ => ?_ | refine ke ?_ | refine aP (fI ?_) fun _ _ => ?_ | refine ln ?_ ?_ | refine qi ?_ ?_ | refine tN ?_ ?_ | refine n_d ?_ ?_ | refine oz (fun _ => ?_) fun _ => ?_ | exact safe | refine bF ?_) | exact trivial | dsimp only [Nx, Dn] | with_reducible (first | rfl | refine And.intro ?_ ?_ | intro _ | contradiction) | omega | refine bC (by decide) ?_ | (simp (disch := omega) only [wrap64, ij, iu, List.length_append, List.length_cons, List.length_nil, List.length_take, List.length_drop, List.length_set, List.length_replicate, List.length_reverse] <;> omega) | (simp (disch := omega) only [wrap64, ij, iu, List.length_append, List.length_cons, List.length_nil, List.length_take, List.length_drop, List.length_set, List.length_replicate, List.length_reverse] at * <;> omega) | exact Int.tmod_nonneg _ (by omega) | (simp_all [ib, jV, iq, jX] <;> omega))) fun d hd => q_b fun b => dZ (fun _ => ?_) fun _ => by repeat' (first | with_reducible (first | refine aH ?_ | refine aD fun _ => ?_ | refine ik ?_ | refine nv (fun _ => ?_) fun _ => ?_ | refine pB (fun _ => ?_) fun _ => ?_ | refine ja (fun _ => ?_) fun _ => ?_ | refine bM rfl ?_ | refine aL rfl ?_ | refine dZ (fun _ => ?_) fun _ => ?_ | refine tH ?_ | refine tK ?_ | refine ov ?_ | refine q_e ?_ | refine q_p fun _ _ => ?_ | refine q_b fun _ => ?_ | refine fq ?_ ?_ fun _ _ _ => ?_ | refine gV ?_ ?_ fun _ _ _ => ?_ | refine ke ?_ | refine aP (fI ?_) fun _ _ => ?_ | refine ln ?_ ?_ | refine qi ?_ ?_ | refine tN ?_ ?_ | refine n_d ?_ ?_ | refine oz (fun _ => ?_) fun _ => ?_ | exact safe | refine bF ?_) | exact trivial | dsimp only [Nx, Dn] | with_reducible (first | rfl | refine And.intro ?_ ?_ | intro _ | contradiction) | omega | refine bC (by decide) ?_ | (simp (disch := omega) only [wrap64, ij, iu, List.length_append, List.length_cons, List.length_nil, List.length_take, List.length_drop, List.length_set, List.length_replicate, List.length_reverse] <;> omega) | (simp (disch := omega) only [wrap64, ij, iu, List.length_append, List.length_cons, List.length_nil, List.length_take, List.length_drop, List.length_set, List.length_replicate, List.length_reverse] at * <;> omega) | exact Int.tmod_nonneg _ (by omega) | (simp_all [ib, jV, iq, jX] <;> omega))
  refine aP (kU (Q := fun m => m.length ≤ a.length) (fun m => m.length) (by omega) (fun m => m.length ≤ a.length) hd fun m hm => ?_) fun u hu => ?_ <;> repeat' (first | with_reducible (first | refine aH ?_ | refine aD fun _ => ?_ | refine ik ?_ | refine nv (fun _ => ?_) fun _ => ?_ | refine pB (fun _ => ?_) fun _ => ?_ | refine ja (fun _ => ?_) fun _ => ?_ | refine bM rfl ?_ | refine aL rfl ?_ | refine dZ (fun _ => ?_) fun _ => ?_ | refine tH ?_ | refine tK ?_ | refine ov ?_ | refine q_e ?_ | refine q_p fun _ _ => ?_ | refine q_b fun _ => ?_ | refine fq ?_ ?_ fun _ _ _ => ?_ | refine gV ?_ ?_ fun _ _ _ => ?_ | refine ke ?_ | refine aP (fI ?_) fun _ _ => ?_ | refine ln ?_ ?_ | refine qi ?_ ?_ | refine tN ?_ ?_ | refine n_d ?_ ?_ | refine oz (fun _ => ?_) fun _ => ?_ | exact safe | refine bF ?_) | exact trivial | dsimp only [Nx, Dn] | with_reducible (first | rfl | refine And.intro ?_ ?_ | intro _ | contradiction) | omega | refine bC (by decide) ?_ | (simp (disch := omega) only [wrap64, ij, iu, List.length_append, List.length_cons, List.length_nil, List.length_take, List.length_drop, List.length_set, List.length_replicate, List.length_reverse] <;> omega) | (simp (disch := omega) only [wrap64, ij, iu, List.length_append, List.length_cons, List.length_nil, List.length_take, List.length_drop, List.length_set, List.length_replicate, List.length_reverse] at * <;> omega) | exact Int.tmod_nonneg _ (by omega) | (simp_all [ib, jV, iq, jX] <;> omega))
theorem y3 {a : gq} : (R.cq a).sat fun r => 0 ≤ r.2 ∧ r.2 ≤ 5 := by
  unfold R.cq
  refine aD fun _ => q_b fun r => aD fun _ => ja (fun _ => q_b fun _ => aD fun _ => aH (show (0 : Int) ≤ 0 ∧ (0 : Int) ≤ 5 by decide)) fun _ => ja (fun _ => q_b fun _ => aD fun _ => aH (show (0 : Int) ≤ 0 ∧ (0 : Int) ≤ 5 by decide)) fun _ => ja (fun _ => aP sy.ok fun r hr => aD fun _ => aH hr) fun _ => ja (fun _ => aH (by decide)) fun _ => aH (by decide)
theorem yM {n : Int} (h : cP .u64 n = true) : 0 ≤ n ∧ n < 18446744073709551616 := by
  simp [cP, IntKind.wrap, IntKind.signed, IntKind.bits] at h
  omega
theorem wu64 (n : Int) : 0 ≤ IntKind.wrap .u64 n ∧ IntKind.wrap .u64 n < 18446744073709551616 := by
  simp [IntKind.wrap, IntKind.signed, IntKind.bits]
  omega
theorem mP {x : Int} (h0 : 0 ≤ x) (h1 : x < 2 ^ 64) {m : Nat} (hm : m < 2 ^ 64) : 0 ≤ gF .and .u64 x (m : Int) ∧ gF .and .u64 x (m : Int) ≤ m := by
  obtain ⟨n, rfl⟩ := Int.eq_ofNat_of_zero_le h0
  have hn : n < 2 ^ 64 := by omega
  have hle : n &&& m ≤ m := Nat.and_le_right
  have e : gF .and .u64 (n : Int) (m : Int) = ((n &&& m : Nat) : Int) := by
    show IntKind.wrap .u64 ((BitVec.ofInt 64 (n : Int) &&& BitVec.ofInt 64 (m : Int)).toNat : Int) = _
    rw [BitVec.ofInt_natCast, BitVec.ofInt_natCast, BitVec.toNat_and, BitVec.toNat_ofNat, BitVec.toNat_ofNat, Nat.mod_eq_of_lt hn, Nat.mod_eq_of_lt hm]
    generalize n &&& m = q at hle
    simp only [IntKind.wrap, IntKind.signed, IntKind.bits]
    simp
    omega
  rw [e]
  omega
theorem zg {K : Int} {z : Nat} (h : iy K z) {m : aN.den} : (R.cX K m).sat fun w => 0 ≤ w ∧ w < 2 ^ (8 * z) := by
  unfold R.cX
  refine aD fun _ => aP (R := fun _ => True) (q_b fun _ => dZ (fun _ => aH trivial) fun _ => dZ (fun _ => aH trivial) fun _ => dZ (fun _ => aH trivial) fun _ => aH trivial) fun c _ => dZ (fun _ => aH (by cases h <;> decide)) fun _ => aP (R := fun w => 0 ≤ w ∧ w < 2 ^ (8 * z)) ?_ fun w hw => aD fun _ => aH hw
  unfold R.gJ
  obtain ⟨u0, u1⟩ := wu64 m.2
  cases h
  · exact aD fun _ => aG (a := 1) (aY (by kernel_rfl)) (aD fun _ => bM rfl (bC rfl (aH (by have := mP u0 (by omega) (m := 255) (by decide); exact ⟨this.1, by have h2 := this.2; exact Int.lt_of_le_of_lt h2 (by decide)⟩))))
  · exact aD fun _ => aG (a := 1) (aY (by kernel_rfl)) (aD fun _ => bM rfl (bC rfl (aH (by have := mP u0 (by omega) (m := 255) (by decide); exact ⟨this.1, by have h2 := this.2; exact Int.lt_of_le_of_lt h2 (by decide)⟩))))
  · exact aD fun _ => aG (a := 2) (aY (by kernel_rfl)) (aD fun _ => bM rfl (bC rfl (aH (by have := mP u0 (by omega) (m := 65535) (by decide); exact ⟨this.1, by have h2 := this.2; exact Int.lt_of_le_of_lt h2 (by decide)⟩))))
  · exact aD fun _ => aG (a := 2) (aY (by kernel_rfl)) (aD fun _ => bM rfl (bC rfl (aH (by have := mP u0 (by omega) (m := 65535) (by decide); exact ⟨this.1, by have h2 := this.2; exact Int.lt_of_le_of_lt h2 (by decide)⟩))))
  · exact aD fun _ => aG (a := 4) (aY (by kernel_rfl)) (aD fun _ => bM rfl (bC rfl (aH (by have := mP u0 (by omega) (m := 4294967295) (by decide); exact ⟨this.1, by have h2 := this.2; exact Int.lt_of_le_of_lt h2 (by decide)⟩))))
  · exact aD fun _ => aG (a := 4) (aY (by kernel_rfl)) (aD fun _ => bM rfl (bC rfl (aH (by have := mP u0 (by omega) (m := 4294967295) (by decide); exact ⟨this.1, by have h2 := this.2; exact Int.lt_of_le_of_lt h2 (by decide)⟩))))
  · exact aD fun _ => aG (a := 8) (aY (by kernel_rfl)) (aD fun _ => aL rfl (aH ⟨u0, u1⟩))
  · exact aD fun _ => aG (a := 8) (aY (by kernel_rfl)) (aD fun _ => aL rfl (aH ⟨u0, u1⟩))
theorem zW {K : Int} (hK : K = 7 ∨ K = 8) {b : bl.den} : (R.cV K b).sat fun w => 0 ≤ w ∧ w < 2 ^ 64 := by
  unfold R.cV
  refine aD fun _ => aG (a := true) (by rcases hK with rfl | rfl <;> exact aY (by kernel_rfl)) (aL rfl (q_b fun w => aD fun hw => aH ?_))
  have hw : cP .u64 w = true := by simpa [Sg.o, iG.g, oks, Sh.ok, Ty.ok, nF] using hw
  exact yM hw
theorem Bb {K : Int} {z : Nat} (h : iy K z) {a : gq} : (R.cG K a).sat fun r => (0 ≤ r.2 ∧ r.2 ≤ 5) ∧ 0 ≤ r.1 ∧ r.1 < 2 ^ (8 * z) := by
  have nb : ∀ {K z}, iy K z → (R.aw K).sat (· = false) → (R.cG K a).sat fun r => (0 ≤ r.2 ∧ r.2 ≤ 5) ∧ 0 ≤ r.1 ∧ r.1 < 2 ^ (8 * z) := fun h hb => by
    unfold R.cG
    exact aD fun _ => aG hb (aL rfl (aP sc.ok fun m hm => aD fun _ => aP (zg h) fun w hw => aD fun _ => aH ⟨hm, hw⟩))
  have yb : ∀ {K}, K = 7 ∨ K = 8 → (R.aw K).sat (· = true) → (R.cG K a).sat fun r => (0 ≤ r.2 ∧ r.2 ≤ 5) ∧ 0 ≤ r.1 ∧ r.1 < 2 ^ (8 * 8) := fun hK hb => by
    unfold R.cG
    exact aD fun _ => aG hb (bM rfl (aP y3 fun m hm => aD fun _ => aP (zW hK) fun w hw => aD fun _ => aH ⟨hm, hw⟩))
  cases h
  · exact nb .k1 (aY (by kernel_rfl))
  · exact nb .k2 (aY (by kernel_rfl))
  · exact nb .k3 (aY (by kernel_rfl))
  · exact nb .k4 (aY (by kernel_rfl))
  · exact nb .k5 (aY (by kernel_rfl))
  · exact nb .k6 (aY (by kernel_rfl))
  · exact yb (.inl rfl) (aY (by kernel_rfl))
  · exact yb (.inr rfl) (aY (by kernel_rfl))
end Go.Mach
set_option maxRecDepth 1000000
namespace Go.Mach
open Res
theorem BG {nm : List UInt8} {x : gA} {s1 s2 s3 : aM.den} {o3 : bW.den} (h1 : ∀ n, (R.eval_run_statement (bH (n + 30)) (gy (elT nm x) [tL vz false] 0 0) 1 kf []).sat (· = ((0, ([], vz)), s1)))
    (h2 : ∀ n, (R.eval_run_statement (bH (n + 30)) s1 6 kf []).sat (· = ((0, ([], vz)), s2))) (h3 : ∀ n, (R.eval_run_statement (bH (n + 30)) s2 12 kf []).sat (· = (o3, s3))) (ho : (o3.1 == 0) = false) (ho' : (!(o3.1 == 0)) = true) :
    (R.bI (wt (elT nm x))).sat (· = (o3, s3)) := by
  unfold R.bI
  obtain ⟨k, hk⟩ := mu
  rw [hk]
  have g1 : ((bH (k + 39)).eval_run_statement (gy (elT nm x) [tL vz false] 0 0) 1 kf []).sat (· = ((0, ([], vz)), s1)) := h1 (k + 8)
  have g2 : ((bH (k + 39)).eval_run_statement s1 6 kf []).sat (· = ((0, ([], vz)), s2)) := h2 (k + 8)
  have g3 : ((bH (k + 39)).eval_run_statement s2 12 kf []).sat (· = (o3, s3)) := h3 (k + 8)
  clear h1 h2 h3
  with_reducible refine aE ?_
  with_reducible refine af (by kernel_rfl) ?_
  with_reducible refine aE ?_
  with_reducible refine aL (by kernel_rfl) ?_
  with_reducible refine af (by kernel_rfl) ?_
  with_reducible refine aE ?_
  with_reducible refine aL (by kernel_rfl) ?_
  with_reducible refine dP (by kernel_rfl) (by kernel_rfl) ?_
  with_reducible refine kA ?_; delta R.eval_run_list
  with_reducible refine aE ?_
  with_reducible refine bF ?_
  with_reducible refine o8 hk ?_
  with_reducible refine bM (by kernel_rfl) ?_
  with_reducible refine dP (by kernel_rfl) (by kernel_rfl) ?_
  with_reducible refine kI g1 (by kernel_rfl) ?_
  with_reducible refine aE ?_
  with_reducible refine aL (by kernel_rfl) ?_
  with_reducible refine aH ?_
  with_reducible refine nr ?_
  with_reducible refine kQ ?_
  with_reducible refine bM (by kernel_rfl) ?_
  with_reducible refine dP (by kernel_rfl) (by kernel_rfl) ?_
  with_reducible refine kI g2 (by kernel_rfl) ?_
  with_reducible refine aE ?_
  with_reducible refine aL (by kernel_rfl) ?_
  with_reducible refine aH ?_
  with_reducible refine nr ?_
  with_reducible refine kQ ?_
  with_reducible refine bM (by kernel_rfl) ?_
  with_reducible refine dP (by kernel_rfl) (by kernel_rfl) ?_
  with_reducible refine kI g3 (by kernel_rfl) ?_
  with_reducible refine aE ?_
  with_reducible refine ik ?_
  with_reducible refine nT ho (by kernel_rfl) ?_
  with_reducible refine aH ?_
  with_reducible refine uN ?_
  with_reducible refine vI (by kernel_rfl) ?_
  with_reducible refine aH ?_
  with_reducible refine aE ?_
  with_reducible refine aH ?_
  kernel_rfl
theorem pz {nm : List UInt8} {x : gA} {s1 s3 : aM.den} {o3 : bW.den} (h1 : ∀ n, (R.eval_run_statement (bH (n + 30)) (gy (elT nm x) [tL vz false] 0 0) 1 kf []).sat (· = ((0, ([], vz)), s1)))
    (h2 : ∀ n, (R.eval_run_statement (bH (n + 30)) s1 6 kf []).sat (· = (o3, s3))) (ho : (o3.1 == 0) = false) (ho' : (!(o3.1 == 0)) = true) :
    (R.bI (wt (elT nm x))).sat (· = (o3, s3)) := by
  unfold R.bI
  obtain ⟨k, hk⟩ := mu
  rw [hk]
  have g1 : ((bH (k + 39)).eval_run_statement (gy (elT nm x) [tL vz false] 0 0) 1 kf []).sat (· = ((0, ([], vz)), s1)) := h1 (k + 8)
  have g2 : ((bH (k + 39)).eval_run_statement s1 6 kf []).sat (· = (o3, s3)) := h2 (k + 8)
  clear h1 h2
  with_reducible refine aE ?_
  with_reducible refine af (by kernel_rfl) ?_
  with_reducible refine aE ?_
  with_reducible refine aL (by kernel_rfl) ?_
  with_reducible refine af (by kernel_rfl) ?_
  with_reducible refine aE ?_
  with_reducible refine aL (by kernel_rfl) ?_
  with_reducible refine dP (by kernel_rfl) (by kernel_rfl) ?_
  with_reducible refine kA ?_; delta R.eval_run_list
  with_reducible refine aE ?_
  with_reducible refine bF ?_
  with_reducible refine o8 hk ?_
  with_reducible refine bM (by kernel_rfl) ?_
  with_reducible refine dP (by kernel_rfl) (by kernel_rfl) ?_
  with_reducible refine kI g1 (by kernel_rfl) ?_
  with_reducible refine aE ?_
  with_reducible refine aL (by kernel_rfl) ?_
  with_reducible refine aH ?_
  with_reducible refine nr ?_
  with_reducible refine kQ ?_
  with_reducible refine bM (by kernel_rfl) ?_
  with_reducible refine dP (by kernel_rfl) (by kernel_rfl) ?_
  with_reducible refine kI g2 (by kernel_rfl) ?_
  with_reducible refine aE ?_
  with_reducible refine ik ?_
  with_reducible refine nT ho (by kernel_rfl) ?_
  with_reducible refine aH ?_
  with_reducible refine uN ?_
  with_reducible refine vI (by kernel_rfl) ?_
  with_reducible refine aH ?_
  with_reducible refine aE ?_
  with_reducible refine aH ?_
  kernel_rfl
theorem xh {nm : List UInt8} {x : gA} {s1 s2 : aM.den} (h1 : ∀ n, (R.eval_run_statement (bH (n + 30)) (gy (elT nm x) [tL vz false] 0 0) 1 kf []).sat (· = ((0, ([], vz)), s1)))
    (h2 : ∀ n, (R.eval_run_statement (bH (n + 30)) s1 6 kf []).sat (· = ((0, ([], vz)), s2))) (h3 : ∀ n, (R.eval_run_statement (bH (n + 30)) s2 12 kf []).sat fun _ => False) :
    (R.bI (wt (elT nm x))).sat fun _ => False := by
  unfold R.bI
  obtain ⟨k, hk⟩ := mu
  rw [hk]
  have g1 : ((bH (k + 39)).eval_run_statement (gy (elT nm x) [tL vz false] 0 0) 1 kf []).sat (· = ((0, ([], vz)), s1)) := h1 (k + 8)
  have g2 : ((bH (k + 39)).eval_run_statement s1 6 kf []).sat (· = ((0, ([], vz)), s2)) := h2 (k + 8)
  have g3 : ((bH (k + 39)).eval_run_statement s2 12 kf []).sat fun _ => False := h3 (k + 8)
  clear h1 h2 h3
  with_reducible refine aE ?_
  with_reducible refine af (by kernel_rfl) ?_
  with_reducible refine aE ?_
  with_reducible refine aL (by kernel_rfl) ?_
  with_reducible refine af (by kernel_rfl) ?_
  with_reducible refine aE ?_
  with_reducible refine aL (by kernel_rfl) ?_
  with_reducible refine dP (by kernel_rfl) (by kernel_rfl) ?_
  with_reducible refine kA ?_; delta R.eval_run_list
  with_reducible refine aE ?_
  with_reducible refine bF ?_
  with_reducible refine o8 hk ?_
  with_reducible refine bM (by kernel_rfl) ?_
  with_reducible refine dP (by kernel_rfl) (by kernel_rfl) ?_
  with_reducible refine kI g1 (by kernel_rfl) ?_
  with_reducible refine aE ?_
  with_reducible refine aL (by kernel_rfl) ?_
  with_reducible refine aH ?_
  with_reducible refine nr ?_
  with_reducible refine kQ ?_
  with_reducible refine bM (by kernel_rfl) ?_
  with_reducible refine dP (by kernel_rfl) (by kernel_rfl) ?_
  with_reducible refine kI g2 (by kernel_rfl) ?_
  with_reducible refine aE ?_
  with_reducible refine aL (by kernel_rfl) ?_
  with_reducible refine aH ?_
  with_reducible refine nr ?_
  with_reducible refine kQ ?_
  with_reducible refine bM (by kernel_rfl) ?_
  with_reducible refine dP (by kernel_rfl) (by kernel_rfl) ?_
  with_reducible refine uW g3 (by kernel_rfl) fun u_g3 h_g3 => ?_
  with_reducible refine aE ?_
  with_reducible refine ik ?_
  exact h_g3.elim
end Go.Mach
set_option maxRecDepth 1000000
namespace Go.Mach
open Res
abbrev vt (nm : List UInt8) : fo.den := (10, (0, ([], ([], (nm, (0, (0, (vstr [], (0, (0, (0, (0, []))))))))))))
theorem nG {t : List gA} {n : Int} {s : aM.den} {u : List Int} (hp : (R.bI (wt t)).sat (· = ((4, ([], vob n)), s))) (ht : (R.dN s (vob n)).strip = some u) : (R.bo t (20, (20, 50)) []).sat (· = (uX, (2, u))) := by
  unfold R.bo
  exact aD fun _ => aG (a := (20, [])) (aY (by kernel_rfl)) (aD fun _ => aG hp (aD fun _ => aL rfl (bM rfl (aG (bA ht rfl) (aD fun _ => aH rfl)))))
theorem put_E1 {K w : Int} {B : List Int} {t : List gA} {d b : Int} {v : gq} (hw : (R.cG K v).strip = some (w, 1)) : (R.bf (gy t (hpE K B) d b) (pX K) 1 v).sat (· = ((vob 3, 4), gy t (hpE K B ++ [vt [84, 121, 112, 101, 69, 114, 114, 111, 114]]) d b)) := by
  unfold R.bf
  refine aD fun _ => aG (bA hw rfl) (aD fun _ => bM rfl (aG (bA (m := R.aC (gy t (hpE K B) d b) 1) (a := ((vob 3, 4), gy t (hpE K B ++ [vt [84, 121, 112, 101, 69, 114, 114, 111, 114]]) d b)) (by kernel_rfl) rfl) (aD fun _ => aH rfl)))
theorem A4 {K w : Int} {z : Nat} (h : iy K z) {x : gA} {a : gq} (hx : kZ x a) (hw : (R.cG K a).strip = some (w, 1)) : (R.bo (elT (oK K) x) (20, (20, 50)) []).sat (· = (uX, (2, wY 1))) :=
  nG (n := 3) (pz (fun n => bA (p8 h x n) rfl) (fun n => ry hx n (by decide) (by decide) (put_E1 hw)) rfl rfl) (by kernel_rfl)
theorem put_E2 {K w : Int} {B : List Int} {t : List gA} {d b : Int} {v : gq} (hw : (R.cG K v).strip = some (w, 2)) : (R.bf (gy t (hpE K B) d b) (pX K) 1 v).sat (· = ((vob 3, 4), gy t (hpE K B ++ [vt [82, 97, 110, 103, 101, 69, 114, 114, 111, 114]]) d b)) := by
  unfold R.bf
  refine aD fun _ => aG (bA hw rfl) (aD fun _ => bM rfl (aG (bA (m := R.aC (gy t (hpE K B) d b) 2) (a := ((vob 3, 4), gy t (hpE K B ++ [vt [82, 97, 110, 103, 101, 69, 114, 114, 111, 114]]) d b)) (by kernel_rfl) rfl) (aD fun _ => aH rfl)))
theorem Be {K w : Int} {z : Nat} (h : iy K z) {x : gA} {a : gq} (hx : kZ x a) (hw : (R.cG K a).strip = some (w, 2)) : (R.bo (elT (oK K) x) (20, (20, 50)) []).sat (· = (uX, (2, wY 2))) :=
  nG (n := 3) (pz (fun n => bA (p8 h x n) rfl) (fun n => ry hx n (by decide) (by decide) (put_E2 hw)) rfl rfl) (by kernel_rfl)
theorem put_E3 {K w : Int} {B : List Int} {t : List gA} {d b : Int} {v : gq} (hw : (R.cG K v).strip = some (w, 3)) : (R.bf (gy t (hpE K B) d b) (pX K) 1 v).sat (· = ((vz, 5), (t, ((20, (20, 50)), ([], (0, ((20, hpE K B), (d, (b, (uX, (3, []))))))))))) := by
  unfold R.bf
  refine aD fun _ => aG (bA hw rfl) (aD fun _ => bM rfl (aG (bA (m := R.aC (gy t (hpE K B) d b) 3) (a := ((vz, 5), (t, ((20, (20, 50)), ([], (0, ((20, hpE K B), (d, (b, (uX, (3, []))))))))))) (by kernel_rfl) rfl) (aD fun _ => aH rfl)))
theorem A8 {K w : Int} {z : Nat} (h : iy K z) {x : gA} {a : gq} (hx : kZ x a) (hw : (R.cG K a).strip = some (w, 3)) : (R.bo (elT (oK K) x) (20, (20, 50)) []).sat (· = (uX, (3, []))) :=
  qs (fS (pz (fun n => bA (p8 h x n) rfl) (fun n => ry hx n (by decide) (by decide) (put_E3 hw)) rfl rfl) fun _ e => e ▸ ⟨rfl, rfl⟩)
theorem put_E4 {K w : Int} {B : List Int} {t : List gA} {d b : Int} {v : gq} (hw : (R.cG K v).strip = some (w, 4)) : (R.bf (gy t (hpE K B) d b) (pX K) 1 v).sat (· = ((vob 3, 4), gy t (hpE K B ++ [vt [82, 101, 102, 101, 114, 101, 110, 99, 101, 69, 114, 114, 111, 114]]) d b)) := by
  unfold R.bf
  refine aD fun _ => aG (bA hw rfl) (aD fun _ => bM rfl (aG (bA (m := R.aC (gy t (hpE K B) d b) 4) (a := ((vob 3, 4), gy t (hpE K B ++ [vt [82, 101, 102, 101, 114, 101, 110, 99, 101, 69, 114, 114, 111, 114]]) d b)) (by kernel_rfl) rfl) (aD fun _ => aH rfl)))
theorem BP {K w : Int} {z : Nat} (h : iy K z) {x : gA} {a : gq} (hx : kZ x a) (hw : (R.cG K a).strip = some (w, 4)) : (R.bo (elT (oK K) x) (20, (20, 50)) []).sat (· = (uX, (2, wY 4))) :=
  nG (n := 3) (pz (fun n => bA (p8 h x n) rfl) (fun n => ry hx n (by decide) (by decide) (put_E4 hw)) rfl rfl) (by kernel_rfl)
theorem put_E5 {K w : Int} {B : List Int} {t : List gA} {d b : Int} {v : gq} (hw : (R.cG K v).strip = some (w, 5)) : (R.bf (gy t (hpE K B) d b) (pX K) 1 v).sat (· = ((vob 3, 4), gy t (hpE K B ++ [vt [83, 121, 110, 116, 97, 120, 69, 114, 114, 111, 114]]) d b)) := by
  unfold R.bf
  refine aD fun _ => aG (bA hw rfl) (aD fun _ => bM rfl (aG (bA (m := R.aC (gy t (hpE K B) d b) 5) (a := ((vob 3, 4), gy t (hpE K B ++ [vt [83, 121, 110, 116, 97, 120, 69, 114, 114, 111, 114]]) d b)) (by kernel_rfl) rfl) (aD fun _ => aH rfl)))
theorem BH {K w : Int} {z : Nat} (h : iy K z) {x : gA} {a : gq} (hx : kZ x a) (hw : (R.cG K a).strip = some (w, 5)) : (R.bo (elT (oK K) x) (20, (20, 50)) []).sat (· = (uX, (2, wY 5))) :=
  nG (n := 3) (pz (fun n => bA (p8 h x n) rfl) (fun n => ry hx n (by decide) (by decide) (put_E5 hw)) rfl rfl) (by kernel_rfl)
theorem ya {K w : Int} : (R.cQ K w).sat fun v => v.1 ≠ 6 := by
  unfold R.cQ
  exact aD fun _ => q_b fun c => dZ (fun _ => q_b fun _ => aD fun _ => aP vl.ok fun _ h => aD fun _ => aH h) fun _ => q_b fun _ => aD fun _ => aP vT.ok fun _ h => aD fun _ => aH h
theorem tZ {K w : Int} {z : Nat} (h : iy K z) (h0 : 0 ≤ w) (h1 : w < 2 ^ (8 * z)) {t : List gA} {d b : Int} {v : gq} (hv : (R.cQ K w).strip = some v) : (R.bz (gy t (hpE K (List.replicate z 0 ++ bsE z w)) d b) (pX K) 1).sat (· = ((v, 0), gy t (hpE K (List.replicate z 0 ++ bsE z w)) d b)) := by
  have hl := AW (w := w) h (t := t) (d := d) (b := b)
  rw [wE_eq h h0 h1] at hl
  generalize bsE z w = B at hl ⊢
  unfold R.bz
  have hs : (R.bG K).sat (· = (z : Int)) := by cases h <;> exact aY (by kernel_rfl)
  have hb : (R.aw K).sat (· = (K == 7 || K == 8)) := by cases h <;> exact aY (by kernel_rfl)
  refine aD fun _ => aG hs (aD fun _ => aG hb (aG (a := ((w, 0), gy t (hpE K (List.replicate z 0 ++ B)) d b)) ?_ (aD fun _ => aL rfl (aG (bA hv rfl) (aD fun _ => aH rfl)))))
  refine bA (a := ((w, 0), gy t (hpE K (List.replicate z 0 ++ B)) d b)) (Eq.trans ?_ hl) rfl
  cases h <;> kernel_rfl
theorem BJ {K w : Int} {z : Nat} (h : iy K z) {x : gA} {a v : gq} (hx : kZ x a) (hw : (R.cG K a).strip = some (w, 0)) (h0 : 0 ≤ w) (h1 : w < 2 ^ (8 * z)) (hv : (R.cQ K w).strip = some v) (hn : ¬ (R.bu v).facts) {Q} : (R.bo (elT (oK K) x) (20, (20, 50)) []).sat Q := by
  unfold R.bo
  exact aD fun _ => aG (a := (20, [])) (aY (by kernel_rfl)) (aD fun _ => aP (xh (fun n => bA (p8 h x n) rfl) (fun n => zo hx n (za h hw)) (fun n => st3_En n hn (tZ h h0 h1 hv))) fun _ h => h.elim)
theorem BT {K w : Int} {z : Nat} (h : iy K z) {x : gA} {a v : gq} (hx : kZ x a) (hw : (R.cG K a).strip = some (w, 0)) (h0 : 0 ≤ w) (h1 : w < 2 ^ (8 * z)) (hv : (R.cQ K w).strip = some v) {l : List Int} (hu : (R.bu v).strip = some (l, 0)) : (R.bo (elT (oK K) x) (20, (20, 50)) []).sat (· = asks l) :=
  qs (fS (BG (fun n => bA (p8 h x n) rfl) (fun n => zo hx n (za h hw)) (fun n => st3_E n hu (tZ h h0 h1 hv)) rfl rfl) fun _ e => e ▸ ⟨rfl, rfl⟩)
end Go.Mach
set_option maxRecDepth 1000000
namespace Go.Mach
open Res
theorem st2_EF {K : Int} {B : List Int} {nm : List UInt8} {x : gA} {a : gq} (h0 : kZ x a) (n : Nat) (hput : (R.bf (gy (elT nm x) (hpE K B) 2 9) (pX K) 1 a).sat fun _ => False) :
    (R.eval_run_statement (bH (n + 30)) (gy (elT nm x) (hpE K B) 0 4) 6 kf []).sat fun _ => False := by
  unfold R.eval_run_statement
  with_reducible refine aE ?_
  with_reducible refine af (by kernel_rfl) ?_
  with_reducible refine aE ?_
  with_reducible refine aL (by kernel_rfl) ?_
  with_reducible refine jG ?_; delta R.eval_run_act
  with_reducible refine aE ?_
  with_reducible refine dP (by kernel_rfl) (by kernel_rfl) ?_
  with_reducible refine bM (by kernel_rfl) ?_
  with_reducible refine dP (by kernel_rfl) (by kernel_rfl) ?_
  with_reducible refine cO ?_; delta R.eval_run_expression
  with_reducible refine aE ?_
  with_reducible refine af (by kernel_rfl) ?_
  with_reducible refine aE ?_
  with_reducible refine aL (by kernel_rfl) ?_
  with_reducible refine fP ?_; delta R.eval_run_value
  with_reducible refine aE ?_
  with_reducible refine dP (by kernel_rfl) (by kernel_rfl) ?_
  iterate 4 (with_reducible refine aL (by kernel_rfl) ?_)
  with_reducible refine af (by kernel_rfl) ?_
  iterate 5 (with_reducible refine aL (by kernel_rfl) ?_)
  with_reducible refine af (by kernel_rfl) ?_
  with_reducible refine aL (by kernel_rfl) ?_
  with_reducible refine dp ?_; delta R.eval_run_operation
  with_reducible refine aE ?_
  with_reducible refine aL (by kernel_rfl) ?_
  with_reducible refine af (by kernel_rfl) ?_
  iterate 4 (with_reducible refine aL (by kernel_rfl) ?_)
  with_reducible refine bM (by kernel_rfl) ?_
  with_reducible refine kX ?_; delta R.eval_run_assign
  with_reducible refine aE ?_
  with_reducible refine dP (by kernel_rfl) (by kernel_rfl) ?_
  with_reducible refine af (by kernel_rfl) ?_
  with_reducible refine aE ?_
  with_reducible refine aL (by kernel_rfl) ?_
  with_reducible refine bC (by kernel_rfl) ?_
  with_reducible refine af (by kernel_rfl) ?_
  with_reducible refine dP (by kernel_rfl) (by kernel_rfl) ?_
  with_reducible refine cO ?_; delta R.eval_run_expression
  with_reducible refine aE ?_
  with_reducible refine af (by kernel_rfl) ?_
  with_reducible refine aE ?_
  with_reducible refine aL (by kernel_rfl) ?_
  with_reducible refine Af h0 (by kernel_rfl) (by kernel_rfl) ?_
  with_reducible refine aE ?_
  with_reducible refine aH ?_
  with_reducible refine aE ?_
  with_reducible refine aL (by kernel_rfl) ?_
  with_reducible refine af (by kernel_rfl) ?_
  with_reducible refine tw (by kernel_rfl) ?_
  with_reducible refine bF ?_; delta R.eE
  with_reducible refine aE ?_
  with_reducible refine aL (by kernel_rfl) ?_
  with_reducible refine bF ?_; delta R.eG
  with_reducible refine aE ?_
  with_reducible refine af (by kernel_rfl) ?_
  with_reducible refine aL (by kernel_rfl) ?_
  with_reducible refine af (by kernel_rfl) ?_
  with_reducible refine aE ?_
  iterate 2 (with_reducible refine aL (by kernel_rfl) ?_)
  with_reducible refine af (by kernel_rfl) ?_
  with_reducible refine aE ?_
  with_reducible refine af (by kernel_rfl) ?_
  with_reducible refine aE ?_
  with_reducible refine bF ?_
  iterate 3 (with_reducible refine aL (by kernel_rfl) ?_)
  with_reducible refine bM (by kernel_rfl) ?_
  with_reducible refine aL (by kernel_rfl) ?_
  with_reducible refine uW hput (by kernel_rfl) fun u_hput h_hput => ?_
  with_reducible refine aE ?_
  with_reducible refine aH ?_
  with_reducible refine vI (by kernel_rfl) ?_
  with_reducible refine aH ?_
  with_reducible refine aE ?_
  with_reducible refine aH ?_
  with_reducible refine aE ?_
  with_reducible refine ik ?_
  exact h_hput.elim
theorem st3_EF {K : Int} {B : List Int} {nm : List UInt8} {x : gA} (n : Nat) (hel : (R.bz (gy (elT nm x) (hpE K B) 3 17) (pX K) 1).sat fun _ => False) :
    (R.eval_run_statement (bH (n + 30)) (gy (elT nm x) (hpE K B) 0 9) 12 kf []).sat fun _ => False := by
  unfold R.eval_run_statement
  obtain ⟨k, hk⟩ := mu
  with_reducible refine aE ?_
  with_reducible refine af (by kernel_rfl) ?_
  with_reducible refine aE ?_
  with_reducible refine aL (by kernel_rfl) ?_
  with_reducible refine jG ?_; delta R.eval_run_act
  with_reducible refine aE ?_
  with_reducible refine dP (by kernel_rfl) (by kernel_rfl) ?_
  with_reducible refine bM (by kernel_rfl) ?_
  with_reducible refine dP (by kernel_rfl) (by kernel_rfl) ?_
  with_reducible refine cO ?_; delta R.eval_run_expression
  with_reducible refine aE ?_
  with_reducible refine af (by kernel_rfl) ?_
  with_reducible refine aE ?_
  with_reducible refine aL (by kernel_rfl) ?_
  with_reducible refine fP ?_; delta R.eval_run_value
  with_reducible refine aE ?_
  with_reducible refine dP (by kernel_rfl) (by kernel_rfl) ?_
  iterate 4 (with_reducible refine aL (by kernel_rfl) ?_)
  with_reducible refine af (by kernel_rfl) ?_
  iterate 5 (with_reducible refine aL (by kernel_rfl) ?_)
  with_reducible refine af (by kernel_rfl) ?_
  with_reducible refine aL (by kernel_rfl) ?_
  with_reducible refine dp ?_; delta R.eval_run_operation
  with_reducible refine aE ?_
  with_reducible refine aL (by kernel_rfl) ?_
  with_reducible refine af (by kernel_rfl) ?_
  iterate 5 (with_reducible refine aL (by kernel_rfl) ?_)
  with_reducible refine bM (by kernel_rfl) ?_
  with_reducible refine kV ?_; delta R.eval_run_callee
  with_reducible refine aE ?_
  with_reducible refine dP (by kernel_rfl) (by kernel_rfl) ?_
  with_reducible refine af (by kernel_rfl) ?_
  with_reducible refine aE ?_
  with_reducible refine aL (by kernel_rfl) ?_
  with_reducible refine bC (by kernel_rfl) ?_
  with_reducible refine jh ?_; delta R.eval_run_arguments
  with_reducible refine aE ?_
  with_reducible refine bF ?_
  with_reducible refine o8 hk ?_
  with_reducible refine bM (by kernel_rfl) ?_
  with_reducible refine dP (by kernel_rfl) (by kernel_rfl) ?_
  with_reducible refine cO ?_; delta R.eval_run_expression
  with_reducible refine aE ?_
  with_reducible refine af (by kernel_rfl) ?_
  with_reducible refine aE ?_
  with_reducible refine aL (by kernel_rfl) ?_
  with_reducible refine fP ?_; delta R.eval_run_value
  with_reducible refine aE ?_
  with_reducible refine dP (by kernel_rfl) (by kernel_rfl) ?_
  iterate 4 (with_reducible refine aL (by kernel_rfl) ?_)
  with_reducible refine af (by kernel_rfl) ?_
  iterate 5 (with_reducible refine aL (by kernel_rfl) ?_)
  with_reducible refine af (by kernel_rfl) ?_
  with_reducible refine aL (by kernel_rfl) ?_
  with_reducible refine dp ?_; delta R.eval_run_operation
  with_reducible refine aE ?_
  with_reducible refine aL (by kernel_rfl) ?_
  with_reducible refine af (by kernel_rfl) ?_
  iterate 7 (with_reducible refine aL (by kernel_rfl) ?_)
  with_reducible refine jz ?_; delta R.eval_run_property
  with_reducible refine aE ?_
  with_reducible refine af (by kernel_rfl) ?_
  with_reducible refine aE ?_
  with_reducible refine aL (by kernel_rfl) ?_
  with_reducible refine bF ?_; delta R.dI
  with_reducible refine aE ?_
  with_reducible refine af (by kernel_rfl) ?_
  with_reducible refine aL (by kernel_rfl) ?_
  with_reducible refine af (by kernel_rfl) ?_
  with_reducible refine aE ?_
  iterate 2 (with_reducible refine aL (by kernel_rfl) ?_)
  with_reducible refine bM (by kernel_rfl) ?_
  with_reducible refine bF ?_; delta R.cm
  with_reducible refine aE ?_
  with_reducible refine af (by kernel_rfl) ?_
  with_reducible refine aE ?_
  iterate 2 (with_reducible refine af (by kernel_rfl) ?_)
  with_reducible refine aE ?_
  with_reducible refine aL (by kernel_rfl) ?_
  with_reducible refine af (by kernel_rfl) ?_
  with_reducible refine aE ?_
  iterate 4 (with_reducible refine aL (by kernel_rfl) ?_)
  with_reducible refine af (by kernel_rfl) ?_
  with_reducible refine aL (by kernel_rfl) ?_
  iterate 2 (with_reducible refine bM (by kernel_rfl) ?_)
  with_reducible refine aL (by kernel_rfl) ?_
  with_reducible refine uW hel (by kernel_rfl) fun u_hel h_hel => ?_
  with_reducible refine aE ?_
  with_reducible refine aH ?_
  with_reducible refine aE ?_
  with_reducible refine aH ?_
  with_reducible refine aE ?_
  with_reducible refine aH ?_
  with_reducible refine aE ?_
  with_reducible refine aH ?_
  with_reducible refine aE ?_
  with_reducible refine aH ?_
  with_reducible refine aE ?_
  with_reducible refine aH ?_
  with_reducible refine aE ?_
  with_reducible refine ik ?_
  exact h_hel.elim
theorem Bj {nm : List UInt8} {x : gA} {s1 : aM.den} (h1 : ∀ n, (R.eval_run_statement (bH (n + 30)) (gy (elT nm x) [tL vz false] 0 0) 1 kf []).sat (· = ((0, ([], vz)), s1)))
    (h2 : ∀ n, (R.eval_run_statement (bH (n + 30)) s1 6 kf []).sat fun _ => False) :
    (R.bI (wt (elT nm x))).sat fun _ => False := by
  unfold R.bI
  obtain ⟨k, hk⟩ := mu
  rw [hk]
  have g1 : ((bH (k + 39)).eval_run_statement (gy (elT nm x) [tL vz false] 0 0) 1 kf []).sat (· = ((0, ([], vz)), s1)) := h1 (k + 8)
  have g2 : ((bH (k + 39)).eval_run_statement s1 6 kf []).sat fun _ => False := h2 (k + 8)
  clear h1 h2
  with_reducible refine aE ?_
  with_reducible refine af (by kernel_rfl) ?_
  with_reducible refine aE ?_
  with_reducible refine aL (by kernel_rfl) ?_
  with_reducible refine af (by kernel_rfl) ?_
  with_reducible refine aE ?_
  with_reducible refine aL (by kernel_rfl) ?_
  with_reducible refine dP (by kernel_rfl) (by kernel_rfl) ?_
  with_reducible refine kA ?_; delta R.eval_run_list
  with_reducible refine aE ?_
  with_reducible refine bF ?_
  with_reducible refine o8 hk ?_
  with_reducible refine bM (by kernel_rfl) ?_
  with_reducible refine dP (by kernel_rfl) (by kernel_rfl) ?_
  with_reducible refine kI g1 (by kernel_rfl) ?_
  with_reducible refine aE ?_
  with_reducible refine aL (by kernel_rfl) ?_
  with_reducible refine aH ?_
  with_reducible refine nr ?_
  with_reducible refine kQ ?_
  with_reducible refine bM (by kernel_rfl) ?_
  with_reducible refine dP (by kernel_rfl) (by kernel_rfl) ?_
  with_reducible refine uW g2 (by kernel_rfl) fun u_g2 h_g2 => ?_
  with_reducible refine aE ?_
  with_reducible refine ik ?_
  exact h_g2.elim
theorem wN {t : List gA} {Q} (hp : (R.bI (wt t)).sat fun _ => False) : (R.bo t (20, (20, 50)) []).sat Q := by
  unfold R.bo
  exact aD fun _ => aG (a := (20, [])) (aY (by kernel_rfl)) (aD fun _ => aP hp fun _ h => h.elim)
def wG (K : Int) (a : gq) (r : dC.den × eW.den) : Prop := ∃ w s, (R.cG K a).strip = some (w, s) ∧ ∀ v, (R.cQ K w).strip = some v → Out v s r
theorem el_out {K : Int} {z : Nat} (h : iy K z) {x : gA} {a : gq} (hx : kZ x a) : (R.bo (elT (oK K) x) (20, (20, 50)) []).sat (wG K a) := by
  rcases rh (Bb h (a := a)) with hn | ⟨⟨w, s⟩, hw, hs, h0, h1⟩
  · refine wN (Bj (fun n => bA (p8 h x n) rfl) fun n => st2_EF hx n ?_)
    unfold R.bf
    exact aD fun _ => bF (iT hn)
  rcases y6 hs with rfl | rfl | rfl | rfl | rfl | rfl
  · rcases rh (ya (K := K) (w := w)) with hn | ⟨v, hv, hv6⟩
    · refine wN (xh (fun n => bA (p8 h x n) rfl) (fun n => zo hx n (za h hw)) fun n => st3_EF n ?_)
      have hl := AW (w := w) h (t := elT (oK K) x) (d := 3) (b := 17)
      rw [wE_eq h h0 h1] at hl
      generalize bsE z w = B at hl ⊢
      unfold R.bz
      have hs : (R.bG K).sat (· = (z : Int)) := by cases h <;> exact aY (by kernel_rfl)
      have hb : (R.aw K).sat (· = (K == 7 || K == 8)) := by cases h <;> exact aY (by kernel_rfl)
      refine aD fun _ => aG hs (aD fun _ => aG hb (aG (a := ((w, 0), gy (elT (oK K) x) (hpE K (List.replicate z 0 ++ B)) 3 17)) ?_ (aD fun _ => aL rfl (bF (iT hn)))))
      refine bA (a := ((w, 0), gy (elT (oK K) x) (hpE K (List.replicate z 0 ++ B)) 3 17)) (Eq.trans ?_ hl) rfl
      cases h <;> kernel_rfl
    · rcases rh (Ba hv6) with hn | ⟨⟨l, s⟩, hu, hs⟩
      · exact BJ h hx hw h0 h1 hv hn
      · have hs : s = 0 := hs
        subst hs
        exact fS (BT h hx hw h0 h1 hv hu) fun r e => e ▸ ⟨w, 0, hw, fun v' h' => by rw [hv] at h'; cases h'; exact .asks l hu⟩
  · exact fS (A4 h hx hw) fun r e => e ▸ ⟨w, 1, hw, fun v _ => .rf _ 1 (by decide)⟩
  · exact fS (Be h hx hw) fun r e => e ▸ ⟨w, 2, hw, fun v _ => .rf _ 2 (by decide)⟩
  · exact fS (A8 h hx hw) fun r e => e ▸ ⟨w, 3, hw, fun v _ => .exit _ _⟩
  · exact fS (BP h hx hw) fun r e => e ▸ ⟨w, 4, hw, fun v _ => .rf _ 4 (by decide)⟩
  · exact fS (BH h hx hw) fun r e => e ▸ ⟨w, 5, hw, fun v _ => .rf _ 5 (by decide)⟩
end Go.Mach
set_option maxRecDepth 1000000
namespace Go.Mach
open Res
theorem AF : ∀ F : Res Bool, F = R.cJ → F.sat (· = true) := by
  intro F h
  have h2 := tf
  rw [← h] at h2
  exact Res.bA h2 rfl
theorem t_may {a : gq} {k : Res Bool} (h : ¬ qa a) : (Res.bind (R.fB a) fun r => br (!r) (.ok true) k).sat (· = true) := aP se fun r hr => by
  cases r
  · exact bM rfl (aH rfl)
  · exact absurd (hr rfl) h
theorem t_e {e : Bool} {p : Prop} {k : Res Bool} (he : e = false ∨ p) (h : p → k.sat (· = true)) : (br (!e) (.ok true) k).sat (· = true) := by
  cases e
  · exact bM rfl (aH rfl)
  · rcases he with he | he
    · cases he
    · exact aL rfl (h he)
end Go.Mach
set_option maxRecDepth 1000000
namespace Go.Mach
open Res
theorem uq {t : AD} {e0 : sG} (hl : t.length ≤ 4096) (h0 : t[0]? = some e0) (hk0 : e0.1 = 1) (ho : (R.fC t).sat (· = true)) (h1 : ∀ (n : Nat) (e : sG), 0 < n → t[n]? = some e → e.1 ≠ 1) (hf : ∀ (n : Nat) (e : sG), t[n]? = some e → (R.cL e).sat (· = true))
    (hk : ∀ n : Nat, n < t.length → (R.fK t n).sat (· = true)) (hd : (R.eU t).sat fun d => (R.b9 d).sat fun m => m ≤ 48) : (R.fV t).sat (· = true) := by
  unfold R.fV
  have hpos : 0 < t.length := (List.getElem?_eq_some_iff.1 h0).1
  refine aD fun _ => aG (a := false) ?_ (aL rfl ?_)
  · refine aL (by rw [beq_eq_false_iff_ne]; omega) (aL (by rw [iq]; omega) (gV (by omega) (by simpa using hpos) fun e he _ => ?_))
    have he : t[0]? = some e := he
    rw [h0] at he; cases he
    exact aL (by simp [hk0]) (aG ho (aH rfl))
  refine aG (a := .inl ()) ?_ (rR (aP hd fun d hd => aD fun _ => aP hd fun m hm => aD fun _ => aH (by rw [jV]; exact hm)))
  refine rX (fun i : Int => i) t.length (by omega) (fun i : Int => 0 ≤ i ∧ i ≤ t.length) ⟨by omega, by omega⟩ (fun i h => h) ?_
  rintro i ⟨i0, i1⟩
  refine dZ (fun h => ?_) fun _ => aH rfl
  rw [ib] at h
  have hi : i.toNat < t.length := by omega
  have hin : ((i.toNat : Nat) : Int) = i := by omega
  have w : IntKind.wrap .i64 (i + 1) = i + 1 := wrap64 ⟨by omega, by omega⟩
  refine aG (a := false) (dZ (fun hp => ?_) fun hp => ?_) (aL rfl (aH ⟨w, by rw [w]; omega, by rw [w]; omega⟩))
  · rw [ib] at hp
    refine gV i0 hi fun e he _ => ?_
    refine aL (by simpa using h1 _ e (by omega) he) (gV i0 hi fun e' he' _ => aG (hf _ _ he') (aL rfl (aG (a := true) ?_ (aH rfl))))
    have := hk _ hi
    rwa [hin] at this
  · refine gV i0 hi fun e' he' _ => aG (hf _ _ he') (aL rfl (aG (a := true) ?_ (aH rfl)))
    have := hk _ hi
    rwa [hin] at this
theorem xY {a : gq} (h : qa a) : (R.bT a).sat (fun r => r.2 = true → kZ r.1 a) := by
  unfold R.bT
  refine aD fun _ => ?_
  cases h with
  | und => exact aL rfl (aL rfl (aL rfl (aL rfl (aL rfl (aH fun h => by cases h)))))
  | null => exact bM rfl (aH fun _ => .null)
  | xg b hb =>
    rcases hb with rfl | rfl
    · exact aL rfl (bM rfl (aH fun _ => .fls))
    · exact aL rfl (bM rfl (aH fun _ => .tru))
  | num n hn =>
    obtain ⟨n1, n2⟩ := n
    refine aL rfl (aL rfl (bM rfl (ja (fun h0 => aH fun h1 => ?_) fun _ => aH fun h => by cases h)))
    have h0 : n1 = 0 := h0
    subst h0
    exact .num n2 (of_decide_eq_true h1) (hn rfl).2
  | big b hb =>
    obtain ⟨ng, m⟩ := b
    refine aL rfl (aL rfl (aL rfl (bM rfl (aH fun h1 => ?_))))
    have h1 : ng = false := by simpa using h1
    subst h1
    exact .big m hb
  | str s hs => exact aL rfl (aL rfl (aL rfl (aL rfl (bM rfl (aH fun _ => .str s hs)))))
  | obj r hr => exact aL rfl (aL rfl (aL rfl (aL rfl (aL rfl (aH fun h => by cases h)))))
theorem wy {e0 : gA} {rest : List gA} (hb : yD (e0 :: rest) = true) (hk0 : e0.1 = 1) (h1 : ∀ e ∈ rest, e.1 ≠ 1) (hf : ∀ e ∈ e0 :: rest, (R.cL e).sat (· = true)) : (R.fV (e0 :: rest)).sat (· = true) := by
  simp only [yD, Bool.and_eq_true, decide_eq_true_eq, beq_iff_eq, List.all_eq_true, List.mem_range] at hb
  obtain ⟨b1, b2, b3, b4⟩ := hb
  refine uq (e0 := e0) b1 rfl hk0 (bA b2 rfl) (fun n e hn he => ?_) (fun n e he => hf e (List.mem_of_getElem? he)) (fun n hn => bA (b3 n hn) rfl) ?_
  · obtain ⟨m, rfl⟩ : ∃ m, n = m + 1 := ⟨n - 1, by omega⟩
    exact h1 e (List.mem_of_getElem? (by simpa using he))
  · rw [← qA]
    split at b4
    · rename_i m hm
      exact bA hm (of_decide_eq_true b4)
    · cases b4
instance AL {a} : Safe (R.bT a) := by unfold R.bT; repeat' (first | with_reducible (first | apply Safe.g' | apply Safe.br' | apply Safe.bd' | apply Safe.sm' | intro _ | infer_instance))
theorem tS (a : gq) : (R.bT a).sat fun _ => True := safe
theorem wx {a : gq} {β : Type} {Q : β → Prop} {k : gA × Bool → Res β} (h1 : ∀ x, kZ x a → (k (x, true)).sat Q) (h2 : ∀ x e, e = false ∨ ¬ qa a → (k (x, e)).sat Q) : ((R.bT a).bind k).sat Q := by
  by_cases hm : qa a
  · refine aP (xY hm) fun ⟨x, e⟩ hx => ?_
    cases e
    · exact h2 x _ (.inl rfl)
    · exact h1 x (hx rfl)
  · exact aP (tS a) fun ⟨x, e⟩ _ => h2 x e (.inr hm)
theorem zp {K w s : Int} {a : gq} (hb : (R.aw K).strip = some false) (h : (R.cG K a).strip = some (w, s)) : ∃ m, (R.bR a).strip = some (m, s) ∧ (R.cX K m).strip = some w := by
  unfold R.cG at h
  change ((R.aw K).bind _).strip = _ at h
  rw [iB, hb] at h
  change ((R.bR a).bind _).strip = _ at h
  rw [iB] at h
  cases hm : (R.bR a).strip with
  | none => rw [hm] at h; cases h
  | some m =>
    rw [hm] at h
    change ((R.cX K m.1).bind _).strip = _ at h
    rw [iB] at h
    cases hf : (R.cX K m.1).strip with
    | none => rw [hf] at h; cases h
    | some u =>
      rw [hf] at h
      cases h
      exact ⟨m.1, rfl, hf⟩
theorem AZ {K w s : Int} {a : gq} (hb : (R.aw K).strip = some true) (h : (R.cG K a).strip = some (w, s)) : ∃ m, (R.cq a).strip = some (m, s) ∧ (R.cV K m).strip = some w := by
  unfold R.cG at h
  change ((R.aw K).bind _).strip = _ at h
  rw [iB, hb] at h
  change ((R.cq a).bind _).strip = _ at h
  rw [iB] at h
  cases hm : (R.cq a).strip with
  | none => rw [hm] at h; cases h
  | some m =>
    rw [hm] at h
    change ((R.cV K m.1).bind _).strip = _ at h
    rw [iB] at h
    cases hf : (R.cV K m.1).strip with
    | none => rw [hf] at h; cases h
    | some u =>
      rw [hf] at h
      cases h
      exact ⟨m.1, rfl, hf⟩
theorem xB {K w : Int} {t : aN.den} {v : gq} (hb : (R.aw K).strip = some false) (ht : (R.da K w).strip = some t) (hv : (R.cZ t).strip = some v) : (R.cQ K w).strip = some v := by
  unfold R.cQ
  change ((R.aw K).bind _).strip = _
  rw [iB, hb]
  change ((R.da K w).bind _).strip = _
  rw [iB, ht]
  show ((R.cZ t).bind fun r5 => given (cZ.g.o r5) (ok r5)).strip = some v
  rw [iB, hv]
  rfl
theorem wg {K w : Int} {t : bl.den} (hb : (R.aw K).strip = some true) (ht : (R.dY K w).strip = some t) : (R.cQ K w).strip = some (4, ((0, 0), (t, ([], 0)))) := by
  unfold R.cQ
  change ((R.aw K).bind _).strip = _
  rw [iB, hb]
  change ((R.dY K w).bind _).strip = _
  rw [iB, ht]
  rfl
theorem Ah {nm : List UInt8} {x : gA} {a : gq} {t : List gA} (ht : t = elT nm x) (hx : kZ x a) : yB t = true := by subst ht; cases hx <;> kernel_rfl
theorem A9 {nm : List UInt8} {x : gA} {a : gq} {t : List gA} (ht : t = elT nm x) (hf : (R.cL (nd 33 nm [])).sat (· = true)) (hx : kZ x a) : (R.gH t).sat (· = true) := by
  subst ht
  refine yg (e0 := nd 1 [] [1, 6, 12]) ?_ ?_ ?_ ?_
  · cases hx <;> kernel_rfl
  · rfl
  · intro e he
    simp only [List.mem_cons, List.not_mem_nil, or_false] at he
    rcases he with rfl | rfl | rfl | rfl | rfl | rfl | rfl | rfl | rfl | rfl | rfl | rfl | rfl | rfl | rfl | rfl | rfl | rfl | rfl
    · simp
    · simp
    · simp
    · simp
    · simp
    · simp
    · simp
    · simp
    · simp
    · simp
    · exact zf hx
    · simp
    · simp
    · simp
    · simp
    · simp
    · simp
    · simp
    · simp
  · intro e he
    simp only [List.mem_cons, List.not_mem_nil, or_false] at he
    rcases he with rfl | rfl | rfl | rfl | rfl | rfl | rfl | rfl | rfl | rfl | rfl | rfl | rfl | rfl | rfl | rfl | rfl | rfl | rfl | rfl
    · exact aY (by kernel_rfl)
    · exact aY (by kernel_rfl)
    · exact aY (by kernel_rfl)
    · exact aY (by kernel_rfl)
    · exact hf
    · exact aY (by kernel_rfl)
    · exact aY (by kernel_rfl)
    · exact aY (by kernel_rfl)
    · exact aY (by kernel_rfl)
    · exact aY (by kernel_rfl)
    · exact aY (by kernel_rfl)
    · exact tB hx
    · exact aY (by kernel_rfl)
    · exact aY (by kernel_rfl)
    · exact aY (by kernel_rfl)
    · exact aY (by kernel_rfl)
    · exact aY (by kernel_rfl)
    · exact aY (by kernel_rfl)
    · exact aY (by kernel_rfl)
    · exact aY (by kernel_rfl)
theorem zh {nm : List UInt8} {x : gA} {a : gq} {t : List gA} (ht : t = elT nm x) (hf : (R.cL (nd 33 nm [])).sat (· = true)) (hx : kZ x a) : (R.fV t).sat (· = true) := by
  subst ht
  refine wy (e0 := nd 1 [] [1, 6, 12]) ?_ ?_ ?_ ?_
  · cases hx <;> kernel_rfl
  · rfl
  · intro e he
    simp only [List.mem_cons, List.not_mem_nil, or_false] at he
    rcases he with rfl | rfl | rfl | rfl | rfl | rfl | rfl | rfl | rfl | rfl | rfl | rfl | rfl | rfl | rfl | rfl | rfl | rfl | rfl
    · simp
    · simp
    · simp
    · simp
    · simp
    · simp
    · simp
    · simp
    · simp
    · simp
    · exact zf hx
    · simp
    · simp
    · simp
    · simp
    · simp
    · simp
    · simp
    · simp
  · intro e he
    simp only [List.mem_cons, List.not_mem_nil, or_false] at he
    rcases he with rfl | rfl | rfl | rfl | rfl | rfl | rfl | rfl | rfl | rfl | rfl | rfl | rfl | rfl | rfl | rfl | rfl | rfl | rfl | rfl
    · exact aY (by kernel_rfl)
    · exact aY (by kernel_rfl)
    · exact aY (by kernel_rfl)
    · exact aY (by kernel_rfl)
    · exact hf
    · exact aY (by kernel_rfl)
    · exact aY (by kernel_rfl)
    · exact aY (by kernel_rfl)
    · exact aY (by kernel_rfl)
    · exact aY (by kernel_rfl)
    · exact aY (by kernel_rfl)
    · exact tB hx
    · exact aY (by kernel_rfl)
    · exact aY (by kernel_rfl)
    · exact aY (by kernel_rfl)
    · exact aY (by kernel_rfl)
    · exact aY (by kernel_rfl)
    · exact aY (by kernel_rfl)
    · exact aY (by kernel_rfl)
    · exact aY (by kernel_rfl)
theorem qo {K : Int} {z : Nat} (h : iy K z) : (R.cL (nd 33 (oK K) [])).sat (· = true) := by cases h <;> exact aY (by kernel_rfl)
theorem A5 {K : Int} {z : Nat} (h : iy K z) {x : gA} {a : gq} {t : List gA} (ht : t = elT (oK K) x) (hx : kZ x a) : (R.bo t (20, (20, 50)) []).sat (wG K a) := by
  subst ht
  exact el_out h hx
theorem A0 {K : Int} {z : Nat} (h : iy K z) {x : gA} {a : gq} {t : List gA} (ht : t = elT (oK K) x) (hx : kZ x a) : (R.dH t (20, (20, 50)) []).sat (wG K a) := by
  have hn : t.length ≤ 4096 := by rw [ht]; exact Nat.le_of_ble_eq_true rfl
  exact zd (A9 ht (qo h) hx) hn (Ah ht hx) (A5 h ht hx)
theorem size_E (K : Int) : (R.bG K).sat fun r => r = 0 ∨ ∃ z, iy K z ∧ r = z := by
  by_cases hk : 1 ≤ K ∧ K ≤ 8
  · have : K = 1 ∨ K = 2 ∨ K = 3 ∨ K = 4 ∨ K = 5 ∨ K = 6 ∨ K = 7 ∨ K = 8 := by omega
    rcases this with rfl | rfl | rfl | rfl | rfl | rfl | rfl | rfl
    · exact fS (aY (a := 1) (by kernel_rfl)) fun r e => .inr ⟨1, .k1, e⟩
    · exact fS (aY (a := 1) (by kernel_rfl)) fun r e => .inr ⟨1, .k2, e⟩
    · exact fS (aY (a := 2) (by kernel_rfl)) fun r e => .inr ⟨2, .k3, e⟩
    · exact fS (aY (a := 2) (by kernel_rfl)) fun r e => .inr ⟨2, .k4, e⟩
    · exact fS (aY (a := 4) (by kernel_rfl)) fun r e => .inr ⟨4, .k5, e⟩
    · exact fS (aY (a := 4) (by kernel_rfl)) fun r e => .inr ⟨4, .k6, e⟩
    · exact fS (aY (a := 8) (by kernel_rfl)) fun r e => .inr ⟨8, .k7, e⟩
    · exact fS (aY (a := 8) (by kernel_rfl)) fun r e => .inr ⟨8, .k8, e⟩
  · have hn : ∀ n : Int, (n = 1 ∨ n = 2 ∨ n = 3 ∨ n = 4 ∨ n = 5 ∨ n = 6 ∨ n = 7 ∨ n = 8) → (K == n) = false := fun n hn => by rw [beq_eq_false_iff_ne]; omega
    unfold R.bG
    refine aD fun _ => aG (a := false) (aL (hn 1 (by decide)) (aH (hn 2 (by decide)))) (aL rfl (aG (a := false) (aL (hn 3 (by decide)) (aH (hn 4 (by decide)))) (aL rfl (aG (a := false) (aL (hn 5 (by decide)) (aH (hn 6 (by decide)))) (aL rfl (aG (a := false) (aL (hn 7 (by decide)) (aH (hn 8 (by decide)))) (aL rfl (aH (.inl rfl)))))))))
theorem qT (K : Int) (a : gq) : jf (R.cC K a) (· = true) := by
  constructor
  unfold R.cC
  have firstF := AF
  generalize hF : R.cJ = F at firstF ⊢
  have mK := firstF _ rfl
  refine aD fun _ => aG mK (aL rfl ?_)
  refine wx (fun x hx => aD fun _ => ?_) fun x e he => aD fun _ => aG (a := true) (t_e he fun h => t_may h) (bM rfl (aG mK (aH rfl)))
  by_cases hk : ∃ z, iy K z
  case neg => exact aG (a := true) (aL rfl (aG (tq hx) (aL rfl (aP (size_E K) fun r hr => aD fun _ => aH (by
    rcases hr with rfl | ⟨z, h, _⟩
    · rfl
    · exact absurd ⟨z, h⟩ hk))))) (bM rfl (aG mK (aH rfl)))
  obtain ⟨z, h⟩ := hk
  have hsz : (R.bG K).sat (· = (z : Int)) := by cases h <;> exact aY (by kernel_rfl)
  refine aG (a := false) (aL rfl (aG (tq hx) (aL rfl (aG hsz (aD fun _ => aH (by cases h <;> rfl)))))) (aL rfl ?_)
  have fin0 : ∀ r, wG K a r → (R.aw K).strip = some false → (Res.bind (R.bR a) fun r18 => Res.given (bR.g.o r18) (Res.bind F fun r19 => Res.br r19 (Res.bind (R.cX K r18.1) fun r20 => Res.given (cX.g.o r20) (Res.bind (R.da K r20) fun r21 => Res.given (da.g.o r21) (Res.bind (R.cZ r21) fun r22 => Res.given (cZ.g.o r22) (Res.bind (R.cr r.1 r.2 r22 r18.2) fun r23 => Res.ok (r23))))) (Res.ok false))).sat (· = true) := fun r ⟨w, s, hw, ho⟩ hb => by
    obtain ⟨m, hm, hf⟩ := zp hb hw
    exact aG (bA hm rfl) (aD fun _ => aG mK (bM rfl (aG (bA hf rfl) (aD fun _ => rO (P := fun _ => True) safe fun t ht _ => aD fun _ => rO (P := fun _ => True) safe fun v hv _ => aD fun _ => aG (uK (ho v (xB hb ht hv))) (aH rfl)))))
  have fin1 : ∀ r, wG K a r → (R.aw K).strip = some true → (Res.bind (R.cq a) fun r13 => Res.given (cq.g.o r13) (Res.bind F fun r14 => Res.br r14 (Res.bind (R.cV K r13.1) fun r15 => Res.given (cV.g.o r15) (Res.bind (R.dY K r15) fun r16 => Res.given (dY.g.o r16) (Res.bind (R.cr r.1 r.2 (4, ((0, 0), (r16, (([] : List Int), 0)))) r13.2) fun r17 => Res.ok (r17)))) (Res.ok false))).sat (· = true) := fun r ⟨w, s, hw, ho⟩ hb => by
    obtain ⟨m, hm, hf⟩ := AZ hb hw
    exact aG (bA hm rfl) (aD fun _ => aG mK (bM rfl (aG (bA hf rfl) (aD fun _ => rO (P := fun _ => True) safe fun t ht _ => aD fun _ => aG (uK (ho _ (wg hb ht))) (aH rfl)))))
  obtain ⟨t, ht⟩ : ∃ t, t = elT (oK K) x := ⟨_, rfl⟩
  have m1 := zh ht (qo h) hx
  have n1 := A0 h ht hx
  clear hsz
  cases h
  · have hb : (R.aw 1).strip = some false := by kernel_rfl
    with_reducible refine bC (by kernel_rfl) ?_
    with_reducible refine dP (by kernel_rfl) (by kernel_rfl) ?_
    with_reducible refine bC (by kernel_rfl) ?_
    with_reducible refine na (by kernel_rfl) (by kernel_rfl) ?_
    iterate 2 (with_reducible refine bC (by kernel_rfl) ?_)
    with_reducible refine dP (by kernel_rfl) (by kernel_rfl) ?_
    with_reducible refine bC (by kernel_rfl) ?_
    with_reducible refine kI m1 (by rw [ht]; kernel_rfl) ?_
    with_reducible refine nT (e := false) rfl (by kernel_rfl) ?_
    with_reducible refine nc (m' := R.dH t (20, (20, 50)) []) (by rw [ht]; kernel_rfl) n1 fun r hr => ?_
    with_reducible refine aE ?_
    with_reducible refine aG (bA hb rfl) ?_
    exact aL rfl (fin0 r hr hb)
  · have hb : (R.aw 2).strip = some false := by kernel_rfl
    with_reducible refine bC (by kernel_rfl) ?_
    with_reducible refine dP (by kernel_rfl) (by kernel_rfl) ?_
    with_reducible refine bC (by kernel_rfl) ?_
    with_reducible refine na (by kernel_rfl) (by kernel_rfl) ?_
    iterate 2 (with_reducible refine bC (by kernel_rfl) ?_)
    with_reducible refine dP (by kernel_rfl) (by kernel_rfl) ?_
    with_reducible refine bC (by kernel_rfl) ?_
    with_reducible refine kI m1 (by rw [ht]; kernel_rfl) ?_
    with_reducible refine nT (e := false) rfl (by kernel_rfl) ?_
    with_reducible refine nc (m' := R.dH t (20, (20, 50)) []) (by rw [ht]; kernel_rfl) n1 fun r hr => ?_
    with_reducible refine aE ?_
    with_reducible refine aG (bA hb rfl) ?_
    exact aL rfl (fin0 r hr hb)
  · have hb : (R.aw 3).strip = some false := by kernel_rfl
    with_reducible refine bC (by kernel_rfl) ?_
    with_reducible refine dP (by kernel_rfl) (by kernel_rfl) ?_
    with_reducible refine bC (by kernel_rfl) ?_
    with_reducible refine na (by kernel_rfl) (by kernel_rfl) ?_
    iterate 2 (with_reducible refine bC (by kernel_rfl) ?_)
    with_reducible refine dP (by kernel_rfl) (by kernel_rfl) ?_
    with_reducible refine bC (by kernel_rfl) ?_
    with_reducible refine kI m1 (by rw [ht]; kernel_rfl) ?_
    with_reducible refine nT (e := false) rfl (by kernel_rfl) ?_
    with_reducible refine nc (m' := R.dH t (20, (20, 50)) []) (by rw [ht]; kernel_rfl) n1 fun r hr => ?_
    with_reducible refine aE ?_
    with_reducible refine aG (bA hb rfl) ?_
    exact aL rfl (fin0 r hr hb)
  · have hb : (R.aw 4).strip = some false := by kernel_rfl
    with_reducible refine bC (by kernel_rfl) ?_
    with_reducible refine dP (by kernel_rfl) (by kernel_rfl) ?_
    with_reducible refine bC (by kernel_rfl) ?_
    with_reducible refine na (by kernel_rfl) (by kernel_rfl) ?_
    iterate 2 (with_reducible refine bC (by kernel_rfl) ?_)
    with_reducible refine dP (by kernel_rfl) (by kernel_rfl) ?_
    with_reducible refine bC (by kernel_rfl) ?_
    with_reducible refine kI m1 (by rw [ht]; kernel_rfl) ?_
    with_reducible refine nT (e := false) rfl (by kernel_rfl) ?_
    with_reducible refine nc (m' := R.dH t (20, (20, 50)) []) (by rw [ht]; kernel_rfl) n1 fun r hr => ?_
    with_reducible refine aE ?_
    with_reducible refine aG (bA hb rfl) ?_
    exact aL rfl (fin0 r hr hb)
  · have hb : (R.aw 5).strip = some false := by kernel_rfl
    with_reducible refine bC (by kernel_rfl) ?_
    with_reducible refine dP (by kernel_rfl) (by kernel_rfl) ?_
    with_reducible refine bC (by kernel_rfl) ?_
    with_reducible refine na (by kernel_rfl) (by kernel_rfl) ?_
    iterate 2 (with_reducible refine bC (by kernel_rfl) ?_)
    with_reducible refine dP (by kernel_rfl) (by kernel_rfl) ?_
    with_reducible refine bC (by kernel_rfl) ?_
    with_reducible refine kI m1 (by rw [ht]; kernel_rfl) ?_
    with_reducible refine nT (e := false) rfl (by kernel_rfl) ?_
    with_reducible refine nc (m' := R.dH t (20, (20, 50)) []) (by rw [ht]; kernel_rfl) n1 fun r hr => ?_
    with_reducible refine aE ?_
    with_reducible refine aG (bA hb rfl) ?_
    exact aL rfl (fin0 r hr hb)
  · have hb : (R.aw 6).strip = some false := by kernel_rfl
    with_reducible refine bC (by kernel_rfl) ?_
    with_reducible refine dP (by kernel_rfl) (by kernel_rfl) ?_
    with_reducible refine bC (by kernel_rfl) ?_
    with_reducible refine na (by kernel_rfl) (by kernel_rfl) ?_
    iterate 2 (with_reducible refine bC (by kernel_rfl) ?_)
    with_reducible refine dP (by kernel_rfl) (by kernel_rfl) ?_
    with_reducible refine bC (by kernel_rfl) ?_
    with_reducible refine kI m1 (by rw [ht]; kernel_rfl) ?_
    with_reducible refine nT (e := false) rfl (by kernel_rfl) ?_
    with_reducible refine nc (m' := R.dH t (20, (20, 50)) []) (by rw [ht]; kernel_rfl) n1 fun r hr => ?_
    with_reducible refine aE ?_
    with_reducible refine aG (bA hb rfl) ?_
    exact aL rfl (fin0 r hr hb)
  · have hb : (R.aw 7).strip = some true := by kernel_rfl
    with_reducible refine bC (by kernel_rfl) ?_
    with_reducible refine dP (by kernel_rfl) (by kernel_rfl) ?_
    with_reducible refine bC (by kernel_rfl) ?_
    with_reducible refine na (by kernel_rfl) (by kernel_rfl) ?_
    iterate 2 (with_reducible refine bC (by kernel_rfl) ?_)
    with_reducible refine dP (by kernel_rfl) (by kernel_rfl) ?_
    with_reducible refine bC (by kernel_rfl) ?_
    with_reducible refine kI m1 (by rw [ht]; kernel_rfl) ?_
    with_reducible refine nT (e := false) rfl (by kernel_rfl) ?_
    with_reducible refine nc (m' := R.dH t (20, (20, 50)) []) (by rw [ht]; kernel_rfl) n1 fun r hr => ?_
    with_reducible refine aE ?_
    with_reducible refine aG (bA hb rfl) ?_
    exact bM rfl (fin1 r hr hb)
  · have hb : (R.aw 8).strip = some true := by kernel_rfl
    with_reducible refine bC (by kernel_rfl) ?_
    with_reducible refine dP (by kernel_rfl) (by kernel_rfl) ?_
    with_reducible refine bC (by kernel_rfl) ?_
    with_reducible refine na (by kernel_rfl) (by kernel_rfl) ?_
    iterate 2 (with_reducible refine bC (by kernel_rfl) ?_)
    with_reducible refine dP (by kernel_rfl) (by kernel_rfl) ?_
    with_reducible refine bC (by kernel_rfl) ?_
    with_reducible refine kI m1 (by rw [ht]; kernel_rfl) ?_
    with_reducible refine nT (e := false) rfl (by kernel_rfl) ?_
    with_reducible refine nc (m' := R.dH t (20, (20, 50)) []) (by rw [ht]; kernel_rfl) n1 fun r hr => ?_
    with_reducible refine aE ?_
    with_reducible refine aG (bA hb rfl) ?_
    exact bM rfl (fin1 r hr hb)
end Go.Mach
namespace Go.Mach
theorem xW {P : Program} {c : OpenClaim} (h : P.funcs.any Func.goes = false) (hs : c.start = .entering) : false = c.goesBy P := by
  have h1 : ∀ g : Nat, (P.funcs[g]?).any Func.goes = false := fun g => by
    cases hg : P.funcs[g]? with
    | none => rfl
    | some fn => simpa using (Array.any_eq_false'.1 h) fn (Array.mem_of_getElem? hg)
  have h2 : ∀ f, P.goes f = false := fun f => by
    unfold Program.goes
    rw [h, Bool.and_false, Bool.or_false, List.any_eq_false]
    exact fun g _ => by rw [h1 g]; decide
  have h3 : P.goesFrom c.func = false := by
    unfold Program.goesFrom
    cases P.funcNamed c.func with
    | none => rfl
    | some f => exact h2 f
  unfold OpenClaim.goesBy Program.goesAt
  rw [h3, hs]
  rfl
end Go.Mach
