/-
  Proved here: the law renlaw12.EvalNames returns true for every input of the stated bulk and leaves its arguments as they were; no further condition.
  By an AI agent; no person has read it.
-/
import Derived.Test.YtimhplnifencnaaGreatDoorPartk
import Derived.KernelRfl
import GoSem.ClaimGoes
set_option linter.all false
set_option linter.deprecated false
set_option maxRecDepth 1000000
namespace Go.Mach
theorem ru : R.bx.strip = some true := by kernel_rfl
theorem jv : R.bx.sat (· = true) := by
  have h := ru
  generalize R.bx = m at h
  exact Res.fC h rfl
end Go.Mach
set_option maxRecDepth 100000
namespace Go.Mach
open Res
theorem di {α : Type} {m : Res α} {a : α} (h : m.strip = some a) : m.sat (· = a) := Res.fC h rfl
abbrev vP := aB.den
abbrev TreeT := List vP
theorem s8 {t : TreeT} {e0 : vP} (hl : t.length ≤ 4096) (h0 : t[0]? = some e0) (hk0 : e0.1 = 1) (ho : (R.fK t).sat (· = true)) (h1 : ∀ (n : Nat) (e : vP), 0 < n → t[n]? = some e → e.1 ≠ 1) (hf : ∀ (n : Nat) (e : vP), t[n]? = some e → (R.dJ e).sat (· = true))
    (hk : ∀ n : Nat, n < t.length → (R.fX t n).sat (· = true)) (hd : (R.eu t).sat fun d => (R.cL d).sat fun m => m ≤ 48) : (R.dd t).sat (· = true) := by
  unfold R.dd
  have hpos : 0 < t.length := (List.getElem?_eq_some_iff.1 h0).1
  refine aQ fun _ => ae (a := false) ?_ (aN rfl ?_)
  · refine aN (by rw [beq_eq_false_iff_ne]; omega) (aN (by rw [jc]; omega) (gr (by omega) (by simpa using hpos) fun e he _ => ?_))
    have he : t[0]? = some e := he
    rw [h0] at he; cases he
    exact aN (by simp [hk0]) (ae ho (aG rfl))
  refine ae (a := .inl ()) ?_ (vf (bD hd fun d hd => aQ fun _ => bD hd fun m hm => aQ fun _ => aG (by rw [kc]; exact hm)))
  refine sH (fun i : Int => i) t.length (by omega) (fun i : Int => 0 ≤ i ∧ i ≤ t.length) ⟨by omega, by omega⟩ (fun i h => h) ?_
  rintro i ⟨i0, i1⟩
  refine fU (fun h => ?_) fun _ => aG rfl
  rw [jZ] at h
  have hi : i.toNat < t.length := by omega
  have hin : ((i.toNat : Nat) : Int) = i := by omega
  have w : IntKind.wrap .i64 (i + 1) = i + 1 := wrap64 ⟨by omega, by omega⟩
  refine ae (a := false) (fU (fun hp => ?_) fun hp => ?_) (aN rfl (aG ⟨w, by rw [w]; omega, by rw [w]; omega⟩))
  · rw [jZ] at hp
    refine gr i0 hi fun e he _ => ?_
    refine aN (by simpa using h1 _ e (by omega) he) (gr i0 hi fun e' he' _ => ae (hf _ _ he') (aN rfl (ae (a := true) ?_ (aG rfl))))
    have := hk _ hi
    rwa [hin] at this
  · refine gr i0 hi fun e' he' _ => ae (hf _ _ he') (aN rfl (ae (a := true) ?_ (aG rfl)))
    have := hk _ hi
    rwa [hin] at this
theorem qL {t : TreeT} (hl : t.length ≤ 4096) (hm : (R.dd t).sat (· = true)) {up : List Int} (hp : (R.dP t).sat (· = up)) (hw : ∀ n : Nat, n < t.length → (R.ep t up n).sat (· = false)) : (R.cA t).sat (· = (0, 0)) := by
  unfold R.cA
  refine aQ fun _ => ae hm (aN rfl (ae hp (aQ fun _ => ae (a := .inl ()) ?_ (vf (aG rfl)))))
  refine sH (fun i : Int => i) t.length (by omega) (fun i : Int => 0 ≤ i ∧ i ≤ t.length) ⟨by omega, by omega⟩ (fun i h => h) ?_
  rintro i ⟨i0, i1⟩
  refine fU (fun h => ?_) fun _ => aG rfl
  rw [jZ] at h
  have hi : i.toNat < t.length := by omega
  have hin : ((i.toNat : Nat) : Int) = i := by omega
  have w : IntKind.wrap .i64 (i + 1) = i + 1 := wrap64 ⟨by omega, by omega⟩
  have := hw _ hi
  rw [hin] at this
  exact ae this (aN rfl (aG ⟨w, by rw [w]; omega, by rw [w]; omega⟩))
end Go.Mach
set_option maxRecDepth 1000000
namespace Go.Mach
open Res
abbrev gP := aA.den
abbrev gG := aB.den
theorem kj : ∃ k, fuel = k + 40 := ⟨2 ^ 70 - 40, by decide⟩
theorem vI {α β : Type} {Q : β → Prop} {m m' : Res α} {a : α} {k : α → Res β} (h : m = m') (h2 : m'.sat (· = a)) (hk : (k a).sat Q) : (m.bind k).sat Q := h ▸ ae h2 hk
theorem yP {α β : Type} {Q : β → Prop} {m : Res α} {P : α → Prop} {k : α → Res β} (h : m.sat P) (hk : ∀ u, m.strip = some u → P u → (k u).sat Q) : (m.bind k).sat Q := by
  by_cases hf : m.facts
  · obtain ⟨u, h1, h2⟩ := ml h hf
    exact ae (fC h1 rfl) (hk u h1 h2)
  · exact bA (ir hf)
abbrev vz : gP := (0, ((0, 0), ((false, []), ([], 0))))
abbrev vnum (n : Int) : gP := (3, ((0, n), ((false, []), ([], 0))))
abbrev vbig (m : List Int) : gP := (4, ((0, 0), ((false, m), ([], 0))))
abbrev vstr (s : List Int) : gP := (5, ((0, 0), ((false, []), (s, 0))))
inductive oh : gP → Prop
  | und : oh vz
  | null : oh (1, vz.2)
  | vV (b : Int) : b = 0 ∨ b = 1 → oh (2, ((0, 0), ((false, []), ([], b))))
  | num (n : Int × Int) : (n.1 = 0 → -9007199254740991 ≤ n.2 ∧ n.2 ≤ 9007199254740991) → oh (3, (n, vz.2.2))
  | big (b : Bool × List Int) : (R.fI b).strip = some true → oh (4, ((0, 0), (b, ([], 0))))
  | str (s : List Int) : s.length ≤ 4096 → oh (vstr s)
  | obj (r : Int) : 0 ≤ r → oh (6, ((0, 0), ((false, []), ([], r))))
theorem jO {a : gP} : (R.eX a).sat (fun r => r = true → a = (a.1, vz.2)) := by
  obtain ⟨k, ⟨n1, n2⟩, ⟨ng, mg⟩, s, ref⟩ := a
  unfold R.eX
  refine aQ fun _ => fU (fun h1 => ka (fU (fun _ => aG fun h => by cases h) fun h2 => jz (fun h3 => jz (fun h4 => aG fun h5 => ?_) fun _ => aG fun h => by cases h) fun _ => aG fun h => by cases h)) fun _ => aG fun h => by cases h
  simp only [Bool.and_true, Bool.and_eq_true, beq_iff_eq] at h1 h2 h5
  have e3 : mg = [] := List.length_eq_zero_iff.1 (by simpa using h3)
  have e4 : s = [] := List.length_eq_zero_iff.1 (by simpa using h4)
  obtain ⟨rfl, rfl⟩ := h1
  subst h2 e3 e4 h5
  rfl
theorem wE {a : Int × Int} : (R.fi a).sat (fun r => r = true → a.1 = 0 → -9007199254740991 ≤ a.2 ∧ a.2 ≤ 9007199254740991) := by
  unfold R.fi
  refine aQ fun _ => jz (fun h => p9 (fun h1 => aG fun h2 _ => ⟨h1, of_decide_eq_true h2⟩) fun _ => aG fun h => by cases h) fun h => ?_
  refine bD (R := fun _ => True) (by repeat' (first | with_reducible (first | refine aG ?_ | refine aQ fun _ => ?_ | refine ka ?_ | refine qx (fun _ => ?_) fun _ => ?_ | refine p9 (fun _ => ?_) fun _ => ?_ | refine jz (fun _ => ?_) fun _ => ?_ | refine bG rfl ?_ | refine aN rfl ?_ | refine fU (fun _ => ?_) fun _ => ?_ | refine vv ?_ | refine wk ?_ | refine rV ?_ | refine q_e ?_ | refine q_p fun _ _ => ?_ | refine q_b fun _ => ?_ | refine gr ?_ ?_ fun _ _ _ => ?_ | refine jX ?_ ?_ fun _ _ _ => ?_ | refine mD ?_| refine np ?_ ?_ | refine rz ?_ ?_ | refine we ?_ ?_ | refine n_d ?_ ?_ | refine rW (fun _ => ?_) fun _ => ?_ | exact safe | refine bA ?_) | exact trivial | dsimp only [Nx, Dn] | with_reducible (first | rfl | refine And.intro ?_ ?_ | intro _ | contradiction) | omega | refine dk (by decide) ?_ | (simp (disch := omega) only [wrap64, iu, jG, List.length_append, List.length_cons, List.length_nil, List.length_take, List.length_drop, List.length_set, List.length_replicate, List.length_reverse] <;> omega) | (simp (disch := omega) only [wrap64, iu, jG, List.length_append, List.length_cons, List.length_nil, List.length_take, List.length_drop, List.length_set, List.length_replicate, List.length_reverse] at * <;> omega) | exact Int.tmod_nonneg _ (by omega) | (simp_all [jZ, kc, jc, kQ] <;> omega))) fun _ _ => fU (fun _ => aG fun _ h0 => absurd h0 h) fun _ => aG fun _ h0 => absurd h0 h
theorem pt {a : gP} : (R.ew a).sat (fun r => r = true → oh a) := by
  obtain ⟨k, n, b, s, ref⟩ := a
  unfold R.ew
  refine aQ fun _ => bD (R := fun c => c = true → k = 0 ∨ k = 1) (jz (fun h => aG fun _ => .inl h) fun _ => aG fun h => .inr (eq_of_beq h)) fun c hc => fU (fun h => ?_) fun _ => ?_
  · refine bD jO fun r hr => aG fun h2 => ?_
    have e : (k, n, b, s, ref) = (k, vz.2) := hr h2
    cases e
    rcases hc h with rfl | rfl
    · exact .und
    · exact .null
  refine jz (fun h => ?_) fun _ => jz (fun h => ?_) fun _ => jz (fun h => ?_) fun _ => jz (fun h => ?_) fun _ => jz (fun h => ?_) fun _ => aG fun h => by cases h
  · refine bD jO fun r hr => fU (fun h1 => ?_) fun _ => aG fun h => by cases h
    have e : (k, n, b, s, (0 : Int)) = (k, vz.2) := hr h1
    cases e
    subst h
    exact jz (fun h => aG fun _ => .vV _ (.inl h)) fun _ => aG fun h => .vV _ (.inr (eq_of_beq h))
  · refine bD jO fun r hr => fU (fun h1 => ?_) fun _ => aG fun h => by cases h
    have e : (k, ((0 : Int), (0 : Int)), b, s, ref) = (k, vz.2) := hr h1
    cases e
    subst h
    exact bD wE fun r hr => aG fun h2 => .num n (hr h2)
  · refine bD jO fun r hr => fU (fun h1 => ?_) fun _ => aG fun h => by cases h
    have e : (k, n, ((false, []) : Bool × List Int), s, ref) = (k, vz.2) := hr h1
    cases e
    subst h
    exact yP (P := fun _ => True) safe fun c hc _ => aG fun h2 => .big b (by rw [hc, h2])
  · refine bD jO fun r hr => fU (fun h1 => ?_) fun _ => aG fun h => by cases h
    have e : (k, n, b, ([] : List Int), ref) = (k, vz.2) := hr h1
    cases e
    subst h
    exact aG fun h2 => .str s (by have h3 : (List.length s : Int) ≤ 4096 := of_decide_eq_true h2; omega)
  · refine bD jO fun r hr => fU (fun h1 => ?_) fun _ => aG fun h => by cases h
    have e : (k, n, b, s, (0 : Int)) = (k, vz.2) := hr h1
    cases e
    subst h
    exact aG fun h2 => .obj ref (of_decide_eq_true h2)
inductive iT : gG → gP → Prop
  | null : iT (36, ([], ([], ((0, 0), ((false, []), []))))) (1, vz.2)
  | tru : iT (34, ([], ([], ((0, 0), ((false, []), []))))) (2, ((0, 0), ((false, []), ([], 1))))
  | fls : iT (35, ([], ([], ((0, 0), ((false, []), []))))) (2, ((0, 0), ((false, []), ([], 0))))
  | num (n : Int) : 0 ≤ n → n ≤ 9007199254740991 → iT (30, ([], ([], ((0, n), ((false, []), []))))) (vnum n)
  | big (m : List Int) : (R.fI (false, m)).strip = some true → iT (31, ([], ([], ((0, 0), ((false, m), []))))) (vbig m)
  | str (s : List Int) : s.length ≤ 4096 → iT (32, ([], (s, ((0, 0), ((false, []), []))))) (vstr s)
theorem tD {b : List Int} (h : b.length ≤ 4096) : (R.cU b).sat (· = vstr b) := by
  unfold R.cU
  refine aQ fun _ => ?_
  rw [iu, show min (List.length b : Int) 4096 = List.length b by omega]
  refine mD (np (by omega) (np (by omega) (bA (aG (aQ fun _ => aG ?_)))))
  rw [Int.toNat_natCast, List.drop_zero, List.take_length]
theorem yd {x : gG} {a : gP} (h : iT x a) (G : ax) (r : aJ.den) (i : Int) (e : aP.den) (h0 : decide (0 ≤ i) = true) (hx : r.1[i.toNat]? = some x) : (R.eval_run_value G r i e).sat (· = ((a, 0), r)) := by
  unfold R.eval_run_value
  have hi : i.toNat < List.length r.1 := (List.getElem?_eq_some_iff.1 hx).1
  refine aQ fun _ => jX (of_decide_eq_true h0) hi fun y hy _ => ?_
  rw [hx] at hy
  cases hy
  cases h with
  | null => exact di (by kernel_rfl)
  | tru => exact di (by kernel_rfl)
  | fls => exact di (by kernel_rfl)
  | num n h0 h1 => exact di (by kernel_rfl)
  | big m hm => exact di (by kernel_rfl)
  | str s hs => exact aN rfl (aN rfl (bG rfl (ae (tD hs) (aQ fun _ => aG rfl))))
theorem je {x : gG} {a : gP} (h : iT x a) : (R.dJ x).sat (· = true) := by
  cases h with
  | null => exact di (by kernel_rfl)
  | tru => exact di (by kernel_rfl)
  | fls => exact di (by kernel_rfl)
  | num n h0 h1 =>
    unfold R.dJ
    refine aQ fun _ => ae (a := false) (di (by kernel_rfl)) (aN rfl (ae (a := false) (di (by kernel_rfl)) (aN rfl (bG rfl (bG rfl (bG rfl (ae (a := true) ?_ (bG rfl (aG (decide_eq_true h0))))))))))
    unfold R.fi
    exact aQ fun _ => bG rfl (bG (decide_eq_true (by show (-9007199254740991 : Int) ≤ n; omega)) (aG (decide_eq_true h1)))
  | big m hm =>
    unfold R.dJ
    exact aQ fun _ => ae (a := false) (di (by kernel_rfl)) (aN rfl (ae (a := false) (di (by kernel_rfl)) (aN rfl (aN rfl (bG rfl (bG rfl (ae (fC hm rfl) (bG rfl (aG rfl)))))))))
  | str s hs =>
    unfold R.dJ
    exact aQ fun _ => ae (a := false) (di (by kernel_rfl)) (aN rfl (ae (a := true) (di (by kernel_rfl)) (bG rfl (bG rfl (aG (decide_eq_true (by show (List.length s : Int) ≤ 4096; omega)))))))
theorem ry {x : gG} {a : gP} (h : iT x a) : (R.ew a).sat (· = true) := by
  cases h with
  | null => exact di (by kernel_rfl)
  | tru => exact di (by kernel_rfl)
  | fls => exact di (by kernel_rfl)
  | num n h0 h1 =>
    unfold R.ew
    refine aQ fun _ => ae (a := false) (di (by kernel_rfl)) (aN rfl (aN rfl (bG rfl (ae (a := true) (di (by kernel_rfl)) (bG rfl (ae (a := true) ?_ (aG rfl)))))))
    unfold R.fi
    exact aQ fun _ => bG rfl (bG (decide_eq_true (by show (-9007199254740991 : Int) ≤ n; omega)) (aG (decide_eq_true h1)))
  | big m hm =>
    unfold R.ew
    exact aQ fun _ => ae (a := false) (di (by kernel_rfl)) (aN rfl (aN rfl (aN rfl (bG rfl (ae (a := true) (di (by kernel_rfl)) (bG rfl (ae (fC hm rfl) (aG rfl))))))))
  | str s hs =>
    unfold R.ew
    exact aQ fun _ => ae (a := false) (di (by kernel_rfl)) (aN rfl (aN rfl (aN rfl (aN rfl (bG rfl (ae (a := true) (di (by kernel_rfl)) (bG rfl (aG (decide_eq_true (by show (List.length s : Int) ≤ 4096; omega))))))))))
theorem ux {a : List Int} : (R.cS a a).sat (· = true) := by
  unfold R.cS
  refine aQ fun h => ?_
  simp only [Sg.i, oks, Sh.ok, Ty.ok, List.map, Par.v, Bool.and_eq_true] at h
  have := sS h.1
  refine ka (jz (fun _ => ?_) fun h => absurd rfl h)
  refine bD (q_for (Q := fun x : Unit ⊕ Bool => x = .inl ()) (fun i => i) a.length (by omega) (fun _ => True) (by omega) (by omega) trivial fun i h0 h1 _ => qx (fun hi => gr h0 (by omega) fun e he _ => gr h0 (by omega) fun e' he' _ => ?_) fun _ => aG rfl) fun x hx => ?_
  · rw [he] at he'; cases he'
    exact ka (bG (by simp) (aG ⟨rfl, hi, trivial⟩))
  · subst hx
    exact aG rfl
end Go.Mach
set_option maxRecDepth 1000000
namespace Go.Mach
open Res
noncomputable def goodB (t : List gG) : Bool :=
  decide (t.length ≤ 4096) && ((R.fK t).strip == some true && ((List.range t.length).all (fun n => (R.fX t n).strip == some true) && match ((R.eu t).bind R.cL).strip with
    | some m => ile m 48
    | none => false))
theorem kO {e0 : gG} {rest : List gG} (hb : goodB (e0 :: rest) = true) (hk0 : e0.1 = 1) (h1 : ∀ e ∈ rest, e.1 ≠ 1) (hf : ∀ e ∈ e0 :: rest, (R.dJ e).sat (· = true)) : (R.dd (e0 :: rest)).sat (· = true) := by
  simp only [goodB, Bool.and_eq_true, decide_eq_true_eq, beq_iff_eq, List.all_eq_true, List.mem_range] at hb
  obtain ⟨b1, b2, b3, b4⟩ := hb
  refine s8 (e0 := e0) b1 rfl hk0 (fC b2 rfl) (fun n e hn he => ?_) (fun n e he => hf e (List.mem_of_getElem? he)) (fun n hn => fC (b3 n hn) rfl) ?_
  · obtain ⟨m, rfl⟩ : ∃ m, n = m + 1 := ⟨n - 1, by omega⟩
    exact h1 e (List.mem_of_getElem? (by simpa using he))
  · rw [← sQ]
    split at b4
    · rename_i m hm
      exact fC hm (of_decide_eq_true b4)
    · cases b4
noncomputable def lateB (t : List gG) : Bool := match (R.dP t).strip with
  | some up => (List.range t.length).all fun n => (R.ep t up n).strip == some false
  | none => false
theorem jh {t : List gG} (hl : t.length ≤ 4096) (hm : (R.dd t).sat (· = true)) (hb : lateB t = true) : (R.cA t).sat (· = (0, 0)) := by
  unfold lateB at hb
  split at hb
  · rename_i up hup
    simp only [List.all_eq_true, List.mem_range, beq_iff_eq] at hb
    exact qL hl hm (fC hup rfl) fun n hn => fC (hb n hn) rfl
  · cases hb
abbrev nd (k : Int) (name : List UInt8) (kids : List Int) : gG := (k, (name, ([], ((0, 0), ((false, []), kids)))))
abbrev req0 : cy.den := (0, (0, (0, (0, (0, (false, (false, (0, (0, ((0, 0), ([], 0)))))))))))
theorem kM {t : List gG} {Q : cy.den × ei.den → Prop} (hc : (R.cA t).sat (· = (0, 0))) (hr : (R.bW t (20, (20, 50)) []).sat Q) : (R.dq t (20, (20, 50)) []).sat Q := by
  unfold R.dq
  exact aQ fun _ => ae hc (aQ fun _ => ae (a := false) (di (by kernel_rfl)) (aN rfl (bD hr fun x hx => aQ fun _ => aG hx)))
theorem o4 {x : gG} {a : gP} (h : iT x a) : x.1 ≠ 1 := by cases h <;> simp
theorem rO {x : gG} {a : gP} (h : iT x a) {n : Nat} {r : aJ.den} {i : Int} {e : aP.den} {β : Type} {Q : β → Prop} {k : (gP × Int) × aJ.den → Res β} (h0 : decide (0 ≤ i) = true) (hx : r.1[i.toNat]? = some x) (hk : (k ((a, 0), r)).sat Q) : (((bS (n + 1)).eval_run_value r i e).bind k).sat Q := ae (yd h (bS n) r i e h0 hx) hk
end Go.Mach
set_option maxRecDepth 1000000
namespace Go.Mach
open Res
theorem wc {a : gP} (h : oh a) : (R.bd a).sat (fun r => r.2 = true → iT r.1 a) := by
  unfold R.bd
  refine aQ fun _ => ?_
  cases h with
  | und => exact aN rfl (aN rfl (aN rfl (aN rfl (aN rfl (aG fun h => by cases h)))))
  | null => exact bG rfl (aG fun _ => .null)
  | vV b hb =>
    rcases hb with rfl | rfl
    · exact aN rfl (bG rfl (aG fun _ => .fls))
    · exact aN rfl (bG rfl (aG fun _ => .tru))
  | num n hn =>
    obtain ⟨n1, n2⟩ := n
    refine aN rfl (aN rfl (bG rfl (jz (fun h0 => aG fun h1 => ?_) fun _ => aG fun h => by cases h)))
    have h0 : n1 = 0 := h0
    subst h0
    exact .num n2 (of_decide_eq_true h1) (hn rfl).2
  | big b hb =>
    obtain ⟨ng, m⟩ := b
    refine aN rfl (aN rfl (aN rfl (bG rfl (aG fun h1 => ?_))))
    have h1 : ng = false := by simpa using h1
    subst h1
    exact .big m hb
  | str s hs => exact aN rfl (aN rfl (aN rfl (aN rfl (bG rfl (aG fun _ => .str s hs)))))
  | obj r hr => exact aN rfl (aN rfl (aN rfl (aN rfl (aN rfl (aG fun h => by cases h)))))
end Go.Mach
set_option maxRecDepth 100000
namespace Go.Mach
open Res
end Go.Mach
set_option maxRecDepth 1000000
namespace Go.Mach
open Res
theorem w_nof {α β : Type} {Q : β → Prop} {m m' : Res α} {k : α → Res β} (e : m = m') (h : ¬ m'.facts) : (m.bind k).sat Q := e ▸ bA (ir h)
theorem tA {α : Type} {m : Res α} {P : α → Prop} (h : m.sat P) : ¬ m.facts ∨ ∃ u, m.strip = some u ∧ P u := by
  by_cases hf : m.facts
  · obtain ⟨u, h1, h2⟩ := ml h hf
    exact .inr ⟨u, h1, h2⟩
  · exact .inl hf
theorem vK {v : gP} (hv : v.1 ≠ 6) : (R.bc v).sat (fun r => r.2 = 0) := by
  unfold R.bc
  have hc : (R.bk v).sat (fun c => oh c ∧ c.1 ≠ 6) := by
    unfold R.bk
    refine aQ fun _ => bD pt fun r hr => fU (fun _ => aG ⟨.und, by simp⟩) fun h => aG ⟨hr ?_, hv⟩
    cases r
    · cases h
    · rfl
  have e : ∀ r : List Int, (given (av.g.o r) (Res.ok ((r, (0 : Int))))).sat (fun r : List Int × Int => r.2 = 0) := fun r => aQ fun _ => aG rfl
  refine aQ fun _ => bD hc fun c ⟨hm, h6⟩ => aQ fun _ => ?_
  cases hm with
  | und => exact bG rfl (bD (ev (by decide)) fun r _ => e r)
  | null => exact aN rfl (bG rfl (bD (ev (by decide)) fun r _ => e r))
  | vV b hb => exact aN rfl (aN rfl (bG rfl (fU (fun _ => bD (ev (by decide)) fun r _ => e r) fun _ => bD (ev (by decide)) fun r _ => e r)))
  | num n hn => exact aN rfl (aN rfl (aN rfl (bG rfl (q_p fun t ht => aQ fun _ => bD (ev ht) fun r _ => e r))))
  | big b hb => exact aN rfl (aN rfl (aN rfl (aN rfl (bG rfl (q_p fun t ht => aQ fun _ => bD (ev ht) fun r _ => e r)))))
  | str s hs => exact aN rfl (aN rfl (aN rfl (aN rfl (aN rfl (bG rfl (ae (a := s) rfl (aQ fun _ => aG rfl)))))))
  | obj r hr => exact absurd rfl h6
abbrev asks (l : List Int) : cy.den × ei.den := ((11, (0, (0, (0, (0, (false, (false, (0, (0, ((0, 0), (l, 0))))))))))), (0, []))
abbrev eName (s : Int) : List Int := if s = 1 then [84, 121, 112, 101, 69, 114, 114, 111, 114] else if s = 2 then [82, 97, 110, 103, 101, 69, 114, 114, 111, 114] else if s = 4 then [82, 101, 102, 101, 114, 101, 110, 99, 101, 69, 114, 114, 111, 114] else [83, 121, 110, 116, 97, 120, 69, 114, 114, 111, 114]
inductive Out (v : gP) : Int → cy.den × ei.den → Prop
  | asks (l : List Int) : (R.bc v).strip = some (l, 0) → Out v 0 (asks l)
  | exit (q : cy.den) (e : List Int) : Out v 3 (q, (3, e))
  | thrown (q : cy.den) (s : Int) : s = 1 ∨ s = 2 ∨ s = 4 ∨ s = 5 → Out v s (q, (2, eName s))
theorem rp {v : gP} {s : Int} {r : cy.den × ei.den} (h : Out v s r) : (R.dL r.1 r.2 v s).sat (· = true) := by
  cases h with
  | asks l hu =>
    unfold R.dL
    exact aQ fun _ => bG rfl (ae (fC hu rfl) (aQ fun _ => bG rfl (bG rfl (bG rfl (ae ux (aG rfl))))))
  | exit q e => exact di (by kernel_rfl)
  | thrown q s hs => rcases hs with rfl | rfl | rfl | rfl <;> exact di (by kernel_rfl)
theorem xo {x : gG} {a : gP} (h : iT x a) : a.1 ≠ 6 := by cases h <;> simp
end Go.Mach
set_option maxRecDepth 1000000
namespace Go.Mach
open Res
abbrev ntl (x0 : gG) : List gG := [nd 1 [] [1, 4], nd 5 [] [2], nd 7 [118] [3], x0, nd 3 [] [5], nd 50 [] [6, 9], nd 52 [114, 101, 112, 111, 114, 116] [7], nd 52 [97, 103, 101, 110, 116] [8], nd 33 [36, 50, 54, 50] [], nd 33 [118] []]
theorem vc {x0 : gG} {a0 : gP} (h0 : iT x0 a0) : (R.dd (ntl x0)).sat (· = true) := by
  refine kO (by cases h0 <;> kernel_rfl) rfl (fun e he => ?_) fun e he => ?_ <;> simp only [List.mem_cons, List.not_mem_nil, or_false] at he
  · rcases he with rfl | rfl | rfl | rfl | rfl | rfl | rfl | rfl | rfl <;> first | exact o4 h0 | simp
  · rcases he with rfl | rfl | rfl | rfl | rfl | rfl | rfl | rfl | rfl | rfl <;> first | exact je h0 | exact di (by kernel_rfl)
theorem wD {x0 : gG} {a0 : gP} (h0 : iT x0 a0) : (R.cA (ntl x0)).sat (· = (0, 0)) := jh (by simp) (vc h0) (by cases h0 <;> kernel_rfl)
theorem xm {x0 : gG} {a0 : gP} (h0 : iT x0 a0)  {Q} (hn : ¬ (R.bc a0).facts) : (R.bW (ntl x0) (20, (20, 50)) []).sat (Q) := by
  unfold R.bW R.bN
  obtain ⟨k, hk⟩ := kj
  rw [hk]
  with_reducible refine aD ?_
  with_reducible refine aR (by kernel_rfl) ?_
  with_reducible refine aD ?_
  with_reducible refine bA ?_
  with_reducible refine aD ?_
  with_reducible refine aR (by kernel_rfl) ?_
  with_reducible refine aD ?_
  with_reducible refine aN (by kernel_rfl) ?_
  with_reducible refine aR (by kernel_rfl) ?_
  with_reducible refine aD ?_
  with_reducible refine aN (by kernel_rfl) ?_
  with_reducible refine cz (by kernel_rfl) (by kernel_rfl) ?_
  with_reducible refine gV ?_; delta R.eval_run_list
  with_reducible refine aD ?_
  with_reducible refine bA ?_
  with_reducible refine j9 hk ?_
  with_reducible refine bG (by kernel_rfl) ?_
  with_reducible refine cz (by kernel_rfl) (by kernel_rfl) ?_
  with_reducible refine cj ?_; delta R.eval_run_statement
  with_reducible refine aD ?_
  with_reducible refine aR (by kernel_rfl) ?_
  with_reducible refine aD ?_
  with_reducible refine aN (by kernel_rfl) ?_
  with_reducible refine ey ?_; delta R.eval_run_act
  with_reducible refine aD ?_
  with_reducible refine cz (by kernel_rfl) (by kernel_rfl) ?_
  iterate 2 (with_reducible refine aN (by kernel_rfl) ?_)
  with_reducible refine aR (by kernel_rfl) ?_
  with_reducible refine bG (by kernel_rfl) ?_
  with_reducible refine gL ?_; delta R.eval_run_decls
  with_reducible refine aD ?_
  with_reducible refine bA ?_
  with_reducible refine j9 hk ?_
  with_reducible refine bG (by kernel_rfl) ?_
  iterate 2 (with_reducible refine cz (by kernel_rfl) (by kernel_rfl) ?_)
  with_reducible refine bA ?_
  with_reducible refine bG (by kernel_rfl) ?_
  with_reducible refine cz (by kernel_rfl) (by kernel_rfl) ?_
  with_reducible refine cY ?_; delta R.eval_run_expression
  with_reducible refine aD ?_
  with_reducible refine aR (by kernel_rfl) ?_
  with_reducible refine aD ?_
  with_reducible refine aN (by kernel_rfl) ?_
  with_reducible refine rO h0 (by kernel_rfl) (by kernel_rfl) ?_
  with_reducible refine aD ?_
  with_reducible refine aG ?_
  with_reducible refine aD ?_
  with_reducible refine aN (by kernel_rfl) ?_
  with_reducible refine aG ?_
  with_reducible refine kV (by kernel_rfl) ?_
  with_reducible refine aR (by kernel_rfl) ?_
  with_reducible refine aD ?_
  with_reducible refine aG ?_
  with_reducible refine jg ?_
  with_reducible refine gd ?_
  with_reducible refine aN (by kernel_rfl) ?_
  with_reducible refine aG ?_
  with_reducible refine ky ?_
  with_reducible refine kV (by kernel_rfl) ?_
  with_reducible refine aG ?_
  with_reducible refine aD ?_
  with_reducible refine aG ?_
  with_reducible refine aD ?_
  with_reducible refine aG ?_
  with_reducible refine aD ?_
  with_reducible refine aN (by kernel_rfl) ?_
  with_reducible refine aG ?_
  with_reducible refine jg ?_
  with_reducible refine gd ?_
  with_reducible refine bG (by kernel_rfl) ?_
  with_reducible refine cz (by kernel_rfl) (by kernel_rfl) ?_
  with_reducible refine cj ?_; delta R.eval_run_statement
  with_reducible refine aD ?_
  with_reducible refine aR (by kernel_rfl) ?_
  with_reducible refine aD ?_
  with_reducible refine aN (by kernel_rfl) ?_
  with_reducible refine ey ?_; delta R.eval_run_act
  with_reducible refine aD ?_
  with_reducible refine cz (by kernel_rfl) (by kernel_rfl) ?_
  with_reducible refine bG (by kernel_rfl) ?_
  with_reducible refine cz (by kernel_rfl) (by kernel_rfl) ?_
  with_reducible refine cY ?_; delta R.eval_run_expression
  with_reducible refine aD ?_
  with_reducible refine aR (by kernel_rfl) ?_
  with_reducible refine aD ?_
  with_reducible refine aN (by kernel_rfl) ?_
  with_reducible refine im ?_; delta R.eval_run_value
  with_reducible refine aD ?_
  with_reducible refine cz (by kernel_rfl) (by kernel_rfl) ?_
  iterate 4 (with_reducible refine aN (by kernel_rfl) ?_)
  with_reducible refine aR (by kernel_rfl) ?_
  iterate 5 (with_reducible refine aN (by kernel_rfl) ?_)
  with_reducible refine aR (by kernel_rfl) ?_
  with_reducible refine aN (by kernel_rfl) ?_
  with_reducible refine gf ?_; delta R.eval_run_operation
  with_reducible refine aD ?_
  with_reducible refine aN (by kernel_rfl) ?_
  with_reducible refine aR (by kernel_rfl) ?_
  iterate 5 (with_reducible refine aN (by kernel_rfl) ?_)
  with_reducible refine bG (by kernel_rfl) ?_
  with_reducible refine iO ?_; delta R.eval_run_callee
  with_reducible refine aD ?_
  with_reducible refine cz (by kernel_rfl) (by kernel_rfl) ?_
  with_reducible refine aR (by kernel_rfl) ?_
  with_reducible refine aD ?_
  with_reducible refine aN (by kernel_rfl) ?_
  with_reducible refine dk (by kernel_rfl) ?_
  with_reducible refine aR (by kernel_rfl) ?_
  with_reducible refine aD ?_
  with_reducible refine aN (by kernel_rfl) ?_
  with_reducible refine jJ ?_; delta R.eval_run_call
  with_reducible refine aD ?_
  with_reducible refine aN (by kernel_rfl) ?_
  with_reducible refine aR (by kernel_rfl) ?_
  with_reducible refine aD ?_
  with_reducible refine aR (by kernel_rfl) ?_
  with_reducible refine bG (by kernel_rfl) ?_
  with_reducible refine jF ?_; delta R.eval_run_does
  with_reducible refine aD ?_
  with_reducible refine aR (by kernel_rfl) ?_
  with_reducible refine aD ?_
  with_reducible refine aR (by kernel_rfl) ?_
  iterate 10 (with_reducible refine aN (by kernel_rfl) ?_)
  with_reducible refine aR (by kernel_rfl) ?_
  with_reducible refine aN (by kernel_rfl) ?_
  with_reducible refine aR (by kernel_rfl) ?_
  with_reducible refine aN (by kernel_rfl) ?_
  with_reducible refine aR (by kernel_rfl) ?_
  with_reducible refine aN (by kernel_rfl) ?_
  with_reducible refine aR (by kernel_rfl) ?_
  with_reducible refine bG (by kernel_rfl) ?_
  with_reducible refine aR (by kernel_rfl) ?_
  with_reducible refine aD ?_
  with_reducible refine jK ?_; delta R.eval_run_host
  with_reducible refine aD ?_
  with_reducible refine bA ?_
  iterate 3 (with_reducible refine aN (by kernel_rfl) ?_)
  with_reducible refine bG (by kernel_rfl) ?_
  with_reducible exact w_nof (m' := R.bc a0) (by kernel_rfl) hn
theorem xB {x0 : gG} {a0 : gP} (h0 : iT x0 a0)  {l : List Int} (hu : (R.bc a0).strip = some (l, 0)) : (R.bW (ntl x0) (20, (20, 50)) []).sat (· = asks l) := by
  unfold R.bW R.bN
  obtain ⟨k, hk⟩ := kj
  rw [hk]
  with_reducible refine aD ?_
  with_reducible refine aR (by kernel_rfl) ?_
  with_reducible refine aD ?_
  with_reducible refine bA ?_
  with_reducible refine aD ?_
  with_reducible refine aR (by kernel_rfl) ?_
  with_reducible refine aD ?_
  with_reducible refine aN (by kernel_rfl) ?_
  with_reducible refine aR (by kernel_rfl) ?_
  with_reducible refine aD ?_
  with_reducible refine aN (by kernel_rfl) ?_
  with_reducible refine cz (by kernel_rfl) (by kernel_rfl) ?_
  with_reducible refine gV ?_; delta R.eval_run_list
  with_reducible refine aD ?_
  with_reducible refine bA ?_
  with_reducible refine j9 hk ?_
  with_reducible refine bG (by kernel_rfl) ?_
  with_reducible refine cz (by kernel_rfl) (by kernel_rfl) ?_
  with_reducible refine cj ?_; delta R.eval_run_statement
  with_reducible refine aD ?_
  with_reducible refine aR (by kernel_rfl) ?_
  with_reducible refine aD ?_
  with_reducible refine aN (by kernel_rfl) ?_
  with_reducible refine ey ?_; delta R.eval_run_act
  with_reducible refine aD ?_
  with_reducible refine cz (by kernel_rfl) (by kernel_rfl) ?_
  iterate 2 (with_reducible refine aN (by kernel_rfl) ?_)
  with_reducible refine aR (by kernel_rfl) ?_
  with_reducible refine bG (by kernel_rfl) ?_
  with_reducible refine gL ?_; delta R.eval_run_decls
  with_reducible refine aD ?_
  with_reducible refine bA ?_
  with_reducible refine j9 hk ?_
  with_reducible refine bG (by kernel_rfl) ?_
  iterate 2 (with_reducible refine cz (by kernel_rfl) (by kernel_rfl) ?_)
  with_reducible refine bA ?_
  with_reducible refine bG (by kernel_rfl) ?_
  with_reducible refine cz (by kernel_rfl) (by kernel_rfl) ?_
  with_reducible refine cY ?_; delta R.eval_run_expression
  with_reducible refine aD ?_
  with_reducible refine aR (by kernel_rfl) ?_
  with_reducible refine aD ?_
  with_reducible refine aN (by kernel_rfl) ?_
  with_reducible refine rO h0 (by kernel_rfl) (by kernel_rfl) ?_
  with_reducible refine aD ?_
  with_reducible refine aG ?_
  with_reducible refine aD ?_
  with_reducible refine aN (by kernel_rfl) ?_
  with_reducible refine aG ?_
  with_reducible refine kV (by kernel_rfl) ?_
  with_reducible refine aR (by kernel_rfl) ?_
  with_reducible refine aD ?_
  with_reducible refine aG ?_
  with_reducible refine jg ?_
  with_reducible refine gd ?_
  with_reducible refine aN (by kernel_rfl) ?_
  with_reducible refine aG ?_
  with_reducible refine ky ?_
  with_reducible refine kV (by kernel_rfl) ?_
  with_reducible refine aG ?_
  with_reducible refine aD ?_
  with_reducible refine aG ?_
  with_reducible refine aD ?_
  with_reducible refine aG ?_
  with_reducible refine aD ?_
  with_reducible refine aN (by kernel_rfl) ?_
  with_reducible refine aG ?_
  with_reducible refine jg ?_
  with_reducible refine gd ?_
  with_reducible refine bG (by kernel_rfl) ?_
  with_reducible refine cz (by kernel_rfl) (by kernel_rfl) ?_
  with_reducible refine cj ?_; delta R.eval_run_statement
  with_reducible refine aD ?_
  with_reducible refine aR (by kernel_rfl) ?_
  with_reducible refine aD ?_
  with_reducible refine aN (by kernel_rfl) ?_
  with_reducible refine ey ?_; delta R.eval_run_act
  with_reducible refine aD ?_
  with_reducible refine cz (by kernel_rfl) (by kernel_rfl) ?_
  with_reducible refine bG (by kernel_rfl) ?_
  with_reducible refine cz (by kernel_rfl) (by kernel_rfl) ?_
  with_reducible refine cY ?_; delta R.eval_run_expression
  with_reducible refine aD ?_
  with_reducible refine aR (by kernel_rfl) ?_
  with_reducible refine aD ?_
  with_reducible refine aN (by kernel_rfl) ?_
  with_reducible refine im ?_; delta R.eval_run_value
  with_reducible refine aD ?_
  with_reducible refine cz (by kernel_rfl) (by kernel_rfl) ?_
  iterate 4 (with_reducible refine aN (by kernel_rfl) ?_)
  with_reducible refine aR (by kernel_rfl) ?_
  iterate 5 (with_reducible refine aN (by kernel_rfl) ?_)
  with_reducible refine aR (by kernel_rfl) ?_
  with_reducible refine aN (by kernel_rfl) ?_
  with_reducible refine gf ?_; delta R.eval_run_operation
  with_reducible refine aD ?_
  with_reducible refine aN (by kernel_rfl) ?_
  with_reducible refine aR (by kernel_rfl) ?_
  iterate 5 (with_reducible refine aN (by kernel_rfl) ?_)
  with_reducible refine bG (by kernel_rfl) ?_
  with_reducible refine iO ?_; delta R.eval_run_callee
  with_reducible refine aD ?_
  with_reducible refine cz (by kernel_rfl) (by kernel_rfl) ?_
  with_reducible refine aR (by kernel_rfl) ?_
  with_reducible refine aD ?_
  with_reducible refine aN (by kernel_rfl) ?_
  with_reducible refine dk (by kernel_rfl) ?_
  with_reducible refine aR (by kernel_rfl) ?_
  with_reducible refine aD ?_
  with_reducible refine aN (by kernel_rfl) ?_
  with_reducible refine jJ ?_; delta R.eval_run_call
  with_reducible refine aD ?_
  with_reducible refine aN (by kernel_rfl) ?_
  with_reducible refine aR (by kernel_rfl) ?_
  with_reducible refine aD ?_
  with_reducible refine aR (by kernel_rfl) ?_
  with_reducible refine bG (by kernel_rfl) ?_
  with_reducible refine jF ?_; delta R.eval_run_does
  with_reducible refine aD ?_
  with_reducible refine aR (by kernel_rfl) ?_
  with_reducible refine aD ?_
  with_reducible refine aR (by kernel_rfl) ?_
  iterate 10 (with_reducible refine aN (by kernel_rfl) ?_)
  with_reducible refine aR (by kernel_rfl) ?_
  with_reducible refine aN (by kernel_rfl) ?_
  with_reducible refine aR (by kernel_rfl) ?_
  with_reducible refine aN (by kernel_rfl) ?_
  with_reducible refine aR (by kernel_rfl) ?_
  with_reducible refine aN (by kernel_rfl) ?_
  with_reducible refine aR (by kernel_rfl) ?_
  with_reducible refine bG (by kernel_rfl) ?_
  with_reducible refine aR (by kernel_rfl) ?_
  with_reducible refine aD ?_
  with_reducible refine jK ?_; delta R.eval_run_host
  with_reducible refine aD ?_
  with_reducible refine bA ?_
  iterate 3 (with_reducible refine aN (by kernel_rfl) ?_)
  with_reducible refine bG (by kernel_rfl) ?_
  with_reducible refine vI (m' := R.bc a0) (by kernel_rfl) (fC hu rfl) ?_
  with_reducible refine aD ?_
  with_reducible refine aN (by kernel_rfl) ?_
  with_reducible refine aG ?_
  with_reducible refine kV (by kernel_rfl) ?_
  with_reducible refine aR (by kernel_rfl) ?_
  with_reducible refine aD ?_
  with_reducible refine bG (by kernel_rfl) ?_
  with_reducible refine aG ?_
  with_reducible refine aD ?_
  with_reducible refine aG ?_
  with_reducible refine aD ?_
  with_reducible refine aG ?_
  with_reducible refine aD ?_
  with_reducible refine aG ?_
  with_reducible refine aD ?_
  with_reducible refine aG ?_
  with_reducible refine aD ?_
  with_reducible refine aG ?_
  with_reducible refine aD ?_
  with_reducible refine aG ?_
  with_reducible refine aD ?_
  with_reducible refine bG (by kernel_rfl) ?_
  with_reducible refine aG ?_
  with_reducible refine aD ?_
  with_reducible refine aG ?_
  with_reducible refine aD ?_
  with_reducible refine bG (by kernel_rfl) ?_
  with_reducible refine aG ?_
  with_reducible refine ky ?_
  with_reducible refine xx (by kernel_rfl) ?_
  with_reducible refine aG ?_
  with_reducible refine aD ?_
  with_reducible refine aG ?_
  with_reducible refine aD ?_
  with_reducible refine bG (by kernel_rfl) ?_
  with_reducible refine aG ?_
  kernel_rfl
theorem yU {x0 : gG} {a0 : gP} (h0 : iT x0 a0)  : (R.bW (ntl x0) (20, (20, 50)) []).sat (fun r => Out a0 0 r) := by
  rcases tA (vK (v := a0) (xo h0)) with hn | ⟨⟨l, s⟩, hu, hs⟩
  · exact xm h0  hn
  · have hs : s = 0 := hs
    subst hs
    exact jy (xB h0  hu) fun r e => e ▸ .asks l hu
abbrev nsl (x0 : gG) : List gG := [nd 1 [] [1, 7], nd 3 [] [2], nd 50 [] [3, 6], nd 52 [114, 101, 112, 111, 114, 116] [4], nd 52 [97, 103, 101, 110, 116] [5], nd 33 [36, 50, 54, 50] [], nd 33 [118] [], nd 5 [] [8], nd 7 [118] [9], x0]
theorem vE {x0 : gG} {a0 : gP} (h0 : iT x0 a0) : (R.dd (nsl x0)).sat (· = true) := by
  refine kO (by cases h0 <;> kernel_rfl) rfl (fun e he => ?_) fun e he => ?_ <;> simp only [List.mem_cons, List.not_mem_nil, or_false] at he
  · rcases he with rfl | rfl | rfl | rfl | rfl | rfl | rfl | rfl | rfl <;> first | exact o4 h0 | simp
  · rcases he with rfl | rfl | rfl | rfl | rfl | rfl | rfl | rfl | rfl | rfl <;> first | exact je h0 | exact di (by kernel_rfl)
theorem wI {x0 : gG} {a0 : gP} (h0 : iT x0 a0) : (R.cA (nsl x0)).sat (· = (0, 0)) := jh (by simp) (vE h0) (by cases h0 <;> kernel_rfl)
theorem yO {x0 : gG} {a0 : gP} (h0 : iT x0 a0)  : (R.bW (nsl x0) (20, (20, 50)) []).sat (· = (req0, (2, [82, 101, 102, 101, 114, 101, 110, 99, 101, 69, 114, 114, 111, 114]))) := by
  unfold R.bW R.bN
  obtain ⟨k, hk⟩ := kj
  rw [hk]
  with_reducible refine aD ?_
  with_reducible refine aR (by kernel_rfl) ?_
  with_reducible refine aD ?_
  with_reducible refine aR (by kernel_rfl) ?_
  with_reducible refine aD ?_
  with_reducible refine aN (by kernel_rfl) ?_
  with_reducible refine bG (by kernel_rfl) ?_
  with_reducible refine aR (by kernel_rfl) ?_
  with_reducible refine aD ?_
  with_reducible refine aG ?_
  kernel_rfl
abbrev nul (x0 : gG) : List gG := [nd 1 [] [1, 4], nd 5 [] [2], nd 7 [118] [3], x0, nd 3 [] [5], nd 49 [61] [6, 7], nd 33 [118] [], nd 36 [] []]
theorem vW {x0 : gG} {a0 : gP} (h0 : iT x0 a0) : (R.dd (nul x0)).sat (· = true) := by
  refine kO (by cases h0 <;> kernel_rfl) rfl (fun e he => ?_) fun e he => ?_ <;> simp only [List.mem_cons, List.not_mem_nil, or_false] at he
  · rcases he with rfl | rfl | rfl | rfl | rfl | rfl | rfl <;> first | exact o4 h0 | simp
  · rcases he with rfl | rfl | rfl | rfl | rfl | rfl | rfl | rfl <;> first | exact je h0 | exact di (by kernel_rfl)
theorem w6 {x0 : gG} {a0 : gP} (h0 : iT x0 a0) : (R.cA (nul x0)).sat (· = (0, 0)) := jh (by simp) (vW h0) (by cases h0 <;> kernel_rfl)
theorem yI {x0 : gG} {a0 : gP} (h0 : iT x0 a0)  : (R.bW (nul x0) (20, (20, 50)) []).sat (· = (req0, (1, []))) := by
  unfold R.bW R.bN
  obtain ⟨k, hk⟩ := kj
  rw [hk]
  with_reducible refine aD ?_
  with_reducible refine aR (by kernel_rfl) ?_
  with_reducible refine aD ?_
  with_reducible refine bA ?_
  with_reducible refine aD ?_
  with_reducible refine aR (by kernel_rfl) ?_
  with_reducible refine aD ?_
  with_reducible refine aN (by kernel_rfl) ?_
  with_reducible refine aR (by kernel_rfl) ?_
  with_reducible refine aD ?_
  with_reducible refine aN (by kernel_rfl) ?_
  with_reducible refine cz (by kernel_rfl) (by kernel_rfl) ?_
  with_reducible refine gV ?_; delta R.eval_run_list
  with_reducible refine aD ?_
  with_reducible refine bA ?_
  with_reducible refine j9 hk ?_
  with_reducible refine bG (by kernel_rfl) ?_
  with_reducible refine cz (by kernel_rfl) (by kernel_rfl) ?_
  with_reducible refine cj ?_; delta R.eval_run_statement
  with_reducible refine aD ?_
  with_reducible refine aR (by kernel_rfl) ?_
  with_reducible refine aD ?_
  with_reducible refine aN (by kernel_rfl) ?_
  with_reducible refine ey ?_; delta R.eval_run_act
  with_reducible refine aD ?_
  with_reducible refine cz (by kernel_rfl) (by kernel_rfl) ?_
  iterate 2 (with_reducible refine aN (by kernel_rfl) ?_)
  with_reducible refine aR (by kernel_rfl) ?_
  with_reducible refine bG (by kernel_rfl) ?_
  with_reducible refine gL ?_; delta R.eval_run_decls
  with_reducible refine aD ?_
  with_reducible refine bA ?_
  with_reducible refine j9 hk ?_
  with_reducible refine bG (by kernel_rfl) ?_
  iterate 2 (with_reducible refine cz (by kernel_rfl) (by kernel_rfl) ?_)
  with_reducible refine bA ?_
  with_reducible refine bG (by kernel_rfl) ?_
  with_reducible refine cz (by kernel_rfl) (by kernel_rfl) ?_
  with_reducible refine cY ?_; delta R.eval_run_expression
  with_reducible refine aD ?_
  with_reducible refine aR (by kernel_rfl) ?_
  with_reducible refine aD ?_
  with_reducible refine aN (by kernel_rfl) ?_
  with_reducible refine rO h0 (by kernel_rfl) (by kernel_rfl) ?_
  with_reducible refine aD ?_
  with_reducible refine aG ?_
  with_reducible refine aD ?_
  with_reducible refine aN (by kernel_rfl) ?_
  with_reducible refine aG ?_
  with_reducible refine kV (by kernel_rfl) ?_
  with_reducible refine aR (by kernel_rfl) ?_
  with_reducible refine aD ?_
  with_reducible refine aG ?_
  with_reducible refine jg ?_
  with_reducible refine gd ?_
  with_reducible refine aN (by kernel_rfl) ?_
  with_reducible refine aG ?_
  with_reducible refine ky ?_
  with_reducible refine kV (by kernel_rfl) ?_
  with_reducible refine aG ?_
  with_reducible refine aD ?_
  with_reducible refine aG ?_
  with_reducible refine aD ?_
  with_reducible refine aG ?_
  with_reducible refine aD ?_
  with_reducible refine aN (by kernel_rfl) ?_
  with_reducible refine aG ?_
  with_reducible refine jg ?_
  with_reducible refine gd ?_
  with_reducible refine bG (by kernel_rfl) ?_
  with_reducible refine cz (by kernel_rfl) (by kernel_rfl) ?_
  with_reducible refine aR (by kernel_rfl) ?_
  with_reducible refine aD ?_
  with_reducible refine aN (by kernel_rfl) ?_
  with_reducible refine aG ?_
  with_reducible refine jg ?_
  with_reducible refine gd ?_
  with_reducible refine aN (by kernel_rfl) ?_
  with_reducible refine aG ?_
  with_reducible refine ky ?_
  with_reducible refine kV (by kernel_rfl) ?_
  with_reducible refine aG ?_
  with_reducible refine aD ?_
  with_reducible refine aG ?_
  with_reducible refine aD ?_
  iterate 2 (with_reducible refine aN (by kernel_rfl) ?_)
  with_reducible refine aG ?_
  kernel_rfl
abbrev ntc (x0 : gG) : List gG := [nd 1 [] [1, 4], nd 6 [] [2], nd 7 [118] [3], x0, nd 3 [] [5], nd 50 [] [6, 9], nd 52 [114, 101, 112, 111, 114, 116] [7], nd 52 [97, 103, 101, 110, 116] [8], nd 33 [36, 50, 54, 50] [], nd 33 [118] []]
theorem vd {x0 : gG} {a0 : gP} (h0 : iT x0 a0) : (R.dd (ntc x0)).sat (· = true) := by
  refine kO (by cases h0 <;> kernel_rfl) rfl (fun e he => ?_) fun e he => ?_ <;> simp only [List.mem_cons, List.not_mem_nil, or_false] at he
  · rcases he with rfl | rfl | rfl | rfl | rfl | rfl | rfl | rfl | rfl <;> first | exact o4 h0 | simp
  · rcases he with rfl | rfl | rfl | rfl | rfl | rfl | rfl | rfl | rfl | rfl <;> first | exact je h0 | exact di (by kernel_rfl)
theorem wX {x0 : gG} {a0 : gP} (h0 : iT x0 a0) : (R.cA (ntc x0)).sat (· = (0, 0)) := jh (by simp) (vd h0) (by cases h0 <;> kernel_rfl)
theorem xa {x0 : gG} {a0 : gP} (h0 : iT x0 a0)  {Q} (hn : ¬ (R.bc a0).facts) : (R.bW (ntc x0) (20, (20, 50)) []).sat (Q) := by
  unfold R.bW R.bN
  obtain ⟨k, hk⟩ := kj
  rw [hk]
  with_reducible refine aD ?_
  with_reducible refine aR (by kernel_rfl) ?_
  with_reducible refine aD ?_
  with_reducible refine bA ?_
  with_reducible refine aD ?_
  with_reducible refine aR (by kernel_rfl) ?_
  with_reducible refine aD ?_
  with_reducible refine aN (by kernel_rfl) ?_
  with_reducible refine aR (by kernel_rfl) ?_
  with_reducible refine aD ?_
  with_reducible refine aN (by kernel_rfl) ?_
  with_reducible refine cz (by kernel_rfl) (by kernel_rfl) ?_
  with_reducible refine gV ?_; delta R.eval_run_list
  with_reducible refine aD ?_
  with_reducible refine bA ?_
  with_reducible refine j9 hk ?_
  with_reducible refine bG (by kernel_rfl) ?_
  with_reducible refine cz (by kernel_rfl) (by kernel_rfl) ?_
  with_reducible refine cj ?_; delta R.eval_run_statement
  with_reducible refine aD ?_
  with_reducible refine aR (by kernel_rfl) ?_
  with_reducible refine aD ?_
  with_reducible refine aN (by kernel_rfl) ?_
  with_reducible refine ey ?_; delta R.eval_run_act
  with_reducible refine aD ?_
  with_reducible refine cz (by kernel_rfl) (by kernel_rfl) ?_
  iterate 2 (with_reducible refine aN (by kernel_rfl) ?_)
  with_reducible refine aR (by kernel_rfl) ?_
  with_reducible refine bG (by kernel_rfl) ?_
  with_reducible refine gL ?_; delta R.eval_run_decls
  with_reducible refine aD ?_
  with_reducible refine bA ?_
  with_reducible refine j9 hk ?_
  with_reducible refine bG (by kernel_rfl) ?_
  iterate 2 (with_reducible refine cz (by kernel_rfl) (by kernel_rfl) ?_)
  with_reducible refine bA ?_
  with_reducible refine bG (by kernel_rfl) ?_
  with_reducible refine cz (by kernel_rfl) (by kernel_rfl) ?_
  with_reducible refine cY ?_; delta R.eval_run_expression
  with_reducible refine aD ?_
  with_reducible refine aR (by kernel_rfl) ?_
  with_reducible refine aD ?_
  with_reducible refine aN (by kernel_rfl) ?_
  with_reducible refine rO h0 (by kernel_rfl) (by kernel_rfl) ?_
  with_reducible refine aD ?_
  with_reducible refine aG ?_
  with_reducible refine aD ?_
  with_reducible refine aN (by kernel_rfl) ?_
  with_reducible refine aG ?_
  with_reducible refine kV (by kernel_rfl) ?_
  with_reducible refine aR (by kernel_rfl) ?_
  with_reducible refine aD ?_
  with_reducible refine aG ?_
  with_reducible refine jg ?_
  with_reducible refine gd ?_
  with_reducible refine aN (by kernel_rfl) ?_
  with_reducible refine aG ?_
  with_reducible refine ky ?_
  with_reducible refine kV (by kernel_rfl) ?_
  with_reducible refine aG ?_
  with_reducible refine aD ?_
  with_reducible refine aG ?_
  with_reducible refine aD ?_
  with_reducible refine aG ?_
  with_reducible refine aD ?_
  with_reducible refine aN (by kernel_rfl) ?_
  with_reducible refine aG ?_
  with_reducible refine jg ?_
  with_reducible refine gd ?_
  with_reducible refine bG (by kernel_rfl) ?_
  with_reducible refine cz (by kernel_rfl) (by kernel_rfl) ?_
  with_reducible refine cj ?_; delta R.eval_run_statement
  with_reducible refine aD ?_
  with_reducible refine aR (by kernel_rfl) ?_
  with_reducible refine aD ?_
  with_reducible refine aN (by kernel_rfl) ?_
  with_reducible refine ey ?_; delta R.eval_run_act
  with_reducible refine aD ?_
  with_reducible refine cz (by kernel_rfl) (by kernel_rfl) ?_
  with_reducible refine bG (by kernel_rfl) ?_
  with_reducible refine cz (by kernel_rfl) (by kernel_rfl) ?_
  with_reducible refine cY ?_; delta R.eval_run_expression
  with_reducible refine aD ?_
  with_reducible refine aR (by kernel_rfl) ?_
  with_reducible refine aD ?_
  with_reducible refine aN (by kernel_rfl) ?_
  with_reducible refine im ?_; delta R.eval_run_value
  with_reducible refine aD ?_
  with_reducible refine cz (by kernel_rfl) (by kernel_rfl) ?_
  iterate 4 (with_reducible refine aN (by kernel_rfl) ?_)
  with_reducible refine aR (by kernel_rfl) ?_
  iterate 5 (with_reducible refine aN (by kernel_rfl) ?_)
  with_reducible refine aR (by kernel_rfl) ?_
  with_reducible refine aN (by kernel_rfl) ?_
  with_reducible refine gf ?_; delta R.eval_run_operation
  with_reducible refine aD ?_
  with_reducible refine aN (by kernel_rfl) ?_
  with_reducible refine aR (by kernel_rfl) ?_
  iterate 5 (with_reducible refine aN (by kernel_rfl) ?_)
  with_reducible refine bG (by kernel_rfl) ?_
  with_reducible refine iO ?_; delta R.eval_run_callee
  with_reducible refine aD ?_
  with_reducible refine cz (by kernel_rfl) (by kernel_rfl) ?_
  with_reducible refine aR (by kernel_rfl) ?_
  with_reducible refine aD ?_
  with_reducible refine aN (by kernel_rfl) ?_
  with_reducible refine dk (by kernel_rfl) ?_
  with_reducible refine aR (by kernel_rfl) ?_
  with_reducible refine aD ?_
  with_reducible refine aN (by kernel_rfl) ?_
  with_reducible refine jJ ?_; delta R.eval_run_call
  with_reducible refine aD ?_
  with_reducible refine aN (by kernel_rfl) ?_
  with_reducible refine aR (by kernel_rfl) ?_
  with_reducible refine aD ?_
  with_reducible refine aR (by kernel_rfl) ?_
  with_reducible refine bG (by kernel_rfl) ?_
  with_reducible refine jF ?_; delta R.eval_run_does
  with_reducible refine aD ?_
  with_reducible refine aR (by kernel_rfl) ?_
  with_reducible refine aD ?_
  with_reducible refine aR (by kernel_rfl) ?_
  iterate 10 (with_reducible refine aN (by kernel_rfl) ?_)
  with_reducible refine aR (by kernel_rfl) ?_
  with_reducible refine aN (by kernel_rfl) ?_
  with_reducible refine aR (by kernel_rfl) ?_
  with_reducible refine aN (by kernel_rfl) ?_
  with_reducible refine aR (by kernel_rfl) ?_
  with_reducible refine aN (by kernel_rfl) ?_
  with_reducible refine aR (by kernel_rfl) ?_
  with_reducible refine bG (by kernel_rfl) ?_
  with_reducible refine aR (by kernel_rfl) ?_
  with_reducible refine aD ?_
  with_reducible refine jK ?_; delta R.eval_run_host
  with_reducible refine aD ?_
  with_reducible refine bA ?_
  iterate 3 (with_reducible refine aN (by kernel_rfl) ?_)
  with_reducible refine bG (by kernel_rfl) ?_
  with_reducible exact w_nof (m' := R.bc a0) (by kernel_rfl) hn
theorem xM {x0 : gG} {a0 : gP} (h0 : iT x0 a0)  {l : List Int} (hu : (R.bc a0).strip = some (l, 0)) : (R.bW (ntc x0) (20, (20, 50)) []).sat (· = asks l) := by
  unfold R.bW R.bN
  obtain ⟨k, hk⟩ := kj
  rw [hk]
  with_reducible refine aD ?_
  with_reducible refine aR (by kernel_rfl) ?_
  with_reducible refine aD ?_
  with_reducible refine bA ?_
  with_reducible refine aD ?_
  with_reducible refine aR (by kernel_rfl) ?_
  with_reducible refine aD ?_
  with_reducible refine aN (by kernel_rfl) ?_
  with_reducible refine aR (by kernel_rfl) ?_
  with_reducible refine aD ?_
  with_reducible refine aN (by kernel_rfl) ?_
  with_reducible refine cz (by kernel_rfl) (by kernel_rfl) ?_
  with_reducible refine gV ?_; delta R.eval_run_list
  with_reducible refine aD ?_
  with_reducible refine bA ?_
  with_reducible refine j9 hk ?_
  with_reducible refine bG (by kernel_rfl) ?_
  with_reducible refine cz (by kernel_rfl) (by kernel_rfl) ?_
  with_reducible refine cj ?_; delta R.eval_run_statement
  with_reducible refine aD ?_
  with_reducible refine aR (by kernel_rfl) ?_
  with_reducible refine aD ?_
  with_reducible refine aN (by kernel_rfl) ?_
  with_reducible refine ey ?_; delta R.eval_run_act
  with_reducible refine aD ?_
  with_reducible refine cz (by kernel_rfl) (by kernel_rfl) ?_
  iterate 2 (with_reducible refine aN (by kernel_rfl) ?_)
  with_reducible refine aR (by kernel_rfl) ?_
  with_reducible refine bG (by kernel_rfl) ?_
  with_reducible refine gL ?_; delta R.eval_run_decls
  with_reducible refine aD ?_
  with_reducible refine bA ?_
  with_reducible refine j9 hk ?_
  with_reducible refine bG (by kernel_rfl) ?_
  iterate 2 (with_reducible refine cz (by kernel_rfl) (by kernel_rfl) ?_)
  with_reducible refine bA ?_
  with_reducible refine bG (by kernel_rfl) ?_
  with_reducible refine cz (by kernel_rfl) (by kernel_rfl) ?_
  with_reducible refine cY ?_; delta R.eval_run_expression
  with_reducible refine aD ?_
  with_reducible refine aR (by kernel_rfl) ?_
  with_reducible refine aD ?_
  with_reducible refine aN (by kernel_rfl) ?_
  with_reducible refine rO h0 (by kernel_rfl) (by kernel_rfl) ?_
  with_reducible refine aD ?_
  with_reducible refine aG ?_
  with_reducible refine aD ?_
  with_reducible refine aN (by kernel_rfl) ?_
  with_reducible refine aG ?_
  with_reducible refine kV (by kernel_rfl) ?_
  with_reducible refine aR (by kernel_rfl) ?_
  with_reducible refine aD ?_
  with_reducible refine aG ?_
  with_reducible refine jg ?_
  with_reducible refine gd ?_
  with_reducible refine aN (by kernel_rfl) ?_
  with_reducible refine aG ?_
  with_reducible refine ky ?_
  with_reducible refine kV (by kernel_rfl) ?_
  with_reducible refine aG ?_
  with_reducible refine aD ?_
  with_reducible refine aG ?_
  with_reducible refine aD ?_
  with_reducible refine aG ?_
  with_reducible refine aD ?_
  with_reducible refine aN (by kernel_rfl) ?_
  with_reducible refine aG ?_
  with_reducible refine jg ?_
  with_reducible refine gd ?_
  with_reducible refine bG (by kernel_rfl) ?_
  with_reducible refine cz (by kernel_rfl) (by kernel_rfl) ?_
  with_reducible refine cj ?_; delta R.eval_run_statement
  with_reducible refine aD ?_
  with_reducible refine aR (by kernel_rfl) ?_
  with_reducible refine aD ?_
  with_reducible refine aN (by kernel_rfl) ?_
  with_reducible refine ey ?_; delta R.eval_run_act
  with_reducible refine aD ?_
  with_reducible refine cz (by kernel_rfl) (by kernel_rfl) ?_
  with_reducible refine bG (by kernel_rfl) ?_
  with_reducible refine cz (by kernel_rfl) (by kernel_rfl) ?_
  with_reducible refine cY ?_; delta R.eval_run_expression
  with_reducible refine aD ?_
  with_reducible refine aR (by kernel_rfl) ?_
  with_reducible refine aD ?_
  with_reducible refine aN (by kernel_rfl) ?_
  with_reducible refine im ?_; delta R.eval_run_value
  with_reducible refine aD ?_
  with_reducible refine cz (by kernel_rfl) (by kernel_rfl) ?_
  iterate 4 (with_reducible refine aN (by kernel_rfl) ?_)
  with_reducible refine aR (by kernel_rfl) ?_
  iterate 5 (with_reducible refine aN (by kernel_rfl) ?_)
  with_reducible refine aR (by kernel_rfl) ?_
  with_reducible refine aN (by kernel_rfl) ?_
  with_reducible refine gf ?_; delta R.eval_run_operation
  with_reducible refine aD ?_
  with_reducible refine aN (by kernel_rfl) ?_
  with_reducible refine aR (by kernel_rfl) ?_
  iterate 5 (with_reducible refine aN (by kernel_rfl) ?_)
  with_reducible refine bG (by kernel_rfl) ?_
  with_reducible refine iO ?_; delta R.eval_run_callee
  with_reducible refine aD ?_
  with_reducible refine cz (by kernel_rfl) (by kernel_rfl) ?_
  with_reducible refine aR (by kernel_rfl) ?_
  with_reducible refine aD ?_
  with_reducible refine aN (by kernel_rfl) ?_
  with_reducible refine dk (by kernel_rfl) ?_
  with_reducible refine aR (by kernel_rfl) ?_
  with_reducible refine aD ?_
  with_reducible refine aN (by kernel_rfl) ?_
  with_reducible refine jJ ?_; delta R.eval_run_call
  with_reducible refine aD ?_
  with_reducible refine aN (by kernel_rfl) ?_
  with_reducible refine aR (by kernel_rfl) ?_
  with_reducible refine aD ?_
  with_reducible refine aR (by kernel_rfl) ?_
  with_reducible refine bG (by kernel_rfl) ?_
  with_reducible refine jF ?_; delta R.eval_run_does
  with_reducible refine aD ?_
  with_reducible refine aR (by kernel_rfl) ?_
  with_reducible refine aD ?_
  with_reducible refine aR (by kernel_rfl) ?_
  iterate 10 (with_reducible refine aN (by kernel_rfl) ?_)
  with_reducible refine aR (by kernel_rfl) ?_
  with_reducible refine aN (by kernel_rfl) ?_
  with_reducible refine aR (by kernel_rfl) ?_
  with_reducible refine aN (by kernel_rfl) ?_
  with_reducible refine aR (by kernel_rfl) ?_
  with_reducible refine aN (by kernel_rfl) ?_
  with_reducible refine aR (by kernel_rfl) ?_
  with_reducible refine bG (by kernel_rfl) ?_
  with_reducible refine aR (by kernel_rfl) ?_
  with_reducible refine aD ?_
  with_reducible refine jK ?_; delta R.eval_run_host
  with_reducible refine aD ?_
  with_reducible refine bA ?_
  iterate 3 (with_reducible refine aN (by kernel_rfl) ?_)
  with_reducible refine bG (by kernel_rfl) ?_
  with_reducible refine vI (m' := R.bc a0) (by kernel_rfl) (fC hu rfl) ?_
  with_reducible refine aD ?_
  with_reducible refine aN (by kernel_rfl) ?_
  with_reducible refine aG ?_
  with_reducible refine kV (by kernel_rfl) ?_
  with_reducible refine aR (by kernel_rfl) ?_
  with_reducible refine aD ?_
  with_reducible refine bG (by kernel_rfl) ?_
  with_reducible refine aG ?_
  with_reducible refine aD ?_
  with_reducible refine aG ?_
  with_reducible refine aD ?_
  with_reducible refine aG ?_
  with_reducible refine aD ?_
  with_reducible refine aG ?_
  with_reducible refine aD ?_
  with_reducible refine aG ?_
  with_reducible refine aD ?_
  with_reducible refine aG ?_
  with_reducible refine aD ?_
  with_reducible refine aG ?_
  with_reducible refine aD ?_
  with_reducible refine bG (by kernel_rfl) ?_
  with_reducible refine aG ?_
  with_reducible refine aD ?_
  with_reducible refine aG ?_
  with_reducible refine aD ?_
  with_reducible refine bG (by kernel_rfl) ?_
  with_reducible refine aG ?_
  with_reducible refine ky ?_
  with_reducible refine xx (by kernel_rfl) ?_
  with_reducible refine aG ?_
  with_reducible refine aD ?_
  with_reducible refine aG ?_
  with_reducible refine aD ?_
  with_reducible refine bG (by kernel_rfl) ?_
  with_reducible refine aG ?_
  kernel_rfl
theorem yQ {x0 : gG} {a0 : gP} (h0 : iT x0 a0)  : (R.bW (ntc x0) (20, (20, 50)) []).sat (fun r => Out a0 0 r) := by
  rcases tA (vK (v := a0) (xo h0)) with hn | ⟨⟨l, s⟩, hu, hs⟩
  · exact xa h0  hn
  · have hs : s = 0 := hs
    subst hs
    exact jy (xM h0  hu) fun r e => e ▸ .asks l hu
abbrev nsc (x0 : gG) : List gG := [nd 1 [] [1, 7], nd 3 [] [2], nd 50 [] [3, 6], nd 52 [114, 101, 112, 111, 114, 116] [4], nd 52 [97, 103, 101, 110, 116] [5], nd 33 [36, 50, 54, 50] [], nd 33 [118] [], nd 6 [] [8], nd 7 [118] [9], x0]
theorem vL {x0 : gG} {a0 : gP} (h0 : iT x0 a0) : (R.dd (nsc x0)).sat (· = true) := by
  refine kO (by cases h0 <;> kernel_rfl) rfl (fun e he => ?_) fun e he => ?_ <;> simp only [List.mem_cons, List.not_mem_nil, or_false] at he
  · rcases he with rfl | rfl | rfl | rfl | rfl | rfl | rfl | rfl | rfl <;> first | exact o4 h0 | simp
  · rcases he with rfl | rfl | rfl | rfl | rfl | rfl | rfl | rfl | rfl | rfl <;> first | exact je h0 | exact di (by kernel_rfl)
theorem v8 {x0 : gG} {a0 : gP} (h0 : iT x0 a0) : (R.cA (nsc x0)).sat (· = (0, 0)) := jh (by simp) (vL h0) (by cases h0 <;> kernel_rfl)
theorem yS {x0 : gG} {a0 : gP} (h0 : iT x0 a0)  : (R.bW (nsc x0) (20, (20, 50)) []).sat (· = (req0, (2, [82, 101, 102, 101, 114, 101, 110, 99, 101, 69, 114, 114, 111, 114]))) := by
  unfold R.bW R.bN
  obtain ⟨k, hk⟩ := kj
  rw [hk]
  with_reducible refine aD ?_
  with_reducible refine aR (by kernel_rfl) ?_
  with_reducible refine aD ?_
  with_reducible refine aR (by kernel_rfl) ?_
  with_reducible refine aD ?_
  with_reducible refine aN (by kernel_rfl) ?_
  with_reducible refine bG (by kernel_rfl) ?_
  with_reducible refine aR (by kernel_rfl) ?_
  with_reducible refine aD ?_
  with_reducible refine aG ?_
  kernel_rfl
abbrev nuc (x0 : gG) : List gG := [nd 1 [] [1, 4], nd 6 [] [2], nd 7 [118] [3], x0, nd 3 [] [5], nd 49 [61] [6, 7], nd 33 [118] [], nd 36 [] []]
theorem vG {x0 : gG} {a0 : gP} (h0 : iT x0 a0) : (R.dd (nuc x0)).sat (· = true) := by
  refine kO (by cases h0 <;> kernel_rfl) rfl (fun e he => ?_) fun e he => ?_ <;> simp only [List.mem_cons, List.not_mem_nil, or_false] at he
  · rcases he with rfl | rfl | rfl | rfl | rfl | rfl | rfl <;> first | exact o4 h0 | simp
  · rcases he with rfl | rfl | rfl | rfl | rfl | rfl | rfl | rfl <;> first | exact je h0 | exact di (by kernel_rfl)
theorem vu {x0 : gG} {a0 : gP} (h0 : iT x0 a0) : (R.cA (nuc x0)).sat (· = (0, 0)) := jh (by simp) (vG h0) (by cases h0 <;> kernel_rfl)
theorem yG {x0 : gG} {a0 : gP} (h0 : iT x0 a0)  : (R.bW (nuc x0) (20, (20, 50)) []).sat (· = (req0, (2, [84, 121, 112, 101, 69, 114, 114, 111, 114]))) := by
  unfold R.bW R.bN
  obtain ⟨k, hk⟩ := kj
  rw [hk]
  with_reducible refine aD ?_
  with_reducible refine aR (by kernel_rfl) ?_
  with_reducible refine aD ?_
  with_reducible refine bA ?_
  with_reducible refine aD ?_
  with_reducible refine aR (by kernel_rfl) ?_
  with_reducible refine aD ?_
  with_reducible refine aN (by kernel_rfl) ?_
  with_reducible refine aR (by kernel_rfl) ?_
  with_reducible refine aD ?_
  with_reducible refine aN (by kernel_rfl) ?_
  with_reducible refine cz (by kernel_rfl) (by kernel_rfl) ?_
  with_reducible refine gV ?_; delta R.eval_run_list
  with_reducible refine aD ?_
  with_reducible refine bA ?_
  with_reducible refine j9 hk ?_
  with_reducible refine bG (by kernel_rfl) ?_
  with_reducible refine cz (by kernel_rfl) (by kernel_rfl) ?_
  with_reducible refine cj ?_; delta R.eval_run_statement
  with_reducible refine aD ?_
  with_reducible refine aR (by kernel_rfl) ?_
  with_reducible refine aD ?_
  with_reducible refine aN (by kernel_rfl) ?_
  with_reducible refine ey ?_; delta R.eval_run_act
  with_reducible refine aD ?_
  with_reducible refine cz (by kernel_rfl) (by kernel_rfl) ?_
  iterate 2 (with_reducible refine aN (by kernel_rfl) ?_)
  with_reducible refine aR (by kernel_rfl) ?_
  with_reducible refine bG (by kernel_rfl) ?_
  with_reducible refine gL ?_; delta R.eval_run_decls
  with_reducible refine aD ?_
  with_reducible refine bA ?_
  with_reducible refine j9 hk ?_
  with_reducible refine bG (by kernel_rfl) ?_
  iterate 2 (with_reducible refine cz (by kernel_rfl) (by kernel_rfl) ?_)
  with_reducible refine bA ?_
  with_reducible refine bG (by kernel_rfl) ?_
  with_reducible refine cz (by kernel_rfl) (by kernel_rfl) ?_
  with_reducible refine cY ?_; delta R.eval_run_expression
  with_reducible refine aD ?_
  with_reducible refine aR (by kernel_rfl) ?_
  with_reducible refine aD ?_
  with_reducible refine aN (by kernel_rfl) ?_
  with_reducible refine rO h0 (by kernel_rfl) (by kernel_rfl) ?_
  with_reducible refine aD ?_
  with_reducible refine aG ?_
  with_reducible refine aD ?_
  with_reducible refine aN (by kernel_rfl) ?_
  with_reducible refine aG ?_
  with_reducible refine kV (by kernel_rfl) ?_
  with_reducible refine aR (by kernel_rfl) ?_
  with_reducible refine aD ?_
  with_reducible refine aG ?_
  with_reducible refine jg ?_
  with_reducible refine gd ?_
  with_reducible refine aN (by kernel_rfl) ?_
  with_reducible refine aG ?_
  with_reducible refine ky ?_
  with_reducible refine kV (by kernel_rfl) ?_
  with_reducible refine aG ?_
  with_reducible refine aD ?_
  with_reducible refine aG ?_
  with_reducible refine aD ?_
  with_reducible refine aG ?_
  with_reducible refine aD ?_
  with_reducible refine aN (by kernel_rfl) ?_
  with_reducible refine aG ?_
  with_reducible refine jg ?_
  with_reducible refine gd ?_
  with_reducible refine bG (by kernel_rfl) ?_
  with_reducible refine cz (by kernel_rfl) (by kernel_rfl) ?_
  with_reducible refine aR (by kernel_rfl) ?_
  with_reducible refine aD ?_
  with_reducible refine bG (by kernel_rfl) ?_
  with_reducible refine aG ?_
  with_reducible refine ky ?_
  with_reducible refine xx (by kernel_rfl) ?_
  with_reducible refine aG ?_
  with_reducible refine aD ?_
  with_reducible refine aG ?_
  with_reducible refine aD ?_
  with_reducible refine aN (by kernel_rfl) ?_
  with_reducible refine bG (by kernel_rfl) ?_
  with_reducible refine aR (by kernel_rfl) ?_
  with_reducible refine aD ?_
  with_reducible refine aG ?_
  kernel_rfl
end Go.Mach
set_option maxRecDepth 1000000
namespace Go.Mach
open Res
end Go.Mach
set_option maxRecDepth 1000000
namespace Go.Mach
open Res
theorem tu : ∀ F : Res Bool, F = R.bx → F.sat (· = true) := by
  intro F h
  have h2 := ru
  rw [← h] at h2
  exact Res.fC h2 rfl
instance yC {a} : Safe (R.bd a) := by unfold R.bd; repeat' (first | with_reducible (first | apply Safe.g' | apply Safe.br' | apply Safe.bd' | apply Safe.sm' | intro _ | infer_instance))
theorem sk (a : gP) : (R.bd a).sat fun _ => True := safe
theorem rb {a : gP} {β : Type} {Q : β → Prop} {k : gG × Bool → Res β} (h1 : ∀ x, iT x a → (k (x, true)).sat Q) (h2 : ∀ x e, e = false ∨ ¬ oh a → (k (x, e)).sat Q) : ((R.bd a).bind k).sat Q := by
  by_cases hm : oh a
  · refine bD (wc hm) fun ⟨x, e⟩ hx => ?_
    cases e
    · exact h2 x _ (.inl rfl)
    · exact h1 x (hx rfl)
  · exact bD (sk a) fun ⟨x, e⟩ _ => h2 x e (.inr hm)
theorem xN {a : gP} (h : ¬ oh a) : (Res.bind (R.ew a) fun r => .ok (!r)).sat (· = true) := bD pt fun r hr => by
  cases r
  · exact aG rfl
  · exact absurd (hr rfl) h
theorem t_e {e : Bool} {p : Prop} {k : Res Bool} (he : e = false ∨ p) (h : p → k.sat (· = true)) : (br (!e) (.ok true) k).sat (· = true) := by
  cases e
  · exact bG rfl (aG rfl)
  · rcases he with he | he
    · cases he
    · exact aN rfl (h he)
end Go.Mach
set_option maxRecDepth 1000000
namespace Go.Mach
open Res
theorem tg (a : gP) : (R.bg a false).sat (· = true) := by
  unfold R.bg
  have firstF := tu
  generalize hF : R.bx = F at firstF ⊢
  have jv := firstF _ rfl
  refine aQ fun _ => ae jv (aN rfl ?_)
  refine rb (fun x hx => aQ fun _ => ?_) fun x e he => aQ fun _ => ae (t_e he fun h => xN h) (bG rfl (ae jv (aG rfl)))
  refine ae (a := false) (aN rfl (ae (ry hx) (aG rfl))) (aN rfl ?_)
  have m1 := vc hx
  have m2 := vE hx
  have m3 := vW hx
  have n1 := kM (wD hx) (yU hx)
  have n2 := kM (wI hx) (yO hx)
  have n3 := kM (w6 hx) (yI hx)
  with_reducible refine aR (by kernel_rfl) ?_
  iterate 2 (with_reducible refine dk (by kernel_rfl) ?_)
  with_reducible refine cz (by kernel_rfl) (by kernel_rfl) ?_
  with_reducible refine dk (by kernel_rfl) ?_
  with_reducible refine cz (by kernel_rfl) (by kernel_rfl) ?_
  iterate 2 (with_reducible refine dk (by kernel_rfl) ?_)
  with_reducible refine cz (by kernel_rfl) (by kernel_rfl) ?_
  with_reducible refine dk (by kernel_rfl) ?_
  with_reducible refine cz (by kernel_rfl) (by kernel_rfl) ?_
  with_reducible refine dk (by kernel_rfl) ?_
  with_reducible refine bA ?_
  with_reducible refine km m1 (by kernel_rfl) ?_
  with_reducible refine aN (by kernel_rfl) ?_
  with_reducible refine km m2 (by kernel_rfl) ?_
  with_reducible refine aN (by kernel_rfl) ?_
  with_reducible refine km m3 (by kernel_rfl) ?_
  with_reducible refine aG ?_
  with_reducible refine aN (by kernel_rfl) ?_
  with_reducible refine aR (by kernel_rfl) ?_
  with_reducible refine aD ?_
  with_reducible refine xL n1 (by kernel_rfl) fun u_n1 h_n1 => ?_
  with_reducible refine aD ?_
  with_reducible refine aR (by kernel_rfl) ?_
  with_reducible refine aD ?_
  with_reducible refine km n2 (by kernel_rfl) ?_
  with_reducible refine aD ?_
  with_reducible refine aR (by kernel_rfl) ?_
  with_reducible refine aD ?_
  with_reducible refine km n3 (by kernel_rfl) ?_
  with_reducible refine aD ?_
  iterate 2 (with_reducible refine aR (by kernel_rfl) ?_)
  with_reducible refine km jv (by kernel_rfl) ?_
  with_reducible refine bG (by kernel_rfl) ?_
  with_reducible refine km (rp (v := a) (s := 0) (r := u_n1) h_n1) (by kernel_rfl) ?_
  iterate 2 (with_reducible refine bG (by kernel_rfl) ?_)
  with_reducible refine aG ?_
  kernel_rfl
theorem tv (a : gP) : (R.bg a true).sat (· = true) := by
  unfold R.bg
  have firstF := tu
  generalize hF : R.bx = F at firstF ⊢
  have jv := firstF _ rfl
  refine aQ fun _ => ae jv (aN rfl ?_)
  refine rb (fun x hx => aQ fun _ => ?_) fun x e he => aQ fun _ => ae (t_e he fun h => xN h) (bG rfl (ae jv (aG rfl)))
  refine ae (a := false) (aN rfl (ae (ry hx) (aG rfl))) (aN rfl ?_)
  have m1 := vd hx
  have m2 := vL hx
  have m3 := vG hx
  have n1 := kM (wX hx) (yQ hx)
  have n2 := kM (v8 hx) (yS hx)
  have n3 := kM (vu hx) (yG hx)
  with_reducible refine aR (by kernel_rfl) ?_
  iterate 2 (with_reducible refine dk (by kernel_rfl) ?_)
  with_reducible refine cz (by kernel_rfl) (by kernel_rfl) ?_
  with_reducible refine dk (by kernel_rfl) ?_
  with_reducible refine cz (by kernel_rfl) (by kernel_rfl) ?_
  iterate 2 (with_reducible refine dk (by kernel_rfl) ?_)
  with_reducible refine cz (by kernel_rfl) (by kernel_rfl) ?_
  with_reducible refine dk (by kernel_rfl) ?_
  with_reducible refine cz (by kernel_rfl) (by kernel_rfl) ?_
  with_reducible refine dk (by kernel_rfl) ?_
  with_reducible refine bA ?_
  with_reducible refine km m1 (by kernel_rfl) ?_
  with_reducible refine aN (by kernel_rfl) ?_
  with_reducible refine km m2 (by kernel_rfl) ?_
  with_reducible refine aN (by kernel_rfl) ?_
  with_reducible refine km m3 (by kernel_rfl) ?_
  with_reducible refine aG ?_
  with_reducible refine aN (by kernel_rfl) ?_
  with_reducible refine aR (by kernel_rfl) ?_
  with_reducible refine aD ?_
  with_reducible refine xL n1 (by kernel_rfl) fun u_n1 h_n1 => ?_
  with_reducible refine aD ?_
  with_reducible refine aR (by kernel_rfl) ?_
  with_reducible refine aD ?_
  with_reducible refine km n2 (by kernel_rfl) ?_
  with_reducible refine aD ?_
  with_reducible refine aR (by kernel_rfl) ?_
  with_reducible refine aD ?_
  with_reducible refine km n3 (by kernel_rfl) ?_
  with_reducible refine aD ?_
  iterate 2 (with_reducible refine aR (by kernel_rfl) ?_)
  with_reducible refine km jv (by kernel_rfl) ?_
  with_reducible refine bG (by kernel_rfl) ?_
  with_reducible refine km (rp (v := a) (s := 0) (r := u_n1) h_n1) (by kernel_rfl) ?_
  iterate 2 (with_reducible refine bG (by kernel_rfl) ?_)
  with_reducible refine aG ?_
  kernel_rfl
theorem rB (a : gP) (fixed : Bool) : ly (R.bg a fixed) (· = true) := by
  cases fixed
  · with_reducible exact ly.mk (tg a)
  · with_reducible exact ly.mk (tv a)
end Go.Mach
namespace Go.Mach
theorem ug {P : Program} {c : OpenClaim} (h : P.funcs.any Func.goes = false) (hs : c.start = .entering) : false = c.goesBy P := by
  have h1 : ∀ g : Nat, (P.funcs[g]?).any Func.goes = false := fun g => by
    cases hg : P.funcs[g]? with
    | none => rfl
    | some fn => simpa using (Array.any_eq_false'.1 h) fn (Array.mem_of_getElem? hg)
  have h2 : ∀ f, P.goes f = false := fun f => by
    unfold Program.goes
    rw [h, Bool.and_false, Bool.or_false, List.any_eq_false]
    exact fun g _ => by rw [h1 g]; decide
  have h3 : P.goesFrom c.func = false := by
    unfold Program.goesFrom
    cases P.funcNamed c.func with
    | none => rfl
    | some f => exact h2 f
  unfold OpenClaim.goesBy Program.goesAt
  rw [h3, hs]
  rfl
end Go.Mach
