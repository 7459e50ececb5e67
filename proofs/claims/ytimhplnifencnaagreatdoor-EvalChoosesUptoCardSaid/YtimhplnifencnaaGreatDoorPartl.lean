/-
  Proved here: the law renlaw12.EvalChooses returns true for every input of the stated bulk and leaves its arguments as they were; no further condition.
  By an AI agent; no person has read it.
-/
import Derived.Test.YtimhplnifencnaaGreatDoorPartk
import Derived.KernelRfl
import GoSem.ClaimGoes
set_option linter.all false
set_option linter.deprecated false
set_option maxRecDepth 1000000
namespace Go.Mach
theorem sH : R.cP.strip = some true := by kernel_rfl
theorem oa : R.cP.sat (· = true) := by
  have h := sH
  generalize R.cP = m at h
  exact Res.cG h rfl
end Go.Mach
set_option maxRecDepth 100000
namespace Go.Mach
open Res
theorem dP {α : Type} {m : Res α} {a : α} (h : m.strip = some a) : m.sat (· = a) := Res.cG h rfl
abbrev vU := aC.den
abbrev TreeT := List vU
theorem td {t : TreeT} {e0 : vU} (hl : t.length ≤ 4096) (h0 : t[0]? = some e0) (hk0 : e0.1 = 1) (ho : (R.fe t).sat (· = true)) (h1 : ∀ (n : Nat) (e : vU), 0 < n → t[n]? = some e → e.1 ≠ 1) (hf : ∀ (n : Nat) (e : vU), t[n]? = some e → (R.dk e).sat (· = true))
    (hk : ∀ n : Nat, n < t.length → (R.gE t n).sat (· = true)) (hd : (R.fQ t).sat fun d => (R.cb d).sat fun m => m ≤ 48) : (R.fR t).sat (· = true) := by
  unfold R.fR
  have hpos : 0 < t.length := (List.getElem?_eq_some_iff.1 h0).1
  refine aR fun _ => aT (a := false) ?_ (aD rfl ?_)
  · refine aD (by rw [beq_eq_false_iff_ne]; omega) (aD (by rw [jM]; omega) (gm (by omega) (by simpa using hpos) fun e he _ => ?_))
    have he : t[0]? = some e := he
    rw [h0] at he; cases he
    exact aD (by simp [hk0]) (aT ho (aF rfl))
  refine aT (a := .inl ()) ?_ (vj (bC hd fun d hd => aR fun _ => bC hd fun m hm => aR fun _ => aF (by rw [jq]; exact hm)))
  refine sS (fun i : Int => i) t.length (by omega) (fun i : Int => 0 ≤ i ∧ i ≤ t.length) ⟨by omega, by omega⟩ (fun i h => h) ?_
  rintro i ⟨i0, i1⟩
  refine fS (fun h => ?_) fun _ => aF rfl
  rw [i6] at h
  have hi : i.toNat < t.length := by omega
  have hin : ((i.toNat : Nat) : Int) = i := by omega
  have w : IntKind.wrap .i64 (i + 1) = i + 1 := wrap64 ⟨by omega, by omega⟩
  refine aT (a := false) (fS (fun hp => ?_) fun hp => ?_) (aD rfl (aF ⟨w, by rw [w]; omega, by rw [w]; omega⟩))
  · rw [i6] at hp
    refine gm i0 hi fun e he _ => ?_
    refine aD (by simpa using h1 _ e (by omega) he) (gm i0 hi fun e' he' _ => aT (hf _ _ he') (aD rfl (aT (a := true) ?_ (aF rfl))))
    have := hk _ hi
    rwa [hin] at this
  · refine gm i0 hi fun e' he' _ => aT (hf _ _ he') (aD rfl (aT (a := true) ?_ (aF rfl)))
    have := hk _ hi
    rwa [hin] at this
theorem rI {t : TreeT} (hl : t.length ≤ 4096) (hm : (R.fR t).sat (· = true)) {up : List Int} (hp : (R.dn t).sat (· = up)) (hw : ∀ n : Nat, n < t.length → (R.fN t up n).sat (· = false)) : (R.cf t).sat (· = (0, 0)) := by
  unfold R.cf
  refine aR fun _ => aT hm (aD rfl (aT hp (aR fun _ => aT (a := .inl ()) ?_ (vj (aF rfl)))))
  refine sS (fun i : Int => i) t.length (by omega) (fun i : Int => 0 ≤ i ∧ i ≤ t.length) ⟨by omega, by omega⟩ (fun i h => h) ?_
  rintro i ⟨i0, i1⟩
  refine fS (fun h => ?_) fun _ => aF rfl
  rw [i6] at h
  have hi : i.toNat < t.length := by omega
  have hin : ((i.toNat : Nat) : Int) = i := by omega
  have w : IntKind.wrap .i64 (i + 1) = i + 1 := wrap64 ⟨by omega, by omega⟩
  have := hw _ hi
  rw [hin] at this
  exact aT this (aD rfl (aF ⟨w, by rw [w]; omega, by rw [w]; omega⟩))
end Go.Mach
set_option maxRecDepth 1000000
namespace Go.Mach
open Res
abbrev cY := aB.den
abbrev cU := aC.den
theorem gg : ∃ k, fuel = k + 40 := ⟨2 ^ 70 - 40, by decide⟩
theorem gN {α β : Type} {Q : β → Prop} {m m' : Res α} {a : α} {k : α → Res β} (h : m = m') (h2 : m'.sat (· = a)) (hk : (k a).sat Q) : (m.bind k).sat Q := h ▸ aT h2 hk
theorem vg {α β : Type} {Q : β → Prop} {m : Res α} {P : α → Prop} {k : α → Res β} (h : m.sat P) (hk : ∀ u, m.strip = some u → P u → (k u).sat Q) : (m.bind k).sat Q := by
  by_cases hf : m.facts
  · obtain ⟨u, h1, h2⟩ := nM h hf
    exact aT (cG h1 rfl) (hk u h1 h2)
  · exact aO (jR hf)
abbrev vz : cY := (0, ((0, 0), ((false, []), ([], 0))))
abbrev vnum (n : Int) : cY := (3, ((0, n), ((false, []), ([], 0))))
abbrev vbig (m : List Int) : cY := (4, ((0, 0), ((false, m), ([], 0))))
abbrev vstr (s : List Int) : cY := (5, ((0, 0), ((false, []), (s, 0))))
inductive oA : cY → Prop
  | und : oA vz
  | null : oA (1, vz.2)
  | vS (b : Int) : b = 0 ∨ b = 1 → oA (2, ((0, 0), ((false, []), ([], b))))
  | num (n : Int × Int) : (n.1 = 0 → -9007199254740991 ≤ n.2 ∧ n.2 ≤ 9007199254740991) → oA (3, (n, vz.2.2))
  | big (b : Bool × List Int) : (R.fb b).strip = some true → oA (4, ((0, 0), (b, ([], 0))))
  | str (s : List Int) : s.length ≤ 4096 → oA (vstr s)
  | obj (r : Int) : 0 ≤ r → oA (6, ((0, 0), ((false, []), ([], r))))
theorem ji {a : cY} : (R.ea a).sat (fun r => r = true → a = (a.1, vz.2)) := by
  obtain ⟨k, ⟨n1, n2⟩, ⟨ng, mg⟩, s, ref⟩ := a
  unfold R.ea
  refine aR fun _ => fS (fun h1 => iR (fS (fun _ => aF fun h => by cases h) fun h2 => jv (fun h3 => jv (fun h4 => aF fun h5 => ?_) fun _ => aF fun h => by cases h) fun _ => aF fun h => by cases h)) fun _ => aF fun h => by cases h
  simp only [Bool.and_true, Bool.and_eq_true, beq_iff_eq] at h1 h2 h5
  have e3 : mg = [] := List.length_eq_zero_iff.1 (by simpa using h3)
  have e4 : s = [] := List.length_eq_zero_iff.1 (by simpa using h4)
  obtain ⟨rfl, rfl⟩ := h1
  subst h2 e3 e4 h5
  rfl
theorem wH {a : Int × Int} : (R.fi a).sat (fun r => r = true → a.1 = 0 → -9007199254740991 ≤ a.2 ∧ a.2 ≤ 9007199254740991) := by
  unfold R.fi
  refine aR fun _ => jv (fun h => o5 (fun h1 => aF fun h2 _ => ⟨h1, of_decide_eq_true h2⟩) fun _ => aF fun h => by cases h) fun h => ?_
  refine bC (R := fun _ => True) (by repeat' (first | with_reducible (first | refine aF ?_ | refine aR fun _ => ?_ | refine iR ?_ | refine pk (fun _ => ?_) fun _ => ?_ | refine o5 (fun _ => ?_) fun _ => ?_ | refine jv (fun _ => ?_) fun _ => ?_ | refine aN rfl ?_ | refine aD rfl ?_ | refine fS (fun _ => ?_) fun _ => ?_ | refine tZ ?_ | refine tK ?_ | refine pS ?_ | refine q_e ?_ | refine q_p fun _ _ => ?_ | refine q_b fun _ => ?_ | refine gm ?_ ?_ fun _ _ _ => ?_ | refine jL ?_ ?_ fun _ _ _ => ?_ | refine lL ?_| refine nO ?_ ?_ | refine qv ?_ ?_ | refine tB ?_ ?_ | refine n_d ?_ ?_ | refine pM (fun _ => ?_) fun _ => ?_ | exact safe | refine aO ?_) | exact trivial | dsimp only [Nx, Dn] | with_reducible (first | rfl | refine And.intro ?_ ?_ | intro _ | contradiction) | omega | refine bf (by decide) ?_ | (simp (disch := omega) only [wrap64, iD, iI, List.length_append, List.length_cons, List.length_nil, List.length_take, List.length_drop, List.length_set, List.length_replicate, List.length_reverse] <;> omega) | (simp (disch := omega) only [wrap64, iD, iI, List.length_append, List.length_cons, List.length_nil, List.length_take, List.length_drop, List.length_set, List.length_replicate, List.length_reverse] at * <;> omega) | exact Int.tmod_nonneg _ (by omega) | (simp_all [i6, jq, jM, jm] <;> omega))) fun _ _ => fS (fun _ => aF fun _ h0 => absurd h0 h) fun _ => aF fun _ h0 => absurd h0 h
theorem nq {a : cY} : (R.eK a).sat (fun r => r = true → oA a) := by
  obtain ⟨k, n, b, s, ref⟩ := a
  unfold R.eK
  refine aR fun _ => bC (R := fun c => c = true → k = 0 ∨ k = 1) (jv (fun h => aF fun _ => .inl h) fun _ => aF fun h => .inr (eq_of_beq h)) fun c hc => fS (fun h => ?_) fun _ => ?_
  · refine bC ji fun r hr => aF fun h2 => ?_
    have e : (k, n, b, s, ref) = (k, vz.2) := hr h2
    cases e
    rcases hc h with rfl | rfl
    · exact .und
    · exact .null
  refine jv (fun h => ?_) fun _ => jv (fun h => ?_) fun _ => jv (fun h => ?_) fun _ => jv (fun h => ?_) fun _ => jv (fun h => ?_) fun _ => aF fun h => by cases h
  · refine bC ji fun r hr => fS (fun h1 => ?_) fun _ => aF fun h => by cases h
    have e : (k, n, b, s, (0 : Int)) = (k, vz.2) := hr h1
    cases e
    subst h
    exact jv (fun h => aF fun _ => .vS _ (.inl h)) fun _ => aF fun h => .vS _ (.inr (eq_of_beq h))
  · refine bC ji fun r hr => fS (fun h1 => ?_) fun _ => aF fun h => by cases h
    have e : (k, ((0 : Int), (0 : Int)), b, s, ref) = (k, vz.2) := hr h1
    cases e
    subst h
    exact bC wH fun r hr => aF fun h2 => .num n (hr h2)
  · refine bC ji fun r hr => fS (fun h1 => ?_) fun _ => aF fun h => by cases h
    have e : (k, n, ((false, []) : Bool × List Int), s, ref) = (k, vz.2) := hr h1
    cases e
    subst h
    exact vg (P := fun _ => True) safe fun c hc _ => aF fun h2 => .big b (by rw [hc, h2])
  · refine bC ji fun r hr => fS (fun h1 => ?_) fun _ => aF fun h => by cases h
    have e : (k, n, b, ([] : List Int), ref) = (k, vz.2) := hr h1
    cases e
    subst h
    exact aF fun h2 => .str s (by have h3 : (List.length s : Int) ≤ 4096 := of_decide_eq_true h2; omega)
  · refine bC ji fun r hr => fS (fun h1 => ?_) fun _ => aF fun h => by cases h
    have e : (k, n, b, s, (0 : Int)) = (k, vz.2) := hr h1
    cases e
    subst h
    exact aF fun h2 => .obj ref (of_decide_eq_true h2)
inductive dD : cU → cY → Prop
  | null : dD (36, ([], ([], ((0, 0), ((false, []), []))))) (1, vz.2)
  | tru : dD (34, ([], ([], ((0, 0), ((false, []), []))))) (2, ((0, 0), ((false, []), ([], 1))))
  | fls : dD (35, ([], ([], ((0, 0), ((false, []), []))))) (2, ((0, 0), ((false, []), ([], 0))))
  | num (n : Int) : 0 ≤ n → n ≤ 9007199254740991 → dD (30, ([], ([], ((0, n), ((false, []), []))))) (vnum n)
  | big (m : List Int) : (R.fb (false, m)).strip = some true → dD (31, ([], ([], ((0, 0), ((false, m), []))))) (vbig m)
  | str (s : List Int) : s.length ≤ 4096 → dD (32, ([], (s, ((0, 0), ((false, []), []))))) (vstr s)
theorem tk {b : List Int} (h : b.length ≤ 4096) : (R.cz b).sat (· = vstr b) := by
  unfold R.cz
  refine aR fun _ => ?_
  rw [iD, show min (List.length b : Int) 4096 = List.length b by omega]
  refine lL (nO (by omega) (nO (by omega) (aO (aF (aR fun _ => aF ?_)))))
  rw [Int.toNat_natCast, List.drop_zero, List.take_length]
theorem yR {x : cU} {a : cY} (h : dD x a) (G : bH) (r : aM.den) (i : Int) (e : aX.den) (h0 : decide (0 ≤ i) = true) (hx : r.1[i.toNat]? = some x) : (R.eval_run_value G r i e).sat (· = ((a, 0), r)) := by
  unfold R.eval_run_value
  have hi : i.toNat < List.length r.1 := (List.getElem?_eq_some_iff.1 hx).1
  refine aR fun _ => jL (of_decide_eq_true h0) hi fun y hy _ => ?_
  rw [hx] at hy
  cases hy
  cases h with
  | null => exact dP (by kernel_rfl)
  | tru => exact dP (by kernel_rfl)
  | fls => exact dP (by kernel_rfl)
  | num n h0 h1 => exact dP (by kernel_rfl)
  | big m hm => exact dP (by kernel_rfl)
  | str s hs => exact aD rfl (aD rfl (aN rfl (aT (tk hs) (aR fun _ => aF rfl))))
theorem iW {x : cU} {a : cY} (h : dD x a) : (R.dk x).sat (· = true) := by
  cases h with
  | null => exact dP (by kernel_rfl)
  | tru => exact dP (by kernel_rfl)
  | fls => exact dP (by kernel_rfl)
  | num n h0 h1 =>
    unfold R.dk
    refine aR fun _ => aT (a := false) (dP (by kernel_rfl)) (aD rfl (aT (a := false) (dP (by kernel_rfl)) (aD rfl (aN rfl (aN rfl (aN rfl (aT (a := true) ?_ (aN rfl (aF (decide_eq_true h0))))))))))
    unfold R.fi
    exact aR fun _ => aN rfl (aN (decide_eq_true (by show (-9007199254740991 : Int) ≤ n; omega)) (aF (decide_eq_true h1)))
  | big m hm =>
    unfold R.dk
    exact aR fun _ => aT (a := false) (dP (by kernel_rfl)) (aD rfl (aT (a := false) (dP (by kernel_rfl)) (aD rfl (aD rfl (aN rfl (aN rfl (aT (cG hm rfl) (aN rfl (aF rfl)))))))))
  | str s hs =>
    unfold R.dk
    exact aR fun _ => aT (a := false) (dP (by kernel_rfl)) (aD rfl (aT (a := true) (dP (by kernel_rfl)) (aN rfl (aN rfl (aF (decide_eq_true (by show (List.length s : Int) ≤ 4096; omega)))))))
theorem kZ {x : cU} {a : cY} (h : dD x a) : (R.eK a).sat (· = true) := by
  cases h with
  | null => exact dP (by kernel_rfl)
  | tru => exact dP (by kernel_rfl)
  | fls => exact dP (by kernel_rfl)
  | num n h0 h1 =>
    unfold R.eK
    refine aR fun _ => aT (a := false) (dP (by kernel_rfl)) (aD rfl (aD rfl (aN rfl (aT (a := true) (dP (by kernel_rfl)) (aN rfl (aT (a := true) ?_ (aF rfl)))))))
    unfold R.fi
    exact aR fun _ => aN rfl (aN (decide_eq_true (by show (-9007199254740991 : Int) ≤ n; omega)) (aF (decide_eq_true h1)))
  | big m hm =>
    unfold R.eK
    exact aR fun _ => aT (a := false) (dP (by kernel_rfl)) (aD rfl (aD rfl (aD rfl (aN rfl (aT (a := true) (dP (by kernel_rfl)) (aN rfl (aT (cG hm rfl) (aF rfl))))))))
  | str s hs =>
    unfold R.eK
    exact aR fun _ => aT (a := false) (dP (by kernel_rfl)) (aD rfl (aD rfl (aD rfl (aD rfl (aN rfl (aT (a := true) (dP (by kernel_rfl)) (aN rfl (aF (decide_eq_true (by show (List.length s : Int) ≤ 4096; omega))))))))))
theorem uW {a : List Int} : (R.di a a).sat (· = true) := by
  unfold R.di
  refine aR fun h => ?_
  simp only [Sg.i, oks, Sh.ok, Ty.ok, List.map, Par.v, Bool.and_eq_true] at h
  have := sU h.1
  refine iR (jv (fun _ => ?_) fun h => absurd rfl h)
  refine bC (q_for (Q := fun x : Unit ⊕ Bool => x = .inl ()) (fun i => i) a.length (by omega) (fun _ => True) (by omega) (by omega) trivial fun i h0 h1 _ => pk (fun hi => gm h0 (by omega) fun e he _ => gm h0 (by omega) fun e' he' _ => ?_) fun _ => aF rfl) fun x hx => ?_
  · rw [he] at he'; cases he'
    exact iR (aN (by simp) (aF ⟨rfl, hi, trivial⟩))
  · subst hx
    exact aF rfl
end Go.Mach
set_option maxRecDepth 1000000
namespace Go.Mach
open Res
noncomputable def goodB (t : List cU) : Bool :=
  decide (t.length ≤ 4096) && ((R.fe t).strip == some true && ((List.range t.length).all (fun n => (R.gE t n).strip == some true) && match ((R.fQ t).bind R.cb).strip with
    | some m => ile m 48
    | none => false))
theorem nB {e0 : cU} {rest : List cU} (hb : goodB (e0 :: rest) = true) (hk0 : e0.1 = 1) (h1 : ∀ e ∈ rest, e.1 ≠ 1) (hf : ∀ e ∈ e0 :: rest, (R.dk e).sat (· = true)) : (R.fR (e0 :: rest)).sat (· = true) := by
  simp only [goodB, Bool.and_eq_true, decide_eq_true_eq, beq_iff_eq, List.all_eq_true, List.mem_range] at hb
  obtain ⟨b1, b2, b3, b4⟩ := hb
  refine td (e0 := e0) b1 rfl hk0 (cG b2 rfl) (fun n e hn he => ?_) (fun n e he => hf e (List.mem_of_getElem? he)) (fun n hn => cG (b3 n hn) rfl) ?_
  · obtain ⟨m, rfl⟩ : ∃ m, n = m + 1 := ⟨n - 1, by omega⟩
    exact h1 e (List.mem_of_getElem? (by simpa using he))
  · rw [← sN]
    split at b4
    · rename_i m hm
      exact cG hm (of_decide_eq_true b4)
    · cases b4
noncomputable def lateB (t : List cU) : Bool := match (R.dn t).strip with
  | some up => (List.range t.length).all fun n => (R.fN t up n).strip == some false
  | none => false
theorem lU {t : List cU} (hl : t.length ≤ 4096) (hm : (R.fR t).sat (· = true)) (hb : lateB t = true) : (R.cf t).sat (· = (0, 0)) := by
  unfold lateB at hb
  split at hb
  · rename_i up hup
    simp only [List.all_eq_true, List.mem_range, beq_iff_eq] at hb
    exact rI hl hm (cG hup rfl) fun n hn => cG (hb n hn) rfl
  · cases hb
abbrev nd (k : Int) (name : List UInt8) (kids : List Int) : cU := (k, (name, ([], ((0, 0), ((false, []), kids)))))
theorem nA {t : List cU} {Q : dq.den × fM.den → Prop} (hc : (R.cf t).sat (· = (0, 0))) (hr : (R.aV t (20, (20, 50)) []).sat Q) : (R.dt t (20, (20, 50)) []).sat Q := by
  unfold R.dt
  exact aR fun _ => aT hc (aR fun _ => aT (a := false) (dP (by kernel_rfl)) (aD rfl (bC hr fun x hx => aR fun _ => aF hx)))
theorem ll {x : cU} {a : cY} (h : dD x a) : x.1 ≠ 1 := by cases h <;> simp
theorem iA {x : cU} {a : cY} (h : dD x a) {n : Nat} {r : aM.den} {i : Int} {e : aX.den} {β : Type} {Q : β → Prop} {k : (cY × Int) × aM.den → Res β} (h0 : decide (0 ≤ i) = true) (hx : r.1[i.toNat]? = some x) (hk : (k ((a, 0), r)).sat Q) : (((bc (n + 1)).eval_run_value r i e).bind k).sat Q := aT (yR h (bc n) r i e h0 hx) hk
end Go.Mach
set_option maxRecDepth 1000000
namespace Go.Mach
open Res
theorem vt {a : cY} (h : oA a) : (R.bR a).sat (fun r => r.2 = true → dD r.1 a) := by
  unfold R.bR
  refine aR fun _ => ?_
  cases h with
  | und => exact aD rfl (aD rfl (aD rfl (aD rfl (aD rfl (aF fun h => by cases h)))))
  | null => exact aN rfl (aF fun _ => .null)
  | vS b hb =>
    rcases hb with rfl | rfl
    · exact aD rfl (aN rfl (aF fun _ => .fls))
    · exact aD rfl (aN rfl (aF fun _ => .tru))
  | num n hn =>
    obtain ⟨n1, n2⟩ := n
    refine aD rfl (aD rfl (aN rfl (jv (fun h0 => aF fun h1 => ?_) fun _ => aF fun h => by cases h)))
    have h0 : n1 = 0 := h0
    subst h0
    exact .num n2 (of_decide_eq_true h1) (hn rfl).2
  | big b hb =>
    obtain ⟨ng, m⟩ := b
    refine aD rfl (aD rfl (aD rfl (aN rfl (aF fun h1 => ?_))))
    have h1 : ng = false := by simpa using h1
    subst h1
    exact .big m hb
  | str s hs => exact aD rfl (aD rfl (aD rfl (aD rfl (aN rfl (aF fun _ => .str s hs)))))
  | obj r hr => exact aD rfl (aD rfl (aD rfl (aD rfl (aD rfl (aF fun h => by cases h)))))
end Go.Mach
set_option maxRecDepth 100000
namespace Go.Mach
open Res
end Go.Mach
set_option maxRecDepth 1000000
namespace Go.Mach
open Res
theorem mm {α β : Type} {Q : β → Prop} {m m' : Res α} {k : α → Res β} (e : m = m') (h : ¬ m'.facts) : (m.bind k).sat Q := e ▸ aO (jR h)
theorem jF {α : Type} {m : Res α} {P : α → Prop} (h : m.sat P) : ¬ m.facts ∨ ∃ u, m.strip = some u ∧ P u := by
  by_cases hf : m.facts
  · obtain ⟨u, h1, h2⟩ := nM h hf
    exact .inr ⟨u, h1, h2⟩
  · exact .inl hf
theorem kt {v : cY} (hv : v.1 ≠ 6) : (R.av v).sat (fun r => r.2 = 0) := by
  unfold R.av
  have hc : (R.bw v).sat (fun c => oA c ∧ c.1 ≠ 6) := by
    unfold R.bw
    refine aR fun _ => bC nq fun r hr => fS (fun _ => aF ⟨.und, by simp⟩) fun h => aF ⟨hr ?_, hv⟩
    cases r
    · cases h
    · rfl
  have e : ∀ r : List Int, (given (bF.g.o r) (Res.ok ((r, (0 : Int))))).sat (fun r : List Int × Int => r.2 = 0) := fun r => aR fun _ => aF rfl
  refine aR fun _ => bC hc fun c ⟨hm, h6⟩ => aR fun _ => ?_
  cases hm with
  | und => exact aN rfl (bC (eU (by decide)) fun r _ => e r)
  | null => exact aD rfl (aN rfl (bC (eU (by decide)) fun r _ => e r))
  | vS b hb => exact aD rfl (aD rfl (aN rfl (fS (fun _ => bC (eU (by decide)) fun r _ => e r) fun _ => bC (eU (by decide)) fun r _ => e r)))
  | num n hn => exact aD rfl (aD rfl (aD rfl (aN rfl (q_p fun t ht => aR fun _ => bC (eU ht) fun r _ => e r))))
  | big b hb => exact aD rfl (aD rfl (aD rfl (aD rfl (aN rfl (q_p fun t ht => aR fun _ => bC (eU ht) fun r _ => e r)))))
  | str s hs => exact aD rfl (aD rfl (aD rfl (aD rfl (aD rfl (aN rfl (aT (a := s) rfl (aR fun _ => aF rfl)))))))
  | obj r hr => exact absurd rfl h6
abbrev asks (l : List Int) : dq.den × fM.den := ((11, (0, (0, (0, (0, (false, (false, (0, (0, ((0, 0), (l, 0))))))))))), (0, []))
abbrev eName (s : Int) : List Int := if s = 1 then [84, 121, 112, 101, 69, 114, 114, 111, 114] else if s = 2 then [82, 97, 110, 103, 101, 69, 114, 114, 111, 114] else if s = 4 then [82, 101, 102, 101, 114, 101, 110, 99, 101, 69, 114, 114, 111, 114] else [83, 121, 110, 116, 97, 120, 69, 114, 114, 111, 114]
inductive Out (v : cY) : Int → dq.den × fM.den → Prop
  | asks (l : List Int) : (R.av v).strip = some (l, 0) → Out v 0 (asks l)
  | exit (q : dq.den) (e : List Int) : Out v 3 (q, (3, e))
  | thrown (q : dq.den) (s : Int) : s = 1 ∨ s = 2 ∨ s = 4 ∨ s = 5 → Out v s (q, (2, eName s))
theorem nN {v : cY} {s : Int} {r : dq.den × fM.den} (h : Out v s r) : (R.b8 r.1 r.2 v s).sat (· = true) := by
  cases h with
  | asks l hu =>
    unfold R.b8
    exact aR fun _ => aN rfl (aT (cG hu rfl) (aR fun _ => aN rfl (aN rfl (aN rfl (aT uW (aF rfl))))))
  | exit q e => exact dP (by kernel_rfl)
  | thrown q s hs => rcases hs with rfl | rfl | rfl | rfl <;> exact dP (by kernel_rfl)
theorem mR {x : cU} {a : cY} (h : dD x a) : a.1 ≠ 6 := by cases h <;> simp
theorem xp {x : cU} {a : cY} (h : dD x a) : (a.1 == 0) = false := by cases h <;> rfl
end Go.Mach
set_option maxRecDepth 1000000
namespace Go.Mach
open Res
abbrev cc (x0 : cU) (x1 : cU) (x2 : cU) : List cU := [nd 1 [] [1], nd 3 [] [2], nd 50 [] [3, 6], nd 52 [114, 101, 112, 111, 114, 116] [4], nd 52 [97, 103, 101, 110, 116] [5], nd 33 [36, 50, 54, 50] [], nd 48 [] [7, 8, 9], x0, x1, x2]
theorem cc_may {x0 : cU} {a0 : cY} (h0 : dD x0 a0) {x1 : cU} {a1 : cY} (h1 : dD x1 a1) {x2 : cU} {a2 : cY} (h2 : dD x2 a2) : (R.fR (cc x0 x1 x2)).sat (· = true) := by
  refine nB (by cases h0 <;> cases h1 <;> cases h2 <;> kernel_rfl) rfl (fun e he => ?_) fun e he => ?_ <;> simp only [List.mem_cons, List.not_mem_nil, or_false] at he
  · rcases he with rfl | rfl | rfl | rfl | rfl | rfl | rfl | rfl | rfl <;> first | exact ll h0 | exact ll h1 | exact ll h2 | simp
  · rcases he with rfl | rfl | rfl | rfl | rfl | rfl | rfl | rfl | rfl | rfl <;> first | exact iW h0 | exact iW h1 | exact iW h2 | exact dP (by kernel_rfl)
theorem xA {x0 : cU} {a0 : cY} (h0 : dD x0 a0) {x1 : cU} {a1 : cY} (h1 : dD x1 a1) {x2 : cU} {a2 : cY} (h2 : dD x2 a2) : (R.cf (cc x0 x1 x2)).sat (· = (0, 0)) := lU (by simp) (cc_may h0 h1 h2) (by cases h0 <;> cases h1 <;> cases h2 <;> kernel_rfl)
theorem cc_n {x0 : cU} {a0 : cY} (h0 : dD x0 a0) {x1 : cU} {a1 : cY} (h1 : dD x1 a1) {x2 : cU} {a2 : cY} (h2 : dD x2 a2) {Q} (hn : ¬ (R.aw a0).facts) : (R.aV (cc x0 x1 x2) (20, (20, 50)) []).sat (Q) := by
  unfold R.aV R.au
  obtain ⟨k, hk⟩ := gg
  rw [hk]
  with_reducible refine aA ?_
  with_reducible refine aE (by kernel_rfl) ?_
  with_reducible refine aA ?_
  with_reducible refine aO ?_
  with_reducible refine aA ?_
  with_reducible refine aE (by kernel_rfl) ?_
  with_reducible refine aA ?_
  with_reducible refine aD (by kernel_rfl) ?_
  with_reducible refine aE (by kernel_rfl) ?_
  with_reducible refine aA ?_
  with_reducible refine aD (by kernel_rfl) ?_
  with_reducible refine aZ (by kernel_rfl) (by kernel_rfl) ?_
  with_reducible refine cB ?_; delta R.eval_run_list
  with_reducible refine aA ?_
  with_reducible refine aO ?_
  with_reducible refine eQ hk ?_
  with_reducible refine aN (by kernel_rfl) ?_
  with_reducible refine aZ (by kernel_rfl) (by kernel_rfl) ?_
  with_reducible refine bM ?_; delta R.eval_run_statement
  with_reducible refine aA ?_
  with_reducible refine aE (by kernel_rfl) ?_
  with_reducible refine aA ?_
  with_reducible refine aD (by kernel_rfl) ?_
  with_reducible refine cQ ?_; delta R.eval_run_act
  with_reducible refine aA ?_
  with_reducible refine aZ (by kernel_rfl) (by kernel_rfl) ?_
  with_reducible refine aN (by kernel_rfl) ?_
  with_reducible refine aZ (by kernel_rfl) (by kernel_rfl) ?_
  with_reducible refine aG ?_; delta R.eval_run_expression
  with_reducible refine aA ?_
  with_reducible refine aE (by kernel_rfl) ?_
  with_reducible refine aA ?_
  with_reducible refine aD (by kernel_rfl) ?_
  with_reducible refine aY ?_; delta R.eval_run_value
  with_reducible refine aA ?_
  with_reducible refine aZ (by kernel_rfl) (by kernel_rfl) ?_
  iterate 4 (with_reducible refine aD (by kernel_rfl) ?_)
  with_reducible refine aE (by kernel_rfl) ?_
  iterate 5 (with_reducible refine aD (by kernel_rfl) ?_)
  with_reducible refine aE (by kernel_rfl) ?_
  with_reducible refine aD (by kernel_rfl) ?_
  with_reducible refine aP ?_; delta R.eval_run_operation
  with_reducible refine aA ?_
  with_reducible refine aD (by kernel_rfl) ?_
  with_reducible refine aE (by kernel_rfl) ?_
  iterate 5 (with_reducible refine aD (by kernel_rfl) ?_)
  with_reducible refine aN (by kernel_rfl) ?_
  with_reducible refine bh ?_; delta R.eval_run_callee
  with_reducible refine aA ?_
  with_reducible refine aZ (by kernel_rfl) (by kernel_rfl) ?_
  with_reducible refine aE (by kernel_rfl) ?_
  with_reducible refine aA ?_
  with_reducible refine aD (by kernel_rfl) ?_
  with_reducible refine bf (by kernel_rfl) ?_
  with_reducible refine bL ?_; delta R.eval_run_arguments
  with_reducible refine aA ?_
  with_reducible refine aO ?_
  with_reducible refine eQ hk ?_
  with_reducible refine aN (by kernel_rfl) ?_
  with_reducible refine aZ (by kernel_rfl) (by kernel_rfl) ?_
  with_reducible refine aG ?_; delta R.eval_run_expression
  with_reducible refine aA ?_
  with_reducible refine aE (by kernel_rfl) ?_
  with_reducible refine aA ?_
  with_reducible refine aD (by kernel_rfl) ?_
  with_reducible refine aY ?_; delta R.eval_run_value
  with_reducible refine aA ?_
  with_reducible refine aZ (by kernel_rfl) (by kernel_rfl) ?_
  iterate 4 (with_reducible refine aD (by kernel_rfl) ?_)
  with_reducible refine aE (by kernel_rfl) ?_
  iterate 5 (with_reducible refine aD (by kernel_rfl) ?_)
  with_reducible refine aE (by kernel_rfl) ?_
  with_reducible refine aD (by kernel_rfl) ?_
  with_reducible refine aP ?_; delta R.eval_run_operation
  with_reducible refine aA ?_
  with_reducible refine aD (by kernel_rfl) ?_
  with_reducible refine aE (by kernel_rfl) ?_
  iterate 3 (with_reducible refine aD (by kernel_rfl) ?_)
  with_reducible refine aN (by kernel_rfl) ?_
  with_reducible refine aZ (by kernel_rfl) (by kernel_rfl) ?_
  with_reducible refine aG ?_; delta R.eval_run_expression
  with_reducible refine aA ?_
  with_reducible refine aE (by kernel_rfl) ?_
  with_reducible refine aA ?_
  with_reducible refine aD (by kernel_rfl) ?_
  with_reducible refine iA h0 (by kernel_rfl) (by kernel_rfl) ?_
  with_reducible refine aA ?_
  with_reducible refine aF ?_
  with_reducible refine aA ?_
  with_reducible refine aD (by kernel_rfl) ?_
  with_reducible exact mm (m' := R.aw a0) (by kernel_rfl) hn
theorem cc_fN {x0 : cU} {a0 : cY} (h0 : dD x0 a0) {x1 : cU} {a1 : cY} (h1 : dD x1 a1) {x2 : cU} {a2 : cY} (h2 : dD x2 a2) (hb : (R.aw a0).strip = some false) {Q} (hn : ¬ (R.av a2).facts) : (R.aV (cc x0 x1 x2) (20, (20, 50)) []).sat (Q) := by
  unfold R.aV R.au
  obtain ⟨k, hk⟩ := gg
  rw [hk]
  with_reducible refine aA ?_
  with_reducible refine aE (by kernel_rfl) ?_
  with_reducible refine aA ?_
  with_reducible refine aO ?_
  with_reducible refine aA ?_
  with_reducible refine aE (by kernel_rfl) ?_
  with_reducible refine aA ?_
  with_reducible refine aD (by kernel_rfl) ?_
  with_reducible refine aE (by kernel_rfl) ?_
  with_reducible refine aA ?_
  with_reducible refine aD (by kernel_rfl) ?_
  with_reducible refine aZ (by kernel_rfl) (by kernel_rfl) ?_
  with_reducible refine cB ?_; delta R.eval_run_list
  with_reducible refine aA ?_
  with_reducible refine aO ?_
  with_reducible refine eQ hk ?_
  with_reducible refine aN (by kernel_rfl) ?_
  with_reducible refine aZ (by kernel_rfl) (by kernel_rfl) ?_
  with_reducible refine bM ?_; delta R.eval_run_statement
  with_reducible refine aA ?_
  with_reducible refine aE (by kernel_rfl) ?_
  with_reducible refine aA ?_
  with_reducible refine aD (by kernel_rfl) ?_
  with_reducible refine cQ ?_; delta R.eval_run_act
  with_reducible refine aA ?_
  with_reducible refine aZ (by kernel_rfl) (by kernel_rfl) ?_
  with_reducible refine aN (by kernel_rfl) ?_
  with_reducible refine aZ (by kernel_rfl) (by kernel_rfl) ?_
  with_reducible refine aG ?_; delta R.eval_run_expression
  with_reducible refine aA ?_
  with_reducible refine aE (by kernel_rfl) ?_
  with_reducible refine aA ?_
  with_reducible refine aD (by kernel_rfl) ?_
  with_reducible refine aY ?_; delta R.eval_run_value
  with_reducible refine aA ?_
  with_reducible refine aZ (by kernel_rfl) (by kernel_rfl) ?_
  iterate 4 (with_reducible refine aD (by kernel_rfl) ?_)
  with_reducible refine aE (by kernel_rfl) ?_
  iterate 5 (with_reducible refine aD (by kernel_rfl) ?_)
  with_reducible refine aE (by kernel_rfl) ?_
  with_reducible refine aD (by kernel_rfl) ?_
  with_reducible refine aP ?_; delta R.eval_run_operation
  with_reducible refine aA ?_
  with_reducible refine aD (by kernel_rfl) ?_
  with_reducible refine aE (by kernel_rfl) ?_
  iterate 5 (with_reducible refine aD (by kernel_rfl) ?_)
  with_reducible refine aN (by kernel_rfl) ?_
  with_reducible refine bh ?_; delta R.eval_run_callee
  with_reducible refine aA ?_
  with_reducible refine aZ (by kernel_rfl) (by kernel_rfl) ?_
  with_reducible refine aE (by kernel_rfl) ?_
  with_reducible refine aA ?_
  with_reducible refine aD (by kernel_rfl) ?_
  with_reducible refine bf (by kernel_rfl) ?_
  with_reducible refine bL ?_; delta R.eval_run_arguments
  with_reducible refine aA ?_
  with_reducible refine aO ?_
  with_reducible refine eQ hk ?_
  with_reducible refine aN (by kernel_rfl) ?_
  with_reducible refine aZ (by kernel_rfl) (by kernel_rfl) ?_
  with_reducible refine aG ?_; delta R.eval_run_expression
  with_reducible refine aA ?_
  with_reducible refine aE (by kernel_rfl) ?_
  with_reducible refine aA ?_
  with_reducible refine aD (by kernel_rfl) ?_
  with_reducible refine aY ?_; delta R.eval_run_value
  with_reducible refine aA ?_
  with_reducible refine aZ (by kernel_rfl) (by kernel_rfl) ?_
  iterate 4 (with_reducible refine aD (by kernel_rfl) ?_)
  with_reducible refine aE (by kernel_rfl) ?_
  iterate 5 (with_reducible refine aD (by kernel_rfl) ?_)
  with_reducible refine aE (by kernel_rfl) ?_
  with_reducible refine aD (by kernel_rfl) ?_
  with_reducible refine aP ?_; delta R.eval_run_operation
  with_reducible refine aA ?_
  with_reducible refine aD (by kernel_rfl) ?_
  with_reducible refine aE (by kernel_rfl) ?_
  iterate 3 (with_reducible refine aD (by kernel_rfl) ?_)
  with_reducible refine aN (by kernel_rfl) ?_
  with_reducible refine aZ (by kernel_rfl) (by kernel_rfl) ?_
  with_reducible refine aG ?_; delta R.eval_run_expression
  with_reducible refine aA ?_
  with_reducible refine aE (by kernel_rfl) ?_
  with_reducible refine aA ?_
  with_reducible refine aD (by kernel_rfl) ?_
  with_reducible refine iA h0 (by kernel_rfl) (by kernel_rfl) ?_
  with_reducible refine aA ?_
  with_reducible refine aF ?_
  with_reducible refine aA ?_
  with_reducible refine aD (by kernel_rfl) ?_
  with_reducible refine gN (m' := R.aw a0) (by kernel_rfl) (cG hb rfl) ?_
  with_reducible refine aD (by kernel_rfl) ?_
  with_reducible refine aZ (by kernel_rfl) (by kernel_rfl) ?_
  with_reducible refine aG ?_; delta R.eval_run_expression
  with_reducible refine aA ?_
  with_reducible refine aE (by kernel_rfl) ?_
  with_reducible refine aA ?_
  with_reducible refine aD (by kernel_rfl) ?_
  with_reducible refine iA h2 (by kernel_rfl) (by kernel_rfl) ?_
  with_reducible refine aA ?_
  with_reducible refine aF ?_
  with_reducible refine aA ?_
  with_reducible refine aF ?_
  with_reducible refine aA ?_
  with_reducible refine aF ?_
  with_reducible refine aA ?_
  with_reducible refine aF ?_
  with_reducible refine aA ?_
  with_reducible refine aD (by kernel_rfl) ?_
  with_reducible refine bf (by kernel_rfl) ?_
  with_reducible refine aF ?_
  with_reducible refine jW ?_
  with_reducible refine gL ?_
  with_reducible refine aD (by kernel_rfl) ?_
  with_reducible refine aF ?_
  with_reducible refine gf ?_
  with_reducible refine iy (by kernel_rfl) ?_
  with_reducible refine aF ?_
  with_reducible refine aA ?_
  with_reducible refine aD (by kernel_rfl) ?_
  with_reducible refine cq ?_; delta R.eval_run_call
  with_reducible refine aA ?_
  with_reducible refine aD (by kernel_rfl) ?_
  with_reducible refine aE (by kernel_rfl) ?_
  with_reducible refine aA ?_
  with_reducible refine aE (by kernel_rfl) ?_
  with_reducible refine aN (by kernel_rfl) ?_
  with_reducible refine cj ?_; delta R.eval_run_does
  with_reducible refine aA ?_
  with_reducible refine aE (by kernel_rfl) ?_
  with_reducible refine aA ?_
  with_reducible refine aE (by kernel_rfl) ?_
  iterate 10 (with_reducible refine aD (by kernel_rfl) ?_)
  with_reducible refine aE (by kernel_rfl) ?_
  with_reducible refine aD (by kernel_rfl) ?_
  with_reducible refine aE (by kernel_rfl) ?_
  with_reducible refine aD (by kernel_rfl) ?_
  with_reducible refine aE (by kernel_rfl) ?_
  with_reducible refine aD (by kernel_rfl) ?_
  with_reducible refine aE (by kernel_rfl) ?_
  with_reducible refine aN (by kernel_rfl) ?_
  with_reducible refine aE (by kernel_rfl) ?_
  with_reducible refine aA ?_
  with_reducible refine cm ?_; delta R.eval_run_host
  with_reducible refine aA ?_
  with_reducible refine aO ?_
  iterate 3 (with_reducible refine aD (by kernel_rfl) ?_)
  with_reducible refine aN (by kernel_rfl) ?_
  with_reducible exact mm (m' := R.av a2) (by kernel_rfl) hn
theorem cc_fT {x0 : cU} {a0 : cY} (h0 : dD x0 a0) {x1 : cU} {a1 : cY} (h1 : dD x1 a1) {x2 : cU} {a2 : cY} (h2 : dD x2 a2) (hb : (R.aw a0).strip = some false) {l : List Int} (hu : (R.av a2).strip = some (l, 0)) : (R.aV (cc x0 x1 x2) (20, (20, 50)) []).sat (· = asks l) := by
  unfold R.aV R.au
  obtain ⟨k, hk⟩ := gg
  rw [hk]
  with_reducible refine aA ?_
  with_reducible refine aE (by kernel_rfl) ?_
  with_reducible refine aA ?_
  with_reducible refine aO ?_
  with_reducible refine aA ?_
  with_reducible refine aE (by kernel_rfl) ?_
  with_reducible refine aA ?_
  with_reducible refine aD (by kernel_rfl) ?_
  with_reducible refine aE (by kernel_rfl) ?_
  with_reducible refine aA ?_
  with_reducible refine aD (by kernel_rfl) ?_
  with_reducible refine aZ (by kernel_rfl) (by kernel_rfl) ?_
  with_reducible refine cB ?_; delta R.eval_run_list
  with_reducible refine aA ?_
  with_reducible refine aO ?_
  with_reducible refine eQ hk ?_
  with_reducible refine aN (by kernel_rfl) ?_
  with_reducible refine aZ (by kernel_rfl) (by kernel_rfl) ?_
  with_reducible refine bM ?_; delta R.eval_run_statement
  with_reducible refine aA ?_
  with_reducible refine aE (by kernel_rfl) ?_
  with_reducible refine aA ?_
  with_reducible refine aD (by kernel_rfl) ?_
  with_reducible refine cQ ?_; delta R.eval_run_act
  with_reducible refine aA ?_
  with_reducible refine aZ (by kernel_rfl) (by kernel_rfl) ?_
  with_reducible refine aN (by kernel_rfl) ?_
  with_reducible refine aZ (by kernel_rfl) (by kernel_rfl) ?_
  with_reducible refine aG ?_; delta R.eval_run_expression
  with_reducible refine aA ?_
  with_reducible refine aE (by kernel_rfl) ?_
  with_reducible refine aA ?_
  with_reducible refine aD (by kernel_rfl) ?_
  with_reducible refine aY ?_; delta R.eval_run_value
  with_reducible refine aA ?_
  with_reducible refine aZ (by kernel_rfl) (by kernel_rfl) ?_
  iterate 4 (with_reducible refine aD (by kernel_rfl) ?_)
  with_reducible refine aE (by kernel_rfl) ?_
  iterate 5 (with_reducible refine aD (by kernel_rfl) ?_)
  with_reducible refine aE (by kernel_rfl) ?_
  with_reducible refine aD (by kernel_rfl) ?_
  with_reducible refine aP ?_; delta R.eval_run_operation
  with_reducible refine aA ?_
  with_reducible refine aD (by kernel_rfl) ?_
  with_reducible refine aE (by kernel_rfl) ?_
  iterate 5 (with_reducible refine aD (by kernel_rfl) ?_)
  with_reducible refine aN (by kernel_rfl) ?_
  with_reducible refine bh ?_; delta R.eval_run_callee
  with_reducible refine aA ?_
  with_reducible refine aZ (by kernel_rfl) (by kernel_rfl) ?_
  with_reducible refine aE (by kernel_rfl) ?_
  with_reducible refine aA ?_
  with_reducible refine aD (by kernel_rfl) ?_
  with_reducible refine bf (by kernel_rfl) ?_
  with_reducible refine bL ?_; delta R.eval_run_arguments
  with_reducible refine aA ?_
  with_reducible refine aO ?_
  with_reducible refine eQ hk ?_
  with_reducible refine aN (by kernel_rfl) ?_
  with_reducible refine aZ (by kernel_rfl) (by kernel_rfl) ?_
  with_reducible refine aG ?_; delta R.eval_run_expression
  with_reducible refine aA ?_
  with_reducible refine aE (by kernel_rfl) ?_
  with_reducible refine aA ?_
  with_reducible refine aD (by kernel_rfl) ?_
  with_reducible refine aY ?_; delta R.eval_run_value
  with_reducible refine aA ?_
  with_reducible refine aZ (by kernel_rfl) (by kernel_rfl) ?_
  iterate 4 (with_reducible refine aD (by kernel_rfl) ?_)
  with_reducible refine aE (by kernel_rfl) ?_
  iterate 5 (with_reducible refine aD (by kernel_rfl) ?_)
  with_reducible refine aE (by kernel_rfl) ?_
  with_reducible refine aD (by kernel_rfl) ?_
  with_reducible refine aP ?_; delta R.eval_run_operation
  with_reducible refine aA ?_
  with_reducible refine aD (by kernel_rfl) ?_
  with_reducible refine aE (by kernel_rfl) ?_
  iterate 3 (with_reducible refine aD (by kernel_rfl) ?_)
  with_reducible refine aN (by kernel_rfl) ?_
  with_reducible refine aZ (by kernel_rfl) (by kernel_rfl) ?_
  with_reducible refine aG ?_; delta R.eval_run_expression
  with_reducible refine aA ?_
  with_reducible refine aE (by kernel_rfl) ?_
  with_reducible refine aA ?_
  with_reducible refine aD (by kernel_rfl) ?_
  with_reducible refine iA h0 (by kernel_rfl) (by kernel_rfl) ?_
  with_reducible refine aA ?_
  with_reducible refine aF ?_
  with_reducible refine aA ?_
  with_reducible refine aD (by kernel_rfl) ?_
  with_reducible refine gN (m' := R.aw a0) (by kernel_rfl) (cG hb rfl) ?_
  with_reducible refine aD (by kernel_rfl) ?_
  with_reducible refine aZ (by kernel_rfl) (by kernel_rfl) ?_
  with_reducible refine aG ?_; delta R.eval_run_expression
  with_reducible refine aA ?_
  with_reducible refine aE (by kernel_rfl) ?_
  with_reducible refine aA ?_
  with_reducible refine aD (by kernel_rfl) ?_
  with_reducible refine iA h2 (by kernel_rfl) (by kernel_rfl) ?_
  with_reducible refine aA ?_
  with_reducible refine aF ?_
  with_reducible refine aA ?_
  with_reducible refine aF ?_
  with_reducible refine aA ?_
  with_reducible refine aF ?_
  with_reducible refine aA ?_
  with_reducible refine aF ?_
  with_reducible refine aA ?_
  with_reducible refine aD (by kernel_rfl) ?_
  with_reducible refine bf (by kernel_rfl) ?_
  with_reducible refine aF ?_
  with_reducible refine jW ?_
  with_reducible refine gL ?_
  with_reducible refine aD (by kernel_rfl) ?_
  with_reducible refine aF ?_
  with_reducible refine gf ?_
  with_reducible refine iy (by kernel_rfl) ?_
  with_reducible refine aF ?_
  with_reducible refine aA ?_
  with_reducible refine aD (by kernel_rfl) ?_
  with_reducible refine cq ?_; delta R.eval_run_call
  with_reducible refine aA ?_
  with_reducible refine aD (by kernel_rfl) ?_
  with_reducible refine aE (by kernel_rfl) ?_
  with_reducible refine aA ?_
  with_reducible refine aE (by kernel_rfl) ?_
  with_reducible refine aN (by kernel_rfl) ?_
  with_reducible refine cj ?_; delta R.eval_run_does
  with_reducible refine aA ?_
  with_reducible refine aE (by kernel_rfl) ?_
  with_reducible refine aA ?_
  with_reducible refine aE (by kernel_rfl) ?_
  iterate 10 (with_reducible refine aD (by kernel_rfl) ?_)
  with_reducible refine aE (by kernel_rfl) ?_
  with_reducible refine aD (by kernel_rfl) ?_
  with_reducible refine aE (by kernel_rfl) ?_
  with_reducible refine aD (by kernel_rfl) ?_
  with_reducible refine aE (by kernel_rfl) ?_
  with_reducible refine aD (by kernel_rfl) ?_
  with_reducible refine aE (by kernel_rfl) ?_
  with_reducible refine aN (by kernel_rfl) ?_
  with_reducible refine aE (by kernel_rfl) ?_
  with_reducible refine aA ?_
  with_reducible refine cm ?_; delta R.eval_run_host
  with_reducible refine aA ?_
  with_reducible refine aO ?_
  iterate 3 (with_reducible refine aD (by kernel_rfl) ?_)
  with_reducible refine aN (by kernel_rfl) ?_
  with_reducible refine gN (m' := R.av a2) (by kernel_rfl) (cG hu rfl) ?_
  with_reducible refine aA ?_
  with_reducible refine aD (by kernel_rfl) ?_
  with_reducible refine aF ?_
  with_reducible refine iy (by kernel_rfl) ?_
  with_reducible refine aE (by kernel_rfl) ?_
  with_reducible refine aA ?_
  with_reducible refine aN (by kernel_rfl) ?_
  with_reducible refine aF ?_
  with_reducible refine aA ?_
  with_reducible refine aF ?_
  with_reducible refine aA ?_
  with_reducible refine aF ?_
  with_reducible refine aA ?_
  with_reducible refine aF ?_
  with_reducible refine aA ?_
  with_reducible refine aF ?_
  with_reducible refine aA ?_
  with_reducible refine aF ?_
  with_reducible refine aA ?_
  with_reducible refine aF ?_
  with_reducible refine aA ?_
  with_reducible refine aN (by kernel_rfl) ?_
  with_reducible refine aF ?_
  with_reducible refine aA ?_
  with_reducible refine aF ?_
  with_reducible refine aA ?_
  with_reducible refine aN (by kernel_rfl) ?_
  with_reducible refine aF ?_
  with_reducible refine gf ?_
  with_reducible refine pe (by kernel_rfl) ?_
  with_reducible refine aF ?_
  with_reducible refine aA ?_
  with_reducible refine aF ?_
  with_reducible refine aA ?_
  with_reducible refine aN (by kernel_rfl) ?_
  with_reducible refine aF ?_
  kernel_rfl
theorem cc_f {x0 : cU} {a0 : cY} (h0 : dD x0 a0) {x1 : cU} {a1 : cY} (h1 : dD x1 a1) {x2 : cU} {a2 : cY} (h2 : dD x2 a2) (hb : (R.aw a0).strip = some false) : (R.aV (cc x0 x1 x2) (20, (20, 50)) []).sat (fun r => Out a2 0 r) := by
  rcases jF (kt (v := a2) (mR h2)) with hn | ⟨⟨l, s⟩, hu, hs⟩
  · exact cc_fN h0 h1 h2 hb hn
  · have hs : s = 0 := hs
    subst hs
    exact fW (cc_fT h0 h1 h2 hb hu) fun r e => e ▸ .asks l hu
theorem cc_tN {x0 : cU} {a0 : cY} (h0 : dD x0 a0) {x1 : cU} {a1 : cY} (h1 : dD x1 a1) {x2 : cU} {a2 : cY} (h2 : dD x2 a2) (hb : (R.aw a0).strip = some true) {Q} (hn : ¬ (R.av a1).facts) : (R.aV (cc x0 x1 x2) (20, (20, 50)) []).sat (Q) := by
  unfold R.aV R.au
  obtain ⟨k, hk⟩ := gg
  rw [hk]
  with_reducible refine aA ?_
  with_reducible refine aE (by kernel_rfl) ?_
  with_reducible refine aA ?_
  with_reducible refine aO ?_
  with_reducible refine aA ?_
  with_reducible refine aE (by kernel_rfl) ?_
  with_reducible refine aA ?_
  with_reducible refine aD (by kernel_rfl) ?_
  with_reducible refine aE (by kernel_rfl) ?_
  with_reducible refine aA ?_
  with_reducible refine aD (by kernel_rfl) ?_
  with_reducible refine aZ (by kernel_rfl) (by kernel_rfl) ?_
  with_reducible refine cB ?_; delta R.eval_run_list
  with_reducible refine aA ?_
  with_reducible refine aO ?_
  with_reducible refine eQ hk ?_
  with_reducible refine aN (by kernel_rfl) ?_
  with_reducible refine aZ (by kernel_rfl) (by kernel_rfl) ?_
  with_reducible refine bM ?_; delta R.eval_run_statement
  with_reducible refine aA ?_
  with_reducible refine aE (by kernel_rfl) ?_
  with_reducible refine aA ?_
  with_reducible refine aD (by kernel_rfl) ?_
  with_reducible refine cQ ?_; delta R.eval_run_act
  with_reducible refine aA ?_
  with_reducible refine aZ (by kernel_rfl) (by kernel_rfl) ?_
  with_reducible refine aN (by kernel_rfl) ?_
  with_reducible refine aZ (by kernel_rfl) (by kernel_rfl) ?_
  with_reducible refine aG ?_; delta R.eval_run_expression
  with_reducible refine aA ?_
  with_reducible refine aE (by kernel_rfl) ?_
  with_reducible refine aA ?_
  with_reducible refine aD (by kernel_rfl) ?_
  with_reducible refine aY ?_; delta R.eval_run_value
  with_reducible refine aA ?_
  with_reducible refine aZ (by kernel_rfl) (by kernel_rfl) ?_
  iterate 4 (with_reducible refine aD (by kernel_rfl) ?_)
  with_reducible refine aE (by kernel_rfl) ?_
  iterate 5 (with_reducible refine aD (by kernel_rfl) ?_)
  with_reducible refine aE (by kernel_rfl) ?_
  with_reducible refine aD (by kernel_rfl) ?_
  with_reducible refine aP ?_; delta R.eval_run_operation
  with_reducible refine aA ?_
  with_reducible refine aD (by kernel_rfl) ?_
  with_reducible refine aE (by kernel_rfl) ?_
  iterate 5 (with_reducible refine aD (by kernel_rfl) ?_)
  with_reducible refine aN (by kernel_rfl) ?_
  with_reducible refine bh ?_; delta R.eval_run_callee
  with_reducible refine aA ?_
  with_reducible refine aZ (by kernel_rfl) (by kernel_rfl) ?_
  with_reducible refine aE (by kernel_rfl) ?_
  with_reducible refine aA ?_
  with_reducible refine aD (by kernel_rfl) ?_
  with_reducible refine bf (by kernel_rfl) ?_
  with_reducible refine bL ?_; delta R.eval_run_arguments
  with_reducible refine aA ?_
  with_reducible refine aO ?_
  with_reducible refine eQ hk ?_
  with_reducible refine aN (by kernel_rfl) ?_
  with_reducible refine aZ (by kernel_rfl) (by kernel_rfl) ?_
  with_reducible refine aG ?_; delta R.eval_run_expression
  with_reducible refine aA ?_
  with_reducible refine aE (by kernel_rfl) ?_
  with_reducible refine aA ?_
  with_reducible refine aD (by kernel_rfl) ?_
  with_reducible refine aY ?_; delta R.eval_run_value
  with_reducible refine aA ?_
  with_reducible refine aZ (by kernel_rfl) (by kernel_rfl) ?_
  iterate 4 (with_reducible refine aD (by kernel_rfl) ?_)
  with_reducible refine aE (by kernel_rfl) ?_
  iterate 5 (with_reducible refine aD (by kernel_rfl) ?_)
  with_reducible refine aE (by kernel_rfl) ?_
  with_reducible refine aD (by kernel_rfl) ?_
  with_reducible refine aP ?_; delta R.eval_run_operation
  with_reducible refine aA ?_
  with_reducible refine aD (by kernel_rfl) ?_
  with_reducible refine aE (by kernel_rfl) ?_
  iterate 3 (with_reducible refine aD (by kernel_rfl) ?_)
  with_reducible refine aN (by kernel_rfl) ?_
  with_reducible refine aZ (by kernel_rfl) (by kernel_rfl) ?_
  with_reducible refine aG ?_; delta R.eval_run_expression
  with_reducible refine aA ?_
  with_reducible refine aE (by kernel_rfl) ?_
  with_reducible refine aA ?_
  with_reducible refine aD (by kernel_rfl) ?_
  with_reducible refine iA h0 (by kernel_rfl) (by kernel_rfl) ?_
  with_reducible refine aA ?_
  with_reducible refine aF ?_
  with_reducible refine aA ?_
  with_reducible refine aD (by kernel_rfl) ?_
  with_reducible refine gN (m' := R.aw a0) (by kernel_rfl) (cG hb rfl) ?_
  with_reducible refine aN (by kernel_rfl) ?_
  with_reducible refine aZ (by kernel_rfl) (by kernel_rfl) ?_
  with_reducible refine aG ?_; delta R.eval_run_expression
  with_reducible refine aA ?_
  with_reducible refine aE (by kernel_rfl) ?_
  with_reducible refine aA ?_
  with_reducible refine aD (by kernel_rfl) ?_
  with_reducible refine iA h1 (by kernel_rfl) (by kernel_rfl) ?_
  with_reducible refine aA ?_
  with_reducible refine aF ?_
  with_reducible refine aA ?_
  with_reducible refine aF ?_
  with_reducible refine aA ?_
  with_reducible refine aF ?_
  with_reducible refine aA ?_
  with_reducible refine aF ?_
  with_reducible refine aA ?_
  with_reducible refine aD (by kernel_rfl) ?_
  with_reducible refine bf (by kernel_rfl) ?_
  with_reducible refine aF ?_
  with_reducible refine jW ?_
  with_reducible refine gL ?_
  with_reducible refine aD (by kernel_rfl) ?_
  with_reducible refine aF ?_
  with_reducible refine gf ?_
  with_reducible refine iy (by kernel_rfl) ?_
  with_reducible refine aF ?_
  with_reducible refine aA ?_
  with_reducible refine aD (by kernel_rfl) ?_
  with_reducible refine cq ?_; delta R.eval_run_call
  with_reducible refine aA ?_
  with_reducible refine aD (by kernel_rfl) ?_
  with_reducible refine aE (by kernel_rfl) ?_
  with_reducible refine aA ?_
  with_reducible refine aE (by kernel_rfl) ?_
  with_reducible refine aN (by kernel_rfl) ?_
  with_reducible refine cj ?_; delta R.eval_run_does
  with_reducible refine aA ?_
  with_reducible refine aE (by kernel_rfl) ?_
  with_reducible refine aA ?_
  with_reducible refine aE (by kernel_rfl) ?_
  iterate 10 (with_reducible refine aD (by kernel_rfl) ?_)
  with_reducible refine aE (by kernel_rfl) ?_
  with_reducible refine aD (by kernel_rfl) ?_
  with_reducible refine aE (by kernel_rfl) ?_
  with_reducible refine aD (by kernel_rfl) ?_
  with_reducible refine aE (by kernel_rfl) ?_
  with_reducible refine aD (by kernel_rfl) ?_
  with_reducible refine aE (by kernel_rfl) ?_
  with_reducible refine aN (by kernel_rfl) ?_
  with_reducible refine aE (by kernel_rfl) ?_
  with_reducible refine aA ?_
  with_reducible refine cm ?_; delta R.eval_run_host
  with_reducible refine aA ?_
  with_reducible refine aO ?_
  iterate 3 (with_reducible refine aD (by kernel_rfl) ?_)
  with_reducible refine aN (by kernel_rfl) ?_
  with_reducible exact mm (m' := R.av a1) (by kernel_rfl) hn
theorem cc_tT {x0 : cU} {a0 : cY} (h0 : dD x0 a0) {x1 : cU} {a1 : cY} (h1 : dD x1 a1) {x2 : cU} {a2 : cY} (h2 : dD x2 a2) (hb : (R.aw a0).strip = some true) {l : List Int} (hu : (R.av a1).strip = some (l, 0)) : (R.aV (cc x0 x1 x2) (20, (20, 50)) []).sat (· = asks l) := by
  unfold R.aV R.au
  obtain ⟨k, hk⟩ := gg
  rw [hk]
  with_reducible refine aA ?_
  with_reducible refine aE (by kernel_rfl) ?_
  with_reducible refine aA ?_
  with_reducible refine aO ?_
  with_reducible refine aA ?_
  with_reducible refine aE (by kernel_rfl) ?_
  with_reducible refine aA ?_
  with_reducible refine aD (by kernel_rfl) ?_
  with_reducible refine aE (by kernel_rfl) ?_
  with_reducible refine aA ?_
  with_reducible refine aD (by kernel_rfl) ?_
  with_reducible refine aZ (by kernel_rfl) (by kernel_rfl) ?_
  with_reducible refine cB ?_; delta R.eval_run_list
  with_reducible refine aA ?_
  with_reducible refine aO ?_
  with_reducible refine eQ hk ?_
  with_reducible refine aN (by kernel_rfl) ?_
  with_reducible refine aZ (by kernel_rfl) (by kernel_rfl) ?_
  with_reducible refine bM ?_; delta R.eval_run_statement
  with_reducible refine aA ?_
  with_reducible refine aE (by kernel_rfl) ?_
  with_reducible refine aA ?_
  with_reducible refine aD (by kernel_rfl) ?_
  with_reducible refine cQ ?_; delta R.eval_run_act
  with_reducible refine aA ?_
  with_reducible refine aZ (by kernel_rfl) (by kernel_rfl) ?_
  with_reducible refine aN (by kernel_rfl) ?_
  with_reducible refine aZ (by kernel_rfl) (by kernel_rfl) ?_
  with_reducible refine aG ?_; delta R.eval_run_expression
  with_reducible refine aA ?_
  with_reducible refine aE (by kernel_rfl) ?_
  with_reducible refine aA ?_
  with_reducible refine aD (by kernel_rfl) ?_
  with_reducible refine aY ?_; delta R.eval_run_value
  with_reducible refine aA ?_
  with_reducible refine aZ (by kernel_rfl) (by kernel_rfl) ?_
  iterate 4 (with_reducible refine aD (by kernel_rfl) ?_)
  with_reducible refine aE (by kernel_rfl) ?_
  iterate 5 (with_reducible refine aD (by kernel_rfl) ?_)
  with_reducible refine aE (by kernel_rfl) ?_
  with_reducible refine aD (by kernel_rfl) ?_
  with_reducible refine aP ?_; delta R.eval_run_operation
  with_reducible refine aA ?_
  with_reducible refine aD (by kernel_rfl) ?_
  with_reducible refine aE (by kernel_rfl) ?_
  iterate 5 (with_reducible refine aD (by kernel_rfl) ?_)
  with_reducible refine aN (by kernel_rfl) ?_
  with_reducible refine bh ?_; delta R.eval_run_callee
  with_reducible refine aA ?_
  with_reducible refine aZ (by kernel_rfl) (by kernel_rfl) ?_
  with_reducible refine aE (by kernel_rfl) ?_
  with_reducible refine aA ?_
  with_reducible refine aD (by kernel_rfl) ?_
  with_reducible refine bf (by kernel_rfl) ?_
  with_reducible refine bL ?_; delta R.eval_run_arguments
  with_reducible refine aA ?_
  with_reducible refine aO ?_
  with_reducible refine eQ hk ?_
  with_reducible refine aN (by kernel_rfl) ?_
  with_reducible refine aZ (by kernel_rfl) (by kernel_rfl) ?_
  with_reducible refine aG ?_; delta R.eval_run_expression
  with_reducible refine aA ?_
  with_reducible refine aE (by kernel_rfl) ?_
  with_reducible refine aA ?_
  with_reducible refine aD (by kernel_rfl) ?_
  with_reducible refine aY ?_; delta R.eval_run_value
  with_reducible refine aA ?_
  with_reducible refine aZ (by kernel_rfl) (by kernel_rfl) ?_
  iterate 4 (with_reducible refine aD (by kernel_rfl) ?_)
  with_reducible refine aE (by kernel_rfl) ?_
  iterate 5 (with_reducible refine aD (by kernel_rfl) ?_)
  with_reducible refine aE (by kernel_rfl) ?_
  with_reducible refine aD (by kernel_rfl) ?_
  with_reducible refine aP ?_; delta R.eval_run_operation
  with_reducible refine aA ?_
  with_reducible refine aD (by kernel_rfl) ?_
  with_reducible refine aE (by kernel_rfl) ?_
  iterate 3 (with_reducible refine aD (by kernel_rfl) ?_)
  with_reducible refine aN (by kernel_rfl) ?_
  with_reducible refine aZ (by kernel_rfl) (by kernel_rfl) ?_
  with_reducible refine aG ?_; delta R.eval_run_expression
  with_reducible refine aA ?_
  with_reducible refine aE (by kernel_rfl) ?_
  with_reducible refine aA ?_
  with_reducible refine aD (by kernel_rfl) ?_
  with_reducible refine iA h0 (by kernel_rfl) (by kernel_rfl) ?_
  with_reducible refine aA ?_
  with_reducible refine aF ?_
  with_reducible refine aA ?_
  with_reducible refine aD (by kernel_rfl) ?_
  with_reducible refine gN (m' := R.aw a0) (by kernel_rfl) (cG hb rfl) ?_
  with_reducible refine aN (by kernel_rfl) ?_
  with_reducible refine aZ (by kernel_rfl) (by kernel_rfl) ?_
  with_reducible refine aG ?_; delta R.eval_run_expression
  with_reducible refine aA ?_
  with_reducible refine aE (by kernel_rfl) ?_
  with_reducible refine aA ?_
  with_reducible refine aD (by kernel_rfl) ?_
  with_reducible refine iA h1 (by kernel_rfl) (by kernel_rfl) ?_
  with_reducible refine aA ?_
  with_reducible refine aF ?_
  with_reducible refine aA ?_
  with_reducible refine aF ?_
  with_reducible refine aA ?_
  with_reducible refine aF ?_
  with_reducible refine aA ?_
  with_reducible refine aF ?_
  with_reducible refine aA ?_
  with_reducible refine aD (by kernel_rfl) ?_
  with_reducible refine bf (by kernel_rfl) ?_
  with_reducible refine aF ?_
  with_reducible refine jW ?_
  with_reducible refine gL ?_
  with_reducible refine aD (by kernel_rfl) ?_
  with_reducible refine aF ?_
  with_reducible refine gf ?_
  with_reducible refine iy (by kernel_rfl) ?_
  with_reducible refine aF ?_
  with_reducible refine aA ?_
  with_reducible refine aD (by kernel_rfl) ?_
  with_reducible refine cq ?_; delta R.eval_run_call
  with_reducible refine aA ?_
  with_reducible refine aD (by kernel_rfl) ?_
  with_reducible refine aE (by kernel_rfl) ?_
  with_reducible refine aA ?_
  with_reducible refine aE (by kernel_rfl) ?_
  with_reducible refine aN (by kernel_rfl) ?_
  with_reducible refine cj ?_; delta R.eval_run_does
  with_reducible refine aA ?_
  with_reducible refine aE (by kernel_rfl) ?_
  with_reducible refine aA ?_
  with_reducible refine aE (by kernel_rfl) ?_
  iterate 10 (with_reducible refine aD (by kernel_rfl) ?_)
  with_reducible refine aE (by kernel_rfl) ?_
  with_reducible refine aD (by kernel_rfl) ?_
  with_reducible refine aE (by kernel_rfl) ?_
  with_reducible refine aD (by kernel_rfl) ?_
  with_reducible refine aE (by kernel_rfl) ?_
  with_reducible refine aD (by kernel_rfl) ?_
  with_reducible refine aE (by kernel_rfl) ?_
  with_reducible refine aN (by kernel_rfl) ?_
  with_reducible refine aE (by kernel_rfl) ?_
  with_reducible refine aA ?_
  with_reducible refine cm ?_; delta R.eval_run_host
  with_reducible refine aA ?_
  with_reducible refine aO ?_
  iterate 3 (with_reducible refine aD (by kernel_rfl) ?_)
  with_reducible refine aN (by kernel_rfl) ?_
  with_reducible refine gN (m' := R.av a1) (by kernel_rfl) (cG hu rfl) ?_
  with_reducible refine aA ?_
  with_reducible refine aD (by kernel_rfl) ?_
  with_reducible refine aF ?_
  with_reducible refine iy (by kernel_rfl) ?_
  with_reducible refine aE (by kernel_rfl) ?_
  with_reducible refine aA ?_
  with_reducible refine aN (by kernel_rfl) ?_
  with_reducible refine aF ?_
  with_reducible refine aA ?_
  with_reducible refine aF ?_
  with_reducible refine aA ?_
  with_reducible refine aF ?_
  with_reducible refine aA ?_
  with_reducible refine aF ?_
  with_reducible refine aA ?_
  with_reducible refine aF ?_
  with_reducible refine aA ?_
  with_reducible refine aF ?_
  with_reducible refine aA ?_
  with_reducible refine aF ?_
  with_reducible refine aA ?_
  with_reducible refine aN (by kernel_rfl) ?_
  with_reducible refine aF ?_
  with_reducible refine aA ?_
  with_reducible refine aF ?_
  with_reducible refine aA ?_
  with_reducible refine aN (by kernel_rfl) ?_
  with_reducible refine aF ?_
  with_reducible refine gf ?_
  with_reducible refine pe (by kernel_rfl) ?_
  with_reducible refine aF ?_
  with_reducible refine aA ?_
  with_reducible refine aF ?_
  with_reducible refine aA ?_
  with_reducible refine aN (by kernel_rfl) ?_
  with_reducible refine aF ?_
  kernel_rfl
theorem cc_t {x0 : cU} {a0 : cY} (h0 : dD x0 a0) {x1 : cU} {a1 : cY} (h1 : dD x1 a1) {x2 : cU} {a2 : cY} (h2 : dD x2 a2) (hb : (R.aw a0).strip = some true) : (R.aV (cc x0 x1 x2) (20, (20, 50)) []).sat (fun r => Out a1 0 r) := by
  rcases jF (kt (v := a1) (mR h1)) with hn | ⟨⟨l, s⟩, hu, hs⟩
  · exact cc_tN h0 h1 h2 hb hn
  · have hs : s = 0 := hs
    subst hs
    exact fW (cc_tT h0 h1 h2 hb hu) fun r e => e ▸ .asks l hu
theorem cc_run {x0 : cU} {a0 : cY} (h0 : dD x0 a0) {x1 : cU} {a1 : cY} (h1 : dD x1 a1) {x2 : cU} {a2 : cY} (h2 : dD x2 a2)  : (R.aV (cc x0 x1 x2) (20, (20, 50)) []).sat (fun r => ∃ b, (R.aw a0).strip = some b ∧ Out (bif b then a1 else a2) 0 r) := by
  rcases jF (m := R.aw a0) safe with hn | ⟨b, hb, _⟩
  · exact cc_n h0 h1 h2 hn
  cases b
  · exact fW (cc_f h0 h1 h2 hb) fun r h => ⟨false, hb, h⟩
  · exact fW (cc_t h0 h1 h2 hb) fun r h => ⟨true, hb, h⟩
abbrev ca (x0 : cU) (x1 : cU) : List cU := [nd 1 [] [1], nd 3 [] [2], nd 50 [] [3, 6], nd 52 [114, 101, 112, 111, 114, 116] [4], nd 52 [97, 103, 101, 110, 116] [5], nd 33 [36, 50, 54, 50] [], nd 47 [38, 38] [7, 8], x0, x1]
theorem ca_may {x0 : cU} {a0 : cY} (h0 : dD x0 a0) {x1 : cU} {a1 : cY} (h1 : dD x1 a1) : (R.fR (ca x0 x1)).sat (· = true) := by
  refine nB (by cases h0 <;> cases h1 <;> kernel_rfl) rfl (fun e he => ?_) fun e he => ?_ <;> simp only [List.mem_cons, List.not_mem_nil, or_false] at he
  · rcases he with rfl | rfl | rfl | rfl | rfl | rfl | rfl | rfl <;> first | exact ll h0 | exact ll h1 | simp
  · rcases he with rfl | rfl | rfl | rfl | rfl | rfl | rfl | rfl | rfl <;> first | exact iW h0 | exact iW h1 | exact dP (by kernel_rfl)
theorem xD {x0 : cU} {a0 : cY} (h0 : dD x0 a0) {x1 : cU} {a1 : cY} (h1 : dD x1 a1) : (R.cf (ca x0 x1)).sat (· = (0, 0)) := lU (by simp) (ca_may h0 h1) (by cases h0 <;> cases h1 <;> kernel_rfl)
theorem ca_n {x0 : cU} {a0 : cY} (h0 : dD x0 a0) {x1 : cU} {a1 : cY} (h1 : dD x1 a1) {Q} (hn : ¬ (R.aw a0).facts) : (R.aV (ca x0 x1) (20, (20, 50)) []).sat (Q) := by
  unfold R.aV R.au
  obtain ⟨k, hk⟩ := gg
  rw [hk]
  with_reducible refine aA ?_
  with_reducible refine aE (by kernel_rfl) ?_
  with_reducible refine aA ?_
  with_reducible refine aO ?_
  with_reducible refine aA ?_
  with_reducible refine aE (by kernel_rfl) ?_
  with_reducible refine aA ?_
  with_reducible refine aD (by kernel_rfl) ?_
  with_reducible refine aE (by kernel_rfl) ?_
  with_reducible refine aA ?_
  with_reducible refine aD (by kernel_rfl) ?_
  with_reducible refine aZ (by kernel_rfl) (by kernel_rfl) ?_
  with_reducible refine cB ?_; delta R.eval_run_list
  with_reducible refine aA ?_
  with_reducible refine aO ?_
  with_reducible refine eQ hk ?_
  with_reducible refine aN (by kernel_rfl) ?_
  with_reducible refine aZ (by kernel_rfl) (by kernel_rfl) ?_
  with_reducible refine bM ?_; delta R.eval_run_statement
  with_reducible refine aA ?_
  with_reducible refine aE (by kernel_rfl) ?_
  with_reducible refine aA ?_
  with_reducible refine aD (by kernel_rfl) ?_
  with_reducible refine cQ ?_; delta R.eval_run_act
  with_reducible refine aA ?_
  with_reducible refine aZ (by kernel_rfl) (by kernel_rfl) ?_
  with_reducible refine aN (by kernel_rfl) ?_
  with_reducible refine aZ (by kernel_rfl) (by kernel_rfl) ?_
  with_reducible refine aG ?_; delta R.eval_run_expression
  with_reducible refine aA ?_
  with_reducible refine aE (by kernel_rfl) ?_
  with_reducible refine aA ?_
  with_reducible refine aD (by kernel_rfl) ?_
  with_reducible refine aY ?_; delta R.eval_run_value
  with_reducible refine aA ?_
  with_reducible refine aZ (by kernel_rfl) (by kernel_rfl) ?_
  iterate 4 (with_reducible refine aD (by kernel_rfl) ?_)
  with_reducible refine aE (by kernel_rfl) ?_
  iterate 5 (with_reducible refine aD (by kernel_rfl) ?_)
  with_reducible refine aE (by kernel_rfl) ?_
  with_reducible refine aD (by kernel_rfl) ?_
  with_reducible refine aP ?_; delta R.eval_run_operation
  with_reducible refine aA ?_
  with_reducible refine aD (by kernel_rfl) ?_
  with_reducible refine aE (by kernel_rfl) ?_
  iterate 5 (with_reducible refine aD (by kernel_rfl) ?_)
  with_reducible refine aN (by kernel_rfl) ?_
  with_reducible refine bh ?_; delta R.eval_run_callee
  with_reducible refine aA ?_
  with_reducible refine aZ (by kernel_rfl) (by kernel_rfl) ?_
  with_reducible refine aE (by kernel_rfl) ?_
  with_reducible refine aA ?_
  with_reducible refine aD (by kernel_rfl) ?_
  with_reducible refine bf (by kernel_rfl) ?_
  with_reducible refine bL ?_; delta R.eval_run_arguments
  with_reducible refine aA ?_
  with_reducible refine aO ?_
  with_reducible refine eQ hk ?_
  with_reducible refine aN (by kernel_rfl) ?_
  with_reducible refine aZ (by kernel_rfl) (by kernel_rfl) ?_
  with_reducible refine aG ?_; delta R.eval_run_expression
  with_reducible refine aA ?_
  with_reducible refine aE (by kernel_rfl) ?_
  with_reducible refine aA ?_
  with_reducible refine aD (by kernel_rfl) ?_
  with_reducible refine aY ?_; delta R.eval_run_value
  with_reducible refine aA ?_
  with_reducible refine aZ (by kernel_rfl) (by kernel_rfl) ?_
  iterate 4 (with_reducible refine aD (by kernel_rfl) ?_)
  with_reducible refine aE (by kernel_rfl) ?_
  iterate 5 (with_reducible refine aD (by kernel_rfl) ?_)
  with_reducible refine aE (by kernel_rfl) ?_
  with_reducible refine aD (by kernel_rfl) ?_
  with_reducible refine aP ?_; delta R.eval_run_operation
  with_reducible refine aA ?_
  with_reducible refine aD (by kernel_rfl) ?_
  with_reducible refine aE (by kernel_rfl) ?_
  iterate 2 (with_reducible refine aD (by kernel_rfl) ?_)
  with_reducible refine aN (by kernel_rfl) ?_
  with_reducible refine cx ?_; delta R.eval_run_logic
  with_reducible refine aA ?_
  with_reducible refine aZ (by kernel_rfl) (by kernel_rfl) ?_
  with_reducible refine aG ?_; delta R.eval_run_expression
  with_reducible refine aA ?_
  with_reducible refine aE (by kernel_rfl) ?_
  with_reducible refine aA ?_
  with_reducible refine aD (by kernel_rfl) ?_
  with_reducible refine iA h0 (by kernel_rfl) (by kernel_rfl) ?_
  with_reducible refine aA ?_
  with_reducible refine aF ?_
  with_reducible refine aA ?_
  with_reducible refine aD (by kernel_rfl) ?_
  with_reducible refine aO ?_
  with_reducible refine aN (by kernel_rfl) ?_
  with_reducible exact mm (m' := R.aw a0) (by kernel_rfl) hn
theorem ca_fN {x0 : cU} {a0 : cY} (h0 : dD x0 a0) {x1 : cU} {a1 : cY} (h1 : dD x1 a1) (hb : (R.aw a0).strip = some false) {Q} (hn : ¬ (R.av a0).facts) : (R.aV (ca x0 x1) (20, (20, 50)) []).sat (Q) := by
  unfold R.aV R.au
  obtain ⟨k, hk⟩ := gg
  rw [hk]
  with_reducible refine aA ?_
  with_reducible refine aE (by kernel_rfl) ?_
  with_reducible refine aA ?_
  with_reducible refine aO ?_
  with_reducible refine aA ?_
  with_reducible refine aE (by kernel_rfl) ?_
  with_reducible refine aA ?_
  with_reducible refine aD (by kernel_rfl) ?_
  with_reducible refine aE (by kernel_rfl) ?_
  with_reducible refine aA ?_
  with_reducible refine aD (by kernel_rfl) ?_
  with_reducible refine aZ (by kernel_rfl) (by kernel_rfl) ?_
  with_reducible refine cB ?_; delta R.eval_run_list
  with_reducible refine aA ?_
  with_reducible refine aO ?_
  with_reducible refine eQ hk ?_
  with_reducible refine aN (by kernel_rfl) ?_
  with_reducible refine aZ (by kernel_rfl) (by kernel_rfl) ?_
  with_reducible refine bM ?_; delta R.eval_run_statement
  with_reducible refine aA ?_
  with_reducible refine aE (by kernel_rfl) ?_
  with_reducible refine aA ?_
  with_reducible refine aD (by kernel_rfl) ?_
  with_reducible refine cQ ?_; delta R.eval_run_act
  with_reducible refine aA ?_
  with_reducible refine aZ (by kernel_rfl) (by kernel_rfl) ?_
  with_reducible refine aN (by kernel_rfl) ?_
  with_reducible refine aZ (by kernel_rfl) (by kernel_rfl) ?_
  with_reducible refine aG ?_; delta R.eval_run_expression
  with_reducible refine aA ?_
  with_reducible refine aE (by kernel_rfl) ?_
  with_reducible refine aA ?_
  with_reducible refine aD (by kernel_rfl) ?_
  with_reducible refine aY ?_; delta R.eval_run_value
  with_reducible refine aA ?_
  with_reducible refine aZ (by kernel_rfl) (by kernel_rfl) ?_
  iterate 4 (with_reducible refine aD (by kernel_rfl) ?_)
  with_reducible refine aE (by kernel_rfl) ?_
  iterate 5 (with_reducible refine aD (by kernel_rfl) ?_)
  with_reducible refine aE (by kernel_rfl) ?_
  with_reducible refine aD (by kernel_rfl) ?_
  with_reducible refine aP ?_; delta R.eval_run_operation
  with_reducible refine aA ?_
  with_reducible refine aD (by kernel_rfl) ?_
  with_reducible refine aE (by kernel_rfl) ?_
  iterate 5 (with_reducible refine aD (by kernel_rfl) ?_)
  with_reducible refine aN (by kernel_rfl) ?_
  with_reducible refine bh ?_; delta R.eval_run_callee
  with_reducible refine aA ?_
  with_reducible refine aZ (by kernel_rfl) (by kernel_rfl) ?_
  with_reducible refine aE (by kernel_rfl) ?_
  with_reducible refine aA ?_
  with_reducible refine aD (by kernel_rfl) ?_
  with_reducible refine bf (by kernel_rfl) ?_
  with_reducible refine bL ?_; delta R.eval_run_arguments
  with_reducible refine aA ?_
  with_reducible refine aO ?_
  with_reducible refine eQ hk ?_
  with_reducible refine aN (by kernel_rfl) ?_
  with_reducible refine aZ (by kernel_rfl) (by kernel_rfl) ?_
  with_reducible refine aG ?_; delta R.eval_run_expression
  with_reducible refine aA ?_
  with_reducible refine aE (by kernel_rfl) ?_
  with_reducible refine aA ?_
  with_reducible refine aD (by kernel_rfl) ?_
  with_reducible refine aY ?_; delta R.eval_run_value
  with_reducible refine aA ?_
  with_reducible refine aZ (by kernel_rfl) (by kernel_rfl) ?_
  iterate 4 (with_reducible refine aD (by kernel_rfl) ?_)
  with_reducible refine aE (by kernel_rfl) ?_
  iterate 5 (with_reducible refine aD (by kernel_rfl) ?_)
  with_reducible refine aE (by kernel_rfl) ?_
  with_reducible refine aD (by kernel_rfl) ?_
  with_reducible refine aP ?_; delta R.eval_run_operation
  with_reducible refine aA ?_
  with_reducible refine aD (by kernel_rfl) ?_
  with_reducible refine aE (by kernel_rfl) ?_
  iterate 2 (with_reducible refine aD (by kernel_rfl) ?_)
  with_reducible refine aN (by kernel_rfl) ?_
  with_reducible refine cx ?_; delta R.eval_run_logic
  with_reducible refine aA ?_
  with_reducible refine aZ (by kernel_rfl) (by kernel_rfl) ?_
  with_reducible refine aG ?_; delta R.eval_run_expression
  with_reducible refine aA ?_
  with_reducible refine aE (by kernel_rfl) ?_
  with_reducible refine aA ?_
  with_reducible refine aD (by kernel_rfl) ?_
  with_reducible refine iA h0 (by kernel_rfl) (by kernel_rfl) ?_
  with_reducible refine aA ?_
  with_reducible refine aF ?_
  with_reducible refine aA ?_
  with_reducible refine aD (by kernel_rfl) ?_
  with_reducible refine aO ?_
  with_reducible refine aN (by kernel_rfl) ?_
  with_reducible refine gN (m' := R.aw a0) (by kernel_rfl) (cG hb rfl) ?_
  with_reducible refine aF ?_
  with_reducible refine aN (by kernel_rfl) ?_
  with_reducible refine aF ?_
  with_reducible refine aA ?_
  with_reducible refine aF ?_
  with_reducible refine aA ?_
  with_reducible refine aF ?_
  with_reducible refine aA ?_
  with_reducible refine aF ?_
  with_reducible refine aA ?_
  with_reducible refine aD (by kernel_rfl) ?_
  with_reducible refine bf (by kernel_rfl) ?_
  with_reducible refine aF ?_
  with_reducible refine jW ?_
  with_reducible refine gL ?_
  with_reducible refine aD (by kernel_rfl) ?_
  with_reducible refine aF ?_
  with_reducible refine gf ?_
  with_reducible refine iy (by kernel_rfl) ?_
  with_reducible refine aF ?_
  with_reducible refine aA ?_
  with_reducible refine aD (by kernel_rfl) ?_
  with_reducible refine cq ?_; delta R.eval_run_call
  with_reducible refine aA ?_
  with_reducible refine aD (by kernel_rfl) ?_
  with_reducible refine aE (by kernel_rfl) ?_
  with_reducible refine aA ?_
  with_reducible refine aE (by kernel_rfl) ?_
  with_reducible refine aN (by kernel_rfl) ?_
  with_reducible refine cj ?_; delta R.eval_run_does
  with_reducible refine aA ?_
  with_reducible refine aE (by kernel_rfl) ?_
  with_reducible refine aA ?_
  with_reducible refine aE (by kernel_rfl) ?_
  iterate 10 (with_reducible refine aD (by kernel_rfl) ?_)
  with_reducible refine aE (by kernel_rfl) ?_
  with_reducible refine aD (by kernel_rfl) ?_
  with_reducible refine aE (by kernel_rfl) ?_
  with_reducible refine aD (by kernel_rfl) ?_
  with_reducible refine aE (by kernel_rfl) ?_
  with_reducible refine aD (by kernel_rfl) ?_
  with_reducible refine aE (by kernel_rfl) ?_
  with_reducible refine aN (by kernel_rfl) ?_
  with_reducible refine aE (by kernel_rfl) ?_
  with_reducible refine aA ?_
  with_reducible refine cm ?_; delta R.eval_run_host
  with_reducible refine aA ?_
  with_reducible refine aO ?_
  iterate 3 (with_reducible refine aD (by kernel_rfl) ?_)
  with_reducible refine aN (by kernel_rfl) ?_
  with_reducible exact mm (m' := R.av a0) (by kernel_rfl) hn
theorem ca_fT {x0 : cU} {a0 : cY} (h0 : dD x0 a0) {x1 : cU} {a1 : cY} (h1 : dD x1 a1) (hb : (R.aw a0).strip = some false) {l : List Int} (hu : (R.av a0).strip = some (l, 0)) : (R.aV (ca x0 x1) (20, (20, 50)) []).sat (· = asks l) := by
  unfold R.aV R.au
  obtain ⟨k, hk⟩ := gg
  rw [hk]
  with_reducible refine aA ?_
  with_reducible refine aE (by kernel_rfl) ?_
  with_reducible refine aA ?_
  with_reducible refine aO ?_
  with_reducible refine aA ?_
  with_reducible refine aE (by kernel_rfl) ?_
  with_reducible refine aA ?_
  with_reducible refine aD (by kernel_rfl) ?_
  with_reducible refine aE (by kernel_rfl) ?_
  with_reducible refine aA ?_
  with_reducible refine aD (by kernel_rfl) ?_
  with_reducible refine aZ (by kernel_rfl) (by kernel_rfl) ?_
  with_reducible refine cB ?_; delta R.eval_run_list
  with_reducible refine aA ?_
  with_reducible refine aO ?_
  with_reducible refine eQ hk ?_
  with_reducible refine aN (by kernel_rfl) ?_
  with_reducible refine aZ (by kernel_rfl) (by kernel_rfl) ?_
  with_reducible refine bM ?_; delta R.eval_run_statement
  with_reducible refine aA ?_
  with_reducible refine aE (by kernel_rfl) ?_
  with_reducible refine aA ?_
  with_reducible refine aD (by kernel_rfl) ?_
  with_reducible refine cQ ?_; delta R.eval_run_act
  with_reducible refine aA ?_
  with_reducible refine aZ (by kernel_rfl) (by kernel_rfl) ?_
  with_reducible refine aN (by kernel_rfl) ?_
  with_reducible refine aZ (by kernel_rfl) (by kernel_rfl) ?_
  with_reducible refine aG ?_; delta R.eval_run_expression
  with_reducible refine aA ?_
  with_reducible refine aE (by kernel_rfl) ?_
  with_reducible refine aA ?_
  with_reducible refine aD (by kernel_rfl) ?_
  with_reducible refine aY ?_; delta R.eval_run_value
  with_reducible refine aA ?_
  with_reducible refine aZ (by kernel_rfl) (by kernel_rfl) ?_
  iterate 4 (with_reducible refine aD (by kernel_rfl) ?_)
  with_reducible refine aE (by kernel_rfl) ?_
  iterate 5 (with_reducible refine aD (by kernel_rfl) ?_)
  with_reducible refine aE (by kernel_rfl) ?_
  with_reducible refine aD (by kernel_rfl) ?_
  with_reducible refine aP ?_; delta R.eval_run_operation
  with_reducible refine aA ?_
  with_reducible refine aD (by kernel_rfl) ?_
  with_reducible refine aE (by kernel_rfl) ?_
  iterate 5 (with_reducible refine aD (by kernel_rfl) ?_)
  with_reducible refine aN (by kernel_rfl) ?_
  with_reducible refine bh ?_; delta R.eval_run_callee
  with_reducible refine aA ?_
  with_reducible refine aZ (by kernel_rfl) (by kernel_rfl) ?_
  with_reducible refine aE (by kernel_rfl) ?_
  with_reducible refine aA ?_
  with_reducible refine aD (by kernel_rfl) ?_
  with_reducible refine bf (by kernel_rfl) ?_
  with_reducible refine bL ?_; delta R.eval_run_arguments
  with_reducible refine aA ?_
  with_reducible refine aO ?_
  with_reducible refine eQ hk ?_
  with_reducible refine aN (by kernel_rfl) ?_
  with_reducible refine aZ (by kernel_rfl) (by kernel_rfl) ?_
  with_reducible refine aG ?_; delta R.eval_run_expression
  with_reducible refine aA ?_
  with_reducible refine aE (by kernel_rfl) ?_
  with_reducible refine aA ?_
  with_reducible refine aD (by kernel_rfl) ?_
  with_reducible refine aY ?_; delta R.eval_run_value
  with_reducible refine aA ?_
  with_reducible refine aZ (by kernel_rfl) (by kernel_rfl) ?_
  iterate 4 (with_reducible refine aD (by kernel_rfl) ?_)
  with_reducible refine aE (by kernel_rfl) ?_
  iterate 5 (with_reducible refine aD (by kernel_rfl) ?_)
  with_reducible refine aE (by kernel_rfl) ?_
  with_reducible refine aD (by kernel_rfl) ?_
  with_reducible refine aP ?_; delta R.eval_run_operation
  with_reducible refine aA ?_
  with_reducible refine aD (by kernel_rfl) ?_
  with_reducible refine aE (by kernel_rfl) ?_
  iterate 2 (with_reducible refine aD (by kernel_rfl) ?_)
  with_reducible refine aN (by kernel_rfl) ?_
  with_reducible refine cx ?_; delta R.eval_run_logic
  with_reducible refine aA ?_
  with_reducible refine aZ (by kernel_rfl) (by kernel_rfl) ?_
  with_reducible refine aG ?_; delta R.eval_run_expression
  with_reducible refine aA ?_
  with_reducible refine aE (by kernel_rfl) ?_
  with_reducible refine aA ?_
  with_reducible refine aD (by kernel_rfl) ?_
  with_reducible refine iA h0 (by kernel_rfl) (by kernel_rfl) ?_
  with_reducible refine aA ?_
  with_reducible refine aF ?_
  with_reducible refine aA ?_
  with_reducible refine aD (by kernel_rfl) ?_
  with_reducible refine aO ?_
  with_reducible refine aN (by kernel_rfl) ?_
  with_reducible refine gN (m' := R.aw a0) (by kernel_rfl) (cG hb rfl) ?_
  with_reducible refine aF ?_
  with_reducible refine aN (by kernel_rfl) ?_
  with_reducible refine aF ?_
  with_reducible refine aA ?_
  with_reducible refine aF ?_
  with_reducible refine aA ?_
  with_reducible refine aF ?_
  with_reducible refine aA ?_
  with_reducible refine aF ?_
  with_reducible refine aA ?_
  with_reducible refine aD (by kernel_rfl) ?_
  with_reducible refine bf (by kernel_rfl) ?_
  with_reducible refine aF ?_
  with_reducible refine jW ?_
  with_reducible refine gL ?_
  with_reducible refine aD (by kernel_rfl) ?_
  with_reducible refine aF ?_
  with_reducible refine gf ?_
  with_reducible refine iy (by kernel_rfl) ?_
  with_reducible refine aF ?_
  with_reducible refine aA ?_
  with_reducible refine aD (by kernel_rfl) ?_
  with_reducible refine cq ?_; delta R.eval_run_call
  with_reducible refine aA ?_
  with_reducible refine aD (by kernel_rfl) ?_
  with_reducible refine aE (by kernel_rfl) ?_
  with_reducible refine aA ?_
  with_reducible refine aE (by kernel_rfl) ?_
  with_reducible refine aN (by kernel_rfl) ?_
  with_reducible refine cj ?_; delta R.eval_run_does
  with_reducible refine aA ?_
  with_reducible refine aE (by kernel_rfl) ?_
  with_reducible refine aA ?_
  with_reducible refine aE (by kernel_rfl) ?_
  iterate 10 (with_reducible refine aD (by kernel_rfl) ?_)
  with_reducible refine aE (by kernel_rfl) ?_
  with_reducible refine aD (by kernel_rfl) ?_
  with_reducible refine aE (by kernel_rfl) ?_
  with_reducible refine aD (by kernel_rfl) ?_
  with_reducible refine aE (by kernel_rfl) ?_
  with_reducible refine aD (by kernel_rfl) ?_
  with_reducible refine aE (by kernel_rfl) ?_
  with_reducible refine aN (by kernel_rfl) ?_
  with_reducible refine aE (by kernel_rfl) ?_
  with_reducible refine aA ?_
  with_reducible refine cm ?_; delta R.eval_run_host
  with_reducible refine aA ?_
  with_reducible refine aO ?_
  iterate 3 (with_reducible refine aD (by kernel_rfl) ?_)
  with_reducible refine aN (by kernel_rfl) ?_
  with_reducible refine gN (m' := R.av a0) (by kernel_rfl) (cG hu rfl) ?_
  with_reducible refine aA ?_
  with_reducible refine aD (by kernel_rfl) ?_
  with_reducible refine aF ?_
  with_reducible refine iy (by kernel_rfl) ?_
  with_reducible refine aE (by kernel_rfl) ?_
  with_reducible refine aA ?_
  with_reducible refine aN (by kernel_rfl) ?_
  with_reducible refine aF ?_
  with_reducible refine aA ?_
  with_reducible refine aF ?_
  with_reducible refine aA ?_
  with_reducible refine aF ?_
  with_reducible refine aA ?_
  with_reducible refine aF ?_
  with_reducible refine aA ?_
  with_reducible refine aF ?_
  with_reducible refine aA ?_
  with_reducible refine aF ?_
  with_reducible refine aA ?_
  with_reducible refine aF ?_
  with_reducible refine aA ?_
  with_reducible refine aN (by kernel_rfl) ?_
  with_reducible refine aF ?_
  with_reducible refine aA ?_
  with_reducible refine aF ?_
  with_reducible refine aA ?_
  with_reducible refine aN (by kernel_rfl) ?_
  with_reducible refine aF ?_
  with_reducible refine gf ?_
  with_reducible refine pe (by kernel_rfl) ?_
  with_reducible refine aF ?_
  with_reducible refine aA ?_
  with_reducible refine aF ?_
  with_reducible refine aA ?_
  with_reducible refine aN (by kernel_rfl) ?_
  with_reducible refine aF ?_
  kernel_rfl
theorem ca_f {x0 : cU} {a0 : cY} (h0 : dD x0 a0) {x1 : cU} {a1 : cY} (h1 : dD x1 a1) (hb : (R.aw a0).strip = some false) : (R.aV (ca x0 x1) (20, (20, 50)) []).sat (fun r => Out a0 0 r) := by
  rcases jF (kt (v := a0) (mR h0)) with hn | ⟨⟨l, s⟩, hu, hs⟩
  · exact ca_fN h0 h1 hb hn
  · have hs : s = 0 := hs
    subst hs
    exact fW (ca_fT h0 h1 hb hu) fun r e => e ▸ .asks l hu
theorem ca_tN {x0 : cU} {a0 : cY} (h0 : dD x0 a0) {x1 : cU} {a1 : cY} (h1 : dD x1 a1) (hb : (R.aw a0).strip = some true) {Q} (hn : ¬ (R.av a1).facts) : (R.aV (ca x0 x1) (20, (20, 50)) []).sat (Q) := by
  unfold R.aV R.au
  obtain ⟨k, hk⟩ := gg
  rw [hk]
  with_reducible refine aA ?_
  with_reducible refine aE (by kernel_rfl) ?_
  with_reducible refine aA ?_
  with_reducible refine aO ?_
  with_reducible refine aA ?_
  with_reducible refine aE (by kernel_rfl) ?_
  with_reducible refine aA ?_
  with_reducible refine aD (by kernel_rfl) ?_
  with_reducible refine aE (by kernel_rfl) ?_
  with_reducible refine aA ?_
  with_reducible refine aD (by kernel_rfl) ?_
  with_reducible refine aZ (by kernel_rfl) (by kernel_rfl) ?_
  with_reducible refine cB ?_; delta R.eval_run_list
  with_reducible refine aA ?_
  with_reducible refine aO ?_
  with_reducible refine eQ hk ?_
  with_reducible refine aN (by kernel_rfl) ?_
  with_reducible refine aZ (by kernel_rfl) (by kernel_rfl) ?_
  with_reducible refine bM ?_; delta R.eval_run_statement
  with_reducible refine aA ?_
  with_reducible refine aE (by kernel_rfl) ?_
  with_reducible refine aA ?_
  with_reducible refine aD (by kernel_rfl) ?_
  with_reducible refine cQ ?_; delta R.eval_run_act
  with_reducible refine aA ?_
  with_reducible refine aZ (by kernel_rfl) (by kernel_rfl) ?_
  with_reducible refine aN (by kernel_rfl) ?_
  with_reducible refine aZ (by kernel_rfl) (by kernel_rfl) ?_
  with_reducible refine aG ?_; delta R.eval_run_expression
  with_reducible refine aA ?_
  with_reducible refine aE (by kernel_rfl) ?_
  with_reducible refine aA ?_
  with_reducible refine aD (by kernel_rfl) ?_
  with_reducible refine aY ?_; delta R.eval_run_value
  with_reducible refine aA ?_
  with_reducible refine aZ (by kernel_rfl) (by kernel_rfl) ?_
  iterate 4 (with_reducible refine aD (by kernel_rfl) ?_)
  with_reducible refine aE (by kernel_rfl) ?_
  iterate 5 (with_reducible refine aD (by kernel_rfl) ?_)
  with_reducible refine aE (by kernel_rfl) ?_
  with_reducible refine aD (by kernel_rfl) ?_
  with_reducible refine aP ?_; delta R.eval_run_operation
  with_reducible refine aA ?_
  with_reducible refine aD (by kernel_rfl) ?_
  with_reducible refine aE (by kernel_rfl) ?_
  iterate 5 (with_reducible refine aD (by kernel_rfl) ?_)
  with_reducible refine aN (by kernel_rfl) ?_
  with_reducible refine bh ?_; delta R.eval_run_callee
  with_reducible refine aA ?_
  with_reducible refine aZ (by kernel_rfl) (by kernel_rfl) ?_
  with_reducible refine aE (by kernel_rfl) ?_
  with_reducible refine aA ?_
  with_reducible refine aD (by kernel_rfl) ?_
  with_reducible refine bf (by kernel_rfl) ?_
  with_reducible refine bL ?_; delta R.eval_run_arguments
  with_reducible refine aA ?_
  with_reducible refine aO ?_
  with_reducible refine eQ hk ?_
  with_reducible refine aN (by kernel_rfl) ?_
  with_reducible refine aZ (by kernel_rfl) (by kernel_rfl) ?_
  with_reducible refine aG ?_; delta R.eval_run_expression
  with_reducible refine aA ?_
  with_reducible refine aE (by kernel_rfl) ?_
  with_reducible refine aA ?_
  with_reducible refine aD (by kernel_rfl) ?_
  with_reducible refine aY ?_; delta R.eval_run_value
  with_reducible refine aA ?_
  with_reducible refine aZ (by kernel_rfl) (by kernel_rfl) ?_
  iterate 4 (with_reducible refine aD (by kernel_rfl) ?_)
  with_reducible refine aE (by kernel_rfl) ?_
  iterate 5 (with_reducible refine aD (by kernel_rfl) ?_)
  with_reducible refine aE (by kernel_rfl) ?_
  with_reducible refine aD (by kernel_rfl) ?_
  with_reducible refine aP ?_; delta R.eval_run_operation
  with_reducible refine aA ?_
  with_reducible refine aD (by kernel_rfl) ?_
  with_reducible refine aE (by kernel_rfl) ?_
  iterate 2 (with_reducible refine aD (by kernel_rfl) ?_)
  with_reducible refine aN (by kernel_rfl) ?_
  with_reducible refine cx ?_; delta R.eval_run_logic
  with_reducible refine aA ?_
  with_reducible refine aZ (by kernel_rfl) (by kernel_rfl) ?_
  with_reducible refine aG ?_; delta R.eval_run_expression
  with_reducible refine aA ?_
  with_reducible refine aE (by kernel_rfl) ?_
  with_reducible refine aA ?_
  with_reducible refine aD (by kernel_rfl) ?_
  with_reducible refine iA h0 (by kernel_rfl) (by kernel_rfl) ?_
  with_reducible refine aA ?_
  with_reducible refine aF ?_
  with_reducible refine aA ?_
  with_reducible refine aD (by kernel_rfl) ?_
  with_reducible refine aO ?_
  with_reducible refine aN (by kernel_rfl) ?_
  with_reducible refine gN (m' := R.aw a0) (by kernel_rfl) (cG hb rfl) ?_
  with_reducible refine aF ?_
  with_reducible refine aD (by kernel_rfl) ?_
  with_reducible refine aZ (by kernel_rfl) (by kernel_rfl) ?_
  with_reducible refine aG ?_; delta R.eval_run_expression
  with_reducible refine aA ?_
  with_reducible refine aE (by kernel_rfl) ?_
  with_reducible refine aA ?_
  with_reducible refine aD (by kernel_rfl) ?_
  with_reducible refine iA h1 (by kernel_rfl) (by kernel_rfl) ?_
  with_reducible refine aA ?_
  with_reducible refine aF ?_
  with_reducible refine aA ?_
  with_reducible refine aF ?_
  with_reducible refine aA ?_
  with_reducible refine aF ?_
  with_reducible refine aA ?_
  with_reducible refine aF ?_
  with_reducible refine aA ?_
  with_reducible refine aF ?_
  with_reducible refine aA ?_
  with_reducible refine aD (by kernel_rfl) ?_
  with_reducible refine bf (by kernel_rfl) ?_
  with_reducible refine aF ?_
  with_reducible refine jW ?_
  with_reducible refine gL ?_
  with_reducible refine aD (by kernel_rfl) ?_
  with_reducible refine aF ?_
  with_reducible refine gf ?_
  with_reducible refine iy (by kernel_rfl) ?_
  with_reducible refine aF ?_
  with_reducible refine aA ?_
  with_reducible refine aD (by kernel_rfl) ?_
  with_reducible refine cq ?_; delta R.eval_run_call
  with_reducible refine aA ?_
  with_reducible refine aD (by kernel_rfl) ?_
  with_reducible refine aE (by kernel_rfl) ?_
  with_reducible refine aA ?_
  with_reducible refine aE (by kernel_rfl) ?_
  with_reducible refine aN (by kernel_rfl) ?_
  with_reducible refine cj ?_; delta R.eval_run_does
  with_reducible refine aA ?_
  with_reducible refine aE (by kernel_rfl) ?_
  with_reducible refine aA ?_
  with_reducible refine aE (by kernel_rfl) ?_
  iterate 10 (with_reducible refine aD (by kernel_rfl) ?_)
  with_reducible refine aE (by kernel_rfl) ?_
  with_reducible refine aD (by kernel_rfl) ?_
  with_reducible refine aE (by kernel_rfl) ?_
  with_reducible refine aD (by kernel_rfl) ?_
  with_reducible refine aE (by kernel_rfl) ?_
  with_reducible refine aD (by kernel_rfl) ?_
  with_reducible refine aE (by kernel_rfl) ?_
  with_reducible refine aN (by kernel_rfl) ?_
  with_reducible refine aE (by kernel_rfl) ?_
  with_reducible refine aA ?_
  with_reducible refine cm ?_; delta R.eval_run_host
  with_reducible refine aA ?_
  with_reducible refine aO ?_
  iterate 3 (with_reducible refine aD (by kernel_rfl) ?_)
  with_reducible refine aN (by kernel_rfl) ?_
  with_reducible exact mm (m' := R.av a1) (by kernel_rfl) hn
theorem ca_tT {x0 : cU} {a0 : cY} (h0 : dD x0 a0) {x1 : cU} {a1 : cY} (h1 : dD x1 a1) (hb : (R.aw a0).strip = some true) {l : List Int} (hu : (R.av a1).strip = some (l, 0)) : (R.aV (ca x0 x1) (20, (20, 50)) []).sat (· = asks l) := by
  unfold R.aV R.au
  obtain ⟨k, hk⟩ := gg
  rw [hk]
  with_reducible refine aA ?_
  with_reducible refine aE (by kernel_rfl) ?_
  with_reducible refine aA ?_
  with_reducible refine aO ?_
  with_reducible refine aA ?_
  with_reducible refine aE (by kernel_rfl) ?_
  with_reducible refine aA ?_
  with_reducible refine aD (by kernel_rfl) ?_
  with_reducible refine aE (by kernel_rfl) ?_
  with_reducible refine aA ?_
  with_reducible refine aD (by kernel_rfl) ?_
  with_reducible refine aZ (by kernel_rfl) (by kernel_rfl) ?_
  with_reducible refine cB ?_; delta R.eval_run_list
  with_reducible refine aA ?_
  with_reducible refine aO ?_
  with_reducible refine eQ hk ?_
  with_reducible refine aN (by kernel_rfl) ?_
  with_reducible refine aZ (by kernel_rfl) (by kernel_rfl) ?_
  with_reducible refine bM ?_; delta R.eval_run_statement
  with_reducible refine aA ?_
  with_reducible refine aE (by kernel_rfl) ?_
  with_reducible refine aA ?_
  with_reducible refine aD (by kernel_rfl) ?_
  with_reducible refine cQ ?_; delta R.eval_run_act
  with_reducible refine aA ?_
  with_reducible refine aZ (by kernel_rfl) (by kernel_rfl) ?_
  with_reducible refine aN (by kernel_rfl) ?_
  with_reducible refine aZ (by kernel_rfl) (by kernel_rfl) ?_
  with_reducible refine aG ?_; delta R.eval_run_expression
  with_reducible refine aA ?_
  with_reducible refine aE (by kernel_rfl) ?_
  with_reducible refine aA ?_
  with_reducible refine aD (by kernel_rfl) ?_
  with_reducible refine aY ?_; delta R.eval_run_value
  with_reducible refine aA ?_
  with_reducible refine aZ (by kernel_rfl) (by kernel_rfl) ?_
  iterate 4 (with_reducible refine aD (by kernel_rfl) ?_)
  with_reducible refine aE (by kernel_rfl) ?_
  iterate 5 (with_reducible refine aD (by kernel_rfl) ?_)
  with_reducible refine aE (by kernel_rfl) ?_
  with_reducible refine aD (by kernel_rfl) ?_
  with_reducible refine aP ?_; delta R.eval_run_operation
  with_reducible refine aA ?_
  with_reducible refine aD (by kernel_rfl) ?_
  with_reducible refine aE (by kernel_rfl) ?_
  iterate 5 (with_reducible refine aD (by kernel_rfl) ?_)
  with_reducible refine aN (by kernel_rfl) ?_
  with_reducible refine bh ?_; delta R.eval_run_callee
  with_reducible refine aA ?_
  with_reducible refine aZ (by kernel_rfl) (by kernel_rfl) ?_
  with_reducible refine aE (by kernel_rfl) ?_
  with_reducible refine aA ?_
  with_reducible refine aD (by kernel_rfl) ?_
  with_reducible refine bf (by kernel_rfl) ?_
  with_reducible refine bL ?_; delta R.eval_run_arguments
  with_reducible refine aA ?_
  with_reducible refine aO ?_
  with_reducible refine eQ hk ?_
  with_reducible refine aN (by kernel_rfl) ?_
  with_reducible refine aZ (by kernel_rfl) (by kernel_rfl) ?_
  with_reducible refine aG ?_; delta R.eval_run_expression
  with_reducible refine aA ?_
  with_reducible refine aE (by kernel_rfl) ?_
  with_reducible refine aA ?_
  with_reducible refine aD (by kernel_rfl) ?_
  with_reducible refine aY ?_; delta R.eval_run_value
  with_reducible refine aA ?_
  with_reducible refine aZ (by kernel_rfl) (by kernel_rfl) ?_
  iterate 4 (with_reducible refine aD (by kernel_rfl) ?_)
  with_reducible refine aE (by kernel_rfl) ?_
  iterate 5 (with_reducible refine aD (by kernel_rfl) ?_)
  with_reducible refine aE (by kernel_rfl) ?_
  with_reducible refine aD (by kernel_rfl) ?_
  with_reducible refine aP ?_; delta R.eval_run_operation
  with_reducible refine aA ?_
  with_reducible refine aD (by kernel_rfl) ?_
  with_reducible refine aE (by kernel_rfl) ?_
  iterate 2 (with_reducible refine aD (by kernel_rfl) ?_)
  with_reducible refine aN (by kernel_rfl) ?_
  with_reducible refine cx ?_; delta R.eval_run_logic
  with_reducible refine aA ?_
  with_reducible refine aZ (by kernel_rfl) (by kernel_rfl) ?_
  with_reducible refine aG ?_; delta R.eval_run_expression
  with_reducible refine aA ?_
  with_reducible refine aE (by kernel_rfl) ?_
  with_reducible refine aA ?_
  with_reducible refine aD (by kernel_rfl) ?_
  with_reducible refine iA h0 (by kernel_rfl) (by kernel_rfl) ?_
  with_reducible refine aA ?_
  with_reducible refine aF ?_
  with_reducible refine aA ?_
  with_reducible refine aD (by kernel_rfl) ?_
  with_reducible refine aO ?_
  with_reducible refine aN (by kernel_rfl) ?_
  with_reducible refine gN (m' := R.aw a0) (by kernel_rfl) (cG hb rfl) ?_
  with_reducible refine aF ?_
  with_reducible refine aD (by kernel_rfl) ?_
  with_reducible refine aZ (by kernel_rfl) (by kernel_rfl) ?_
  with_reducible refine aG ?_; delta R.eval_run_expression
  with_reducible refine aA ?_
  with_reducible refine aE (by kernel_rfl) ?_
  with_reducible refine aA ?_
  with_reducible refine aD (by kernel_rfl) ?_
  with_reducible refine iA h1 (by kernel_rfl) (by kernel_rfl) ?_
  with_reducible refine aA ?_
  with_reducible refine aF ?_
  with_reducible refine aA ?_
  with_reducible refine aF ?_
  with_reducible refine aA ?_
  with_reducible refine aF ?_
  with_reducible refine aA ?_
  with_reducible refine aF ?_
  with_reducible refine aA ?_
  with_reducible refine aF ?_
  with_reducible refine aA ?_
  with_reducible refine aD (by kernel_rfl) ?_
  with_reducible refine bf (by kernel_rfl) ?_
  with_reducible refine aF ?_
  with_reducible refine jW ?_
  with_reducible refine gL ?_
  with_reducible refine aD (by kernel_rfl) ?_
  with_reducible refine aF ?_
  with_reducible refine gf ?_
  with_reducible refine iy (by kernel_rfl) ?_
  with_reducible refine aF ?_
  with_reducible refine aA ?_
  with_reducible refine aD (by kernel_rfl) ?_
  with_reducible refine cq ?_; delta R.eval_run_call
  with_reducible refine aA ?_
  with_reducible refine aD (by kernel_rfl) ?_
  with_reducible refine aE (by kernel_rfl) ?_
  with_reducible refine aA ?_
  with_reducible refine aE (by kernel_rfl) ?_
  with_reducible refine aN (by kernel_rfl) ?_
  with_reducible refine cj ?_; delta R.eval_run_does
  with_reducible refine aA ?_
  with_reducible refine aE (by kernel_rfl) ?_
  with_reducible refine aA ?_
  with_reducible refine aE (by kernel_rfl) ?_
  iterate 10 (with_reducible refine aD (by kernel_rfl) ?_)
  with_reducible refine aE (by kernel_rfl) ?_
  with_reducible refine aD (by kernel_rfl) ?_
  with_reducible refine aE (by kernel_rfl) ?_
  with_reducible refine aD (by kernel_rfl) ?_
  with_reducible refine aE (by kernel_rfl) ?_
  with_reducible refine aD (by kernel_rfl) ?_
  with_reducible refine aE (by kernel_rfl) ?_
  with_reducible refine aN (by kernel_rfl) ?_
  with_reducible refine aE (by kernel_rfl) ?_
  with_reducible refine aA ?_
  with_reducible refine cm ?_; delta R.eval_run_host
  with_reducible refine aA ?_
  with_reducible refine aO ?_
  iterate 3 (with_reducible refine aD (by kernel_rfl) ?_)
  with_reducible refine aN (by kernel_rfl) ?_
  with_reducible refine gN (m' := R.av a1) (by kernel_rfl) (cG hu rfl) ?_
  with_reducible refine aA ?_
  with_reducible refine aD (by kernel_rfl) ?_
  with_reducible refine aF ?_
  with_reducible refine iy (by kernel_rfl) ?_
  with_reducible refine aE (by kernel_rfl) ?_
  with_reducible refine aA ?_
  with_reducible refine aN (by kernel_rfl) ?_
  with_reducible refine aF ?_
  with_reducible refine aA ?_
  with_reducible refine aF ?_
  with_reducible refine aA ?_
  with_reducible refine aF ?_
  with_reducible refine aA ?_
  with_reducible refine aF ?_
  with_reducible refine aA ?_
  with_reducible refine aF ?_
  with_reducible refine aA ?_
  with_reducible refine aF ?_
  with_reducible refine aA ?_
  with_reducible refine aF ?_
  with_reducible refine aA ?_
  with_reducible refine aN (by kernel_rfl) ?_
  with_reducible refine aF ?_
  with_reducible refine aA ?_
  with_reducible refine aF ?_
  with_reducible refine aA ?_
  with_reducible refine aN (by kernel_rfl) ?_
  with_reducible refine aF ?_
  with_reducible refine gf ?_
  with_reducible refine pe (by kernel_rfl) ?_
  with_reducible refine aF ?_
  with_reducible refine aA ?_
  with_reducible refine aF ?_
  with_reducible refine aA ?_
  with_reducible refine aN (by kernel_rfl) ?_
  with_reducible refine aF ?_
  kernel_rfl
theorem ca_t {x0 : cU} {a0 : cY} (h0 : dD x0 a0) {x1 : cU} {a1 : cY} (h1 : dD x1 a1) (hb : (R.aw a0).strip = some true) : (R.aV (ca x0 x1) (20, (20, 50)) []).sat (fun r => Out a1 0 r) := by
  rcases jF (kt (v := a1) (mR h1)) with hn | ⟨⟨l, s⟩, hu, hs⟩
  · exact ca_tN h0 h1 hb hn
  · have hs : s = 0 := hs
    subst hs
    exact fW (ca_tT h0 h1 hb hu) fun r e => e ▸ .asks l hu
theorem ca_run {x0 : cU} {a0 : cY} (h0 : dD x0 a0) {x1 : cU} {a1 : cY} (h1 : dD x1 a1)  : (R.aV (ca x0 x1) (20, (20, 50)) []).sat (fun r => ∃ b, (R.aw a0).strip = some b ∧ Out (bif b then a1 else a0) 0 r) := by
  rcases jF (m := R.aw a0) safe with hn | ⟨b, hb, _⟩
  · exact ca_n h0 h1 hn
  cases b
  · exact fW (ca_f h0 h1 hb) fun r h => ⟨false, hb, h⟩
  · exact fW (ca_t h0 h1 hb) fun r h => ⟨true, hb, h⟩
abbrev co (x0 : cU) (x1 : cU) : List cU := [nd 1 [] [1], nd 3 [] [2], nd 50 [] [3, 6], nd 52 [114, 101, 112, 111, 114, 116] [4], nd 52 [97, 103, 101, 110, 116] [5], nd 33 [36, 50, 54, 50] [], nd 47 [124, 124] [7, 8], x0, x1]
theorem co_may {x0 : cU} {a0 : cY} (h0 : dD x0 a0) {x1 : cU} {a1 : cY} (h1 : dD x1 a1) : (R.fR (co x0 x1)).sat (· = true) := by
  refine nB (by cases h0 <;> cases h1 <;> kernel_rfl) rfl (fun e he => ?_) fun e he => ?_ <;> simp only [List.mem_cons, List.not_mem_nil, or_false] at he
  · rcases he with rfl | rfl | rfl | rfl | rfl | rfl | rfl | rfl <;> first | exact ll h0 | exact ll h1 | simp
  · rcases he with rfl | rfl | rfl | rfl | rfl | rfl | rfl | rfl | rfl <;> first | exact iW h0 | exact iW h1 | exact dP (by kernel_rfl)
theorem xS {x0 : cU} {a0 : cY} (h0 : dD x0 a0) {x1 : cU} {a1 : cY} (h1 : dD x1 a1) : (R.cf (co x0 x1)).sat (· = (0, 0)) := lU (by simp) (co_may h0 h1) (by cases h0 <;> cases h1 <;> kernel_rfl)
theorem co_n {x0 : cU} {a0 : cY} (h0 : dD x0 a0) {x1 : cU} {a1 : cY} (h1 : dD x1 a1) {Q} (hn : ¬ (R.aw a0).facts) : (R.aV (co x0 x1) (20, (20, 50)) []).sat (Q) := by
  unfold R.aV R.au
  obtain ⟨k, hk⟩ := gg
  rw [hk]
  with_reducible refine aA ?_
  with_reducible refine aE (by kernel_rfl) ?_
  with_reducible refine aA ?_
  with_reducible refine aO ?_
  with_reducible refine aA ?_
  with_reducible refine aE (by kernel_rfl) ?_
  with_reducible refine aA ?_
  with_reducible refine aD (by kernel_rfl) ?_
  with_reducible refine aE (by kernel_rfl) ?_
  with_reducible refine aA ?_
  with_reducible refine aD (by kernel_rfl) ?_
  with_reducible refine aZ (by kernel_rfl) (by kernel_rfl) ?_
  with_reducible refine cB ?_; delta R.eval_run_list
  with_reducible refine aA ?_
  with_reducible refine aO ?_
  with_reducible refine eQ hk ?_
  with_reducible refine aN (by kernel_rfl) ?_
  with_reducible refine aZ (by kernel_rfl) (by kernel_rfl) ?_
  with_reducible refine bM ?_; delta R.eval_run_statement
  with_reducible refine aA ?_
  with_reducible refine aE (by kernel_rfl) ?_
  with_reducible refine aA ?_
  with_reducible refine aD (by kernel_rfl) ?_
  with_reducible refine cQ ?_; delta R.eval_run_act
  with_reducible refine aA ?_
  with_reducible refine aZ (by kernel_rfl) (by kernel_rfl) ?_
  with_reducible refine aN (by kernel_rfl) ?_
  with_reducible refine aZ (by kernel_rfl) (by kernel_rfl) ?_
  with_reducible refine aG ?_; delta R.eval_run_expression
  with_reducible refine aA ?_
  with_reducible refine aE (by kernel_rfl) ?_
  with_reducible refine aA ?_
  with_reducible refine aD (by kernel_rfl) ?_
  with_reducible refine aY ?_; delta R.eval_run_value
  with_reducible refine aA ?_
  with_reducible refine aZ (by kernel_rfl) (by kernel_rfl) ?_
  iterate 4 (with_reducible refine aD (by kernel_rfl) ?_)
  with_reducible refine aE (by kernel_rfl) ?_
  iterate 5 (with_reducible refine aD (by kernel_rfl) ?_)
  with_reducible refine aE (by kernel_rfl) ?_
  with_reducible refine aD (by kernel_rfl) ?_
  with_reducible refine aP ?_; delta R.eval_run_operation
  with_reducible refine aA ?_
  with_reducible refine aD (by kernel_rfl) ?_
  with_reducible refine aE (by kernel_rfl) ?_
  iterate 5 (with_reducible refine aD (by kernel_rfl) ?_)
  with_reducible refine aN (by kernel_rfl) ?_
  with_reducible refine bh ?_; delta R.eval_run_callee
  with_reducible refine aA ?_
  with_reducible refine aZ (by kernel_rfl) (by kernel_rfl) ?_
  with_reducible refine aE (by kernel_rfl) ?_
  with_reducible refine aA ?_
  with_reducible refine aD (by kernel_rfl) ?_
  with_reducible refine bf (by kernel_rfl) ?_
  with_reducible refine bL ?_; delta R.eval_run_arguments
  with_reducible refine aA ?_
  with_reducible refine aO ?_
  with_reducible refine eQ hk ?_
  with_reducible refine aN (by kernel_rfl) ?_
  with_reducible refine aZ (by kernel_rfl) (by kernel_rfl) ?_
  with_reducible refine aG ?_; delta R.eval_run_expression
  with_reducible refine aA ?_
  with_reducible refine aE (by kernel_rfl) ?_
  with_reducible refine aA ?_
  with_reducible refine aD (by kernel_rfl) ?_
  with_reducible refine aY ?_; delta R.eval_run_value
  with_reducible refine aA ?_
  with_reducible refine aZ (by kernel_rfl) (by kernel_rfl) ?_
  iterate 4 (with_reducible refine aD (by kernel_rfl) ?_)
  with_reducible refine aE (by kernel_rfl) ?_
  iterate 5 (with_reducible refine aD (by kernel_rfl) ?_)
  with_reducible refine aE (by kernel_rfl) ?_
  with_reducible refine aD (by kernel_rfl) ?_
  with_reducible refine aP ?_; delta R.eval_run_operation
  with_reducible refine aA ?_
  with_reducible refine aD (by kernel_rfl) ?_
  with_reducible refine aE (by kernel_rfl) ?_
  iterate 2 (with_reducible refine aD (by kernel_rfl) ?_)
  with_reducible refine aN (by kernel_rfl) ?_
  with_reducible refine cx ?_; delta R.eval_run_logic
  with_reducible refine aA ?_
  with_reducible refine aZ (by kernel_rfl) (by kernel_rfl) ?_
  with_reducible refine aG ?_; delta R.eval_run_expression
  with_reducible refine aA ?_
  with_reducible refine aE (by kernel_rfl) ?_
  with_reducible refine aA ?_
  with_reducible refine aD (by kernel_rfl) ?_
  with_reducible refine iA h0 (by kernel_rfl) (by kernel_rfl) ?_
  with_reducible refine aA ?_
  with_reducible refine aF ?_
  with_reducible refine aA ?_
  with_reducible refine aD (by kernel_rfl) ?_
  with_reducible refine aO ?_
  with_reducible refine aD (by kernel_rfl) ?_
  with_reducible refine aN (by kernel_rfl) ?_
  with_reducible exact mm (m' := R.aw a0) (by kernel_rfl) hn
theorem co_fN {x0 : cU} {a0 : cY} (h0 : dD x0 a0) {x1 : cU} {a1 : cY} (h1 : dD x1 a1) (hb : (R.aw a0).strip = some false) {Q} (hn : ¬ (R.av a1).facts) : (R.aV (co x0 x1) (20, (20, 50)) []).sat (Q) := by
  unfold R.aV R.au
  obtain ⟨k, hk⟩ := gg
  rw [hk]
  with_reducible refine aA ?_
  with_reducible refine aE (by kernel_rfl) ?_
  with_reducible refine aA ?_
  with_reducible refine aO ?_
  with_reducible refine aA ?_
  with_reducible refine aE (by kernel_rfl) ?_
  with_reducible refine aA ?_
  with_reducible refine aD (by kernel_rfl) ?_
  with_reducible refine aE (by kernel_rfl) ?_
  with_reducible refine aA ?_
  with_reducible refine aD (by kernel_rfl) ?_
  with_reducible refine aZ (by kernel_rfl) (by kernel_rfl) ?_
  with_reducible refine cB ?_; delta R.eval_run_list
  with_reducible refine aA ?_
  with_reducible refine aO ?_
  with_reducible refine eQ hk ?_
  with_reducible refine aN (by kernel_rfl) ?_
  with_reducible refine aZ (by kernel_rfl) (by kernel_rfl) ?_
  with_reducible refine bM ?_; delta R.eval_run_statement
  with_reducible refine aA ?_
  with_reducible refine aE (by kernel_rfl) ?_
  with_reducible refine aA ?_
  with_reducible refine aD (by kernel_rfl) ?_
  with_reducible refine cQ ?_; delta R.eval_run_act
  with_reducible refine aA ?_
  with_reducible refine aZ (by kernel_rfl) (by kernel_rfl) ?_
  with_reducible refine aN (by kernel_rfl) ?_
  with_reducible refine aZ (by kernel_rfl) (by kernel_rfl) ?_
  with_reducible refine aG ?_; delta R.eval_run_expression
  with_reducible refine aA ?_
  with_reducible refine aE (by kernel_rfl) ?_
  with_reducible refine aA ?_
  with_reducible refine aD (by kernel_rfl) ?_
  with_reducible refine aY ?_; delta R.eval_run_value
  with_reducible refine aA ?_
  with_reducible refine aZ (by kernel_rfl) (by kernel_rfl) ?_
  iterate 4 (with_reducible refine aD (by kernel_rfl) ?_)
  with_reducible refine aE (by kernel_rfl) ?_
  iterate 5 (with_reducible refine aD (by kernel_rfl) ?_)
  with_reducible refine aE (by kernel_rfl) ?_
  with_reducible refine aD (by kernel_rfl) ?_
  with_reducible refine aP ?_; delta R.eval_run_operation
  with_reducible refine aA ?_
  with_reducible refine aD (by kernel_rfl) ?_
  with_reducible refine aE (by kernel_rfl) ?_
  iterate 5 (with_reducible refine aD (by kernel_rfl) ?_)
  with_reducible refine aN (by kernel_rfl) ?_
  with_reducible refine bh ?_; delta R.eval_run_callee
  with_reducible refine aA ?_
  with_reducible refine aZ (by kernel_rfl) (by kernel_rfl) ?_
  with_reducible refine aE (by kernel_rfl) ?_
  with_reducible refine aA ?_
  with_reducible refine aD (by kernel_rfl) ?_
  with_reducible refine bf (by kernel_rfl) ?_
  with_reducible refine bL ?_; delta R.eval_run_arguments
  with_reducible refine aA ?_
  with_reducible refine aO ?_
  with_reducible refine eQ hk ?_
  with_reducible refine aN (by kernel_rfl) ?_
  with_reducible refine aZ (by kernel_rfl) (by kernel_rfl) ?_
  with_reducible refine aG ?_; delta R.eval_run_expression
  with_reducible refine aA ?_
  with_reducible refine aE (by kernel_rfl) ?_
  with_reducible refine aA ?_
  with_reducible refine aD (by kernel_rfl) ?_
  with_reducible refine aY ?_; delta R.eval_run_value
  with_reducible refine aA ?_
  with_reducible refine aZ (by kernel_rfl) (by kernel_rfl) ?_
  iterate 4 (with_reducible refine aD (by kernel_rfl) ?_)
  with_reducible refine aE (by kernel_rfl) ?_
  iterate 5 (with_reducible refine aD (by kernel_rfl) ?_)
  with_reducible refine aE (by kernel_rfl) ?_
  with_reducible refine aD (by kernel_rfl) ?_
  with_reducible refine aP ?_; delta R.eval_run_operation
  with_reducible refine aA ?_
  with_reducible refine aD (by kernel_rfl) ?_
  with_reducible refine aE (by kernel_rfl) ?_
  iterate 2 (with_reducible refine aD (by kernel_rfl) ?_)
  with_reducible refine aN (by kernel_rfl) ?_
  with_reducible refine cx ?_; delta R.eval_run_logic
  with_reducible refine aA ?_
  with_reducible refine aZ (by kernel_rfl) (by kernel_rfl) ?_
  with_reducible refine aG ?_; delta R.eval_run_expression
  with_reducible refine aA ?_
  with_reducible refine aE (by kernel_rfl) ?_
  with_reducible refine aA ?_
  with_reducible refine aD (by kernel_rfl) ?_
  with_reducible refine iA h0 (by kernel_rfl) (by kernel_rfl) ?_
  with_reducible refine aA ?_
  with_reducible refine aF ?_
  with_reducible refine aA ?_
  with_reducible refine aD (by kernel_rfl) ?_
  with_reducible refine aO ?_
  with_reducible refine aD (by kernel_rfl) ?_
  with_reducible refine aN (by kernel_rfl) ?_
  with_reducible refine gN (m' := R.aw a0) (by kernel_rfl) (cG hb rfl) ?_
  with_reducible refine aF ?_
  with_reducible refine aD (by kernel_rfl) ?_
  with_reducible refine aZ (by kernel_rfl) (by kernel_rfl) ?_
  with_reducible refine aG ?_; delta R.eval_run_expression
  with_reducible refine aA ?_
  with_reducible refine aE (by kernel_rfl) ?_
  with_reducible refine aA ?_
  with_reducible refine aD (by kernel_rfl) ?_
  with_reducible refine iA h1 (by kernel_rfl) (by kernel_rfl) ?_
  with_reducible refine aA ?_
  with_reducible refine aF ?_
  with_reducible refine aA ?_
  with_reducible refine aF ?_
  with_reducible refine aA ?_
  with_reducible refine aF ?_
  with_reducible refine aA ?_
  with_reducible refine aF ?_
  with_reducible refine aA ?_
  with_reducible refine aF ?_
  with_reducible refine aA ?_
  with_reducible refine aD (by kernel_rfl) ?_
  with_reducible refine bf (by kernel_rfl) ?_
  with_reducible refine aF ?_
  with_reducible refine jW ?_
  with_reducible refine gL ?_
  with_reducible refine aD (by kernel_rfl) ?_
  with_reducible refine aF ?_
  with_reducible refine gf ?_
  with_reducible refine iy (by kernel_rfl) ?_
  with_reducible refine aF ?_
  with_reducible refine aA ?_
  with_reducible refine aD (by kernel_rfl) ?_
  with_reducible refine cq ?_; delta R.eval_run_call
  with_reducible refine aA ?_
  with_reducible refine aD (by kernel_rfl) ?_
  with_reducible refine aE (by kernel_rfl) ?_
  with_reducible refine aA ?_
  with_reducible refine aE (by kernel_rfl) ?_
  with_reducible refine aN (by kernel_rfl) ?_
  with_reducible refine cj ?_; delta R.eval_run_does
  with_reducible refine aA ?_
  with_reducible refine aE (by kernel_rfl) ?_
  with_reducible refine aA ?_
  with_reducible refine aE (by kernel_rfl) ?_
  iterate 10 (with_reducible refine aD (by kernel_rfl) ?_)
  with_reducible refine aE (by kernel_rfl) ?_
  with_reducible refine aD (by kernel_rfl) ?_
  with_reducible refine aE (by kernel_rfl) ?_
  with_reducible refine aD (by kernel_rfl) ?_
  with_reducible refine aE (by kernel_rfl) ?_
  with_reducible refine aD (by kernel_rfl) ?_
  with_reducible refine aE (by kernel_rfl) ?_
  with_reducible refine aN (by kernel_rfl) ?_
  with_reducible refine aE (by kernel_rfl) ?_
  with_reducible refine aA ?_
  with_reducible refine cm ?_; delta R.eval_run_host
  with_reducible refine aA ?_
  with_reducible refine aO ?_
  iterate 3 (with_reducible refine aD (by kernel_rfl) ?_)
  with_reducible refine aN (by kernel_rfl) ?_
  with_reducible exact mm (m' := R.av a1) (by kernel_rfl) hn
theorem co_fT {x0 : cU} {a0 : cY} (h0 : dD x0 a0) {x1 : cU} {a1 : cY} (h1 : dD x1 a1) (hb : (R.aw a0).strip = some false) {l : List Int} (hu : (R.av a1).strip = some (l, 0)) : (R.aV (co x0 x1) (20, (20, 50)) []).sat (· = asks l) := by
  unfold R.aV R.au
  obtain ⟨k, hk⟩ := gg
  rw [hk]
  with_reducible refine aA ?_
  with_reducible refine aE (by kernel_rfl) ?_
  with_reducible refine aA ?_
  with_reducible refine aO ?_
  with_reducible refine aA ?_
  with_reducible refine aE (by kernel_rfl) ?_
  with_reducible refine aA ?_
  with_reducible refine aD (by kernel_rfl) ?_
  with_reducible refine aE (by kernel_rfl) ?_
  with_reducible refine aA ?_
  with_reducible refine aD (by kernel_rfl) ?_
  with_reducible refine aZ (by kernel_rfl) (by kernel_rfl) ?_
  with_reducible refine cB ?_; delta R.eval_run_list
  with_reducible refine aA ?_
  with_reducible refine aO ?_
  with_reducible refine eQ hk ?_
  with_reducible refine aN (by kernel_rfl) ?_
  with_reducible refine aZ (by kernel_rfl) (by kernel_rfl) ?_
  with_reducible refine bM ?_; delta R.eval_run_statement
  with_reducible refine aA ?_
  with_reducible refine aE (by kernel_rfl) ?_
  with_reducible refine aA ?_
  with_reducible refine aD (by kernel_rfl) ?_
  with_reducible refine cQ ?_; delta R.eval_run_act
  with_reducible refine aA ?_
  with_reducible refine aZ (by kernel_rfl) (by kernel_rfl) ?_
  with_reducible refine aN (by kernel_rfl) ?_
  with_reducible refine aZ (by kernel_rfl) (by kernel_rfl) ?_
  with_reducible refine aG ?_; delta R.eval_run_expression
  with_reducible refine aA ?_
  with_reducible refine aE (by kernel_rfl) ?_
  with_reducible refine aA ?_
  with_reducible refine aD (by kernel_rfl) ?_
  with_reducible refine aY ?_; delta R.eval_run_value
  with_reducible refine aA ?_
  with_reducible refine aZ (by kernel_rfl) (by kernel_rfl) ?_
  iterate 4 (with_reducible refine aD (by kernel_rfl) ?_)
  with_reducible refine aE (by kernel_rfl) ?_
  iterate 5 (with_reducible refine aD (by kernel_rfl) ?_)
  with_reducible refine aE (by kernel_rfl) ?_
  with_reducible refine aD (by kernel_rfl) ?_
  with_reducible refine aP ?_; delta R.eval_run_operation
  with_reducible refine aA ?_
  with_reducible refine aD (by kernel_rfl) ?_
  with_reducible refine aE (by kernel_rfl) ?_
  iterate 5 (with_reducible refine aD (by kernel_rfl) ?_)
  with_reducible refine aN (by kernel_rfl) ?_
  with_reducible refine bh ?_; delta R.eval_run_callee
  with_reducible refine aA ?_
  with_reducible refine aZ (by kernel_rfl) (by kernel_rfl) ?_
  with_reducible refine aE (by kernel_rfl) ?_
  with_reducible refine aA ?_
  with_reducible refine aD (by kernel_rfl) ?_
  with_reducible refine bf (by kernel_rfl) ?_
  with_reducible refine bL ?_; delta R.eval_run_arguments
  with_reducible refine aA ?_
  with_reducible refine aO ?_
  with_reducible refine eQ hk ?_
  with_reducible refine aN (by kernel_rfl) ?_
  with_reducible refine aZ (by kernel_rfl) (by kernel_rfl) ?_
  with_reducible refine aG ?_; delta R.eval_run_expression
  with_reducible refine aA ?_
  with_reducible refine aE (by kernel_rfl) ?_
  with_reducible refine aA ?_
  with_reducible refine aD (by kernel_rfl) ?_
  with_reducible refine aY ?_; delta R.eval_run_value
  with_reducible refine aA ?_
  with_reducible refine aZ (by kernel_rfl) (by kernel_rfl) ?_
  iterate 4 (with_reducible refine aD (by kernel_rfl) ?_)
  with_reducible refine aE (by kernel_rfl) ?_
  iterate 5 (with_reducible refine aD (by kernel_rfl) ?_)
  with_reducible refine aE (by kernel_rfl) ?_
  with_reducible refine aD (by kernel_rfl) ?_
  with_reducible refine aP ?_; delta R.eval_run_operation
  with_reducible refine aA ?_
  with_reducible refine aD (by kernel_rfl) ?_
  with_reducible refine aE (by kernel_rfl) ?_
  iterate 2 (with_reducible refine aD (by kernel_rfl) ?_)
  with_reducible refine aN (by kernel_rfl) ?_
  with_reducible refine cx ?_; delta R.eval_run_logic
  with_reducible refine aA ?_
  with_reducible refine aZ (by kernel_rfl) (by kernel_rfl) ?_
  with_reducible refine aG ?_; delta R.eval_run_expression
  with_reducible refine aA ?_
  with_reducible refine aE (by kernel_rfl) ?_
  with_reducible refine aA ?_
  with_reducible refine aD (by kernel_rfl) ?_
  with_reducible refine iA h0 (by kernel_rfl) (by kernel_rfl) ?_
  with_reducible refine aA ?_
  with_reducible refine aF ?_
  with_reducible refine aA ?_
  with_reducible refine aD (by kernel_rfl) ?_
  with_reducible refine aO ?_
  with_reducible refine aD (by kernel_rfl) ?_
  with_reducible refine aN (by kernel_rfl) ?_
  with_reducible refine gN (m' := R.aw a0) (by kernel_rfl) (cG hb rfl) ?_
  with_reducible refine aF ?_
  with_reducible refine aD (by kernel_rfl) ?_
  with_reducible refine aZ (by kernel_rfl) (by kernel_rfl) ?_
  with_reducible refine aG ?_; delta R.eval_run_expression
  with_reducible refine aA ?_
  with_reducible refine aE (by kernel_rfl) ?_
  with_reducible refine aA ?_
  with_reducible refine aD (by kernel_rfl) ?_
  with_reducible refine iA h1 (by kernel_rfl) (by kernel_rfl) ?_
  with_reducible refine aA ?_
  with_reducible refine aF ?_
  with_reducible refine aA ?_
  with_reducible refine aF ?_
  with_reducible refine aA ?_
  with_reducible refine aF ?_
  with_reducible refine aA ?_
  with_reducible refine aF ?_
  with_reducible refine aA ?_
  with_reducible refine aF ?_
  with_reducible refine aA ?_
  with_reducible refine aD (by kernel_rfl) ?_
  with_reducible refine bf (by kernel_rfl) ?_
  with_reducible refine aF ?_
  with_reducible refine jW ?_
  with_reducible refine gL ?_
  with_reducible refine aD (by kernel_rfl) ?_
  with_reducible refine aF ?_
  with_reducible refine gf ?_
  with_reducible refine iy (by kernel_rfl) ?_
  with_reducible refine aF ?_
  with_reducible refine aA ?_
  with_reducible refine aD (by kernel_rfl) ?_
  with_reducible refine cq ?_; delta R.eval_run_call
  with_reducible refine aA ?_
  with_reducible refine aD (by kernel_rfl) ?_
  with_reducible refine aE (by kernel_rfl) ?_
  with_reducible refine aA ?_
  with_reducible refine aE (by kernel_rfl) ?_
  with_reducible refine aN (by kernel_rfl) ?_
  with_reducible refine cj ?_; delta R.eval_run_does
  with_reducible refine aA ?_
  with_reducible refine aE (by kernel_rfl) ?_
  with_reducible refine aA ?_
  with_reducible refine aE (by kernel_rfl) ?_
  iterate 10 (with_reducible refine aD (by kernel_rfl) ?_)
  with_reducible refine aE (by kernel_rfl) ?_
  with_reducible refine aD (by kernel_rfl) ?_
  with_reducible refine aE (by kernel_rfl) ?_
  with_reducible refine aD (by kernel_rfl) ?_
  with_reducible refine aE (by kernel_rfl) ?_
  with_reducible refine aD (by kernel_rfl) ?_
  with_reducible refine aE (by kernel_rfl) ?_
  with_reducible refine aN (by kernel_rfl) ?_
  with_reducible refine aE (by kernel_rfl) ?_
  with_reducible refine aA ?_
  with_reducible refine cm ?_; delta R.eval_run_host
  with_reducible refine aA ?_
  with_reducible refine aO ?_
  iterate 3 (with_reducible refine aD (by kernel_rfl) ?_)
  with_reducible refine aN (by kernel_rfl) ?_
  with_reducible refine gN (m' := R.av a1) (by kernel_rfl) (cG hu rfl) ?_
  with_reducible refine aA ?_
  with_reducible refine aD (by kernel_rfl) ?_
  with_reducible refine aF ?_
  with_reducible refine iy (by kernel_rfl) ?_
  with_reducible refine aE (by kernel_rfl) ?_
  with_reducible refine aA ?_
  with_reducible refine aN (by kernel_rfl) ?_
  with_reducible refine aF ?_
  with_reducible refine aA ?_
  with_reducible refine aF ?_
  with_reducible refine aA ?_
  with_reducible refine aF ?_
  with_reducible refine aA ?_
  with_reducible refine aF ?_
  with_reducible refine aA ?_
  with_reducible refine aF ?_
  with_reducible refine aA ?_
  with_reducible refine aF ?_
  with_reducible refine aA ?_
  with_reducible refine aF ?_
  with_reducible refine aA ?_
  with_reducible refine aN (by kernel_rfl) ?_
  with_reducible refine aF ?_
  with_reducible refine aA ?_
  with_reducible refine aF ?_
  with_reducible refine aA ?_
  with_reducible refine aN (by kernel_rfl) ?_
  with_reducible refine aF ?_
  with_reducible refine gf ?_
  with_reducible refine pe (by kernel_rfl) ?_
  with_reducible refine aF ?_
  with_reducible refine aA ?_
  with_reducible refine aF ?_
  with_reducible refine aA ?_
  with_reducible refine aN (by kernel_rfl) ?_
  with_reducible refine aF ?_
  kernel_rfl
theorem co_f {x0 : cU} {a0 : cY} (h0 : dD x0 a0) {x1 : cU} {a1 : cY} (h1 : dD x1 a1) (hb : (R.aw a0).strip = some false) : (R.aV (co x0 x1) (20, (20, 50)) []).sat (fun r => Out a1 0 r) := by
  rcases jF (kt (v := a1) (mR h1)) with hn | ⟨⟨l, s⟩, hu, hs⟩
  · exact co_fN h0 h1 hb hn
  · have hs : s = 0 := hs
    subst hs
    exact fW (co_fT h0 h1 hb hu) fun r e => e ▸ .asks l hu
theorem co_tN {x0 : cU} {a0 : cY} (h0 : dD x0 a0) {x1 : cU} {a1 : cY} (h1 : dD x1 a1) (hb : (R.aw a0).strip = some true) {Q} (hn : ¬ (R.av a0).facts) : (R.aV (co x0 x1) (20, (20, 50)) []).sat (Q) := by
  unfold R.aV R.au
  obtain ⟨k, hk⟩ := gg
  rw [hk]
  with_reducible refine aA ?_
  with_reducible refine aE (by kernel_rfl) ?_
  with_reducible refine aA ?_
  with_reducible refine aO ?_
  with_reducible refine aA ?_
  with_reducible refine aE (by kernel_rfl) ?_
  with_reducible refine aA ?_
  with_reducible refine aD (by kernel_rfl) ?_
  with_reducible refine aE (by kernel_rfl) ?_
  with_reducible refine aA ?_
  with_reducible refine aD (by kernel_rfl) ?_
  with_reducible refine aZ (by kernel_rfl) (by kernel_rfl) ?_
  with_reducible refine cB ?_; delta R.eval_run_list
  with_reducible refine aA ?_
  with_reducible refine aO ?_
  with_reducible refine eQ hk ?_
  with_reducible refine aN (by kernel_rfl) ?_
  with_reducible refine aZ (by kernel_rfl) (by kernel_rfl) ?_
  with_reducible refine bM ?_; delta R.eval_run_statement
  with_reducible refine aA ?_
  with_reducible refine aE (by kernel_rfl) ?_
  with_reducible refine aA ?_
  with_reducible refine aD (by kernel_rfl) ?_
  with_reducible refine cQ ?_; delta R.eval_run_act
  with_reducible refine aA ?_
  with_reducible refine aZ (by kernel_rfl) (by kernel_rfl) ?_
  with_reducible refine aN (by kernel_rfl) ?_
  with_reducible refine aZ (by kernel_rfl) (by kernel_rfl) ?_
  with_reducible refine aG ?_; delta R.eval_run_expression
  with_reducible refine aA ?_
  with_reducible refine aE (by kernel_rfl) ?_
  with_reducible refine aA ?_
  with_reducible refine aD (by kernel_rfl) ?_
  with_reducible refine aY ?_; delta R.eval_run_value
  with_reducible refine aA ?_
  with_reducible refine aZ (by kernel_rfl) (by kernel_rfl) ?_
  iterate 4 (with_reducible refine aD (by kernel_rfl) ?_)
  with_reducible refine aE (by kernel_rfl) ?_
  iterate 5 (with_reducible refine aD (by kernel_rfl) ?_)
  with_reducible refine aE (by kernel_rfl) ?_
  with_reducible refine aD (by kernel_rfl) ?_
  with_reducible refine aP ?_; delta R.eval_run_operation
  with_reducible refine aA ?_
  with_reducible refine aD (by kernel_rfl) ?_
  with_reducible refine aE (by kernel_rfl) ?_
  iterate 5 (with_reducible refine aD (by kernel_rfl) ?_)
  with_reducible refine aN (by kernel_rfl) ?_
  with_reducible refine bh ?_; delta R.eval_run_callee
  with_reducible refine aA ?_
  with_reducible refine aZ (by kernel_rfl) (by kernel_rfl) ?_
  with_reducible refine aE (by kernel_rfl) ?_
  with_reducible refine aA ?_
  with_reducible refine aD (by kernel_rfl) ?_
  with_reducible refine bf (by kernel_rfl) ?_
  with_reducible refine bL ?_; delta R.eval_run_arguments
  with_reducible refine aA ?_
  with_reducible refine aO ?_
  with_reducible refine eQ hk ?_
  with_reducible refine aN (by kernel_rfl) ?_
  with_reducible refine aZ (by kernel_rfl) (by kernel_rfl) ?_
  with_reducible refine aG ?_; delta R.eval_run_expression
  with_reducible refine aA ?_
  with_reducible refine aE (by kernel_rfl) ?_
  with_reducible refine aA ?_
  with_reducible refine aD (by kernel_rfl) ?_
  with_reducible refine aY ?_; delta R.eval_run_value
  with_reducible refine aA ?_
  with_reducible refine aZ (by kernel_rfl) (by kernel_rfl) ?_
  iterate 4 (with_reducible refine aD (by kernel_rfl) ?_)
  with_reducible refine aE (by kernel_rfl) ?_
  iterate 5 (with_reducible refine aD (by kernel_rfl) ?_)
  with_reducible refine aE (by kernel_rfl) ?_
  with_reducible refine aD (by kernel_rfl) ?_
  with_reducible refine aP ?_; delta R.eval_run_operation
  with_reducible refine aA ?_
  with_reducible refine aD (by kernel_rfl) ?_
  with_reducible refine aE (by kernel_rfl) ?_
  iterate 2 (with_reducible refine aD (by kernel_rfl) ?_)
  with_reducible refine aN (by kernel_rfl) ?_
  with_reducible refine cx ?_; delta R.eval_run_logic
  with_reducible refine aA ?_
  with_reducible refine aZ (by kernel_rfl) (by kernel_rfl) ?_
  with_reducible refine aG ?_; delta R.eval_run_expression
  with_reducible refine aA ?_
  with_reducible refine aE (by kernel_rfl) ?_
  with_reducible refine aA ?_
  with_reducible refine aD (by kernel_rfl) ?_
  with_reducible refine iA h0 (by kernel_rfl) (by kernel_rfl) ?_
  with_reducible refine aA ?_
  with_reducible refine aF ?_
  with_reducible refine aA ?_
  with_reducible refine aD (by kernel_rfl) ?_
  with_reducible refine aO ?_
  with_reducible refine aD (by kernel_rfl) ?_
  with_reducible refine aN (by kernel_rfl) ?_
  with_reducible refine gN (m' := R.aw a0) (by kernel_rfl) (cG hb rfl) ?_
  with_reducible refine aF ?_
  with_reducible refine aN (by kernel_rfl) ?_
  with_reducible refine aF ?_
  with_reducible refine aA ?_
  with_reducible refine aF ?_
  with_reducible refine aA ?_
  with_reducible refine aF ?_
  with_reducible refine aA ?_
  with_reducible refine aF ?_
  with_reducible refine aA ?_
  with_reducible refine aD (by kernel_rfl) ?_
  with_reducible refine bf (by kernel_rfl) ?_
  with_reducible refine aF ?_
  with_reducible refine jW ?_
  with_reducible refine gL ?_
  with_reducible refine aD (by kernel_rfl) ?_
  with_reducible refine aF ?_
  with_reducible refine gf ?_
  with_reducible refine iy (by kernel_rfl) ?_
  with_reducible refine aF ?_
  with_reducible refine aA ?_
  with_reducible refine aD (by kernel_rfl) ?_
  with_reducible refine cq ?_; delta R.eval_run_call
  with_reducible refine aA ?_
  with_reducible refine aD (by kernel_rfl) ?_
  with_reducible refine aE (by kernel_rfl) ?_
  with_reducible refine aA ?_
  with_reducible refine aE (by kernel_rfl) ?_
  with_reducible refine aN (by kernel_rfl) ?_
  with_reducible refine cj ?_; delta R.eval_run_does
  with_reducible refine aA ?_
  with_reducible refine aE (by kernel_rfl) ?_
  with_reducible refine aA ?_
  with_reducible refine aE (by kernel_rfl) ?_
  iterate 10 (with_reducible refine aD (by kernel_rfl) ?_)
  with_reducible refine aE (by kernel_rfl) ?_
  with_reducible refine aD (by kernel_rfl) ?_
  with_reducible refine aE (by kernel_rfl) ?_
  with_reducible refine aD (by kernel_rfl) ?_
  with_reducible refine aE (by kernel_rfl) ?_
  with_reducible refine aD (by kernel_rfl) ?_
  with_reducible refine aE (by kernel_rfl) ?_
  with_reducible refine aN (by kernel_rfl) ?_
  with_reducible refine aE (by kernel_rfl) ?_
  with_reducible refine aA ?_
  with_reducible refine cm ?_; delta R.eval_run_host
  with_reducible refine aA ?_
  with_reducible refine aO ?_
  iterate 3 (with_reducible refine aD (by kernel_rfl) ?_)
  with_reducible refine aN (by kernel_rfl) ?_
  with_reducible exact mm (m' := R.av a0) (by kernel_rfl) hn
theorem co_tT {x0 : cU} {a0 : cY} (h0 : dD x0 a0) {x1 : cU} {a1 : cY} (h1 : dD x1 a1) (hb : (R.aw a0).strip = some true) {l : List Int} (hu : (R.av a0).strip = some (l, 0)) : (R.aV (co x0 x1) (20, (20, 50)) []).sat (· = asks l) := by
  unfold R.aV R.au
  obtain ⟨k, hk⟩ := gg
  rw [hk]
  with_reducible refine aA ?_
  with_reducible refine aE (by kernel_rfl) ?_
  with_reducible refine aA ?_
  with_reducible refine aO ?_
  with_reducible refine aA ?_
  with_reducible refine aE (by kernel_rfl) ?_
  with_reducible refine aA ?_
  with_reducible refine aD (by kernel_rfl) ?_
  with_reducible refine aE (by kernel_rfl) ?_
  with_reducible refine aA ?_
  with_reducible refine aD (by kernel_rfl) ?_
  with_reducible refine aZ (by kernel_rfl) (by kernel_rfl) ?_
  with_reducible refine cB ?_; delta R.eval_run_list
  with_reducible refine aA ?_
  with_reducible refine aO ?_
  with_reducible refine eQ hk ?_
  with_reducible refine aN (by kernel_rfl) ?_
  with_reducible refine aZ (by kernel_rfl) (by kernel_rfl) ?_
  with_reducible refine bM ?_; delta R.eval_run_statement
  with_reducible refine aA ?_
  with_reducible refine aE (by kernel_rfl) ?_
  with_reducible refine aA ?_
  with_reducible refine aD (by kernel_rfl) ?_
  with_reducible refine cQ ?_; delta R.eval_run_act
  with_reducible refine aA ?_
  with_reducible refine aZ (by kernel_rfl) (by kernel_rfl) ?_
  with_reducible refine aN (by kernel_rfl) ?_
  with_reducible refine aZ (by kernel_rfl) (by kernel_rfl) ?_
  with_reducible refine aG ?_; delta R.eval_run_expression
  with_reducible refine aA ?_
  with_reducible refine aE (by kernel_rfl) ?_
  with_reducible refine aA ?_
  with_reducible refine aD (by kernel_rfl) ?_
  with_reducible refine aY ?_; delta R.eval_run_value
  with_reducible refine aA ?_
  with_reducible refine aZ (by kernel_rfl) (by kernel_rfl) ?_
  iterate 4 (with_reducible refine aD (by kernel_rfl) ?_)
  with_reducible refine aE (by kernel_rfl) ?_
  iterate 5 (with_reducible refine aD (by kernel_rfl) ?_)
  with_reducible refine aE (by kernel_rfl) ?_
  with_reducible refine aD (by kernel_rfl) ?_
  with_reducible refine aP ?_; delta R.eval_run_operation
  with_reducible refine aA ?_
  with_reducible refine aD (by kernel_rfl) ?_
  with_reducible refine aE (by kernel_rfl) ?_
  iterate 5 (with_reducible refine aD (by kernel_rfl) ?_)
  with_reducible refine aN (by kernel_rfl) ?_
  with_reducible refine bh ?_; delta R.eval_run_callee
  with_reducible refine aA ?_
  with_reducible refine aZ (by kernel_rfl) (by kernel_rfl) ?_
  with_reducible refine aE (by kernel_rfl) ?_
  with_reducible refine aA ?_
  with_reducible refine aD (by kernel_rfl) ?_
  with_reducible refine bf (by kernel_rfl) ?_
  with_reducible refine bL ?_; delta R.eval_run_arguments
  with_reducible refine aA ?_
  with_reducible refine aO ?_
  with_reducible refine eQ hk ?_
  with_reducible refine aN (by kernel_rfl) ?_
  with_reducible refine aZ (by kernel_rfl) (by kernel_rfl) ?_
  with_reducible refine aG ?_; delta R.eval_run_expression
  with_reducible refine aA ?_
  with_reducible refine aE (by kernel_rfl) ?_
  with_reducible refine aA ?_
  with_reducible refine aD (by kernel_rfl) ?_
  with_reducible refine aY ?_; delta R.eval_run_value
  with_reducible refine aA ?_
  with_reducible refine aZ (by kernel_rfl) (by kernel_rfl) ?_
  iterate 4 (with_reducible refine aD (by kernel_rfl) ?_)
  with_reducible refine aE (by kernel_rfl) ?_
  iterate 5 (with_reducible refine aD (by kernel_rfl) ?_)
  with_reducible refine aE (by kernel_rfl) ?_
  with_reducible refine aD (by kernel_rfl) ?_
  with_reducible refine aP ?_; delta R.eval_run_operation
  with_reducible refine aA ?_
  with_reducible refine aD (by kernel_rfl) ?_
  with_reducible refine aE (by kernel_rfl) ?_
  iterate 2 (with_reducible refine aD (by kernel_rfl) ?_)
  with_reducible refine aN (by kernel_rfl) ?_
  with_reducible refine cx ?_; delta R.eval_run_logic
  with_reducible refine aA ?_
  with_reducible refine aZ (by kernel_rfl) (by kernel_rfl) ?_
  with_reducible refine aG ?_; delta R.eval_run_expression
  with_reducible refine aA ?_
  with_reducible refine aE (by kernel_rfl) ?_
  with_reducible refine aA ?_
  with_reducible refine aD (by kernel_rfl) ?_
  with_reducible refine iA h0 (by kernel_rfl) (by kernel_rfl) ?_
  with_reducible refine aA ?_
  with_reducible refine aF ?_
  with_reducible refine aA ?_
  with_reducible refine aD (by kernel_rfl) ?_
  with_reducible refine aO ?_
  with_reducible refine aD (by kernel_rfl) ?_
  with_reducible refine aN (by kernel_rfl) ?_
  with_reducible refine gN (m' := R.aw a0) (by kernel_rfl) (cG hb rfl) ?_
  with_reducible refine aF ?_
  with_reducible refine aN (by kernel_rfl) ?_
  with_reducible refine aF ?_
  with_reducible refine aA ?_
  with_reducible refine aF ?_
  with_reducible refine aA ?_
  with_reducible refine aF ?_
  with_reducible refine aA ?_
  with_reducible refine aF ?_
  with_reducible refine aA ?_
  with_reducible refine aD (by kernel_rfl) ?_
  with_reducible refine bf (by kernel_rfl) ?_
  with_reducible refine aF ?_
  with_reducible refine jW ?_
  with_reducible refine gL ?_
  with_reducible refine aD (by kernel_rfl) ?_
  with_reducible refine aF ?_
  with_reducible refine gf ?_
  with_reducible refine iy (by kernel_rfl) ?_
  with_reducible refine aF ?_
  with_reducible refine aA ?_
  with_reducible refine aD (by kernel_rfl) ?_
  with_reducible refine cq ?_; delta R.eval_run_call
  with_reducible refine aA ?_
  with_reducible refine aD (by kernel_rfl) ?_
  with_reducible refine aE (by kernel_rfl) ?_
  with_reducible refine aA ?_
  with_reducible refine aE (by kernel_rfl) ?_
  with_reducible refine aN (by kernel_rfl) ?_
  with_reducible refine cj ?_; delta R.eval_run_does
  with_reducible refine aA ?_
  with_reducible refine aE (by kernel_rfl) ?_
  with_reducible refine aA ?_
  with_reducible refine aE (by kernel_rfl) ?_
  iterate 10 (with_reducible refine aD (by kernel_rfl) ?_)
  with_reducible refine aE (by kernel_rfl) ?_
  with_reducible refine aD (by kernel_rfl) ?_
  with_reducible refine aE (by kernel_rfl) ?_
  with_reducible refine aD (by kernel_rfl) ?_
  with_reducible refine aE (by kernel_rfl) ?_
  with_reducible refine aD (by kernel_rfl) ?_
  with_reducible refine aE (by kernel_rfl) ?_
  with_reducible refine aN (by kernel_rfl) ?_
  with_reducible refine aE (by kernel_rfl) ?_
  with_reducible refine aA ?_
  with_reducible refine cm ?_; delta R.eval_run_host
  with_reducible refine aA ?_
  with_reducible refine aO ?_
  iterate 3 (with_reducible refine aD (by kernel_rfl) ?_)
  with_reducible refine aN (by kernel_rfl) ?_
  with_reducible refine gN (m' := R.av a0) (by kernel_rfl) (cG hu rfl) ?_
  with_reducible refine aA ?_
  with_reducible refine aD (by kernel_rfl) ?_
  with_reducible refine aF ?_
  with_reducible refine iy (by kernel_rfl) ?_
  with_reducible refine aE (by kernel_rfl) ?_
  with_reducible refine aA ?_
  with_reducible refine aN (by kernel_rfl) ?_
  with_reducible refine aF ?_
  with_reducible refine aA ?_
  with_reducible refine aF ?_
  with_reducible refine aA ?_
  with_reducible refine aF ?_
  with_reducible refine aA ?_
  with_reducible refine aF ?_
  with_reducible refine aA ?_
  with_reducible refine aF ?_
  with_reducible refine aA ?_
  with_reducible refine aF ?_
  with_reducible refine aA ?_
  with_reducible refine aF ?_
  with_reducible refine aA ?_
  with_reducible refine aN (by kernel_rfl) ?_
  with_reducible refine aF ?_
  with_reducible refine aA ?_
  with_reducible refine aF ?_
  with_reducible refine aA ?_
  with_reducible refine aN (by kernel_rfl) ?_
  with_reducible refine aF ?_
  with_reducible refine gf ?_
  with_reducible refine pe (by kernel_rfl) ?_
  with_reducible refine aF ?_
  with_reducible refine aA ?_
  with_reducible refine aF ?_
  with_reducible refine aA ?_
  with_reducible refine aN (by kernel_rfl) ?_
  with_reducible refine aF ?_
  kernel_rfl
theorem co_t {x0 : cU} {a0 : cY} (h0 : dD x0 a0) {x1 : cU} {a1 : cY} (h1 : dD x1 a1) (hb : (R.aw a0).strip = some true) : (R.aV (co x0 x1) (20, (20, 50)) []).sat (fun r => Out a0 0 r) := by
  rcases jF (kt (v := a0) (mR h0)) with hn | ⟨⟨l, s⟩, hu, hs⟩
  · exact co_tN h0 h1 hb hn
  · have hs : s = 0 := hs
    subst hs
    exact fW (co_tT h0 h1 hb hu) fun r e => e ▸ .asks l hu
theorem co_run {x0 : cU} {a0 : cY} (h0 : dD x0 a0) {x1 : cU} {a1 : cY} (h1 : dD x1 a1)  : (R.aV (co x0 x1) (20, (20, 50)) []).sat (fun r => ∃ b, (R.aw a0).strip = some b ∧ Out (bif b then a0 else a1) 0 r) := by
  rcases jF (m := R.aw a0) safe with hn | ⟨b, hb, _⟩
  · exact co_n h0 h1 hn
  cases b
  · exact fW (co_f h0 h1 hb) fun r h => ⟨false, hb, h⟩
  · exact fW (co_t h0 h1 hb) fun r h => ⟨true, hb, h⟩
abbrev cn (x0 : cU) (x1 : cU) : List cU := [nd 1 [] [1], nd 3 [] [2], nd 50 [] [3, 6], nd 52 [114, 101, 112, 111, 114, 116] [4], nd 52 [97, 103, 101, 110, 116] [5], nd 33 [36, 50, 54, 50] [], nd 47 [63, 63] [7, 8], x0, x1]
theorem cn_may {x0 : cU} {a0 : cY} (h0 : dD x0 a0) {x1 : cU} {a1 : cY} (h1 : dD x1 a1) : (R.fR (cn x0 x1)).sat (· = true) := by
  refine nB (by cases h0 <;> cases h1 <;> kernel_rfl) rfl (fun e he => ?_) fun e he => ?_ <;> simp only [List.mem_cons, List.not_mem_nil, or_false] at he
  · rcases he with rfl | rfl | rfl | rfl | rfl | rfl | rfl | rfl <;> first | exact ll h0 | exact ll h1 | simp
  · rcases he with rfl | rfl | rfl | rfl | rfl | rfl | rfl | rfl | rfl <;> first | exact iW h0 | exact iW h1 | exact dP (by kernel_rfl)
theorem xZ {x0 : cU} {a0 : cY} (h0 : dD x0 a0) {x1 : cU} {a1 : cY} (h1 : dD x1 a1) : (R.cf (cn x0 x1)).sat (· = (0, 0)) := lU (by simp) (cn_may h0 h1) (by cases h0 <;> cases h1 <;> kernel_rfl)
theorem cn_fN {x0 : cU} {a0 : cY} (h0 : dD x0 a0) {x1 : cU} {a1 : cY} (h1 : dD x1 a1) (hz : (a0.1 == 0) = false) (hb : (a0.1 == 1) = false) {Q} (hn : ¬ (R.av a0).facts) : (R.aV (cn x0 x1) (20, (20, 50)) []).sat (Q) := by
  unfold R.aV R.au
  obtain ⟨k, hk⟩ := gg
  rw [hk]
  with_reducible refine aA ?_
  with_reducible refine aE (by kernel_rfl) ?_
  with_reducible refine aA ?_
  with_reducible refine aO ?_
  with_reducible refine aA ?_
  with_reducible refine aE (by kernel_rfl) ?_
  with_reducible refine aA ?_
  with_reducible refine aD (by kernel_rfl) ?_
  with_reducible refine aE (by kernel_rfl) ?_
  with_reducible refine aA ?_
  with_reducible refine aD (by kernel_rfl) ?_
  with_reducible refine aZ (by kernel_rfl) (by kernel_rfl) ?_
  with_reducible refine cB ?_; delta R.eval_run_list
  with_reducible refine aA ?_
  with_reducible refine aO ?_
  with_reducible refine eQ hk ?_
  with_reducible refine aN (by kernel_rfl) ?_
  with_reducible refine aZ (by kernel_rfl) (by kernel_rfl) ?_
  with_reducible refine bM ?_; delta R.eval_run_statement
  with_reducible refine aA ?_
  with_reducible refine aE (by kernel_rfl) ?_
  with_reducible refine aA ?_
  with_reducible refine aD (by kernel_rfl) ?_
  with_reducible refine cQ ?_; delta R.eval_run_act
  with_reducible refine aA ?_
  with_reducible refine aZ (by kernel_rfl) (by kernel_rfl) ?_
  with_reducible refine aN (by kernel_rfl) ?_
  with_reducible refine aZ (by kernel_rfl) (by kernel_rfl) ?_
  with_reducible refine aG ?_; delta R.eval_run_expression
  with_reducible refine aA ?_
  with_reducible refine aE (by kernel_rfl) ?_
  with_reducible refine aA ?_
  with_reducible refine aD (by kernel_rfl) ?_
  with_reducible refine aY ?_; delta R.eval_run_value
  with_reducible refine aA ?_
  with_reducible refine aZ (by kernel_rfl) (by kernel_rfl) ?_
  iterate 4 (with_reducible refine aD (by kernel_rfl) ?_)
  with_reducible refine aE (by kernel_rfl) ?_
  iterate 5 (with_reducible refine aD (by kernel_rfl) ?_)
  with_reducible refine aE (by kernel_rfl) ?_
  with_reducible refine aD (by kernel_rfl) ?_
  with_reducible refine aP ?_; delta R.eval_run_operation
  with_reducible refine aA ?_
  with_reducible refine aD (by kernel_rfl) ?_
  with_reducible refine aE (by kernel_rfl) ?_
  iterate 5 (with_reducible refine aD (by kernel_rfl) ?_)
  with_reducible refine aN (by kernel_rfl) ?_
  with_reducible refine bh ?_; delta R.eval_run_callee
  with_reducible refine aA ?_
  with_reducible refine aZ (by kernel_rfl) (by kernel_rfl) ?_
  with_reducible refine aE (by kernel_rfl) ?_
  with_reducible refine aA ?_
  with_reducible refine aD (by kernel_rfl) ?_
  with_reducible refine bf (by kernel_rfl) ?_
  with_reducible refine bL ?_; delta R.eval_run_arguments
  with_reducible refine aA ?_
  with_reducible refine aO ?_
  with_reducible refine eQ hk ?_
  with_reducible refine aN (by kernel_rfl) ?_
  with_reducible refine aZ (by kernel_rfl) (by kernel_rfl) ?_
  with_reducible refine aG ?_; delta R.eval_run_expression
  with_reducible refine aA ?_
  with_reducible refine aE (by kernel_rfl) ?_
  with_reducible refine aA ?_
  with_reducible refine aD (by kernel_rfl) ?_
  with_reducible refine aY ?_; delta R.eval_run_value
  with_reducible refine aA ?_
  with_reducible refine aZ (by kernel_rfl) (by kernel_rfl) ?_
  iterate 4 (with_reducible refine aD (by kernel_rfl) ?_)
  with_reducible refine aE (by kernel_rfl) ?_
  iterate 5 (with_reducible refine aD (by kernel_rfl) ?_)
  with_reducible refine aE (by kernel_rfl) ?_
  with_reducible refine aD (by kernel_rfl) ?_
  with_reducible refine aP ?_; delta R.eval_run_operation
  with_reducible refine aA ?_
  with_reducible refine aD (by kernel_rfl) ?_
  with_reducible refine aE (by kernel_rfl) ?_
  iterate 2 (with_reducible refine aD (by kernel_rfl) ?_)
  with_reducible refine aN (by kernel_rfl) ?_
  with_reducible refine cx ?_; delta R.eval_run_logic
  with_reducible refine aA ?_
  with_reducible refine aZ (by kernel_rfl) (by kernel_rfl) ?_
  with_reducible refine aG ?_; delta R.eval_run_expression
  with_reducible refine aA ?_
  with_reducible refine aE (by kernel_rfl) ?_
  with_reducible refine aA ?_
  with_reducible refine aD (by kernel_rfl) ?_
  with_reducible refine iA h0 (by kernel_rfl) (by kernel_rfl) ?_
  with_reducible refine aA ?_
  with_reducible refine aF ?_
  with_reducible refine aA ?_
  with_reducible refine aD (by kernel_rfl) ?_
  with_reducible refine aO ?_
  iterate 2 (with_reducible refine aD (by kernel_rfl) ?_)
  with_reducible refine iR ?_
  with_reducible refine re hz (by kernel_rfl) ?_
  with_reducible refine aF ?_
  with_reducible refine iR ?_
  with_reducible refine re hb (by kernel_rfl) ?_
  with_reducible refine aF ?_
  with_reducible refine aA ?_
  with_reducible refine aF ?_
  with_reducible refine aA ?_
  with_reducible refine aF ?_
  with_reducible refine aA ?_
  with_reducible refine aF ?_
  with_reducible refine aA ?_
  with_reducible refine aD (by kernel_rfl) ?_
  with_reducible refine bf (by kernel_rfl) ?_
  with_reducible refine aF ?_
  with_reducible refine jW ?_
  with_reducible refine gL ?_
  with_reducible refine aD (by kernel_rfl) ?_
  with_reducible refine aF ?_
  with_reducible refine gf ?_
  with_reducible refine iy (by kernel_rfl) ?_
  with_reducible refine aF ?_
  with_reducible refine aA ?_
  with_reducible refine aD (by kernel_rfl) ?_
  with_reducible refine cq ?_; delta R.eval_run_call
  with_reducible refine aA ?_
  with_reducible refine aD (by kernel_rfl) ?_
  with_reducible refine aE (by kernel_rfl) ?_
  with_reducible refine aA ?_
  with_reducible refine aE (by kernel_rfl) ?_
  with_reducible refine aN (by kernel_rfl) ?_
  with_reducible refine cj ?_; delta R.eval_run_does
  with_reducible refine aA ?_
  with_reducible refine aE (by kernel_rfl) ?_
  with_reducible refine aA ?_
  with_reducible refine aE (by kernel_rfl) ?_
  iterate 10 (with_reducible refine aD (by kernel_rfl) ?_)
  with_reducible refine aE (by kernel_rfl) ?_
  with_reducible refine aD (by kernel_rfl) ?_
  with_reducible refine aE (by kernel_rfl) ?_
  with_reducible refine aD (by kernel_rfl) ?_
  with_reducible refine aE (by kernel_rfl) ?_
  with_reducible refine aD (by kernel_rfl) ?_
  with_reducible refine aE (by kernel_rfl) ?_
  with_reducible refine aN (by kernel_rfl) ?_
  with_reducible refine aE (by kernel_rfl) ?_
  with_reducible refine aA ?_
  with_reducible refine cm ?_; delta R.eval_run_host
  with_reducible refine aA ?_
  with_reducible refine aO ?_
  iterate 3 (with_reducible refine aD (by kernel_rfl) ?_)
  with_reducible refine aN (by kernel_rfl) ?_
  with_reducible exact mm (m' := R.av a0) (by kernel_rfl) hn
theorem cn_fT {x0 : cU} {a0 : cY} (h0 : dD x0 a0) {x1 : cU} {a1 : cY} (h1 : dD x1 a1) (hz : (a0.1 == 0) = false) (hb : (a0.1 == 1) = false) {l : List Int} (hu : (R.av a0).strip = some (l, 0)) : (R.aV (cn x0 x1) (20, (20, 50)) []).sat (· = asks l) := by
  unfold R.aV R.au
  obtain ⟨k, hk⟩ := gg
  rw [hk]
  with_reducible refine aA ?_
  with_reducible refine aE (by kernel_rfl) ?_
  with_reducible refine aA ?_
  with_reducible refine aO ?_
  with_reducible refine aA ?_
  with_reducible refine aE (by kernel_rfl) ?_
  with_reducible refine aA ?_
  with_reducible refine aD (by kernel_rfl) ?_
  with_reducible refine aE (by kernel_rfl) ?_
  with_reducible refine aA ?_
  with_reducible refine aD (by kernel_rfl) ?_
  with_reducible refine aZ (by kernel_rfl) (by kernel_rfl) ?_
  with_reducible refine cB ?_; delta R.eval_run_list
  with_reducible refine aA ?_
  with_reducible refine aO ?_
  with_reducible refine eQ hk ?_
  with_reducible refine aN (by kernel_rfl) ?_
  with_reducible refine aZ (by kernel_rfl) (by kernel_rfl) ?_
  with_reducible refine bM ?_; delta R.eval_run_statement
  with_reducible refine aA ?_
  with_reducible refine aE (by kernel_rfl) ?_
  with_reducible refine aA ?_
  with_reducible refine aD (by kernel_rfl) ?_
  with_reducible refine cQ ?_; delta R.eval_run_act
  with_reducible refine aA ?_
  with_reducible refine aZ (by kernel_rfl) (by kernel_rfl) ?_
  with_reducible refine aN (by kernel_rfl) ?_
  with_reducible refine aZ (by kernel_rfl) (by kernel_rfl) ?_
  with_reducible refine aG ?_; delta R.eval_run_expression
  with_reducible refine aA ?_
  with_reducible refine aE (by kernel_rfl) ?_
  with_reducible refine aA ?_
  with_reducible refine aD (by kernel_rfl) ?_
  with_reducible refine aY ?_; delta R.eval_run_value
  with_reducible refine aA ?_
  with_reducible refine aZ (by kernel_rfl) (by kernel_rfl) ?_
  iterate 4 (with_reducible refine aD (by kernel_rfl) ?_)
  with_reducible refine aE (by kernel_rfl) ?_
  iterate 5 (with_reducible refine aD (by kernel_rfl) ?_)
  with_reducible refine aE (by kernel_rfl) ?_
  with_reducible refine aD (by kernel_rfl) ?_
  with_reducible refine aP ?_; delta R.eval_run_operation
  with_reducible refine aA ?_
  with_reducible refine aD (by kernel_rfl) ?_
  with_reducible refine aE (by kernel_rfl) ?_
  iterate 5 (with_reducible refine aD (by kernel_rfl) ?_)
  with_reducible refine aN (by kernel_rfl) ?_
  with_reducible refine bh ?_; delta R.eval_run_callee
  with_reducible refine aA ?_
  with_reducible refine aZ (by kernel_rfl) (by kernel_rfl) ?_
  with_reducible refine aE (by kernel_rfl) ?_
  with_reducible refine aA ?_
  with_reducible refine aD (by kernel_rfl) ?_
  with_reducible refine bf (by kernel_rfl) ?_
  with_reducible refine bL ?_; delta R.eval_run_arguments
  with_reducible refine aA ?_
  with_reducible refine aO ?_
  with_reducible refine eQ hk ?_
  with_reducible refine aN (by kernel_rfl) ?_
  with_reducible refine aZ (by kernel_rfl) (by kernel_rfl) ?_
  with_reducible refine aG ?_; delta R.eval_run_expression
  with_reducible refine aA ?_
  with_reducible refine aE (by kernel_rfl) ?_
  with_reducible refine aA ?_
  with_reducible refine aD (by kernel_rfl) ?_
  with_reducible refine aY ?_; delta R.eval_run_value
  with_reducible refine aA ?_
  with_reducible refine aZ (by kernel_rfl) (by kernel_rfl) ?_
  iterate 4 (with_reducible refine aD (by kernel_rfl) ?_)
  with_reducible refine aE (by kernel_rfl) ?_
  iterate 5 (with_reducible refine aD (by kernel_rfl) ?_)
  with_reducible refine aE (by kernel_rfl) ?_
  with_reducible refine aD (by kernel_rfl) ?_
  with_reducible refine aP ?_; delta R.eval_run_operation
  with_reducible refine aA ?_
  with_reducible refine aD (by kernel_rfl) ?_
  with_reducible refine aE (by kernel_rfl) ?_
  iterate 2 (with_reducible refine aD (by kernel_rfl) ?_)
  with_reducible refine aN (by kernel_rfl) ?_
  with_reducible refine cx ?_; delta R.eval_run_logic
  with_reducible refine aA ?_
  with_reducible refine aZ (by kernel_rfl) (by kernel_rfl) ?_
  with_reducible refine aG ?_; delta R.eval_run_expression
  with_reducible refine aA ?_
  with_reducible refine aE (by kernel_rfl) ?_
  with_reducible refine aA ?_
  with_reducible refine aD (by kernel_rfl) ?_
  with_reducible refine iA h0 (by kernel_rfl) (by kernel_rfl) ?_
  with_reducible refine aA ?_
  with_reducible refine aF ?_
  with_reducible refine aA ?_
  with_reducible refine aD (by kernel_rfl) ?_
  with_reducible refine aO ?_
  iterate 2 (with_reducible refine aD (by kernel_rfl) ?_)
  with_reducible refine iR ?_
  with_reducible refine re hz (by kernel_rfl) ?_
  with_reducible refine aF ?_
  with_reducible refine iR ?_
  with_reducible refine re hb (by kernel_rfl) ?_
  with_reducible refine aF ?_
  with_reducible refine aA ?_
  with_reducible refine aF ?_
  with_reducible refine aA ?_
  with_reducible refine aF ?_
  with_reducible refine aA ?_
  with_reducible refine aF ?_
  with_reducible refine aA ?_
  with_reducible refine aD (by kernel_rfl) ?_
  with_reducible refine bf (by kernel_rfl) ?_
  with_reducible refine aF ?_
  with_reducible refine jW ?_
  with_reducible refine gL ?_
  with_reducible refine aD (by kernel_rfl) ?_
  with_reducible refine aF ?_
  with_reducible refine gf ?_
  with_reducible refine iy (by kernel_rfl) ?_
  with_reducible refine aF ?_
  with_reducible refine aA ?_
  with_reducible refine aD (by kernel_rfl) ?_
  with_reducible refine cq ?_; delta R.eval_run_call
  with_reducible refine aA ?_
  with_reducible refine aD (by kernel_rfl) ?_
  with_reducible refine aE (by kernel_rfl) ?_
  with_reducible refine aA ?_
  with_reducible refine aE (by kernel_rfl) ?_
  with_reducible refine aN (by kernel_rfl) ?_
  with_reducible refine cj ?_; delta R.eval_run_does
  with_reducible refine aA ?_
  with_reducible refine aE (by kernel_rfl) ?_
  with_reducible refine aA ?_
  with_reducible refine aE (by kernel_rfl) ?_
  iterate 10 (with_reducible refine aD (by kernel_rfl) ?_)
  with_reducible refine aE (by kernel_rfl) ?_
  with_reducible refine aD (by kernel_rfl) ?_
  with_reducible refine aE (by kernel_rfl) ?_
  with_reducible refine aD (by kernel_rfl) ?_
  with_reducible refine aE (by kernel_rfl) ?_
  with_reducible refine aD (by kernel_rfl) ?_
  with_reducible refine aE (by kernel_rfl) ?_
  with_reducible refine aN (by kernel_rfl) ?_
  with_reducible refine aE (by kernel_rfl) ?_
  with_reducible refine aA ?_
  with_reducible refine cm ?_; delta R.eval_run_host
  with_reducible refine aA ?_
  with_reducible refine aO ?_
  iterate 3 (with_reducible refine aD (by kernel_rfl) ?_)
  with_reducible refine aN (by kernel_rfl) ?_
  with_reducible refine gN (m' := R.av a0) (by kernel_rfl) (cG hu rfl) ?_
  with_reducible refine aA ?_
  with_reducible refine aD (by kernel_rfl) ?_
  with_reducible refine aF ?_
  with_reducible refine iy (by kernel_rfl) ?_
  with_reducible refine aE (by kernel_rfl) ?_
  with_reducible refine aA ?_
  with_reducible refine aN (by kernel_rfl) ?_
  with_reducible refine aF ?_
  with_reducible refine aA ?_
  with_reducible refine aF ?_
  with_reducible refine aA ?_
  with_reducible refine aF ?_
  with_reducible refine aA ?_
  with_reducible refine aF ?_
  with_reducible refine aA ?_
  with_reducible refine aF ?_
  with_reducible refine aA ?_
  with_reducible refine aF ?_
  with_reducible refine aA ?_
  with_reducible refine aF ?_
  with_reducible refine aA ?_
  with_reducible refine aN (by kernel_rfl) ?_
  with_reducible refine aF ?_
  with_reducible refine aA ?_
  with_reducible refine aF ?_
  with_reducible refine aA ?_
  with_reducible refine aN (by kernel_rfl) ?_
  with_reducible refine aF ?_
  with_reducible refine gf ?_
  with_reducible refine pe (by kernel_rfl) ?_
  with_reducible refine aF ?_
  with_reducible refine aA ?_
  with_reducible refine aF ?_
  with_reducible refine aA ?_
  with_reducible refine aN (by kernel_rfl) ?_
  with_reducible refine aF ?_
  kernel_rfl
theorem cn_f {x0 : cU} {a0 : cY} (h0 : dD x0 a0) {x1 : cU} {a1 : cY} (h1 : dD x1 a1) (hz : (a0.1 == 0) = false) (hb : (a0.1 == 1) = false) : (R.aV (cn x0 x1) (20, (20, 50)) []).sat (fun r => Out a0 0 r) := by
  rcases jF (kt (v := a0) (mR h0)) with hn | ⟨⟨l, s⟩, hu, hs⟩
  · exact cn_fN h0 h1 hz hb hn
  · have hs : s = 0 := hs
    subst hs
    exact fW (cn_fT h0 h1 hz hb hu) fun r e => e ▸ .asks l hu
theorem cn_tN {x0 : cU} {a0 : cY} (h0 : dD x0 a0) {x1 : cU} {a1 : cY} (h1 : dD x1 a1) (hz : (a0.1 == 0) = false) (hb : (a0.1 == 1) = true) {Q} (hn : ¬ (R.av a1).facts) : (R.aV (cn x0 x1) (20, (20, 50)) []).sat (Q) := by
  unfold R.aV R.au
  obtain ⟨k, hk⟩ := gg
  rw [hk]
  with_reducible refine aA ?_
  with_reducible refine aE (by kernel_rfl) ?_
  with_reducible refine aA ?_
  with_reducible refine aO ?_
  with_reducible refine aA ?_
  with_reducible refine aE (by kernel_rfl) ?_
  with_reducible refine aA ?_
  with_reducible refine aD (by kernel_rfl) ?_
  with_reducible refine aE (by kernel_rfl) ?_
  with_reducible refine aA ?_
  with_reducible refine aD (by kernel_rfl) ?_
  with_reducible refine aZ (by kernel_rfl) (by kernel_rfl) ?_
  with_reducible refine cB ?_; delta R.eval_run_list
  with_reducible refine aA ?_
  with_reducible refine aO ?_
  with_reducible refine eQ hk ?_
  with_reducible refine aN (by kernel_rfl) ?_
  with_reducible refine aZ (by kernel_rfl) (by kernel_rfl) ?_
  with_reducible refine bM ?_; delta R.eval_run_statement
  with_reducible refine aA ?_
  with_reducible refine aE (by kernel_rfl) ?_
  with_reducible refine aA ?_
  with_reducible refine aD (by kernel_rfl) ?_
  with_reducible refine cQ ?_; delta R.eval_run_act
  with_reducible refine aA ?_
  with_reducible refine aZ (by kernel_rfl) (by kernel_rfl) ?_
  with_reducible refine aN (by kernel_rfl) ?_
  with_reducible refine aZ (by kernel_rfl) (by kernel_rfl) ?_
  with_reducible refine aG ?_; delta R.eval_run_expression
  with_reducible refine aA ?_
  with_reducible refine aE (by kernel_rfl) ?_
  with_reducible refine aA ?_
  with_reducible refine aD (by kernel_rfl) ?_
  with_reducible refine aY ?_; delta R.eval_run_value
  with_reducible refine aA ?_
  with_reducible refine aZ (by kernel_rfl) (by kernel_rfl) ?_
  iterate 4 (with_reducible refine aD (by kernel_rfl) ?_)
  with_reducible refine aE (by kernel_rfl) ?_
  iterate 5 (with_reducible refine aD (by kernel_rfl) ?_)
  with_reducible refine aE (by kernel_rfl) ?_
  with_reducible refine aD (by kernel_rfl) ?_
  with_reducible refine aP ?_; delta R.eval_run_operation
  with_reducible refine aA ?_
  with_reducible refine aD (by kernel_rfl) ?_
  with_reducible refine aE (by kernel_rfl) ?_
  iterate 5 (with_reducible refine aD (by kernel_rfl) ?_)
  with_reducible refine aN (by kernel_rfl) ?_
  with_reducible refine bh ?_; delta R.eval_run_callee
  with_reducible refine aA ?_
  with_reducible refine aZ (by kernel_rfl) (by kernel_rfl) ?_
  with_reducible refine aE (by kernel_rfl) ?_
  with_reducible refine aA ?_
  with_reducible refine aD (by kernel_rfl) ?_
  with_reducible refine bf (by kernel_rfl) ?_
  with_reducible refine bL ?_; delta R.eval_run_arguments
  with_reducible refine aA ?_
  with_reducible refine aO ?_
  with_reducible refine eQ hk ?_
  with_reducible refine aN (by kernel_rfl) ?_
  with_reducible refine aZ (by kernel_rfl) (by kernel_rfl) ?_
  with_reducible refine aG ?_; delta R.eval_run_expression
  with_reducible refine aA ?_
  with_reducible refine aE (by kernel_rfl) ?_
  with_reducible refine aA ?_
  with_reducible refine aD (by kernel_rfl) ?_
  with_reducible refine aY ?_; delta R.eval_run_value
  with_reducible refine aA ?_
  with_reducible refine aZ (by kernel_rfl) (by kernel_rfl) ?_
  iterate 4 (with_reducible refine aD (by kernel_rfl) ?_)
  with_reducible refine aE (by kernel_rfl) ?_
  iterate 5 (with_reducible refine aD (by kernel_rfl) ?_)
  with_reducible refine aE (by kernel_rfl) ?_
  with_reducible refine aD (by kernel_rfl) ?_
  with_reducible refine aP ?_; delta R.eval_run_operation
  with_reducible refine aA ?_
  with_reducible refine aD (by kernel_rfl) ?_
  with_reducible refine aE (by kernel_rfl) ?_
  iterate 2 (with_reducible refine aD (by kernel_rfl) ?_)
  with_reducible refine aN (by kernel_rfl) ?_
  with_reducible refine cx ?_; delta R.eval_run_logic
  with_reducible refine aA ?_
  with_reducible refine aZ (by kernel_rfl) (by kernel_rfl) ?_
  with_reducible refine aG ?_; delta R.eval_run_expression
  with_reducible refine aA ?_
  with_reducible refine aE (by kernel_rfl) ?_
  with_reducible refine aA ?_
  with_reducible refine aD (by kernel_rfl) ?_
  with_reducible refine iA h0 (by kernel_rfl) (by kernel_rfl) ?_
  with_reducible refine aA ?_
  with_reducible refine aF ?_
  with_reducible refine aA ?_
  with_reducible refine aD (by kernel_rfl) ?_
  with_reducible refine aO ?_
  iterate 2 (with_reducible refine aD (by kernel_rfl) ?_)
  with_reducible refine iR ?_
  with_reducible refine re hz (by kernel_rfl) ?_
  with_reducible refine aF ?_
  with_reducible refine iR ?_
  with_reducible refine w_brt hb (by kernel_rfl) ?_
  with_reducible refine aZ (by kernel_rfl) (by kernel_rfl) ?_
  with_reducible refine aG ?_; delta R.eval_run_expression
  with_reducible refine aA ?_
  with_reducible refine aE (by kernel_rfl) ?_
  with_reducible refine aA ?_
  with_reducible refine aD (by kernel_rfl) ?_
  with_reducible refine iA h1 (by kernel_rfl) (by kernel_rfl) ?_
  with_reducible refine aA ?_
  with_reducible refine aF ?_
  with_reducible refine aA ?_
  with_reducible refine aF ?_
  with_reducible refine aA ?_
  with_reducible refine aF ?_
  with_reducible refine aA ?_
  with_reducible refine aF ?_
  with_reducible refine aA ?_
  with_reducible refine aF ?_
  with_reducible refine aA ?_
  with_reducible refine aD (by kernel_rfl) ?_
  with_reducible refine bf (by kernel_rfl) ?_
  with_reducible refine aF ?_
  with_reducible refine jW ?_
  with_reducible refine gL ?_
  with_reducible refine aD (by kernel_rfl) ?_
  with_reducible refine aF ?_
  with_reducible refine gf ?_
  with_reducible refine iy (by kernel_rfl) ?_
  with_reducible refine aF ?_
  with_reducible refine aA ?_
  with_reducible refine aD (by kernel_rfl) ?_
  with_reducible refine cq ?_; delta R.eval_run_call
  with_reducible refine aA ?_
  with_reducible refine aD (by kernel_rfl) ?_
  with_reducible refine aE (by kernel_rfl) ?_
  with_reducible refine aA ?_
  with_reducible refine aE (by kernel_rfl) ?_
  with_reducible refine aN (by kernel_rfl) ?_
  with_reducible refine cj ?_; delta R.eval_run_does
  with_reducible refine aA ?_
  with_reducible refine aE (by kernel_rfl) ?_
  with_reducible refine aA ?_
  with_reducible refine aE (by kernel_rfl) ?_
  iterate 10 (with_reducible refine aD (by kernel_rfl) ?_)
  with_reducible refine aE (by kernel_rfl) ?_
  with_reducible refine aD (by kernel_rfl) ?_
  with_reducible refine aE (by kernel_rfl) ?_
  with_reducible refine aD (by kernel_rfl) ?_
  with_reducible refine aE (by kernel_rfl) ?_
  with_reducible refine aD (by kernel_rfl) ?_
  with_reducible refine aE (by kernel_rfl) ?_
  with_reducible refine aN (by kernel_rfl) ?_
  with_reducible refine aE (by kernel_rfl) ?_
  with_reducible refine aA ?_
  with_reducible refine cm ?_; delta R.eval_run_host
  with_reducible refine aA ?_
  with_reducible refine aO ?_
  iterate 3 (with_reducible refine aD (by kernel_rfl) ?_)
  with_reducible refine aN (by kernel_rfl) ?_
  with_reducible exact mm (m' := R.av a1) (by kernel_rfl) hn
theorem cn_tT {x0 : cU} {a0 : cY} (h0 : dD x0 a0) {x1 : cU} {a1 : cY} (h1 : dD x1 a1) (hz : (a0.1 == 0) = false) (hb : (a0.1 == 1) = true) {l : List Int} (hu : (R.av a1).strip = some (l, 0)) : (R.aV (cn x0 x1) (20, (20, 50)) []).sat (· = asks l) := by
  unfold R.aV R.au
  obtain ⟨k, hk⟩ := gg
  rw [hk]
  with_reducible refine aA ?_
  with_reducible refine aE (by kernel_rfl) ?_
  with_reducible refine aA ?_
  with_reducible refine aO ?_
  with_reducible refine aA ?_
  with_reducible refine aE (by kernel_rfl) ?_
  with_reducible refine aA ?_
  with_reducible refine aD (by kernel_rfl) ?_
  with_reducible refine aE (by kernel_rfl) ?_
  with_reducible refine aA ?_
  with_reducible refine aD (by kernel_rfl) ?_
  with_reducible refine aZ (by kernel_rfl) (by kernel_rfl) ?_
  with_reducible refine cB ?_; delta R.eval_run_list
  with_reducible refine aA ?_
  with_reducible refine aO ?_
  with_reducible refine eQ hk ?_
  with_reducible refine aN (by kernel_rfl) ?_
  with_reducible refine aZ (by kernel_rfl) (by kernel_rfl) ?_
  with_reducible refine bM ?_; delta R.eval_run_statement
  with_reducible refine aA ?_
  with_reducible refine aE (by kernel_rfl) ?_
  with_reducible refine aA ?_
  with_reducible refine aD (by kernel_rfl) ?_
  with_reducible refine cQ ?_; delta R.eval_run_act
  with_reducible refine aA ?_
  with_reducible refine aZ (by kernel_rfl) (by kernel_rfl) ?_
  with_reducible refine aN (by kernel_rfl) ?_
  with_reducible refine aZ (by kernel_rfl) (by kernel_rfl) ?_
  with_reducible refine aG ?_; delta R.eval_run_expression
  with_reducible refine aA ?_
  with_reducible refine aE (by kernel_rfl) ?_
  with_reducible refine aA ?_
  with_reducible refine aD (by kernel_rfl) ?_
  with_reducible refine aY ?_; delta R.eval_run_value
  with_reducible refine aA ?_
  with_reducible refine aZ (by kernel_rfl) (by kernel_rfl) ?_
  iterate 4 (with_reducible refine aD (by kernel_rfl) ?_)
  with_reducible refine aE (by kernel_rfl) ?_
  iterate 5 (with_reducible refine aD (by kernel_rfl) ?_)
  with_reducible refine aE (by kernel_rfl) ?_
  with_reducible refine aD (by kernel_rfl) ?_
  with_reducible refine aP ?_; delta R.eval_run_operation
  with_reducible refine aA ?_
  with_reducible refine aD (by kernel_rfl) ?_
  with_reducible refine aE (by kernel_rfl) ?_
  iterate 5 (with_reducible refine aD (by kernel_rfl) ?_)
  with_reducible refine aN (by kernel_rfl) ?_
  with_reducible refine bh ?_; delta R.eval_run_callee
  with_reducible refine aA ?_
  with_reducible refine aZ (by kernel_rfl) (by kernel_rfl) ?_
  with_reducible refine aE (by kernel_rfl) ?_
  with_reducible refine aA ?_
  with_reducible refine aD (by kernel_rfl) ?_
  with_reducible refine bf (by kernel_rfl) ?_
  with_reducible refine bL ?_; delta R.eval_run_arguments
  with_reducible refine aA ?_
  with_reducible refine aO ?_
  with_reducible refine eQ hk ?_
  with_reducible refine aN (by kernel_rfl) ?_
  with_reducible refine aZ (by kernel_rfl) (by kernel_rfl) ?_
  with_reducible refine aG ?_; delta R.eval_run_expression
  with_reducible refine aA ?_
  with_reducible refine aE (by kernel_rfl) ?_
  with_reducible refine aA ?_
  with_reducible refine aD (by kernel_rfl) ?_
  with_reducible refine aY ?_; delta R.eval_run_value
  with_reducible refine aA ?_
  with_reducible refine aZ (by kernel_rfl) (by kernel_rfl) ?_
  iterate 4 (with_reducible refine aD (by kernel_rfl) ?_)
  with_reducible refine aE (by kernel_rfl) ?_
  iterate 5 (with_reducible refine aD (by kernel_rfl) ?_)
  with_reducible refine aE (by kernel_rfl) ?_
  with_reducible refine aD (by kernel_rfl) ?_
  with_reducible refine aP ?_; delta R.eval_run_operation
  with_reducible refine aA ?_
  with_reducible refine aD (by kernel_rfl) ?_
  with_reducible refine aE (by kernel_rfl) ?_
  iterate 2 (with_reducible refine aD (by kernel_rfl) ?_)
  with_reducible refine aN (by kernel_rfl) ?_
  with_reducible refine cx ?_; delta R.eval_run_logic
  with_reducible refine aA ?_
  with_reducible refine aZ (by kernel_rfl) (by kernel_rfl) ?_
  with_reducible refine aG ?_; delta R.eval_run_expression
  with_reducible refine aA ?_
  with_reducible refine aE (by kernel_rfl) ?_
  with_reducible refine aA ?_
  with_reducible refine aD (by kernel_rfl) ?_
  with_reducible refine iA h0 (by kernel_rfl) (by kernel_rfl) ?_
  with_reducible refine aA ?_
  with_reducible refine aF ?_
  with_reducible refine aA ?_
  with_reducible refine aD (by kernel_rfl) ?_
  with_reducible refine aO ?_
  iterate 2 (with_reducible refine aD (by kernel_rfl) ?_)
  with_reducible refine iR ?_
  with_reducible refine re hz (by kernel_rfl) ?_
  with_reducible refine aF ?_
  with_reducible refine iR ?_
  with_reducible refine w_brt hb (by kernel_rfl) ?_
  with_reducible refine aZ (by kernel_rfl) (by kernel_rfl) ?_
  with_reducible refine aG ?_; delta R.eval_run_expression
  with_reducible refine aA ?_
  with_reducible refine aE (by kernel_rfl) ?_
  with_reducible refine aA ?_
  with_reducible refine aD (by kernel_rfl) ?_
  with_reducible refine iA h1 (by kernel_rfl) (by kernel_rfl) ?_
  with_reducible refine aA ?_
  with_reducible refine aF ?_
  with_reducible refine aA ?_
  with_reducible refine aF ?_
  with_reducible refine aA ?_
  with_reducible refine aF ?_
  with_reducible refine aA ?_
  with_reducible refine aF ?_
  with_reducible refine aA ?_
  with_reducible refine aF ?_
  with_reducible refine aA ?_
  with_reducible refine aD (by kernel_rfl) ?_
  with_reducible refine bf (by kernel_rfl) ?_
  with_reducible refine aF ?_
  with_reducible refine jW ?_
  with_reducible refine gL ?_
  with_reducible refine aD (by kernel_rfl) ?_
  with_reducible refine aF ?_
  with_reducible refine gf ?_
  with_reducible refine iy (by kernel_rfl) ?_
  with_reducible refine aF ?_
  with_reducible refine aA ?_
  with_reducible refine aD (by kernel_rfl) ?_
  with_reducible refine cq ?_; delta R.eval_run_call
  with_reducible refine aA ?_
  with_reducible refine aD (by kernel_rfl) ?_
  with_reducible refine aE (by kernel_rfl) ?_
  with_reducible refine aA ?_
  with_reducible refine aE (by kernel_rfl) ?_
  with_reducible refine aN (by kernel_rfl) ?_
  with_reducible refine cj ?_; delta R.eval_run_does
  with_reducible refine aA ?_
  with_reducible refine aE (by kernel_rfl) ?_
  with_reducible refine aA ?_
  with_reducible refine aE (by kernel_rfl) ?_
  iterate 10 (with_reducible refine aD (by kernel_rfl) ?_)
  with_reducible refine aE (by kernel_rfl) ?_
  with_reducible refine aD (by kernel_rfl) ?_
  with_reducible refine aE (by kernel_rfl) ?_
  with_reducible refine aD (by kernel_rfl) ?_
  with_reducible refine aE (by kernel_rfl) ?_
  with_reducible refine aD (by kernel_rfl) ?_
  with_reducible refine aE (by kernel_rfl) ?_
  with_reducible refine aN (by kernel_rfl) ?_
  with_reducible refine aE (by kernel_rfl) ?_
  with_reducible refine aA ?_
  with_reducible refine cm ?_; delta R.eval_run_host
  with_reducible refine aA ?_
  with_reducible refine aO ?_
  iterate 3 (with_reducible refine aD (by kernel_rfl) ?_)
  with_reducible refine aN (by kernel_rfl) ?_
  with_reducible refine gN (m' := R.av a1) (by kernel_rfl) (cG hu rfl) ?_
  with_reducible refine aA ?_
  with_reducible refine aD (by kernel_rfl) ?_
  with_reducible refine aF ?_
  with_reducible refine iy (by kernel_rfl) ?_
  with_reducible refine aE (by kernel_rfl) ?_
  with_reducible refine aA ?_
  with_reducible refine aN (by kernel_rfl) ?_
  with_reducible refine aF ?_
  with_reducible refine aA ?_
  with_reducible refine aF ?_
  with_reducible refine aA ?_
  with_reducible refine aF ?_
  with_reducible refine aA ?_
  with_reducible refine aF ?_
  with_reducible refine aA ?_
  with_reducible refine aF ?_
  with_reducible refine aA ?_
  with_reducible refine aF ?_
  with_reducible refine aA ?_
  with_reducible refine aF ?_
  with_reducible refine aA ?_
  with_reducible refine aN (by kernel_rfl) ?_
  with_reducible refine aF ?_
  with_reducible refine aA ?_
  with_reducible refine aF ?_
  with_reducible refine aA ?_
  with_reducible refine aN (by kernel_rfl) ?_
  with_reducible refine aF ?_
  with_reducible refine gf ?_
  with_reducible refine pe (by kernel_rfl) ?_
  with_reducible refine aF ?_
  with_reducible refine aA ?_
  with_reducible refine aF ?_
  with_reducible refine aA ?_
  with_reducible refine aN (by kernel_rfl) ?_
  with_reducible refine aF ?_
  kernel_rfl
theorem cn_t {x0 : cU} {a0 : cY} (h0 : dD x0 a0) {x1 : cU} {a1 : cY} (h1 : dD x1 a1) (hz : (a0.1 == 0) = false) (hb : (a0.1 == 1) = true) : (R.aV (cn x0 x1) (20, (20, 50)) []).sat (fun r => Out a1 0 r) := by
  rcases jF (kt (v := a1) (mR h1)) with hn | ⟨⟨l, s⟩, hu, hs⟩
  · exact cn_tN h0 h1 hz hb hn
  · have hs : s = 0 := hs
    subst hs
    exact fW (cn_tT h0 h1 hz hb hu) fun r e => e ▸ .asks l hu
theorem cn_run {x0 : cU} {a0 : cY} (h0 : dD x0 a0) {x1 : cU} {a1 : cY} (h1 : dD x1 a1)  : (R.aV (cn x0 x1) (20, (20, 50)) []).sat (fun r => Out (bif a0.1 == 1 then a1 else a0) 0 r) := by
  cases hb : (a0.1 == 1)
  · exact cn_f h0 h1 (xp h0) hb
  · exact cn_t h0 h1 (xp h0) hb
end Go.Mach
set_option maxRecDepth 1000000
namespace Go.Mach
open Res
end Go.Mach
set_option maxRecDepth 1000000
namespace Go.Mach
open Res
theorem xv : ∀ F : Res Bool, F = R.cP → F.sat (· = true) := by
  intro F h
  have h2 := sH
  rw [← h] at h2
  exact Res.cG h2 rfl
instance xx {a} : Safe (R.bR a) := by unfold R.bR; repeat' (first | with_reducible (first | apply Safe.g' | apply Safe.br' | apply Safe.bd' | apply Safe.sm' | intro _ | infer_instance))
theorem kP (a : cY) : (R.bR a).sat fun _ => True := safe
theorem pH {a : cY} {β : Type} {Q : β → Prop} {k : cU × Bool → Res β} (h1 : ∀ x, dD x a → (k (x, true)).sat Q) (h2 : ∀ x e, e = false ∨ ¬ oA a → (k (x, e)).sat Q) : ((R.bR a).bind k).sat Q := by
  by_cases hm : oA a
  · refine bC (vt hm) fun ⟨x, e⟩ hx => ?_
    cases e
    · exact h2 x _ (.inl rfl)
    · exact h1 x (hx rfl)
  · exact bC (kP a) fun ⟨x, e⟩ _ => h2 x e (.inr hm)
theorem t_may {a : cY} {k : Res Bool} (h : ¬ oA a) : (Res.bind (R.eK a) fun r => br (!r) (.ok true) k).sat (· = true) := bC nq fun r hr => by
  cases r
  · exact aN rfl (aF rfl)
  · exact absurd (hr rfl) h
theorem t_mayE {a : cY} (h : ¬ oA a) : (Res.bind (R.eK a) fun r => .ok (!r)).sat (· = true) := bC nq fun r hr => by
  cases r
  · exact aF rfl
  · exact absurd (hr rfl) h
theorem t_e {e : Bool} {p : Prop} {k : Res Bool} (he : e = false ∨ p) (h : p → k.sat (· = true)) : (br (!e) (.ok true) k).sat (· = true) := by
  cases e
  · exact aN rfl (aF rfl)
  · rcases he with he | he
    · cases he
    · exact aD rfl (h he)
theorem xg {e : Bool} {k : Res Bool} (h : k.sat (· = true)) : (br (!e) (.ok true) k).sat (· = true) := fS (fun _ => aF rfl) fun _ => h
end Go.Mach
set_option maxRecDepth 1000000
namespace Go.Mach
open Res
theorem px (a b c : cY) : l0 (R.cI a b c) (· = true) := by
  constructor
  unfold R.cI
  have firstF := xv
  generalize hF : R.cP = F at firstF ⊢
  have oa := firstF _ rfl
  refine aR fun _ => aT oa (aD rfl ?_)
  have no : ∀ {m : Res Bool} {k : Res Bool}, m.sat (· = true) → (m.bind fun x => br x (F.bind fun r => .ok r) k).sat (· = true) := fun h => aT h (aN rfl (aT oa (aF rfl)))
  refine pH (fun x hx => aR fun _ => ?_) fun x e he => aR fun _ => bC (kP b) fun r _ => aR fun _ => bC (kP c) fun r' _ => aR fun _ => no (t_e he fun h => xg (xg (t_may h)))
  refine pH (fun y hy => aR fun _ => ?_) fun y e he => aR fun _ => bC (kP c) fun r' _ => aR fun _ => no (aD rfl (t_e he fun h => xg (aT (kZ hx) (aD rfl (t_may h)))))
  refine pH (fun z hz => aR fun _ => ?_) fun z e he => aR fun _ => no (aD rfl (aD rfl (t_e he fun h => aT (kZ hx) (aD rfl (aT (kZ hy) (aD rfl (t_mayE h)))))))
  refine aT (a := false) (aD rfl (aD rfl (aD rfl (aT (kZ hx) (aD rfl (aT (kZ hy) (aD rfl (aT (kZ hz) (aF rfl))))))))) (aD rfl ?_)
  refine vg (P := fun _ => True) safe fun b0 hb0 _ => ?_
  refine aT (a := cc x y z) (dP (by kernel_rfl)) (aR fun _ => aT (a := (20, (20, 50))) (dP (by kernel_rfl)) (aR fun _ => bC (nA (xA hx hy hz) (cc_run hx hy hz)) fun r1 h1 => aR fun _ => aT (a := ca x y) (dP (by kernel_rfl)) (aR fun _ => aT (a := (20, (20, 50))) (dP (by kernel_rfl)) (aR fun _ => bC (nA (xD hx hy) (ca_run hx hy)) fun r2 h2 => aR fun _ => aT (a := co x y) (dP (by kernel_rfl)) (aR fun _ => aT (a := (20, (20, 50))) (dP (by kernel_rfl)) (aR fun _ => bC (nA (xS hx hy) (co_run hx hy)) fun r3 h3 => aR fun _ => aT (a := cn x y) (dP (by kernel_rfl)) (aR fun _ => aT (a := (20, (20, 50))) (dP (by kernel_rfl)) (aR fun _ => bC (nA (xZ hx hy) (cn_run hx hy)) fun r4 h4 => aR fun _ => ?_))))))))
  obtain ⟨b1, e1, o1⟩ := h1
  obtain ⟨b2, e2, o2⟩ := h2
  obtain ⟨b3, e3, o3⟩ := h3
  rw [hb0] at e1 e2 e3
  cases e1
  cases e2
  cases e3
  have o4 : Out (bif a.1 == 1 then b else a) 0 r4 := h4
  have fin : ∀ {v1 v2 v3 v4 : cY}, Out v1 0 r1 → Out v2 0 r2 → Out v3 0 r3 → Out v4 0 r4 → (F.bind fun r25 => br r25 (Res.bind (R.b8 r1.1 r1.2 v1 0) fun r26 => br r26 (Res.bind (R.b8 r2.1 r2.2 v2 0) fun r27 => br r27 (Res.bind (R.b8 r3.1 r3.2 v3 0) fun r28 => br r28 (Res.bind (R.b8 r4.1 r4.2 v4 0) fun r29 => Res.ok r29) (Res.ok false)) (Res.ok false)) (Res.ok false)) (Res.ok false)).sat (· = true) := fun o1 o2 o3 o4 => aT oa (aN rfl (aT (nN o1) (aN rfl (aT (nN o2) (aN rfl (aT (nN o3) (aN rfl (aT (nN o4) (aF rfl)))))))))
  cases b0 with
  | false =>
    refine aT (a := (c, (a, b))) (aD rfl (aF rfl)) ?_
    cases hn : (a.1 == 1)
    · rw [hn] at o4; exact aT (a := a) (aD rfl (aF rfl)) (fin o1 o2 o3 o4)
    · rw [hn] at o4; exact aT (a := b) (aN rfl (aF rfl)) (fin o1 o2 o3 o4)
  | true =>
    refine aT (a := (b, (b, a))) (aN rfl (aF rfl)) ?_
    cases hn : (a.1 == 1)
    · rw [hn] at o4; exact aT (a := a) (aD rfl (aF rfl)) (fin o1 o2 o3 o4)
    · rw [hn] at o4; exact aT (a := b) (aN rfl (aF rfl)) (fin o1 o2 o3 o4)
end Go.Mach
namespace Go.Mach
theorem uq {P : Program} {c : OpenClaim} (h : P.funcs.any Func.goes = false) (hs : c.start = .entering) : false = c.goesBy P := by
  have h1 : ∀ g : Nat, (P.funcs[g]?).any Func.goes = false := fun g => by
    cases hg : P.funcs[g]? with
    | none => rfl
    | some fn => simpa using (Array.any_eq_false'.1 h) fn (Array.mem_of_getElem? hg)
  have h2 : ∀ f, P.goes f = false := fun f => by
    unfold Program.goes
    rw [h, Bool.and_false, Bool.or_false, List.any_eq_false]
    exact fun g _ => by rw [h1 g]; decide
  have h3 : P.goesFrom c.func = false := by
    unfold Program.goesFrom
    cases P.funcNamed c.func with
    | none => rfl
    | some f => exact h2 f
  unfold OpenClaim.goesBy Program.goesAt
  rw [h3, hs]
  rfl
end Go.Mach
