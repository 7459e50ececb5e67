/-
  Proved here: the law renlaw12.EvalUnaries returns true for every input of the stated bulk and leaves its arguments as they were; no further condition.
  By an AI agent; no person has read it.
-/
import Derived.Test.YtimhplnifencnaaGreatDoorPartl
import Derived.KernelRfl
import GoSem.ClaimGoes
set_option linter.all false
set_option linter.deprecated false
set_option maxRecDepth 1000000
namespace Go.Mach
theorem tV : R.cN.strip = some true := by kernel_rfl
theorem mb : R.cN.sat (· = true) := by
  have h := tV
  generalize R.cN = m at h
  exact Res.dh h rfl
end Go.Mach
set_option maxRecDepth 100000
namespace Go.Mach
open Res
theorem ey {α : Type} {m : Res α} {a : α} (h : m.strip = some a) : m.sat (· = a) := Res.dh h rfl
abbrev wv := aB.den
abbrev TreeT := List wv
theorem vO {t : TreeT} {e0 : wv} (hl : t.length ≤ 4096) (h0 : t[0]? = some e0) (hk0 : e0.1 = 1) (ho : (R.gT t).sat (· = true)) (h1 : ∀ (n : Nat) (e : wv), 0 < n → t[n]? = some e → e.1 ≠ 1) (hf : ∀ (n : Nat) (e : wv), t[n]? = some e → (R.cf e).sat (· = true))
    (hk : ∀ n : Nat, n < t.length → (R.gf t n).sat (· = true)) (hd : (R.gD t).sat fun d => (R.cp d).sat fun m => m ≤ 48) : (R.fQ t).sat (· = true) := by
  unfold R.fQ
  have hpos : 0 < t.length := (List.getElem?_eq_some_iff.1 h0).1
  refine aL fun _ => aT (a := false) ?_ (aJ rfl ?_)
  · refine aJ (by rw [beq_eq_false_iff_ne]; omega) (aJ (by rw [cr]; omega) (cG (by omega) (by simpa using hpos) fun e he _ => ?_))
    have he : t[0]? = some e := he
    rw [h0] at he; cases he
    exact aJ (by simp [hk0]) (aT ho (aE rfl))
  refine aT (a := .inl ()) ?_ (wa (aW hd fun d hd => aL fun _ => aW hd fun m hm => aL fun _ => aE (by rw [eL]; exact hm)))
  refine rG (fun i : Int => i) t.length (by omega) (fun i : Int => 0 ≤ i ∧ i ≤ t.length) ⟨by omega, by omega⟩ (fun i h => h) ?_
  rintro i ⟨i0, i1⟩
  refine cj (fun h => ?_) fun _ => aE rfl
  rw [dQ] at h
  have hi : i.toNat < t.length := by omega
  have hin : ((i.toNat : Nat) : Int) = i := by omega
  have w : IntKind.wrap .i64 (i + 1) = i + 1 := wrap64 ⟨by omega, by omega⟩
  refine aT (a := false) (cj (fun hp => ?_) fun hp => ?_) (aJ rfl (aE ⟨w, by rw [w]; omega, by rw [w]; omega⟩))
  · rw [dQ] at hp
    refine cG i0 hi fun e he _ => ?_
    refine aJ (by simpa using h1 _ e (by omega) he) (cG i0 hi fun e' he' _ => aT (hf _ _ he') (aJ rfl (aT (a := true) ?_ (aE rfl))))
    have := hk _ hi
    rwa [hin] at this
  · refine cG i0 hi fun e' he' _ => aT (hf _ _ he') (aJ rfl (aT (a := true) ?_ (aE rfl)))
    have := hk _ hi
    rwa [hin] at this
theorem sB {t : TreeT} (hl : t.length ≤ 4096) (hm : (R.fQ t).sat (· = true)) {up : List Int} (hp : (R.eJ t).sat (· = up)) (hw : ∀ n : Nat, n < t.length → (R.gB t up n).sat (· = false)) : (R.di t).sat (· = (0, 0)) := by
  unfold R.di
  refine aL fun _ => aT hm (aJ rfl (aT hp (aL fun _ => aT (a := .inl ()) ?_ (wa (aE rfl)))))
  refine rG (fun i : Int => i) t.length (by omega) (fun i : Int => 0 ≤ i ∧ i ≤ t.length) ⟨by omega, by omega⟩ (fun i h => h) ?_
  rintro i ⟨i0, i1⟩
  refine cj (fun h => ?_) fun _ => aE rfl
  rw [dQ] at h
  have hi : i.toNat < t.length := by omega
  have hin : ((i.toNat : Nat) : Int) = i := by omega
  have w : IntKind.wrap .i64 (i + 1) = i + 1 := wrap64 ⟨by omega, by omega⟩
  have := hw _ hi
  rw [hin] at this
  exact aT this (aJ rfl (aE ⟨w, by rw [w]; omega, by rw [w]; omega⟩))
end Go.Mach
set_option maxRecDepth 1000000
namespace Go.Mach
open Res
abbrev jJ := aA.den
abbrev kW := aB.den
theorem ll : ∃ k, fuel = k + 40 := ⟨2 ^ 70 - 40, by decide⟩
theorem mJ {α β : Type} {Q : β → Prop} {m m' : Res α} {a : α} {k : α → Res β} (h : m = m') (h2 : m'.sat (· = a)) (hk : (k a).sat Q) : (m.bind k).sat Q := h ▸ aT h2 hk
theorem zx {α β : Type} {Q : β → Prop} {m : Res α} {P : α → Prop} {k : α → Res β} (h : m.sat P) (hk : ∀ u, m.strip = some u → P u → (k u).sat Q) : (m.bind k).sat Q := by
  by_cases hf : m.facts
  · obtain ⟨u, h1, h2⟩ := oL h hf
    exact aT (dh h1 rfl) (hk u h1 h2)
  · exact aa (kN hf)
abbrev vz : jJ := (0, ((0, 0), ((false, []), ([], 0))))
abbrev vnum (n : Int) : jJ := (3, ((0, n), ((false, []), ([], 0))))
abbrev vbig (m : List Int) : jJ := (4, ((0, 0), ((false, m), ([], 0))))
abbrev vstr (s : List Int) : jJ := (5, ((0, 0), ((false, []), (s, 0))))
inductive qC : jJ → Prop
  | und : qC vz
  | null : qC (1, vz.2)
  | wo (b : Int) : b = 0 ∨ b = 1 → qC (2, ((0, 0), ((false, []), ([], b))))
  | num (n : Int × Int) : (n.1 = 0 → -9007199254740991 ≤ n.2 ∧ n.2 ≤ 9007199254740991) → qC (3, (n, vz.2.2))
  | big (b : Bool × List Int) : (R.gR b).strip = some true → qC (4, ((0, 0), (b, ([], 0))))
  | str (s : List Int) : s.length ≤ 4096 → qC (vstr s)
  | obj (r : Int) : 0 ≤ r → qC (6, ((0, 0), ((false, []), ([], r))))
theorem ko {a : jJ} : (R.fB a).sat (fun r => r = true → a = (a.1, vz.2)) := by
  obtain ⟨k, ⟨n1, n2⟩, ⟨ng, mg⟩, s, ref⟩ := a
  unfold R.fB
  refine aL fun _ => cj (fun h1 => fN (cj (fun _ => aE fun h => by cases h) fun h2 => iW (fun h3 => iW (fun h4 => aE fun h5 => ?_) fun _ => aE fun h => by cases h) fun _ => aE fun h => by cases h)) fun _ => aE fun h => by cases h
  simp only [Bool.and_true, Bool.and_eq_true, beq_iff_eq] at h1 h2 h5
  have e3 : mg = [] := List.length_eq_zero_iff.1 (by simpa using h3)
  have e4 : s = [] := List.length_eq_zero_iff.1 (by simpa using h4)
  obtain ⟨rfl, rfl⟩ := h1
  subst h2 e3 e4 h5
  rfl
theorem xY {a : Int × Int} : (R.gV a).sat (fun r => r = true → a.1 = 0 → -9007199254740991 ≤ a.2 ∧ a.2 ≤ 9007199254740991) := by
  unfold R.gV
  refine aL fun _ => iW (fun h => kZ (fun h1 => aE fun h2 _ => ⟨h1, of_decide_eq_true h2⟩) fun _ => aE fun h => by cases h) fun h => ?_
  refine aW (R := fun _ => True) (by repeat' (first | with_reducible (first | refine aE ?_ | refine aL fun _ => ?_ | refine fN ?_ | refine kg (fun _ => ?_) fun _ => ?_ | refine kZ (fun _ => ?_) fun _ => ?_ | refine iW (fun _ => ?_) fun _ => ?_ | refine al rfl ?_ | refine aJ rfl ?_ | refine cj (fun _ => ?_) fun _ => ?_ | refine lJ ?_ | refine lI ?_ | refine jZ ?_ | refine q_e ?_ | refine q_p fun _ _ => ?_ | refine q_b fun _ => ?_ | refine cG ?_ ?_ fun _ _ _ => ?_ | refine ee ?_ ?_ fun _ _ _ => ?_ | refine iZ ?_| refine jw ?_ ?_ | refine kp ?_ ?_ | refine lF ?_ ?_ | refine n_d ?_ ?_ | refine jS (fun _ => ?_) fun _ => ?_ | exact safe | refine aa ?_) | exact trivial | dsimp only [Nx, Dn] | with_reducible (first | rfl | refine And.intro ?_ ?_ | intro _ | contradiction) | omega | refine cH (by decide) ?_ | (simp (disch := omega) only [wrap64, cS, cZ, List.length_append, List.length_cons, List.length_nil, List.length_take, List.length_drop, List.length_set, List.length_replicate, List.length_reverse] <;> omega) | (simp (disch := omega) only [wrap64, cS, cZ, List.length_append, List.length_cons, List.length_nil, List.length_take, List.length_drop, List.length_set, List.length_replicate, List.length_reverse] at * <;> omega) | exact Int.tmod_nonneg _ (by omega) | (simp_all [dQ, eL, cr, dX] <;> omega))) fun _ _ => cj (fun _ => aE fun _ h0 => absurd h0 h) fun _ => aE fun _ h0 => absurd h0 h
theorem sQ {a : jJ} : (R.fa a).sat (fun r => r = true → qC a) := by
  obtain ⟨k, n, b, s, ref⟩ := a
  unfold R.fa
  refine aL fun _ => aW (R := fun c => c = true → k = 0 ∨ k = 1) (iW (fun h => aE fun _ => .inl h) fun _ => aE fun h => .inr (eq_of_beq h)) fun c hc => cj (fun h => ?_) fun _ => ?_
  · refine aW ko fun r hr => aE fun h2 => ?_
    have e : (k, n, b, s, ref) = (k, vz.2) := hr h2
    cases e
    rcases hc h with rfl | rfl
    · exact .und
    · exact .null
  refine iW (fun h => ?_) fun _ => iW (fun h => ?_) fun _ => iW (fun h => ?_) fun _ => iW (fun h => ?_) fun _ => iW (fun h => ?_) fun _ => aE fun h => by cases h
  · refine aW ko fun r hr => cj (fun h1 => ?_) fun _ => aE fun h => by cases h
    have e : (k, n, b, s, (0 : Int)) = (k, vz.2) := hr h1
    cases e
    subst h
    exact iW (fun h => aE fun _ => .wo _ (.inl h)) fun _ => aE fun h => .wo _ (.inr (eq_of_beq h))
  · refine aW ko fun r hr => cj (fun h1 => ?_) fun _ => aE fun h => by cases h
    have e : (k, ((0 : Int), (0 : Int)), b, s, ref) = (k, vz.2) := hr h1
    cases e
    subst h
    exact aW xY fun r hr => aE fun h2 => .num n (hr h2)
  · refine aW ko fun r hr => cj (fun h1 => ?_) fun _ => aE fun h => by cases h
    have e : (k, n, ((false, []) : Bool × List Int), s, ref) = (k, vz.2) := hr h1
    cases e
    subst h
    exact zx (P := fun _ => True) safe fun c hc _ => aE fun h2 => .big b (by rw [hc, h2])
  · refine aW ko fun r hr => cj (fun h1 => ?_) fun _ => aE fun h => by cases h
    have e : (k, n, b, ([] : List Int), ref) = (k, vz.2) := hr h1
    cases e
    subst h
    exact aE fun h2 => .str s (by have h3 : (List.length s : Int) ≤ 4096 := of_decide_eq_true h2; omega)
  · refine aW ko fun r hr => cj (fun h1 => ?_) fun _ => aE fun h => by cases h
    have e : (k, n, b, s, (0 : Int)) = (k, vz.2) := hr h1
    cases e
    subst h
    exact aE fun h2 => .obj ref (of_decide_eq_true h2)
inductive lT : kW → jJ → Prop
  | null : lT (36, ([], ([], ((0, 0), ((false, []), []))))) (1, vz.2)
  | tru : lT (34, ([], ([], ((0, 0), ((false, []), []))))) (2, ((0, 0), ((false, []), ([], 1))))
  | fls : lT (35, ([], ([], ((0, 0), ((false, []), []))))) (2, ((0, 0), ((false, []), ([], 0))))
  | num (n : Int) : 0 ≤ n → n ≤ 9007199254740991 → lT (30, ([], ([], ((0, n), ((false, []), []))))) (vnum n)
  | big (m : List Int) : (R.gR (false, m)).strip = some true → lT (31, ([], ([], ((0, 0), ((false, m), []))))) (vbig m)
  | str (s : List Int) : s.length ≤ 4096 → lT (32, ([], (s, ((0, 0), ((false, []), []))))) (vstr s)
theorem ur {b : List Int} (h : b.length ≤ 4096) : (R.cR b).sat (· = vstr b) := by
  unfold R.cR
  refine aL fun _ => ?_
  rw [cS, show min (List.length b : Int) 4096 = List.length b by omega]
  refine iZ (jw (by omega) (jw (by omega) (aa (aE (aL fun _ => aE ?_)))))
  rw [Int.toNat_natCast, List.drop_zero, List.take_length]
theorem zq {x : kW} {a : jJ} (h : lT x a) (G : bI) (r : aM.den) (i : Int) (e : af.den) (h0 : decide (0 ≤ i) = true) (hx : r.1[i.toNat]? = some x) : (R.eval_run_value G r i e).sat (· = ((a, 0), r)) := by
  unfold R.eval_run_value
  have hi : i.toNat < List.length r.1 := (List.getElem?_eq_some_iff.1 hx).1
  refine aL fun _ => ee (of_decide_eq_true h0) hi fun y hy _ => ?_
  rw [hx] at hy
  cases hy
  cases h with
  | null => exact ey (by kernel_rfl)
  | tru => exact ey (by kernel_rfl)
  | fls => exact ey (by kernel_rfl)
  | num n h0 h1 => exact ey (by kernel_rfl)
  | big m hm => exact ey (by kernel_rfl)
  | str s hs => exact aJ rfl (aJ rfl (al rfl (aT (ur hs) (aL fun _ => aE rfl))))
theorem wW {x : kW} {a : jJ} (h : lT x a) : (R.cf x).sat (· = true) := by
  cases h with
  | null => exact ey (by kernel_rfl)
  | tru => exact ey (by kernel_rfl)
  | fls => exact ey (by kernel_rfl)
  | num n h0 h1 =>
    unfold R.cf
    refine aL fun _ => aT (a := false) (ey (by kernel_rfl)) (aJ rfl (aT (a := false) (ey (by kernel_rfl)) (aJ rfl (al rfl (al rfl (al rfl (aT (a := true) ?_ (al rfl (aE (decide_eq_true h0))))))))))
    unfold R.gV
    exact aL fun _ => al rfl (al (decide_eq_true (by show (-9007199254740991 : Int) ≤ n; omega)) (aE (decide_eq_true h1)))
  | big m hm =>
    unfold R.cf
    exact aL fun _ => aT (a := false) (ey (by kernel_rfl)) (aJ rfl (aT (a := false) (ey (by kernel_rfl)) (aJ rfl (aJ rfl (al rfl (al rfl (aT (dh hm rfl) (al rfl (aE rfl)))))))))
  | str s hs =>
    unfold R.cf
    exact aL fun _ => aT (a := false) (ey (by kernel_rfl)) (aJ rfl (aT (a := true) (ey (by kernel_rfl)) (al rfl (al rfl (aE (decide_eq_true (by show (List.length s : Int) ≤ 4096; omega)))))))
theorem yO {x : kW} {a : jJ} (h : lT x a) : (R.fa a).sat (· = true) := by
  cases h with
  | null => exact ey (by kernel_rfl)
  | tru => exact ey (by kernel_rfl)
  | fls => exact ey (by kernel_rfl)
  | num n h0 h1 =>
    unfold R.fa
    refine aL fun _ => aT (a := false) (ey (by kernel_rfl)) (aJ rfl (aJ rfl (al rfl (aT (a := true) (ey (by kernel_rfl)) (al rfl (aT (a := true) ?_ (aE rfl)))))))
    unfold R.gV
    exact aL fun _ => al rfl (al (decide_eq_true (by show (-9007199254740991 : Int) ≤ n; omega)) (aE (decide_eq_true h1)))
  | big m hm =>
    unfold R.fa
    exact aL fun _ => aT (a := false) (ey (by kernel_rfl)) (aJ rfl (aJ rfl (aJ rfl (al rfl (aT (a := true) (ey (by kernel_rfl)) (al rfl (aT (dh hm rfl) (aE rfl))))))))
  | str s hs =>
    unfold R.fa
    exact aL fun _ => aT (a := false) (ey (by kernel_rfl)) (aJ rfl (aJ rfl (aJ rfl (aJ rfl (al rfl (aT (a := true) (ey (by kernel_rfl)) (al rfl (aE (decide_eq_true (by show (List.length s : Int) ≤ 4096; omega))))))))))
theorem wJ {a : List Int} : (R.eI a a).sat (· = true) := by
  unfold R.eI
  refine aL fun h => ?_
  simp only [Sg.i, oks, Sh.ok, Ty.ok, List.map, Par.v, Bool.and_eq_true] at h
  have := mV h.1
  refine fN (iW (fun _ => ?_) fun h => absurd rfl h)
  refine aW (y5 (Q := fun x : Unit ⊕ Bool => x = .inl ()) (fun i => i) a.length (by omega) (fun _ => True) (by omega) (by omega) trivial fun i h0 h1 _ => kg (fun hi => cG h0 (by omega) fun e he _ => cG h0 (by omega) fun e' he' _ => ?_) fun _ => aE rfl) fun x hx => ?_
  · rw [he] at he'; cases he'
    exact fN (al (by simp) (aE ⟨rfl, hi, trivial⟩))
  · subst hx
    exact aE rfl
end Go.Mach
set_option maxRecDepth 1000000
namespace Go.Mach
open Res
noncomputable def ub (t : List kW) : Bool :=
  decide (t.length ≤ 4096) && ((R.gT t).strip == some true && ((List.range t.length).all (fun n => (R.gf t n).strip == some true) && match ((R.gD t).bind R.cp).strip with
    | some m => ile m 48
    | none => false))
theorem xM {e0 : kW} {rest : List kW} (hb : ub (e0 :: rest) = true) (hk0 : e0.1 = 1) (h1 : ∀ e ∈ rest, e.1 ≠ 1) (hf : ∀ e ∈ e0 :: rest, (R.cf e).sat (· = true)) : (R.fQ (e0 :: rest)).sat (· = true) := by
  simp only [ub, Bool.and_eq_true, decide_eq_true_eq, beq_iff_eq, List.all_eq_true, List.mem_range] at hb
  obtain ⟨b1, b2, b3, b4⟩ := hb
  refine vO (e0 := e0) b1 rfl hk0 (dh b2 rfl) (fun n e hn he => ?_) (fun n e he => hf e (List.mem_of_getElem? he)) (fun n hn => dh (b3 n hn) rfl) ?_
  · obtain ⟨m, rfl⟩ : ∃ m, n = m + 1 := ⟨n - 1, by omega⟩
    exact h1 e (List.mem_of_getElem? (by simpa using he))
  · rw [← tk]
    split at b4
    · rename_i m hm
      exact dh hm (of_decide_eq_true b4)
    · cases b4
noncomputable def wm (t : List kW) : Bool := match (R.eJ t).strip with
  | some up => (List.range t.length).all fun n => (R.gB t up n).strip == some false
  | none => false
theorem vo {t : List kW} (hl : t.length ≤ 4096) (hm : (R.fQ t).sat (· = true)) (hb : wm t = true) : (R.di t).sat (· = (0, 0)) := by
  unfold wm at hb
  split at hb
  · rename_i up hup
    simp only [List.all_eq_true, List.mem_range, beq_iff_eq] at hb
    exact sB hl hm (dh hup rfl) fun n hn => dh (hb n hn) rfl
  · cases hb
abbrev nd (k : Int) (name : List UInt8) (kids : List Int) : kW := (k, (name, ([], ((0, 0), ((false, []), kids)))))
abbrev sr : de.den := (0, (0, (0, (0, (0, (false, (false, (0, (0, ((0, 0), ([], 0)))))))))))
theorem yE {t : List kW} {Q : de.den × fZ.den → Prop} (hc : (R.di t).sat (· = (0, 0))) (hr : (R.bZ t (20, (20, 50)) []).sat Q) : (R.fl t (20, (20, 50)) []).sat Q := by
  unfold R.fl
  exact aL fun _ => aT hc (aL fun _ => aT (a := false) (ey (by kernel_rfl)) (aJ rfl (aW hr fun x hx => aL fun _ => aE hx)))
theorem lit_ne {x : kW} {a : jJ} (h : lT x a) : x.1 ≠ 1 := by cases h <;> simp
theorem ql {x : kW} {a : jJ} (h : lT x a) {n : Nat} {r : aM.den} {i : Int} {e : af.den} {β : Type} {Q : β → Prop} {k : (jJ × Int) × aM.den → Res β} (h0 : decide (0 ≤ i) = true) (hx : r.1[i.toNat]? = some x) (hk : (k ((a, 0), r)).sat Q) : (((bo (n + 1)).eval_run_value r i e).bind k).sat Q := aT (zq h (bo n) r i e h0 hx) hk
end Go.Mach
set_option maxRecDepth 1000000
namespace Go.Mach
open Res
theorem xN {a : jJ} (h : qC a) : (R.bz a).sat (fun r => r.2 = true → lT r.1 a) := by
  unfold R.bz
  refine aL fun _ => ?_
  cases h with
  | und => exact aJ rfl (aJ rfl (aJ rfl (aJ rfl (aJ rfl (aE fun h => by cases h)))))
  | null => exact al rfl (aE fun _ => .null)
  | wo b hb =>
    rcases hb with rfl | rfl
    · exact aJ rfl (al rfl (aE fun _ => .fls))
    · exact aJ rfl (al rfl (aE fun _ => .tru))
  | num n hn =>
    obtain ⟨n1, n2⟩ := n
    refine aJ rfl (aJ rfl (al rfl (iW (fun h0 => aE fun h1 => ?_) fun _ => aE fun h => by cases h)))
    have h0 : n1 = 0 := h0
    subst h0
    exact .num n2 (of_decide_eq_true h1) (hn rfl).2
  | big b hb =>
    obtain ⟨ng, m⟩ := b
    refine aJ rfl (aJ rfl (aJ rfl (al rfl (aE fun h1 => ?_))))
    have h1 : ng = false := by simpa using h1
    subst h1
    exact .big m hb
  | str s hs => exact aJ rfl (aJ rfl (aJ rfl (aJ rfl (al rfl (aE fun _ => .str s hs)))))
  | obj r hr => exact aJ rfl (aJ rfl (aJ rfl (aJ rfl (aJ rfl (aE fun h => by cases h)))))
end Go.Mach
set_option maxRecDepth 100000
namespace Go.Mach
open Res
instance AO {a} : jt (R.cK a) (fun r => r.1 ≠ 6) := by
  unfold R.cK
  refine ⟨?_⟩
  repeat' (first | with_reducible (first | refine aE ?_ | refine aL fun _ => ?_ | refine fN ?_ | refine kg (fun _ => ?_) fun _ => ?_ | refine kZ (fun _ => ?_) fun _ => ?_ | refine iW (fun _ => ?_) fun _ => ?_ | refine al rfl ?_ | refine aJ rfl ?_ | refine cj (fun _ => ?_) fun _ => ?_ | refine lJ ?_ | refine lI ?_ | refine jZ ?_ | refine q_e ?_ | refine q_p fun _ _ => ?_ | refine q_b fun _ => ?_ | refine cG ?_ ?_ fun _ _ _ => ?_ | refine ee ?_ ?_ fun _ _ _ => ?_ | refine iZ ?_ | refine jw ?_ ?_ | refine kp ?_ ?_ | refine lF ?_ ?_ | refine n_d ?_ ?_ | refine jS (fun _ => ?_) fun _ => ?_ | exact safe | refine aa ?_) | exact trivial | dsimp only [Nx, Dn] | with_reducible (first | rfl | refine And.intro ?_ ?_ | intro _ | contradiction) | omega | refine cH (by decide) ?_ | (simp (disch := omega) only [wrap64, cS, cZ, List.length_append, List.length_cons, List.length_nil] <;> omega) | (simp_all [dQ, eL, cr, dX] <;> omega))
instance AJ {a} : jt (R.eY a) (fun r => r.1 ≠ 6) := by
  unfold R.eY
  refine ⟨?_⟩
  repeat' (first | with_reducible (first | refine aE ?_ | refine aL fun _ => ?_ | refine fN ?_ | refine kg (fun _ => ?_) fun _ => ?_ | refine kZ (fun _ => ?_) fun _ => ?_ | refine iW (fun _ => ?_) fun _ => ?_ | refine al rfl ?_ | refine aJ rfl ?_ | refine cj (fun _ => ?_) fun _ => ?_ | refine lJ ?_ | refine lI ?_ | refine jZ ?_ | refine q_e ?_ | refine q_p fun _ _ => ?_ | refine q_b fun _ => ?_ | refine cG ?_ ?_ fun _ _ _ => ?_ | refine ee ?_ ?_ fun _ _ _ => ?_ | refine iZ ?_ | refine jw ?_ ?_ | refine kp ?_ ?_ | refine lF ?_ ?_ | refine n_d ?_ ?_ | refine jS (fun _ => ?_) fun _ => ?_ | exact safe | refine aa ?_) | exact trivial | dsimp only [Nx, Dn] | with_reducible (first | rfl | refine And.intro ?_ ?_ | intro _ | contradiction) | omega | refine cH (by decide) ?_ | (simp (disch := omega) only [wrap64, cS, cZ, List.length_append, List.length_cons, List.length_nil] <;> omega) | (simp_all [dQ, eL, cr, dX] <;> omega))
instance zR {a} : jt (R.ay a) (fun r => r.1 ≠ 6) := by
  unfold R.ay
  refine ⟨?_⟩
  repeat' (first | with_reducible (first | refine aE ?_ | refine aL fun _ => ?_ | refine fN ?_ | refine kg (fun _ => ?_) fun _ => ?_ | refine kZ (fun _ => ?_) fun _ => ?_ | refine iW (fun _ => ?_) fun _ => ?_ | refine al rfl ?_ | refine aJ rfl ?_ | refine cj (fun _ => ?_) fun _ => ?_ | refine lJ ?_ | refine lI ?_ | refine jZ ?_ | refine q_e ?_ | refine q_p fun _ _ => ?_ | refine q_b fun _ => ?_ | refine cG ?_ ?_ fun _ _ _ => ?_ | refine ee ?_ ?_ fun _ _ _ => ?_ | refine iZ ?_ | refine jw ?_ ?_ | refine kp ?_ ?_ | refine lF ?_ ?_ | refine n_d ?_ ?_ | refine jS (fun _ => ?_) fun _ => ?_ | exact safe | refine aa ?_) | exact trivial | dsimp only [Nx, Dn] | with_reducible (first | rfl | refine And.intro ?_ ?_ | intro _ | contradiction) | omega | refine cH (by decide) ?_ | (simp (disch := omega) only [wrap64, cS, cZ, List.length_append, List.length_cons, List.length_nil] <;> omega) | (simp_all [dQ, eL, cr, dX] <;> omega))
instance yS {a} : jt (R.b8 a) (fun r => 0 ≤ r.2 ∧ r.2 ≤ 5) := by
  unfold R.b8
  refine ⟨?_⟩
  repeat' (first | with_reducible (first | refine aE ?_ | refine aL fun _ => ?_ | refine fN ?_ | refine kg (fun _ => ?_) fun _ => ?_ | refine kZ (fun _ => ?_) fun _ => ?_ | refine iW (fun _ => ?_) fun _ => ?_ | refine al rfl ?_ | refine aJ rfl ?_ | refine cj (fun _ => ?_) fun _ => ?_ | refine lJ ?_ | refine lI ?_ | refine jZ ?_ | refine q_e ?_ | refine q_p fun _ _ => ?_ | refine q_b fun _ => ?_ | refine cG ?_ ?_ fun _ _ _ => ?_ | refine ee ?_ ?_ fun _ _ _ => ?_ | refine iZ ?_ | refine jw ?_ ?_ | refine kp ?_ ?_ | refine lF ?_ ?_ | refine n_d ?_ ?_ | refine jS (fun _ => ?_) fun _ => ?_ | exact safe | refine aa ?_) | exact trivial | dsimp only [Nx, Dn] | with_reducible (first | rfl | refine And.intro ?_ ?_ | intro _ | contradiction) | omega | refine cH (by decide) ?_ | (simp (disch := omega) only [wrap64, cS, cZ, List.length_append, List.length_cons, List.length_nil] <;> omega) | (simp_all [dQ, eL, cr, dX] <;> omega))
instance yQ {a} : jt (R.cJ a) (fun r => (0 ≤ r.2 ∧ r.2 ≤ 5) ∧ r.1.1 ≠ 6) := by
  unfold R.cJ
  refine ⟨?_⟩
  repeat' (first | with_reducible (first | refine aE ?_ | refine aL fun _ => ?_ | refine fN ?_ | refine kg (fun _ => ?_) fun _ => ?_ | refine kZ (fun _ => ?_) fun _ => ?_ | refine iW (fun _ => ?_) fun _ => ?_ | refine al rfl ?_ | refine aJ rfl ?_ | refine cj (fun _ => ?_) fun _ => ?_ | refine lJ ?_ | refine lI ?_ | refine jZ ?_ | refine q_e ?_ | refine q_p fun _ _ => ?_ | refine q_b fun _ => ?_ | refine cG ?_ ?_ fun _ _ _ => ?_ | refine ee ?_ ?_ fun _ _ _ => ?_ | refine iZ ?_ | refine jw ?_ ?_ | refine kp ?_ ?_ | refine lF ?_ ?_ | refine n_d ?_ ?_ | refine jS (fun _ => ?_) fun _ => ?_ | exact safe | refine aa ?_) | exact trivial | dsimp only [Nx, Dn] | with_reducible (first | rfl | refine And.intro ?_ ?_ | intro _ | contradiction) | omega | refine cH (by decide) ?_ | (simp (disch := omega) only [wrap64, cS, cZ, List.length_append, List.length_cons, List.length_nil] <;> omega) | (simp_all [dQ, eL, cr, dX] <;> omega))
instance yL {a b} : jt (R.cF a b) (fun r => (0 ≤ r.2 ∧ r.2 ≤ 5) ∧ r.1.1 ≠ 6) := by
  unfold R.cF
  refine ⟨?_⟩
  repeat' (first | with_reducible (first | refine aE ?_ | refine aL fun _ => ?_ | refine fN ?_ | refine kg (fun _ => ?_) fun _ => ?_ | refine kZ (fun _ => ?_) fun _ => ?_ | refine iW (fun _ => ?_) fun _ => ?_ | refine al rfl ?_ | refine aJ rfl ?_ | refine cj (fun _ => ?_) fun _ => ?_ | refine lJ ?_ | refine lI ?_ | refine jZ ?_ | refine q_e ?_ | refine q_p fun _ _ => ?_ | refine q_b fun _ => ?_ | refine cG ?_ ?_ fun _ _ _ => ?_ | refine ee ?_ ?_ fun _ _ _ => ?_ | refine iZ ?_ | refine jw ?_ ?_ | refine kp ?_ ?_ | refine lF ?_ ?_ | refine n_d ?_ ?_ | refine jS (fun _ => ?_) fun _ => ?_ | exact safe | refine aa ?_) | exact trivial | dsimp only [Nx, Dn] | with_reducible (first | rfl | refine And.intro ?_ ?_ | intro _ | contradiction) | omega | refine cH (by decide) ?_ | (simp (disch := omega) only [wrap64, cS, cZ, List.length_append, List.length_cons, List.length_nil] <;> omega) | (simp_all [dQ, eL, cr, dX] <;> omega))
instance zS {a b} : jt (R.ba a b) (fun r => (0 ≤ r.2 ∧ r.2 ≤ 5) ∧ r.1.1 ≠ 6) := by
  unfold R.ba
  refine ⟨?_⟩
  repeat' (first | with_reducible (first | refine aE ?_ | refine aL fun _ => ?_ | refine fN ?_ | refine kg (fun _ => ?_) fun _ => ?_ | refine kZ (fun _ => ?_) fun _ => ?_ | refine iW (fun _ => ?_) fun _ => ?_ | refine al rfl ?_ | refine aJ rfl ?_ | refine cj (fun _ => ?_) fun _ => ?_ | refine lJ ?_ | refine lI ?_ | refine jZ ?_ | refine q_e ?_ | refine q_p fun _ _ => ?_ | refine q_b fun _ => ?_ | refine cG ?_ ?_ fun _ _ _ => ?_ | refine ee ?_ ?_ fun _ _ _ => ?_ | refine iZ ?_ | refine jw ?_ ?_ | refine kp ?_ ?_ | refine lF ?_ ?_ | refine n_d ?_ ?_ | refine jS (fun _ => ?_) fun _ => ?_ | exact safe | refine aa ?_) | exact trivial | dsimp only [Nx, Dn] | with_reducible (first | rfl | refine And.intro ?_ ?_ | intro _ | contradiction) | omega | refine cH (by decide) ?_ | (simp (disch := omega) only [wrap64, cS, cZ, List.length_append, List.length_cons, List.length_nil] <;> omega) | (simp_all [dQ, eL, cr, dX] <;> omega))
end Go.Mach
set_option maxRecDepth 1000000
namespace Go.Mach
open Res
theorem w_nof {α β : Type} {Q : β → Prop} {m m' : Res α} {k : α → Res β} (e : m = m') (h : ¬ m'.facts) : (m.bind k).sat Q := e ▸ aa (kN h)
theorem uz {α : Type} {m : Res α} {P : α → Prop} (h : m.sat P) : ¬ m.facts ∨ ∃ u, m.strip = some u ∧ P u := by
  by_cases hf : m.facts
  · obtain ⟨u, h1, h2⟩ := oL h hf
    exact .inr ⟨u, h1, h2⟩
  · exact .inl hf
theorem zW {v : jJ} (hv : v.1 ≠ 6) : (R.bt v).sat (fun r => r.2 = 0) := by
  unfold R.bt
  have hc : (R.bF v).sat (fun c => qC c ∧ c.1 ≠ 6) := by
    unfold R.bF
    refine aL fun _ => aW sQ fun r hr => cj (fun _ => aE ⟨.und, by simp⟩) fun h => aE ⟨hr ?_, hv⟩
    cases r
    · cases h
    · rfl
  have e : ∀ r : List Int, (given (aq.g.o r) (Res.ok ((r, (0 : Int))))).sat (fun r : List Int × Int => r.2 = 0) := fun r => aL fun _ => aE rfl
  refine aL fun _ => aW hc fun c ⟨hm, h6⟩ => aL fun _ => ?_
  cases hm with
  | und => exact al rfl (aW (bu (by decide)) fun r _ => e r)
  | null => exact aJ rfl (al rfl (aW (bu (by decide)) fun r _ => e r))
  | wo b hb => exact aJ rfl (aJ rfl (al rfl (cj (fun _ => aW (bu (by decide)) fun r _ => e r) fun _ => aW (bu (by decide)) fun r _ => e r)))
  | num n hn => exact aJ rfl (aJ rfl (aJ rfl (al rfl (q_p fun t ht => aL fun _ => aW (bu ht) fun r _ => e r))))
  | big b hb => exact aJ rfl (aJ rfl (aJ rfl (aJ rfl (al rfl (q_p fun t ht => aL fun _ => aW (bu ht) fun r _ => e r)))))
  | str s hs => exact aJ rfl (aJ rfl (aJ rfl (aJ rfl (aJ rfl (al rfl (aT (a := s) rfl (aL fun _ => aE rfl)))))))
  | obj r hr => exact absurd rfl h6
abbrev asks (l : List Int) : de.den × fZ.den := ((11, (0, (0, (0, (0, (false, (false, (0, (0, ((0, 0), (l, 0))))))))))), (0, []))
abbrev uj (s : Int) : List Int := if s = 1 then [84, 121, 112, 101, 69, 114, 114, 111, 114] else if s = 2 then [82, 97, 110, 103, 101, 69, 114, 114, 111, 114] else if s = 4 then [82, 101, 102, 101, 114, 101, 110, 99, 101, 69, 114, 114, 111, 114] else [83, 121, 110, 116, 97, 120, 69, 114, 114, 111, 114]
inductive Out (v : jJ) : Int → de.den × fZ.den → Prop
  | asks (l : List Int) : (R.bt v).strip = some (l, 0) → Out v 0 (asks l)
  | exit (q : de.den) (e : List Int) : Out v 3 (q, (3, e))
  | sY (q : de.den) (s : Int) : s = 1 ∨ s = 2 ∨ s = 4 ∨ s = 5 → Out v s (q, (2, uj s))
theorem xn {s : Int} (h : 0 ≤ s ∧ s ≤ 5) : s = 0 ∨ s = 1 ∨ s = 2 ∨ s = 3 ∨ s = 4 ∨ s = 5 := by omega
theorem xw {v : jJ} {s : Int} {r : de.den × fZ.den} (h : Out v s r) : (R.eG r.1 r.2 v s).sat (· = true) := by
  cases h with
  | asks l hu =>
    unfold R.eG
    exact aL fun _ => al rfl (aT (dh hu rfl) (aL fun _ => al rfl (al rfl (al rfl (aT wJ (aE rfl))))))
  | exit q e => exact ey (by kernel_rfl)
  | sY q s hs => rcases hs with rfl | rfl | rfl | rfl <;> exact ey (by kernel_rfl)
theorem y9 {t : List kW} {P : de.den × fZ.den → Prop} (hm : (R.fQ t).sat (· = true)) (hl : t.length ≤ 4096) (hb : wm t = true) (hr : (R.bZ t (20, (20, 50)) []).sat P) : (R.fl t (20, (20, 50)) []).sat P := yE (vo hl hm hb) hr
end Go.Mach
set_option maxRecDepth 1000000
namespace Go.Mach
open Res
abbrev un (op : List UInt8) (x0 : kW) : List kW := [nd 1 [] [1], nd 3 [] [2], nd 50 [] [3, 6], nd 52 [114, 101, 112, 111, 114, 116] [4], nd 52 [97, 103, 101, 110, 116] [5], nd 33 [36, 50, 54, 50] [], nd 43 op [7], x0]
theorem zn {op} {x0 : kW} {a0 : jJ} (h0 : lT x0 a0) : ub (un op x0) = true := by cases h0 <;> kernel_rfl
theorem zb {op} {x0 : kW} {a0 : jJ} (h0 : lT x0 a0) : wm (un op x0) = true := by cases h0 <;> kernel_rfl
theorem un_n {op : List UInt8} {x0 : kW} {a0 : jJ} (h0 : lT x0 a0) (ho : (op == [116, 121, 112, 101, 111, 102]) = false) {Q} (hn : ¬ (R.ba op a0).facts) : (R.bZ (un op x0) (20, (20, 50)) []).sat (Q) := by
  unfold R.bZ R.bU
  obtain ⟨k, hk⟩ := ll
  rw [hk]
  with_reducible refine aC ?_
  with_reducible refine aV (by kernel_rfl) ?_
  with_reducible refine aC ?_
  with_reducible refine aa ?_
  with_reducible refine aC ?_
  with_reducible refine aV (by kernel_rfl) ?_
  with_reducible refine aC ?_
  with_reducible refine aJ (by kernel_rfl) ?_
  with_reducible refine aV (by kernel_rfl) ?_
  with_reducible refine aC ?_
  with_reducible refine aJ (by kernel_rfl) ?_
  with_reducible refine dB (by kernel_rfl) (by kernel_rfl) ?_
  with_reducible refine gj ?_; delta R.eval_run_list
  with_reducible refine aC ?_
  with_reducible refine aa ?_
  with_reducible refine jz hk ?_
  with_reducible refine al (by kernel_rfl) ?_
  with_reducible refine dB (by kernel_rfl) (by kernel_rfl) ?_
  with_reducible refine ej ?_; delta R.eval_run_statement
  with_reducible refine aC ?_
  with_reducible refine aV (by kernel_rfl) ?_
  with_reducible refine aC ?_
  with_reducible refine aJ (by kernel_rfl) ?_
  with_reducible refine iI ?_; delta R.eval_run_act
  with_reducible refine aC ?_
  with_reducible refine dB (by kernel_rfl) (by kernel_rfl) ?_
  with_reducible refine al (by kernel_rfl) ?_
  with_reducible refine dB (by kernel_rfl) (by kernel_rfl) ?_
  with_reducible refine aj ?_; delta R.eval_run_expression
  with_reducible refine aC ?_
  with_reducible refine aV (by kernel_rfl) ?_
  with_reducible refine aC ?_
  with_reducible refine aJ (by kernel_rfl) ?_
  with_reducible refine cb ?_; delta R.eval_run_value
  with_reducible refine aC ?_
  with_reducible refine dB (by kernel_rfl) (by kernel_rfl) ?_
  iterate 4 (with_reducible refine aJ (by kernel_rfl) ?_)
  with_reducible refine aV (by kernel_rfl) ?_
  iterate 5 (with_reducible refine aJ (by kernel_rfl) ?_)
  with_reducible refine aV (by kernel_rfl) ?_
  with_reducible refine aJ (by kernel_rfl) ?_
  with_reducible refine bY ?_; delta R.eval_run_operation
  with_reducible refine aC ?_
  with_reducible refine aJ (by kernel_rfl) ?_
  with_reducible refine aV (by kernel_rfl) ?_
  iterate 5 (with_reducible refine aJ (by kernel_rfl) ?_)
  with_reducible refine al (by kernel_rfl) ?_
  with_reducible refine gC ?_; delta R.eval_run_callee
  with_reducible refine aC ?_
  with_reducible refine dB (by kernel_rfl) (by kernel_rfl) ?_
  with_reducible refine aV (by kernel_rfl) ?_
  with_reducible refine aC ?_
  with_reducible refine aJ (by kernel_rfl) ?_
  with_reducible refine cH (by kernel_rfl) ?_
  with_reducible refine eh ?_; delta R.eval_run_arguments
  with_reducible refine aC ?_
  with_reducible refine aa ?_
  with_reducible refine jz hk ?_
  with_reducible refine al (by kernel_rfl) ?_
  with_reducible refine dB (by kernel_rfl) (by kernel_rfl) ?_
  with_reducible refine aj ?_; delta R.eval_run_expression
  with_reducible refine aC ?_
  with_reducible refine aV (by kernel_rfl) ?_
  with_reducible refine aC ?_
  with_reducible refine aJ (by kernel_rfl) ?_
  with_reducible refine cb ?_; delta R.eval_run_value
  with_reducible refine aC ?_
  with_reducible refine dB (by kernel_rfl) (by kernel_rfl) ?_
  iterate 4 (with_reducible refine aJ (by kernel_rfl) ?_)
  with_reducible refine aV (by kernel_rfl) ?_
  iterate 5 (with_reducible refine aJ (by kernel_rfl) ?_)
  with_reducible refine aV (by kernel_rfl) ?_
  with_reducible refine aJ (by kernel_rfl) ?_
  with_reducible refine bY ?_; delta R.eval_run_operation
  with_reducible refine aC ?_
  with_reducible refine al (by kernel_rfl) ?_
  with_reducible refine dB (by kernel_rfl) (by kernel_rfl) ?_
  with_reducible refine gO ?_; delta R.eval_run_unary
  with_reducible refine aC ?_
  with_reducible refine fN ?_
  with_reducible refine mD ho (by kernel_rfl) ?_
  with_reducible refine aj ?_; delta R.eval_run_expression
  with_reducible refine aC ?_
  with_reducible refine aV (by kernel_rfl) ?_
  with_reducible refine aC ?_
  with_reducible refine aJ (by kernel_rfl) ?_
  with_reducible refine ql h0 (by kernel_rfl) (by kernel_rfl) ?_
  with_reducible refine aC ?_
  with_reducible refine aE ?_
  with_reducible refine aC ?_
  with_reducible refine aJ (by kernel_rfl) ?_
  with_reducible exact w_nof (m' := R.ba op a0) (by kernel_rfl) hn
theorem un_1 {op : List UInt8} {x0 : kW} {a0 : jJ} (h0 : lT x0 a0) (ho : (op == [116, 121, 112, 101, 111, 102]) = false) {v : jJ} (hv : (R.ba op a0).strip = some (v, 1)) : (R.bZ (un op x0) (20, (20, 50)) []).sat (fun r => r = (sr, (2, uj 1))) := by
  unfold R.bZ R.bU
  obtain ⟨k, hk⟩ := ll
  rw [hk]
  with_reducible refine aC ?_
  with_reducible refine aV (by kernel_rfl) ?_
  with_reducible refine aC ?_
  with_reducible refine aa ?_
  with_reducible refine aC ?_
  with_reducible refine aV (by kernel_rfl) ?_
  with_reducible refine aC ?_
  with_reducible refine aJ (by kernel_rfl) ?_
  with_reducible refine aV (by kernel_rfl) ?_
  with_reducible refine aC ?_
  with_reducible refine aJ (by kernel_rfl) ?_
  with_reducible refine dB (by kernel_rfl) (by kernel_rfl) ?_
  with_reducible refine gj ?_; delta R.eval_run_list
  with_reducible refine aC ?_
  with_reducible refine aa ?_
  with_reducible refine jz hk ?_
  with_reducible refine al (by kernel_rfl) ?_
  with_reducible refine dB (by kernel_rfl) (by kernel_rfl) ?_
  with_reducible refine ej ?_; delta R.eval_run_statement
  with_reducible refine aC ?_
  with_reducible refine aV (by kernel_rfl) ?_
  with_reducible refine aC ?_
  with_reducible refine aJ (by kernel_rfl) ?_
  with_reducible refine iI ?_; delta R.eval_run_act
  with_reducible refine aC ?_
  with_reducible refine dB (by kernel_rfl) (by kernel_rfl) ?_
  with_reducible refine al (by kernel_rfl) ?_
  with_reducible refine dB (by kernel_rfl) (by kernel_rfl) ?_
  with_reducible refine aj ?_; delta R.eval_run_expression
  with_reducible refine aC ?_
  with_reducible refine aV (by kernel_rfl) ?_
  with_reducible refine aC ?_
  with_reducible refine aJ (by kernel_rfl) ?_
  with_reducible refine cb ?_; delta R.eval_run_value
  with_reducible refine aC ?_
  with_reducible refine dB (by kernel_rfl) (by kernel_rfl) ?_
  iterate 4 (with_reducible refine aJ (by kernel_rfl) ?_)
  with_reducible refine aV (by kernel_rfl) ?_
  iterate 5 (with_reducible refine aJ (by kernel_rfl) ?_)
  with_reducible refine aV (by kernel_rfl) ?_
  with_reducible refine aJ (by kernel_rfl) ?_
  with_reducible refine bY ?_; delta R.eval_run_operation
  with_reducible refine aC ?_
  with_reducible refine aJ (by kernel_rfl) ?_
  with_reducible refine aV (by kernel_rfl) ?_
  iterate 5 (with_reducible refine aJ (by kernel_rfl) ?_)
  with_reducible refine al (by kernel_rfl) ?_
  with_reducible refine gC ?_; delta R.eval_run_callee
  with_reducible refine aC ?_
  with_reducible refine dB (by kernel_rfl) (by kernel_rfl) ?_
  with_reducible refine aV (by kernel_rfl) ?_
  with_reducible refine aC ?_
  with_reducible refine aJ (by kernel_rfl) ?_
  with_reducible refine cH (by kernel_rfl) ?_
  with_reducible refine eh ?_; delta R.eval_run_arguments
  with_reducible refine aC ?_
  with_reducible refine aa ?_
  with_reducible refine jz hk ?_
  with_reducible refine al (by kernel_rfl) ?_
  with_reducible refine dB (by kernel_rfl) (by kernel_rfl) ?_
  with_reducible refine aj ?_; delta R.eval_run_expression
  with_reducible refine aC ?_
  with_reducible refine aV (by kernel_rfl) ?_
  with_reducible refine aC ?_
  with_reducible refine aJ (by kernel_rfl) ?_
  with_reducible refine cb ?_; delta R.eval_run_value
  with_reducible refine aC ?_
  with_reducible refine dB (by kernel_rfl) (by kernel_rfl) ?_
  iterate 4 (with_reducible refine aJ (by kernel_rfl) ?_)
  with_reducible refine aV (by kernel_rfl) ?_
  iterate 5 (with_reducible refine aJ (by kernel_rfl) ?_)
  with_reducible refine aV (by kernel_rfl) ?_
  with_reducible refine aJ (by kernel_rfl) ?_
  with_reducible refine bY ?_; delta R.eval_run_operation
  with_reducible refine aC ?_
  with_reducible refine al (by kernel_rfl) ?_
  with_reducible refine dB (by kernel_rfl) (by kernel_rfl) ?_
  with_reducible refine gO ?_; delta R.eval_run_unary
  with_reducible refine aC ?_
  with_reducible refine fN ?_
  with_reducible refine mD ho (by kernel_rfl) ?_
  with_reducible refine aj ?_; delta R.eval_run_expression
  with_reducible refine aC ?_
  with_reducible refine aV (by kernel_rfl) ?_
  with_reducible refine aC ?_
  with_reducible refine aJ (by kernel_rfl) ?_
  with_reducible refine ql h0 (by kernel_rfl) (by kernel_rfl) ?_
  with_reducible refine aC ?_
  with_reducible refine aE ?_
  with_reducible refine aC ?_
  with_reducible refine aJ (by kernel_rfl) ?_
  with_reducible refine mJ (m' := R.ba op a0) (by kernel_rfl) (dh hv rfl) ?_
  with_reducible refine aC ?_
  with_reducible refine aV (by kernel_rfl) ?_
  with_reducible refine aC ?_
  with_reducible refine aE ?_
  with_reducible refine aC ?_
  with_reducible refine aE ?_
  with_reducible refine aC ?_
  with_reducible refine aE ?_
  with_reducible refine aC ?_
  with_reducible refine aE ?_
  with_reducible refine aC ?_
  with_reducible refine al (by kernel_rfl) ?_
  with_reducible refine aE ?_
  with_reducible refine kz ?_
  with_reducible refine nk (by kernel_rfl) ?_
  with_reducible refine aE ?_
  with_reducible refine aC ?_
  with_reducible refine al (by kernel_rfl) ?_
  with_reducible refine aE ?_
  with_reducible refine aC ?_
  with_reducible refine aE ?_
  with_reducible refine aC ?_
  with_reducible refine aE ?_
  with_reducible refine aC ?_
  with_reducible refine aE ?_
  with_reducible refine aC ?_
  with_reducible refine al (by kernel_rfl) ?_
  with_reducible refine aE ?_
  with_reducible refine aC ?_
  with_reducible refine aE ?_
  with_reducible refine aC ?_
  with_reducible refine al (by kernel_rfl) ?_
  with_reducible refine aE ?_
  with_reducible refine kz ?_
  with_reducible refine nk (by kernel_rfl) ?_
  with_reducible refine aE ?_
  with_reducible refine aC ?_
  with_reducible refine aE ?_
  with_reducible refine aC ?_
  with_reducible refine aJ (by kernel_rfl) ?_
  with_reducible refine al (by kernel_rfl) ?_
  with_reducible refine aV (by kernel_rfl) ?_
  with_reducible refine aC ?_
  with_reducible refine aE ?_
  kernel_rfl
theorem un_2 {op : List UInt8} {x0 : kW} {a0 : jJ} (h0 : lT x0 a0) (ho : (op == [116, 121, 112, 101, 111, 102]) = false) {v : jJ} (hv : (R.ba op a0).strip = some (v, 2)) : (R.bZ (un op x0) (20, (20, 50)) []).sat (fun r => r = (sr, (2, uj 2))) := by
  unfold R.bZ R.bU
  obtain ⟨k, hk⟩ := ll
  rw [hk]
  with_reducible refine aC ?_
  with_reducible refine aV (by kernel_rfl) ?_
  with_reducible refine aC ?_
  with_reducible refine aa ?_
  with_reducible refine aC ?_
  with_reducible refine aV (by kernel_rfl) ?_
  with_reducible refine aC ?_
  with_reducible refine aJ (by kernel_rfl) ?_
  with_reducible refine aV (by kernel_rfl) ?_
  with_reducible refine aC ?_
  with_reducible refine aJ (by kernel_rfl) ?_
  with_reducible refine dB (by kernel_rfl) (by kernel_rfl) ?_
  with_reducible refine gj ?_; delta R.eval_run_list
  with_reducible refine aC ?_
  with_reducible refine aa ?_
  with_reducible refine jz hk ?_
  with_reducible refine al (by kernel_rfl) ?_
  with_reducible refine dB (by kernel_rfl) (by kernel_rfl) ?_
  with_reducible refine ej ?_; delta R.eval_run_statement
  with_reducible refine aC ?_
  with_reducible refine aV (by kernel_rfl) ?_
  with_reducible refine aC ?_
  with_reducible refine aJ (by kernel_rfl) ?_
  with_reducible refine iI ?_; delta R.eval_run_act
  with_reducible refine aC ?_
  with_reducible refine dB (by kernel_rfl) (by kernel_rfl) ?_
  with_reducible refine al (by kernel_rfl) ?_
  with_reducible refine dB (by kernel_rfl) (by kernel_rfl) ?_
  with_reducible refine aj ?_; delta R.eval_run_expression
  with_reducible refine aC ?_
  with_reducible refine aV (by kernel_rfl) ?_
  with_reducible refine aC ?_
  with_reducible refine aJ (by kernel_rfl) ?_
  with_reducible refine cb ?_; delta R.eval_run_value
  with_reducible refine aC ?_
  with_reducible refine dB (by kernel_rfl) (by kernel_rfl) ?_
  iterate 4 (with_reducible refine aJ (by kernel_rfl) ?_)
  with_reducible refine aV (by kernel_rfl) ?_
  iterate 5 (with_reducible refine aJ (by kernel_rfl) ?_)
  with_reducible refine aV (by kernel_rfl) ?_
  with_reducible refine aJ (by kernel_rfl) ?_
  with_reducible refine bY ?_; delta R.eval_run_operation
  with_reducible refine aC ?_
  with_reducible refine aJ (by kernel_rfl) ?_
  with_reducible refine aV (by kernel_rfl) ?_
  iterate 5 (with_reducible refine aJ (by kernel_rfl) ?_)
  with_reducible refine al (by kernel_rfl) ?_
  with_reducible refine gC ?_; delta R.eval_run_callee
  with_reducible refine aC ?_
  with_reducible refine dB (by kernel_rfl) (by kernel_rfl) ?_
  with_reducible refine aV (by kernel_rfl) ?_
  with_reducible refine aC ?_
  with_reducible refine aJ (by kernel_rfl) ?_
  with_reducible refine cH (by kernel_rfl) ?_
  with_reducible refine eh ?_; delta R.eval_run_arguments
  with_reducible refine aC ?_
  with_reducible refine aa ?_
  with_reducible refine jz hk ?_
  with_reducible refine al (by kernel_rfl) ?_
  with_reducible refine dB (by kernel_rfl) (by kernel_rfl) ?_
  with_reducible refine aj ?_; delta R.eval_run_expression
  with_reducible refine aC ?_
  with_reducible refine aV (by kernel_rfl) ?_
  with_reducible refine aC ?_
  with_reducible refine aJ (by kernel_rfl) ?_
  with_reducible refine cb ?_; delta R.eval_run_value
  with_reducible refine aC ?_
  with_reducible refine dB (by kernel_rfl) (by kernel_rfl) ?_
  iterate 4 (with_reducible refine aJ (by kernel_rfl) ?_)
  with_reducible refine aV (by kernel_rfl) ?_
  iterate 5 (with_reducible refine aJ (by kernel_rfl) ?_)
  with_reducible refine aV (by kernel_rfl) ?_
  with_reducible refine aJ (by kernel_rfl) ?_
  with_reducible refine bY ?_; delta R.eval_run_operation
  with_reducible refine aC ?_
  with_reducible refine al (by kernel_rfl) ?_
  with_reducible refine dB (by kernel_rfl) (by kernel_rfl) ?_
  with_reducible refine gO ?_; delta R.eval_run_unary
  with_reducible refine aC ?_
  with_reducible refine fN ?_
  with_reducible refine mD ho (by kernel_rfl) ?_
  with_reducible refine aj ?_; delta R.eval_run_expression
  with_reducible refine aC ?_
  with_reducible refine aV (by kernel_rfl) ?_
  with_reducible refine aC ?_
  with_reducible refine aJ (by kernel_rfl) ?_
  with_reducible refine ql h0 (by kernel_rfl) (by kernel_rfl) ?_
  with_reducible refine aC ?_
  with_reducible refine aE ?_
  with_reducible refine aC ?_
  with_reducible refine aJ (by kernel_rfl) ?_
  with_reducible refine mJ (m' := R.ba op a0) (by kernel_rfl) (dh hv rfl) ?_
  with_reducible refine aC ?_
  with_reducible refine aV (by kernel_rfl) ?_
  with_reducible refine aC ?_
  with_reducible refine aE ?_
  with_reducible refine aC ?_
  with_reducible refine aE ?_
  with_reducible refine aC ?_
  with_reducible refine aE ?_
  with_reducible refine aC ?_
  with_reducible refine aE ?_
  with_reducible refine aC ?_
  with_reducible refine al (by kernel_rfl) ?_
  with_reducible refine aE ?_
  with_reducible refine kz ?_
  with_reducible refine nk (by kernel_rfl) ?_
  with_reducible refine aE ?_
  with_reducible refine aC ?_
  with_reducible refine al (by kernel_rfl) ?_
  with_reducible refine aE ?_
  with_reducible refine aC ?_
  with_reducible refine aE ?_
  with_reducible refine aC ?_
  with_reducible refine aE ?_
  with_reducible refine aC ?_
  with_reducible refine aE ?_
  with_reducible refine aC ?_
  with_reducible refine al (by kernel_rfl) ?_
  with_reducible refine aE ?_
  with_reducible refine aC ?_
  with_reducible refine aE ?_
  with_reducible refine aC ?_
  with_reducible refine al (by kernel_rfl) ?_
  with_reducible refine aE ?_
  with_reducible refine kz ?_
  with_reducible refine nk (by kernel_rfl) ?_
  with_reducible refine aE ?_
  with_reducible refine aC ?_
  with_reducible refine aE ?_
  with_reducible refine aC ?_
  with_reducible refine aJ (by kernel_rfl) ?_
  with_reducible refine al (by kernel_rfl) ?_
  with_reducible refine aV (by kernel_rfl) ?_
  with_reducible refine aC ?_
  with_reducible refine aE ?_
  kernel_rfl
theorem un_3 {op : List UInt8} {x0 : kW} {a0 : jJ} (h0 : lT x0 a0) (ho : (op == [116, 121, 112, 101, 111, 102]) = false) {v : jJ} (hv : (R.ba op a0).strip = some (v, 3)) : (R.bZ (un op x0) (20, (20, 50)) []).sat (fun r => r = (sr, (3, []))) := by
  unfold R.bZ R.bU
  obtain ⟨k, hk⟩ := ll
  rw [hk]
  with_reducible refine aC ?_
  with_reducible refine aV (by kernel_rfl) ?_
  with_reducible refine aC ?_
  with_reducible refine aa ?_
  with_reducible refine aC ?_
  with_reducible refine aV (by kernel_rfl) ?_
  with_reducible refine aC ?_
  with_reducible refine aJ (by kernel_rfl) ?_
  with_reducible refine aV (by kernel_rfl) ?_
  with_reducible refine aC ?_
  with_reducible refine aJ (by kernel_rfl) ?_
  with_reducible refine dB (by kernel_rfl) (by kernel_rfl) ?_
  with_reducible refine gj ?_; delta R.eval_run_list
  with_reducible refine aC ?_
  with_reducible refine aa ?_
  with_reducible refine jz hk ?_
  with_reducible refine al (by kernel_rfl) ?_
  with_reducible refine dB (by kernel_rfl) (by kernel_rfl) ?_
  with_reducible refine ej ?_; delta R.eval_run_statement
  with_reducible refine aC ?_
  with_reducible refine aV (by kernel_rfl) ?_
  with_reducible refine aC ?_
  with_reducible refine aJ (by kernel_rfl) ?_
  with_reducible refine iI ?_; delta R.eval_run_act
  with_reducible refine aC ?_
  with_reducible refine dB (by kernel_rfl) (by kernel_rfl) ?_
  with_reducible refine al (by kernel_rfl) ?_
  with_reducible refine dB (by kernel_rfl) (by kernel_rfl) ?_
  with_reducible refine aj ?_; delta R.eval_run_expression
  with_reducible refine aC ?_
  with_reducible refine aV (by kernel_rfl) ?_
  with_reducible refine aC ?_
  with_reducible refine aJ (by kernel_rfl) ?_
  with_reducible refine cb ?_; delta R.eval_run_value
  with_reducible refine aC ?_
  with_reducible refine dB (by kernel_rfl) (by kernel_rfl) ?_
  iterate 4 (with_reducible refine aJ (by kernel_rfl) ?_)
  with_reducible refine aV (by kernel_rfl) ?_
  iterate 5 (with_reducible refine aJ (by kernel_rfl) ?_)
  with_reducible refine aV (by kernel_rfl) ?_
  with_reducible refine aJ (by kernel_rfl) ?_
  with_reducible refine bY ?_; delta R.eval_run_operation
  with_reducible refine aC ?_
  with_reducible refine aJ (by kernel_rfl) ?_
  with_reducible refine aV (by kernel_rfl) ?_
  iterate 5 (with_reducible refine aJ (by kernel_rfl) ?_)
  with_reducible refine al (by kernel_rfl) ?_
  with_reducible refine gC ?_; delta R.eval_run_callee
  with_reducible refine aC ?_
  with_reducible refine dB (by kernel_rfl) (by kernel_rfl) ?_
  with_reducible refine aV (by kernel_rfl) ?_
  with_reducible refine aC ?_
  with_reducible refine aJ (by kernel_rfl) ?_
  with_reducible refine cH (by kernel_rfl) ?_
  with_reducible refine eh ?_; delta R.eval_run_arguments
  with_reducible refine aC ?_
  with_reducible refine aa ?_
  with_reducible refine jz hk ?_
  with_reducible refine al (by kernel_rfl) ?_
  with_reducible refine dB (by kernel_rfl) (by kernel_rfl) ?_
  with_reducible refine aj ?_; delta R.eval_run_expression
  with_reducible refine aC ?_
  with_reducible refine aV (by kernel_rfl) ?_
  with_reducible refine aC ?_
  with_reducible refine aJ (by kernel_rfl) ?_
  with_reducible refine cb ?_; delta R.eval_run_value
  with_reducible refine aC ?_
  with_reducible refine dB (by kernel_rfl) (by kernel_rfl) ?_
  iterate 4 (with_reducible refine aJ (by kernel_rfl) ?_)
  with_reducible refine aV (by kernel_rfl) ?_
  iterate 5 (with_reducible refine aJ (by kernel_rfl) ?_)
  with_reducible refine aV (by kernel_rfl) ?_
  with_reducible refine aJ (by kernel_rfl) ?_
  with_reducible refine bY ?_; delta R.eval_run_operation
  with_reducible refine aC ?_
  with_reducible refine al (by kernel_rfl) ?_
  with_reducible refine dB (by kernel_rfl) (by kernel_rfl) ?_
  with_reducible refine gO ?_; delta R.eval_run_unary
  with_reducible refine aC ?_
  with_reducible refine fN ?_
  with_reducible refine mD ho (by kernel_rfl) ?_
  with_reducible refine aj ?_; delta R.eval_run_expression
  with_reducible refine aC ?_
  with_reducible refine aV (by kernel_rfl) ?_
  with_reducible refine aC ?_
  with_reducible refine aJ (by kernel_rfl) ?_
  with_reducible refine ql h0 (by kernel_rfl) (by kernel_rfl) ?_
  with_reducible refine aC ?_
  with_reducible refine aE ?_
  with_reducible refine aC ?_
  with_reducible refine aJ (by kernel_rfl) ?_
  with_reducible refine mJ (m' := R.ba op a0) (by kernel_rfl) (dh hv rfl) ?_
  with_reducible refine aC ?_
  with_reducible refine aV (by kernel_rfl) ?_
  with_reducible refine aC ?_
  with_reducible refine aE ?_
  with_reducible refine aC ?_
  with_reducible refine aE ?_
  with_reducible refine aC ?_
  with_reducible refine aE ?_
  with_reducible refine aC ?_
  with_reducible refine aE ?_
  with_reducible refine aC ?_
  with_reducible refine al (by kernel_rfl) ?_
  with_reducible refine aE ?_
  with_reducible refine kz ?_
  with_reducible refine nk (by kernel_rfl) ?_
  with_reducible refine aE ?_
  with_reducible refine aC ?_
  with_reducible refine al (by kernel_rfl) ?_
  with_reducible refine aE ?_
  with_reducible refine aC ?_
  with_reducible refine aE ?_
  with_reducible refine aC ?_
  with_reducible refine aE ?_
  with_reducible refine aC ?_
  with_reducible refine aE ?_
  with_reducible refine aC ?_
  with_reducible refine al (by kernel_rfl) ?_
  with_reducible refine aE ?_
  with_reducible refine aC ?_
  with_reducible refine aE ?_
  with_reducible refine aC ?_
  with_reducible refine al (by kernel_rfl) ?_
  with_reducible refine aE ?_
  with_reducible refine kz ?_
  with_reducible refine nk (by kernel_rfl) ?_
  with_reducible refine aE ?_
  with_reducible refine aC ?_
  with_reducible refine aE ?_
  with_reducible refine aC ?_
  with_reducible refine al (by kernel_rfl) ?_
  with_reducible refine aE ?_
  kernel_rfl
theorem un_4 {op : List UInt8} {x0 : kW} {a0 : jJ} (h0 : lT x0 a0) (ho : (op == [116, 121, 112, 101, 111, 102]) = false) {v : jJ} (hv : (R.ba op a0).strip = some (v, 4)) : (R.bZ (un op x0) (20, (20, 50)) []).sat (fun r => r = (sr, (2, uj 4))) := by
  unfold R.bZ R.bU
  obtain ⟨k, hk⟩ := ll
  rw [hk]
  with_reducible refine aC ?_
  with_reducible refine aV (by kernel_rfl) ?_
  with_reducible refine aC ?_
  with_reducible refine aa ?_
  with_reducible refine aC ?_
  with_reducible refine aV (by kernel_rfl) ?_
  with_reducible refine aC ?_
  with_reducible refine aJ (by kernel_rfl) ?_
  with_reducible refine aV (by kernel_rfl) ?_
  with_reducible refine aC ?_
  with_reducible refine aJ (by kernel_rfl) ?_
  with_reducible refine dB (by kernel_rfl) (by kernel_rfl) ?_
  with_reducible refine gj ?_; delta R.eval_run_list
  with_reducible refine aC ?_
  with_reducible refine aa ?_
  with_reducible refine jz hk ?_
  with_reducible refine al (by kernel_rfl) ?_
  with_reducible refine dB (by kernel_rfl) (by kernel_rfl) ?_
  with_reducible refine ej ?_; delta R.eval_run_statement
  with_reducible refine aC ?_
  with_reducible refine aV (by kernel_rfl) ?_
  with_reducible refine aC ?_
  with_reducible refine aJ (by kernel_rfl) ?_
  with_reducible refine iI ?_; delta R.eval_run_act
  with_reducible refine aC ?_
  with_reducible refine dB (by kernel_rfl) (by kernel_rfl) ?_
  with_reducible refine al (by kernel_rfl) ?_
  with_reducible refine dB (by kernel_rfl) (by kernel_rfl) ?_
  with_reducible refine aj ?_; delta R.eval_run_expression
  with_reducible refine aC ?_
  with_reducible refine aV (by kernel_rfl) ?_
  with_reducible refine aC ?_
  with_reducible refine aJ (by kernel_rfl) ?_
  with_reducible refine cb ?_; delta R.eval_run_value
  with_reducible refine aC ?_
  with_reducible refine dB (by kernel_rfl) (by kernel_rfl) ?_
  iterate 4 (with_reducible refine aJ (by kernel_rfl) ?_)
  with_reducible refine aV (by kernel_rfl) ?_
  iterate 5 (with_reducible refine aJ (by kernel_rfl) ?_)
  with_reducible refine aV (by kernel_rfl) ?_
  with_reducible refine aJ (by kernel_rfl) ?_
  with_reducible refine bY ?_; delta R.eval_run_operation
  with_reducible refine aC ?_
  with_reducible refine aJ (by kernel_rfl) ?_
  with_reducible refine aV (by kernel_rfl) ?_
  iterate 5 (with_reducible refine aJ (by kernel_rfl) ?_)
  with_reducible refine al (by kernel_rfl) ?_
  with_reducible refine gC ?_; delta R.eval_run_callee
  with_reducible refine aC ?_
  with_reducible refine dB (by kernel_rfl) (by kernel_rfl) ?_
  with_reducible refine aV (by kernel_rfl) ?_
  with_reducible refine aC ?_
  with_reducible refine aJ (by kernel_rfl) ?_
  with_reducible refine cH (by kernel_rfl) ?_
  with_reducible refine eh ?_; delta R.eval_run_arguments
  with_reducible refine aC ?_
  with_reducible refine aa ?_
  with_reducible refine jz hk ?_
  with_reducible refine al (by kernel_rfl) ?_
  with_reducible refine dB (by kernel_rfl) (by kernel_rfl) ?_
  with_reducible refine aj ?_; delta R.eval_run_expression
  with_reducible refine aC ?_
  with_reducible refine aV (by kernel_rfl) ?_
  with_reducible refine aC ?_
  with_reducible refine aJ (by kernel_rfl) ?_
  with_reducible refine cb ?_; delta R.eval_run_value
  with_reducible refine aC ?_
  with_reducible refine dB (by kernel_rfl) (by kernel_rfl) ?_
  iterate 4 (with_reducible refine aJ (by kernel_rfl) ?_)
  with_reducible refine aV (by kernel_rfl) ?_
  iterate 5 (with_reducible refine aJ (by kernel_rfl) ?_)
  with_reducible refine aV (by kernel_rfl) ?_
  with_reducible refine aJ (by kernel_rfl) ?_
  with_reducible refine bY ?_; delta R.eval_run_operation
  with_reducible refine aC ?_
  with_reducible refine al (by kernel_rfl) ?_
  with_reducible refine dB (by kernel_rfl) (by kernel_rfl) ?_
  with_reducible refine gO ?_; delta R.eval_run_unary
  with_reducible refine aC ?_
  with_reducible refine fN ?_
  with_reducible refine mD ho (by kernel_rfl) ?_
  with_reducible refine aj ?_; delta R.eval_run_expression
  with_reducible refine aC ?_
  with_reducible refine aV (by kernel_rfl) ?_
  with_reducible refine aC ?_
  with_reducible refine aJ (by kernel_rfl) ?_
  with_reducible refine ql h0 (by kernel_rfl) (by kernel_rfl) ?_
  with_reducible refine aC ?_
  with_reducible refine aE ?_
  with_reducible refine aC ?_
  with_reducible refine aJ (by kernel_rfl) ?_
  with_reducible refine mJ (m' := R.ba op a0) (by kernel_rfl) (dh hv rfl) ?_
  with_reducible refine aC ?_
  with_reducible refine aV (by kernel_rfl) ?_
  with_reducible refine aC ?_
  with_reducible refine aE ?_
  with_reducible refine aC ?_
  with_reducible refine aE ?_
  with_reducible refine aC ?_
  with_reducible refine aE ?_
  with_reducible refine aC ?_
  with_reducible refine aE ?_
  with_reducible refine aC ?_
  with_reducible refine al (by kernel_rfl) ?_
  with_reducible refine aE ?_
  with_reducible refine kz ?_
  with_reducible refine nk (by kernel_rfl) ?_
  with_reducible refine aE ?_
  with_reducible refine aC ?_
  with_reducible refine al (by kernel_rfl) ?_
  with_reducible refine aE ?_
  with_reducible refine aC ?_
  with_reducible refine aE ?_
  with_reducible refine aC ?_
  with_reducible refine aE ?_
  with_reducible refine aC ?_
  with_reducible refine aE ?_
  with_reducible refine aC ?_
  with_reducible refine al (by kernel_rfl) ?_
  with_reducible refine aE ?_
  with_reducible refine aC ?_
  with_reducible refine aE ?_
  with_reducible refine aC ?_
  with_reducible refine al (by kernel_rfl) ?_
  with_reducible refine aE ?_
  with_reducible refine kz ?_
  with_reducible refine nk (by kernel_rfl) ?_
  with_reducible refine aE ?_
  with_reducible refine aC ?_
  with_reducible refine aE ?_
  with_reducible refine aC ?_
  with_reducible refine aJ (by kernel_rfl) ?_
  with_reducible refine al (by kernel_rfl) ?_
  with_reducible refine aV (by kernel_rfl) ?_
  with_reducible refine aC ?_
  with_reducible refine aE ?_
  kernel_rfl
theorem un_5 {op : List UInt8} {x0 : kW} {a0 : jJ} (h0 : lT x0 a0) (ho : (op == [116, 121, 112, 101, 111, 102]) = false) {v : jJ} (hv : (R.ba op a0).strip = some (v, 5)) : (R.bZ (un op x0) (20, (20, 50)) []).sat (fun r => r = (sr, (2, uj 5))) := by
  unfold R.bZ R.bU
  obtain ⟨k, hk⟩ := ll
  rw [hk]
  with_reducible refine aC ?_
  with_reducible refine aV (by kernel_rfl) ?_
  with_reducible refine aC ?_
  with_reducible refine aa ?_
  with_reducible refine aC ?_
  with_reducible refine aV (by kernel_rfl) ?_
  with_reducible refine aC ?_
  with_reducible refine aJ (by kernel_rfl) ?_
  with_reducible refine aV (by kernel_rfl) ?_
  with_reducible refine aC ?_
  with_reducible refine aJ (by kernel_rfl) ?_
  with_reducible refine dB (by kernel_rfl) (by kernel_rfl) ?_
  with_reducible refine gj ?_; delta R.eval_run_list
  with_reducible refine aC ?_
  with_reducible refine aa ?_
  with_reducible refine jz hk ?_
  with_reducible refine al (by kernel_rfl) ?_
  with_reducible refine dB (by kernel_rfl) (by kernel_rfl) ?_
  with_reducible refine ej ?_; delta R.eval_run_statement
  with_reducible refine aC ?_
  with_reducible refine aV (by kernel_rfl) ?_
  with_reducible refine aC ?_
  with_reducible refine aJ (by kernel_rfl) ?_
  with_reducible refine iI ?_; delta R.eval_run_act
  with_reducible refine aC ?_
  with_reducible refine dB (by kernel_rfl) (by kernel_rfl) ?_
  with_reducible refine al (by kernel_rfl) ?_
  with_reducible refine dB (by kernel_rfl) (by kernel_rfl) ?_
  with_reducible refine aj ?_; delta R.eval_run_expression
  with_reducible refine aC ?_
  with_reducible refine aV (by kernel_rfl) ?_
  with_reducible refine aC ?_
  with_reducible refine aJ (by kernel_rfl) ?_
  with_reducible refine cb ?_; delta R.eval_run_value
  with_reducible refine aC ?_
  with_reducible refine dB (by kernel_rfl) (by kernel_rfl) ?_
  iterate 4 (with_reducible refine aJ (by kernel_rfl) ?_)
  with_reducible refine aV (by kernel_rfl) ?_
  iterate 5 (with_reducible refine aJ (by kernel_rfl) ?_)
  with_reducible refine aV (by kernel_rfl) ?_
  with_reducible refine aJ (by kernel_rfl) ?_
  with_reducible refine bY ?_; delta R.eval_run_operation
  with_reducible refine aC ?_
  with_reducible refine aJ (by kernel_rfl) ?_
  with_reducible refine aV (by kernel_rfl) ?_
  iterate 5 (with_reducible refine aJ (by kernel_rfl) ?_)
  with_reducible refine al (by kernel_rfl) ?_
  with_reducible refine gC ?_; delta R.eval_run_callee
  with_reducible refine aC ?_
  with_reducible refine dB (by kernel_rfl) (by kernel_rfl) ?_
  with_reducible refine aV (by kernel_rfl) ?_
  with_reducible refine aC ?_
  with_reducible refine aJ (by kernel_rfl) ?_
  with_reducible refine cH (by kernel_rfl) ?_
  with_reducible refine eh ?_; delta R.eval_run_arguments
  with_reducible refine aC ?_
  with_reducible refine aa ?_
  with_reducible refine jz hk ?_
  with_reducible refine al (by kernel_rfl) ?_
  with_reducible refine dB (by kernel_rfl) (by kernel_rfl) ?_
  with_reducible refine aj ?_; delta R.eval_run_expression
  with_reducible refine aC ?_
  with_reducible refine aV (by kernel_rfl) ?_
  with_reducible refine aC ?_
  with_reducible refine aJ (by kernel_rfl) ?_
  with_reducible refine cb ?_; delta R.eval_run_value
  with_reducible refine aC ?_
  with_reducible refine dB (by kernel_rfl) (by kernel_rfl) ?_
  iterate 4 (with_reducible refine aJ (by kernel_rfl) ?_)
  with_reducible refine aV (by kernel_rfl) ?_
  iterate 5 (with_reducible refine aJ (by kernel_rfl) ?_)
  with_reducible refine aV (by kernel_rfl) ?_
  with_reducible refine aJ (by kernel_rfl) ?_
  with_reducible refine bY ?_; delta R.eval_run_operation
  with_reducible refine aC ?_
  with_reducible refine al (by kernel_rfl) ?_
  with_reducible refine dB (by kernel_rfl) (by kernel_rfl) ?_
  with_reducible refine gO ?_; delta R.eval_run_unary
  with_reducible refine aC ?_
  with_reducible refine fN ?_
  with_reducible refine mD ho (by kernel_rfl) ?_
  with_reducible refine aj ?_; delta R.eval_run_expression
  with_reducible refine aC ?_
  with_reducible refine aV (by kernel_rfl) ?_
  with_reducible refine aC ?_
  with_reducible refine aJ (by kernel_rfl) ?_
  with_reducible refine ql h0 (by kernel_rfl) (by kernel_rfl) ?_
  with_reducible refine aC ?_
  with_reducible refine aE ?_
  with_reducible refine aC ?_
  with_reducible refine aJ (by kernel_rfl) ?_
  with_reducible refine mJ (m' := R.ba op a0) (by kernel_rfl) (dh hv rfl) ?_
  with_reducible refine aC ?_
  with_reducible refine aV (by kernel_rfl) ?_
  with_reducible refine aC ?_
  with_reducible refine aE ?_
  with_reducible refine aC ?_
  with_reducible refine aE ?_
  with_reducible refine aC ?_
  with_reducible refine aE ?_
  with_reducible refine aC ?_
  with_reducible refine aE ?_
  with_reducible refine aC ?_
  with_reducible refine al (by kernel_rfl) ?_
  with_reducible refine aE ?_
  with_reducible refine kz ?_
  with_reducible refine nk (by kernel_rfl) ?_
  with_reducible refine aE ?_
  with_reducible refine aC ?_
  with_reducible refine al (by kernel_rfl) ?_
  with_reducible refine aE ?_
  with_reducible refine aC ?_
  with_reducible refine aE ?_
  with_reducible refine aC ?_
  with_reducible refine aE ?_
  with_reducible refine aC ?_
  with_reducible refine aE ?_
  with_reducible refine aC ?_
  with_reducible refine al (by kernel_rfl) ?_
  with_reducible refine aE ?_
  with_reducible refine aC ?_
  with_reducible refine aE ?_
  with_reducible refine aC ?_
  with_reducible refine al (by kernel_rfl) ?_
  with_reducible refine aE ?_
  with_reducible refine kz ?_
  with_reducible refine nk (by kernel_rfl) ?_
  with_reducible refine aE ?_
  with_reducible refine aC ?_
  with_reducible refine aE ?_
  with_reducible refine aC ?_
  with_reducible refine aJ (by kernel_rfl) ?_
  with_reducible refine al (by kernel_rfl) ?_
  with_reducible refine aV (by kernel_rfl) ?_
  with_reducible refine aC ?_
  with_reducible refine aE ?_
  kernel_rfl
theorem un_0N {op : List UInt8} {x0 : kW} {a0 : jJ} (h0 : lT x0 a0) (ho : (op == [116, 121, 112, 101, 111, 102]) = false) {v : jJ} (hv : (R.ba op a0).strip = some (v, 0)) (hno : v.1 ≠ 6) {Q} (hn : ¬ (R.bt v).facts) : (R.bZ (un op x0) (20, (20, 50)) []).sat (Q) := by
  unfold R.bZ R.bU
  obtain ⟨k, hk⟩ := ll
  rw [hk]
  with_reducible refine aC ?_
  with_reducible refine aV (by kernel_rfl) ?_
  with_reducible refine aC ?_
  with_reducible refine aa ?_
  with_reducible refine aC ?_
  with_reducible refine aV (by kernel_rfl) ?_
  with_reducible refine aC ?_
  with_reducible refine aJ (by kernel_rfl) ?_
  with_reducible refine aV (by kernel_rfl) ?_
  with_reducible refine aC ?_
  with_reducible refine aJ (by kernel_rfl) ?_
  with_reducible refine dB (by kernel_rfl) (by kernel_rfl) ?_
  with_reducible refine gj ?_; delta R.eval_run_list
  with_reducible refine aC ?_
  with_reducible refine aa ?_
  with_reducible refine jz hk ?_
  with_reducible refine al (by kernel_rfl) ?_
  with_reducible refine dB (by kernel_rfl) (by kernel_rfl) ?_
  with_reducible refine ej ?_; delta R.eval_run_statement
  with_reducible refine aC ?_
  with_reducible refine aV (by kernel_rfl) ?_
  with_reducible refine aC ?_
  with_reducible refine aJ (by kernel_rfl) ?_
  with_reducible refine iI ?_; delta R.eval_run_act
  with_reducible refine aC ?_
  with_reducible refine dB (by kernel_rfl) (by kernel_rfl) ?_
  with_reducible refine al (by kernel_rfl) ?_
  with_reducible refine dB (by kernel_rfl) (by kernel_rfl) ?_
  with_reducible refine aj ?_; delta R.eval_run_expression
  with_reducible refine aC ?_
  with_reducible refine aV (by kernel_rfl) ?_
  with_reducible refine aC ?_
  with_reducible refine aJ (by kernel_rfl) ?_
  with_reducible refine cb ?_; delta R.eval_run_value
  with_reducible refine aC ?_
  with_reducible refine dB (by kernel_rfl) (by kernel_rfl) ?_
  iterate 4 (with_reducible refine aJ (by kernel_rfl) ?_)
  with_reducible refine aV (by kernel_rfl) ?_
  iterate 5 (with_reducible refine aJ (by kernel_rfl) ?_)
  with_reducible refine aV (by kernel_rfl) ?_
  with_reducible refine aJ (by kernel_rfl) ?_
  with_reducible refine bY ?_; delta R.eval_run_operation
  with_reducible refine aC ?_
  with_reducible refine aJ (by kernel_rfl) ?_
  with_reducible refine aV (by kernel_rfl) ?_
  iterate 5 (with_reducible refine aJ (by kernel_rfl) ?_)
  with_reducible refine al (by kernel_rfl) ?_
  with_reducible refine gC ?_; delta R.eval_run_callee
  with_reducible refine aC ?_
  with_reducible refine dB (by kernel_rfl) (by kernel_rfl) ?_
  with_reducible refine aV (by kernel_rfl) ?_
  with_reducible refine aC ?_
  with_reducible refine aJ (by kernel_rfl) ?_
  with_reducible refine cH (by kernel_rfl) ?_
  with_reducible refine eh ?_; delta R.eval_run_arguments
  with_reducible refine aC ?_
  with_reducible refine aa ?_
  with_reducible refine jz hk ?_
  with_reducible refine al (by kernel_rfl) ?_
  with_reducible refine dB (by kernel_rfl) (by kernel_rfl) ?_
  with_reducible refine aj ?_; delta R.eval_run_expression
  with_reducible refine aC ?_
  with_reducible refine aV (by kernel_rfl) ?_
  with_reducible refine aC ?_
  with_reducible refine aJ (by kernel_rfl) ?_
  with_reducible refine cb ?_; delta R.eval_run_value
  with_reducible refine aC ?_
  with_reducible refine dB (by kernel_rfl) (by kernel_rfl) ?_
  iterate 4 (with_reducible refine aJ (by kernel_rfl) ?_)
  with_reducible refine aV (by kernel_rfl) ?_
  iterate 5 (with_reducible refine aJ (by kernel_rfl) ?_)
  with_reducible refine aV (by kernel_rfl) ?_
  with_reducible refine aJ (by kernel_rfl) ?_
  with_reducible refine bY ?_; delta R.eval_run_operation
  with_reducible refine aC ?_
  with_reducible refine al (by kernel_rfl) ?_
  with_reducible refine dB (by kernel_rfl) (by kernel_rfl) ?_
  with_reducible refine gO ?_; delta R.eval_run_unary
  with_reducible refine aC ?_
  with_reducible refine fN ?_
  with_reducible refine mD ho (by kernel_rfl) ?_
  with_reducible refine aj ?_; delta R.eval_run_expression
  with_reducible refine aC ?_
  with_reducible refine aV (by kernel_rfl) ?_
  with_reducible refine aC ?_
  with_reducible refine aJ (by kernel_rfl) ?_
  with_reducible refine ql h0 (by kernel_rfl) (by kernel_rfl) ?_
  with_reducible refine aC ?_
  with_reducible refine aE ?_
  with_reducible refine aC ?_
  with_reducible refine aJ (by kernel_rfl) ?_
  with_reducible refine mJ (m' := R.ba op a0) (by kernel_rfl) (dh hv rfl) ?_
  with_reducible refine aC ?_
  with_reducible refine aV (by kernel_rfl) ?_
  with_reducible refine aC ?_
  with_reducible refine aE ?_
  with_reducible refine aC ?_
  with_reducible refine aE ?_
  with_reducible refine aC ?_
  with_reducible refine aE ?_
  with_reducible refine aC ?_
  with_reducible refine aE ?_
  with_reducible refine aC ?_
  with_reducible refine aJ (by kernel_rfl) ?_
  with_reducible refine cH (by kernel_rfl) ?_
  with_reducible refine aE ?_
  with_reducible refine nn ?_
  with_reducible refine kx ?_
  with_reducible refine aJ (by kernel_rfl) ?_
  with_reducible refine aE ?_
  with_reducible refine kz ?_
  with_reducible refine w8 (by kernel_rfl) ?_
  with_reducible refine aE ?_
  with_reducible refine aC ?_
  with_reducible refine aJ (by kernel_rfl) ?_
  with_reducible refine nY ?_; delta R.eval_run_call
  with_reducible refine aC ?_
  with_reducible refine aJ (by kernel_rfl) ?_
  with_reducible refine aV (by kernel_rfl) ?_
  with_reducible refine aC ?_
  with_reducible refine aV (by kernel_rfl) ?_
  with_reducible refine al (by kernel_rfl) ?_
  with_reducible refine nW ?_; delta R.eval_run_does
  with_reducible refine aC ?_
  with_reducible refine aV (by kernel_rfl) ?_
  with_reducible refine aC ?_
  with_reducible refine aV (by kernel_rfl) ?_
  iterate 10 (with_reducible refine aJ (by kernel_rfl) ?_)
  with_reducible refine aV (by kernel_rfl) ?_
  with_reducible refine aJ (by kernel_rfl) ?_
  with_reducible refine aV (by kernel_rfl) ?_
  with_reducible refine aJ (by kernel_rfl) ?_
  with_reducible refine aV (by kernel_rfl) ?_
  with_reducible refine aJ (by kernel_rfl) ?_
  with_reducible refine aV (by kernel_rfl) ?_
  with_reducible refine al (by kernel_rfl) ?_
  with_reducible refine aV (by kernel_rfl) ?_
  with_reducible refine aC ?_
  with_reducible refine nX ?_; delta R.eval_run_host
  with_reducible refine aC ?_
  with_reducible refine aa ?_
  iterate 3 (with_reducible refine aJ (by kernel_rfl) ?_)
  with_reducible refine al (by kernel_rfl) ?_
  with_reducible exact w_nof (m' := R.bt v) (by kernel_rfl) hn
theorem un_0T {op : List UInt8} {x0 : kW} {a0 : jJ} (h0 : lT x0 a0) (ho : (op == [116, 121, 112, 101, 111, 102]) = false) {v : jJ} (hv : (R.ba op a0).strip = some (v, 0)) (hno : v.1 ≠ 6) {l : List Int} (hu : (R.bt v).strip = some (l, 0)) : (R.bZ (un op x0) (20, (20, 50)) []).sat (· = asks l) := by
  unfold R.bZ R.bU
  obtain ⟨k, hk⟩ := ll
  rw [hk]
  with_reducible refine aC ?_
  with_reducible refine aV (by kernel_rfl) ?_
  with_reducible refine aC ?_
  with_reducible refine aa ?_
  with_reducible refine aC ?_
  with_reducible refine aV (by kernel_rfl) ?_
  with_reducible refine aC ?_
  with_reducible refine aJ (by kernel_rfl) ?_
  with_reducible refine aV (by kernel_rfl) ?_
  with_reducible refine aC ?_
  with_reducible refine aJ (by kernel_rfl) ?_
  with_reducible refine dB (by kernel_rfl) (by kernel_rfl) ?_
  with_reducible refine gj ?_; delta R.eval_run_list
  with_reducible refine aC ?_
  with_reducible refine aa ?_
  with_reducible refine jz hk ?_
  with_reducible refine al (by kernel_rfl) ?_
  with_reducible refine dB (by kernel_rfl) (by kernel_rfl) ?_
  with_reducible refine ej ?_; delta R.eval_run_statement
  with_reducible refine aC ?_
  with_reducible refine aV (by kernel_rfl) ?_
  with_reducible refine aC ?_
  with_reducible refine aJ (by kernel_rfl) ?_
  with_reducible refine iI ?_; delta R.eval_run_act
  with_reducible refine aC ?_
  with_reducible refine dB (by kernel_rfl) (by kernel_rfl) ?_
  with_reducible refine al (by kernel_rfl) ?_
  with_reducible refine dB (by kernel_rfl) (by kernel_rfl) ?_
  with_reducible refine aj ?_; delta R.eval_run_expression
  with_reducible refine aC ?_
  with_reducible refine aV (by kernel_rfl) ?_
  with_reducible refine aC ?_
  with_reducible refine aJ (by kernel_rfl) ?_
  with_reducible refine cb ?_; delta R.eval_run_value
  with_reducible refine aC ?_
  with_reducible refine dB (by kernel_rfl) (by kernel_rfl) ?_
  iterate 4 (with_reducible refine aJ (by kernel_rfl) ?_)
  with_reducible refine aV (by kernel_rfl) ?_
  iterate 5 (with_reducible refine aJ (by kernel_rfl) ?_)
  with_reducible refine aV (by kernel_rfl) ?_
  with_reducible refine aJ (by kernel_rfl) ?_
  with_reducible refine bY ?_; delta R.eval_run_operation
  with_reducible refine aC ?_
  with_reducible refine aJ (by kernel_rfl) ?_
  with_reducible refine aV (by kernel_rfl) ?_
  iterate 5 (with_reducible refine aJ (by kernel_rfl) ?_)
  with_reducible refine al (by kernel_rfl) ?_
  with_reducible refine gC ?_; delta R.eval_run_callee
  with_reducible refine aC ?_
  with_reducible refine dB (by kernel_rfl) (by kernel_rfl) ?_
  with_reducible refine aV (by kernel_rfl) ?_
  with_reducible refine aC ?_
  with_reducible refine aJ (by kernel_rfl) ?_
  with_reducible refine cH (by kernel_rfl) ?_
  with_reducible refine eh ?_; delta R.eval_run_arguments
  with_reducible refine aC ?_
  with_reducible refine aa ?_
  with_reducible refine jz hk ?_
  with_reducible refine al (by kernel_rfl) ?_
  with_reducible refine dB (by kernel_rfl) (by kernel_rfl) ?_
  with_reducible refine aj ?_; delta R.eval_run_expression
  with_reducible refine aC ?_
  with_reducible refine aV (by kernel_rfl) ?_
  with_reducible refine aC ?_
  with_reducible refine aJ (by kernel_rfl) ?_
  with_reducible refine cb ?_; delta R.eval_run_value
  with_reducible refine aC ?_
  with_reducible refine dB (by kernel_rfl) (by kernel_rfl) ?_
  iterate 4 (with_reducible refine aJ (by kernel_rfl) ?_)
  with_reducible refine aV (by kernel_rfl) ?_
  iterate 5 (with_reducible refine aJ (by kernel_rfl) ?_)
  with_reducible refine aV (by kernel_rfl) ?_
  with_reducible refine aJ (by kernel_rfl) ?_
  with_reducible refine bY ?_; delta R.eval_run_operation
  with_reducible refine aC ?_
  with_reducible refine al (by kernel_rfl) ?_
  with_reducible refine dB (by kernel_rfl) (by kernel_rfl) ?_
  with_reducible refine gO ?_; delta R.eval_run_unary
  with_reducible refine aC ?_
  with_reducible refine fN ?_
  with_reducible refine mD ho (by kernel_rfl) ?_
  with_reducible refine aj ?_; delta R.eval_run_expression
  with_reducible refine aC ?_
  with_reducible refine aV (by kernel_rfl) ?_
  with_reducible refine aC ?_
  with_reducible refine aJ (by kernel_rfl) ?_
  with_reducible refine ql h0 (by kernel_rfl) (by kernel_rfl) ?_
  with_reducible refine aC ?_
  with_reducible refine aE ?_
  with_reducible refine aC ?_
  with_reducible refine aJ (by kernel_rfl) ?_
  with_reducible refine mJ (m' := R.ba op a0) (by kernel_rfl) (dh hv rfl) ?_
  with_reducible refine aC ?_
  with_reducible refine aV (by kernel_rfl) ?_
  with_reducible refine aC ?_
  with_reducible refine aE ?_
  with_reducible refine aC ?_
  with_reducible refine aE ?_
  with_reducible refine aC ?_
  with_reducible refine aE ?_
  with_reducible refine aC ?_
  with_reducible refine aE ?_
  with_reducible refine aC ?_
  with_reducible refine aJ (by kernel_rfl) ?_
  with_reducible refine cH (by kernel_rfl) ?_
  with_reducible refine aE ?_
  with_reducible refine nn ?_
  with_reducible refine kx ?_
  with_reducible refine aJ (by kernel_rfl) ?_
  with_reducible refine aE ?_
  with_reducible refine kz ?_
  with_reducible refine w8 (by kernel_rfl) ?_
  with_reducible refine aE ?_
  with_reducible refine aC ?_
  with_reducible refine aJ (by kernel_rfl) ?_
  with_reducible refine nY ?_; delta R.eval_run_call
  with_reducible refine aC ?_
  with_reducible refine aJ (by kernel_rfl) ?_
  with_reducible refine aV (by kernel_rfl) ?_
  with_reducible refine aC ?_
  with_reducible refine aV (by kernel_rfl) ?_
  with_reducible refine al (by kernel_rfl) ?_
  with_reducible refine nW ?_; delta R.eval_run_does
  with_reducible refine aC ?_
  with_reducible refine aV (by kernel_rfl) ?_
  with_reducible refine aC ?_
  with_reducible refine aV (by kernel_rfl) ?_
  iterate 10 (with_reducible refine aJ (by kernel_rfl) ?_)
  with_reducible refine aV (by kernel_rfl) ?_
  with_reducible refine aJ (by kernel_rfl) ?_
  with_reducible refine aV (by kernel_rfl) ?_
  with_reducible refine aJ (by kernel_rfl) ?_
  with_reducible refine aV (by kernel_rfl) ?_
  with_reducible refine aJ (by kernel_rfl) ?_
  with_reducible refine aV (by kernel_rfl) ?_
  with_reducible refine al (by kernel_rfl) ?_
  with_reducible refine aV (by kernel_rfl) ?_
  with_reducible refine aC ?_
  with_reducible refine nX ?_; delta R.eval_run_host
  with_reducible refine aC ?_
  with_reducible refine aa ?_
  iterate 3 (with_reducible refine aJ (by kernel_rfl) ?_)
  with_reducible refine al (by kernel_rfl) ?_
  with_reducible refine mJ (m' := R.bt v) (by kernel_rfl) (dh hu rfl) ?_
  with_reducible refine aC ?_
  with_reducible refine aJ (by kernel_rfl) ?_
  with_reducible refine aE ?_
  with_reducible refine w8 (by kernel_rfl) ?_
  with_reducible refine aV (by kernel_rfl) ?_
  with_reducible refine aC ?_
  with_reducible refine al (by kernel_rfl) ?_
  with_reducible refine aE ?_
  with_reducible refine aC ?_
  with_reducible refine aE ?_
  with_reducible refine aC ?_
  with_reducible refine aE ?_
  with_reducible refine aC ?_
  with_reducible refine aE ?_
  with_reducible refine aC ?_
  with_reducible refine aE ?_
  with_reducible refine aC ?_
  with_reducible refine aE ?_
  with_reducible refine aC ?_
  with_reducible refine aE ?_
  with_reducible refine aC ?_
  with_reducible refine al (by kernel_rfl) ?_
  with_reducible refine aE ?_
  with_reducible refine aC ?_
  with_reducible refine aE ?_
  with_reducible refine aC ?_
  with_reducible refine al (by kernel_rfl) ?_
  with_reducible refine aE ?_
  with_reducible refine kz ?_
  with_reducible refine nk (by kernel_rfl) ?_
  with_reducible refine aE ?_
  with_reducible refine aC ?_
  with_reducible refine aE ?_
  with_reducible refine aC ?_
  with_reducible refine al (by kernel_rfl) ?_
  with_reducible refine aE ?_
  kernel_rfl
theorem un_0 {op : List UInt8} {x0 : kW} {a0 : jJ} (h0 : lT x0 a0) (ho : (op == [116, 121, 112, 101, 111, 102]) = false) {v : jJ} (hv : (R.ba op a0).strip = some (v, 0)) (hno : v.1 ≠ 6) : (R.bZ (un op x0) (20, (20, 50)) []).sat (fun r => Out v 0 r) := by
  rcases uz (zW (v := v) hno) with hn | ⟨⟨l, s⟩, hu, hs⟩
  · exact un_0N h0 ho hv hno hn
  · have hs : s = 0 := hs
    subst hs
    exact jX (un_0T h0 ho hv hno hu) fun r e => e ▸ .asks l hu
theorem un_run {op : List UInt8} {x0 : kW} {a0 : jJ} (h0 : lT x0 a0) (ho : (op == [116, 121, 112, 101, 111, 102]) = false) : (R.bZ (un op x0) (20, (20, 50)) []).sat (fun r => ∃ v s, (R.ba op a0).strip = some (v, s) ∧ Out v s r) := by
  rcases uz (m := R.ba op a0) jt.ok with hn | ⟨⟨v, s⟩, hv, g1, g6⟩
  · exact un_n h0 ho hn
  have g1 : 0 ≤ s ∧ s ≤ 5 := g1
  rcases xn g1 with rfl | rfl | rfl | rfl | rfl | rfl
  · exact jX (un_0 h0 ho hv g6) fun r h => ⟨v, 0, hv, h⟩
  · exact jX (un_1 h0 ho hv) fun r e => e ▸ ⟨v, 1, hv, .sY sr 1 (by simp)⟩
  · exact jX (un_2 h0 ho hv) fun r e => e ▸ ⟨v, 2, hv, .sY sr 2 (by simp)⟩
  · exact jX (un_3 h0 ho hv) fun r e => e ▸ ⟨v, 3, hv, .exit sr []⟩
  · exact jX (un_4 h0 ho hv) fun r e => e ▸ ⟨v, 4, hv, .sY sr 4 (by simp)⟩
  · exact jX (un_5 h0 ho hv) fun r e => e ▸ ⟨v, 5, hv, .sY sr 5 (by simp)⟩
end Go.Mach
set_option maxRecDepth 1000000
namespace Go.Mach
open Res
theorem uH {e0 : kW} {rest : List kW} {i : Nat} {e : kW} {b : Bool} (hb : ub (e0 :: rest) = true) (hk0 : e0.1 = 1) (h1 : ∀ e ∈ rest, e.1 ≠ 1) (hi : (e0 :: rest)[i]? = some e) (hf : ∀ (j : Nat) e', (e0 :: rest)[j]? = some e' → j ≠ i → (R.cf e').sat (· = true)) (hs : (R.cf e).sat (· = b)) : (R.fQ (e0 :: rest)).sat (· = b) := by
  cases b with
  | true =>
    refine xM hb hk0 h1 fun e' he' => ?_
    obtain ⟨j, hj, rfl⟩ := List.mem_iff_getElem.1 he'
    by_cases hji : j = i
    · subst hji
      rw [List.getElem?_eq_getElem hj] at hi
      cases hi
      exact hs
    · exact hf j _ (List.getElem?_eq_getElem hj) hji
  | false =>
    simp only [ub, Bool.and_eq_true, decide_eq_true_eq, beq_iff_eq, List.all_eq_true, List.mem_range] at hb
    obtain ⟨b1, b2, b3, b4⟩ := hb
    generalize ht : e0 :: rest = t at *
    have h0 : t[0]? = some e0 := by rw [← ht]; rfl
    have hne : ∀ (n : Nat) e, 0 < n → t[n]? = some e → e.1 ≠ 1 := fun n e hn he => by
      obtain ⟨m, rfl⟩ : ∃ m, n = m + 1 := ⟨n - 1, by omega⟩
      rw [← ht] at he
      exact h1 e (List.mem_of_getElem? (by simpa using he))
    have hpos : 0 < t.length := (List.getElem?_eq_some_iff.1 h0).1
    have hil : i < t.length := (List.getElem?_eq_some_iff.1 hi).1
    unfold R.fQ
    refine aL fun _ => aT (a := false) ?_ (aJ rfl ?_)
    · refine aJ (by rw [beq_eq_false_iff_ne]; omega) (aJ (by rw [cr]; omega) (cG (by omega) (by simpa using hpos) fun e he _ => ?_))
      have he : t[0]? = some e := he
      rw [h0] at he; cases he
      exact aJ (by simp [hk0]) (aT (dh b2 rfl) (aE rfl))
    refine aT (a := .inr false) ?_ (AE (aE rfl))
    refine rG (fun i : Int => i) t.length (by omega) (fun j : Int => 0 ≤ j ∧ j ≤ i) ⟨by omega, by omega⟩ (fun j h => ⟨h.1, by omega⟩) ?_
    rintro j ⟨i0, i1⟩
    refine cj (fun h => ?_) fun h => ?_
    · have hj : j.toNat < t.length := by omega
      have hin : ((j.toNat : Nat) : Int) = j := by omega
      have w : IntKind.wrap .i64 (j + 1) = j + 1 := wrap64 ⟨by omega, by omega⟩
      have kd : (R.gf t j).sat (· = true) := by
        have := dh (Φ := (· = true)) (b3 _ hj) rfl
        rwa [hin] at this
      by_cases hji : j.toNat = i
      · have fd : ∀ e', t[j.toNat]? = some e' → (R.cf e').sat (· = false) := fun e' he' => by
          rw [hji, hi] at he'; cases he'; exact hs
        refine aT (a := true) (cj (fun hp => ?_) fun hp => ?_) (al rfl (aE rfl))
        · rw [dQ] at hp
          refine cG i0 hj fun e he _ => ?_
          exact aJ (by simpa using hne _ e (by omega) he) (cG i0 hj fun e' he' _ => aT (fd _ he') (al rfl (aE rfl)))
        · exact cG i0 hj fun e' he' _ => aT (fd _ he') (al rfl (aE rfl))
      · refine aT (a := false) (cj (fun hp => ?_) fun hp => ?_) (aJ rfl (aE ⟨w, by rw [w]; omega, by rw [w]; omega⟩))
        · rw [dQ] at hp
          refine cG i0 hj fun e he _ => ?_
          exact aJ (by simpa using hne _ e (by omega) he) (cG i0 hj fun e' he' _ => aT (hf _ _ he' hji) (aJ rfl (aT kd (aE rfl))))
        · exact cG i0 hj fun e' he' _ => aT (hf _ _ he' hji) (aJ rfl (aT kd (aE rfl)))
    · rw [cr] at h; omega
end Go.Mach
set_option maxRecDepth 1000000
namespace Go.Mach
open Res
theorem zC : ∀ F : Res Bool, F = R.cN → F.sat (· = true) := by
  intro F h
  have h2 := tV
  rw [← h] at h2
  exact Res.dh h2 rfl
instance zK {a} : Safe (R.bz a) := by unfold R.bz; repeat' (first | with_reducible (first | apply Safe.g' | apply Safe.br' | apply Safe.bd' | apply Safe.sm' | intro _ | infer_instance))
theorem tf (a : jJ) : (R.bz a).sat fun _ => True := safe
theorem yK {a : jJ} {β : Type} {Q : β → Prop} {k : kW × Bool → Res β} (h1 : ∀ x, lT x a → (k (x, true)).sat Q) (h2 : ∀ x e, e = false ∨ ¬ qC a → (k (x, e)).sat Q) : ((R.bz a).bind k).sat Q := by
  by_cases hm : qC a
  · refine aW (xN hm) fun ⟨x, e⟩ hx => ?_
    cases e
    · exact h2 x _ (.inl rfl)
    · exact h1 x (hx rfl)
  · exact aW (tf a) fun ⟨x, e⟩ _ => h2 x e (.inr hm)
theorem t_may {a : jJ} {k : Res Bool} (h : ¬ qC a) : (Res.bind (R.fa a) fun r => br (!r) (.ok true) k).sat (· = true) := aW sQ fun r hr => by
  cases r
  · exact al rfl (aE rfl)
  · exact absurd (hr rfl) h
theorem t_e {e : Bool} {p : Prop} {k : Res Bool} (he : e = false ∨ p) (h : p → k.sat (· = true)) : (br (!e) (.ok true) k).sat (· = true) := by
  cases e
  · exact al rfl (aE rfl)
  · rcases he with he | he
    · cases he
    · exact aJ rfl (h he)
end Go.Mach
set_option maxRecDepth 1000000
namespace Go.Mach
open Res
theorem un_no {op : List UInt8} (hl : ilt 4096 (op.length : Int) = false) (h0 : (op == [45]) = false) (h1 : (op == [43]) = false) (h2 : (op == [33]) = false) (h3 : (op == [126]) = false) (h4 : (op == [116, 121, 112, 101, 111, 102]) = false) (h5 : (op == [118, 111, 105, 100]) = false) : (R.cf (nd 43 op [7])).sat (· = false) := by
  unfold R.cf
  obtain ⟨k, hk⟩ := ll
  with_reducible refine aC ?_
  with_reducible refine aa ?_
  with_reducible refine mD hl (by kernel_rfl) ?_
  iterate 2 (with_reducible refine al (by kernel_rfl) ?_)
  with_reducible refine aJ (by kernel_rfl) ?_
  with_reducible refine al (by kernel_rfl) ?_
  with_reducible refine aJ (by kernel_rfl) ?_
  with_reducible refine al (by kernel_rfl) ?_
  with_reducible refine aJ (by kernel_rfl) ?_
  with_reducible refine aE ?_
  with_reducible refine aJ (by kernel_rfl) ?_
  with_reducible refine aV (by kernel_rfl) ?_
  iterate 3 (with_reducible refine aJ (by kernel_rfl) ?_)
  with_reducible refine aa ?_; delta R.eU
  with_reducible refine aC ?_
  with_reducible refine aV (by kernel_rfl) ?_
  with_reducible refine aJ (by kernel_rfl) ?_
  with_reducible refine aV (by kernel_rfl) ?_
  iterate 2 (with_reducible refine aJ (by kernel_rfl) ?_)
  with_reducible refine al (by kernel_rfl) ?_
  with_reducible refine aa ?_; delta R.aN
  with_reducible refine aC ?_
  with_reducible refine aa ?_; delta R.bH
  with_reducible refine aC ?_
  with_reducible refine aa ?_
  with_reducible refine jz hk ?_
  with_reducible refine al (by kernel_rfl) ?_
  with_reducible refine qH (by kernel_rfl) (by kernel_rfl) ?_
  with_reducible refine mD h0 (by kernel_rfl) ?_
  with_reducible refine aE ?_
  with_reducible refine nn ?_
  with_reducible refine kx ?_
  with_reducible refine al (by kernel_rfl) ?_
  with_reducible refine qH (by kernel_rfl) (by kernel_rfl) ?_
  with_reducible refine mD h1 (by kernel_rfl) ?_
  with_reducible refine aE ?_
  with_reducible refine nn ?_
  with_reducible refine kx ?_
  with_reducible refine al (by kernel_rfl) ?_
  with_reducible refine qH (by kernel_rfl) (by kernel_rfl) ?_
  with_reducible refine mD h2 (by kernel_rfl) ?_
  with_reducible refine aE ?_
  with_reducible refine nn ?_
  with_reducible refine kx ?_
  with_reducible refine al (by kernel_rfl) ?_
  with_reducible refine qH (by kernel_rfl) (by kernel_rfl) ?_
  with_reducible refine mD h3 (by kernel_rfl) ?_
  with_reducible refine aE ?_
  with_reducible refine nn ?_
  with_reducible refine kx ?_
  with_reducible refine al (by kernel_rfl) ?_
  with_reducible refine qH (by kernel_rfl) (by kernel_rfl) ?_
  with_reducible refine mD h4 (by kernel_rfl) ?_
  with_reducible refine aE ?_
  with_reducible refine nn ?_
  with_reducible refine kx ?_
  with_reducible refine al (by kernel_rfl) ?_
  with_reducible refine qH (by kernel_rfl) (by kernel_rfl) ?_
  with_reducible refine mD h5 (by kernel_rfl) ?_
  with_reducible refine aE ?_
  with_reducible refine nn ?_
  with_reducible refine kx ?_
  with_reducible refine aJ (by kernel_rfl) ?_
  with_reducible refine aE ?_
  with_reducible refine kz ?_
  with_reducible refine w8 (by kernel_rfl) ?_
  with_reducible refine aE ?_
  with_reducible refine aC ?_
  iterate 3 (with_reducible refine aE ?_)
  kernel_rfl
abbrev w6 : List (List UInt8) := [[45], [43], [33], [126], [116, 121, 112, 101, 111, 102], [118, 111, 105, 100]]
theorem xm {op : List UInt8} (hl : ilt 4096 (op.length : Int) = false) : ∃ b, (R.cf (nd 43 op [7])).sat (· = b) ∧ (b = true → op ∈ w6) := by
  by_cases hm : op ∈ w6
  · refine ⟨true, ?_, fun _ => hm⟩
    simp only [w6, List.mem_cons, List.not_mem_nil, or_false] at hm
    rcases hm with rfl | rfl | rfl | rfl | rfl | rfl <;> exact ey (by kernel_rfl)
  · refine ⟨false, ?_, fun h => by cases h⟩
    simp only [w6, List.mem_cons, List.not_mem_nil, or_false, not_or] at hm
    obtain ⟨h0, h1, h2, h3, h4, h5⟩ := hm
    exact un_no hl (beq_eq_false_iff_ne.2 h0) (beq_eq_false_iff_ne.2 h1) (beq_eq_false_iff_ne.2 h2) (beq_eq_false_iff_ne.2 h3) (beq_eq_false_iff_ne.2 h4) (beq_eq_false_iff_ne.2 h5)
theorem un_may {op : List UInt8} (hl : ilt 4096 (op.length : Int) = false) {x0 : kW} {a0 : jJ} (h0 : lT x0 a0) : ∃ b, (R.fQ (un op x0)).sat (· = b) := by
  obtain ⟨b, hb, _⟩ := xm hl
  refine ⟨b, uH (i := 6) (zn h0) rfl (fun e he => ?_) rfl (fun j e he hj => ?_) hb⟩
  · simp only [List.mem_cons, List.not_mem_nil, or_false] at he
    rcases he with rfl | rfl | rfl | rfl | rfl | rfl | rfl <;> first | exact lit_ne h0 | simp
  · match j, he with
    | 0, he | 1, he | 2, he | 3, he | 4, he | 5, he => cases he; exact ey (by kernel_rfl)
    | 6, _ => exact absurd rfl hj
    | 7, he => cases he; exact wW h0
    | n + 8, he => simp at he
theorem qw (op : List UInt8) (a : jJ) : jt (R.cM op a) (· = true) := by
  constructor
  unfold R.cM
  have firstF := zC
  generalize hF : R.cN = F at firstF ⊢
  have mb := firstF _ rfl
  refine aL fun _ => aT mb (aJ rfl ?_)
  refine yK (fun x hx => aL fun _ => ?_) fun x e he => aL fun _ => aT (t_e he fun h => t_may h) (al rfl (aT mb (aE rfl)))
  refine aW (R := fun b => b = false → ilt 10 (op.length : Int) = false ∧ (op == [116, 121, 112, 101, 111, 102]) = false) (aJ rfl (aT (yO hx) (aJ rfl (cj (fun _ => aE (fun h => by cases h)) fun hl => aE fun h => ⟨hl, h⟩)))) fun b hb => cj (fun _ => aT mb (aE rfl)) fun h2 => ?_
  obtain ⟨hl, ho⟩ := hb h2
  have hl : ilt 4096 (op.length : Int) = false := by rw [cr] at hl ⊢; omega
  obtain ⟨b, hm⟩ := un_may hl hx
  refine aT (a := un op x) (ey (by kernel_rfl)) (aL fun _ => aT hm (cj (fun _ => aT mb (aE rfl)) fun h3 => ?_))
  obtain rfl : b = true := by cases b; cases h3; rfl
  refine aT (a := (20, (20, 50))) (ey (by kernel_rfl)) (aL fun _ => aW (y9 hm (by simp) (zb hx) (un_run hx ho)) fun r ⟨v, s, hv, ho⟩ => aL fun _ => aT (dh hv rfl) (aL fun _ => aT mb (al rfl (aT (xw ho) (aE rfl)))))
end Go.Mach
namespace Go.Mach
theorem wD {P : Program} {c : OpenClaim} (h : P.funcs.any Func.goes = false) (hs : c.start = .entering) : false = c.goesBy P := by
  have h1 : ∀ g : Nat, (P.funcs[g]?).any Func.goes = false := fun g => by
    cases hg : P.funcs[g]? with
    | none => rfl
    | some fn => simpa using (Array.any_eq_false'.1 h) fn (Array.mem_of_getElem? hg)
  have h2 : ∀ f, P.goes f = false := fun f => by
    unfold Program.goes
    rw [h, Bool.and_false, Bool.or_false, List.any_eq_false]
    exact fun g _ => by rw [h1 g]; decide
  have h3 : P.goesFrom c.func = false := by
    unfold Program.goesFrom
    cases P.funcNamed c.func with
    | none => rfl
    | some f => exact h2 f
  unfold OpenClaim.goesBy Program.goesAt
  rw [h3, hs]
  rfl
end Go.Mach
