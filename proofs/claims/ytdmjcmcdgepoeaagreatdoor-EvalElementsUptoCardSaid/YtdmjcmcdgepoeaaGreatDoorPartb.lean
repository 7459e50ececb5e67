/-
  Proved here: the law renlaw12.EvalElements returns true for every input of the stated bulk and leaves its arguments as they were; no further condition.
  By an AI agent; no person has read it.
-/
import Derived.Test.YtdmjcmcdgepoeaaGreatDoorParta
import Derived.Great.BuildSlice
import Derived.ArgAppend
import Derived.DeepKeys5
import Derived.Maps.Keyed
set_option linter.all false
set_option linter.deprecated false
namespace Go.Mach
section
variable {B : eD} {w : World} {μ : aZ}
theorem pV {lk : (e : Ty) → C → Option (List e.den)} : ∀ (t : Ty) {cs rest : List C} {x : t.den}, t.jI lk cs = some (x, rest) →
    ∃ pre, cs = pre ++ rest ∧ pre.length = t.cells ∧ t.jI lk pre = some (x, [])
  | .unit, cs, rest, x, h => by
    simp only [Ty.jI, Option.some.injEq, Prod.mk.injEq] at h
    obtain ⟨_, rfl⟩ := h
    exact ⟨[], rfl, rfl, rfl⟩
  | .int k, cs, rest, x, h => by
    match cs, h with
    | .int j n :: cs, h =>
      simp only [Ty.jI] at h
      split at h
      case h_2 => cases h
      rename_i hs
      cases h
      exact ⟨[_], rfl, rfl, by simp only [Ty.jI, hs]⟩
  | .bool, cs, rest, x, h => by
    match cs, h with
    | .bool b :: cs, h =>
      simp only [Ty.jI, Option.some.injEq, Prod.mk.injEq] at h
      obtain ⟨rfl, rfl⟩ := h
      exact ⟨[_], rfl, rfl, rfl⟩
  | .str, cs, rest, x, h => by
    match cs, h with
    | .str b :: cs, h =>
      simp only [Ty.jI, Option.some.injEq, Prod.mk.injEq] at h
      obtain ⟨rfl, rfl⟩ := h
      exact ⟨[_], rfl, rfl, rfl⟩
  | .list e, cs, rest, x, h => by
    match cs, h with
    | c :: cs, h =>
      simp only [Ty.jI] at h
      split at h
      case h_2 => cases h
      rename_i hs
      cases h
      exact ⟨[_], rfl, rfl, by simp only [Ty.jI, hs]⟩
  | .pair a b, cs, rest, x, h => by
    simp only [Ty.jI] at h
    split at h
    case h_2 => cases h
    rename_i y cs1 ha
    split at h
    case h_2 => cases h
    rename_i z cs2 hb
    cases h
    obtain ⟨p1, e1, l1, r1⟩ := pV a ha
    obtain ⟨p2, e2, l2, r2⟩ := pV b hb
    refine ⟨p1 ++ p2, by rw [e1, e2, List.append_assoc], by simp [Ty.cells, l1, l2], ?_⟩
    simp only [Ty.jI, rdBy_tail a r1, List.nil_append, r2]
  | .rose a, cs, rest, x, h => by
    simp only [Ty.jI] at h
    split at h
    case h_2 => cases h
    rename_i y c1 cs1 ha
    split at h
    case h_2 => cases h
    rename_i xs hl
    cases h
    obtain ⟨p1, e1, l1, r1⟩ := pV a ha
    refine ⟨p1 ++ [c1], by rw [e1]; simp, by simp [Ty.cells, l1], ?_⟩
    simp only [Ty.jI, rdBy_tail a r1, List.nil_append, hl]
where
  rdBy_tail {lk : (e : Ty) → C → Option (List e.den)} : ∀ (t : Ty) {cs rest tail : List C} {x : t.den}, t.jI lk cs = some (x, rest) → t.jI lk (cs ++ tail) = some (x, rest ++ tail)
  | .unit, cs, rest, tail, x, h => by
    simp only [Ty.jI, Option.some.injEq, Prod.mk.injEq] at h ⊢
    exact ⟨h.1, by rw [h.2]⟩
  | .int k, cs, rest, tail, x, h => by
    match cs, h with
    | .int j n :: cs, h =>
      simp only [Ty.jI] at h
      split at h
      case h_2 => cases h
      rename_i hs
      cases h
      simp only [List.cons_append, Ty.jI, hs]
  | .bool, cs, rest, tail, x, h => by
    match cs, h with
    | .bool b :: cs, h =>
      simp only [Ty.jI, Option.some.injEq, Prod.mk.injEq] at h
      obtain ⟨rfl, rfl⟩ := h
      rfl
  | .str, cs, rest, tail, x, h => by
    match cs, h with
    | .str b :: cs, h =>
      simp only [Ty.jI, Option.some.injEq, Prod.mk.injEq] at h
      obtain ⟨rfl, rfl⟩ := h
      rfl
  | .list e, cs, rest, tail, x, h => by
    match cs, h with
    | c :: cs, h =>
      simp only [Ty.jI] at h
      split at h
      case h_2 => cases h
      rename_i hs
      cases h
      simp only [List.cons_append, Ty.jI, hs]
  | .pair a b, cs, rest, tail, x, h => by
    simp only [Ty.jI] at h
    split at h
    case h_2 => cases h
    rename_i y cs1 ha
    split at h
    case h_2 => cases h
    rename_i z cs2 hb
    cases h
    simp only [Ty.jI, rdBy_tail a ha, rdBy_tail b hb]
  | .rose a, cs, rest, tail, x, h => by
    simp only [Ty.jI] at h
    split at h
    case h_2 => cases h
    rename_i y c1 cs1 ha
    split at h
    case h_2 => cases h
    rename_i xs hl
    cases h
    simp only [Ty.jI, rdBy_tail a ha, List.cons_append, hl]
theorem CRs.cons_inv {w : World} {Z : Nat → Prop} {c : C} {cs : List C} {us : List Value} (h : CRs w Z μ (c :: cs) us) : ∃ v us', us = v :: us' ∧ CR w Z μ c v ∧ CRs w Z μ cs us' := by
  obtain ⟨v1, us', rfl, c1, c2⟩ := CRs.split (cs := [c]) (cs' := cs) h
  obtain ⟨v, rfl, cv⟩ := c1.one
  exact ⟨v, us', rfl, cv, c2⟩
theorem CRs.hB {w : World} {Z : Nat → Prop} {us : List Value} (h : CRs w Z μ [] us) : us = [] := List.eq_nil_of_length_eq_zero (by simpa using h.1.symm)
theorem CRs.dt {w : World} {Z : Nat → Prop} {dt : List Cap} {vs : List Value} (hl : vs.length = dt.length) (h : ∀ k (h : k < dt.length) (h' : k < vs.length), vS w Z μ dt[k] vs[k]) : CRs w Z μ (dt.map Cap.cell) vs := by
  refine ⟨by simp [hl], fun k h1 h2 => ?_⟩
  simp only [List.getElem_map]
  have h3 := h k (by simpa using h1) h2
  cases hc : dt[k] with
  | root r => rw [hc] at h3; exact h3
  | frz e x => rw [hc] at h3; exact h3
theorem jb.own {w : World} {Z V : Nat → Prop} {s : Sh} {v : Value} {xs : List s.den} (h : jb w s.cells V (fun us x => BR w Z V s us x) v xs) (hl : dw s xs.length = true) : BR w Z V (.own s) [v] xs := by
  simp only [BR]
  obtain ⟨q, cap, e4, e5, e7⟩ := h
  exact ⟨q, cap, by rw [e4], e5, hl, e7⟩
theorem jt {st : Bool} {m : Mem} {Z V : Nat → Prop} (hM : az B m w Z μ) (hV : ∀ b, B.Y b ∨ Z b → V b) (hV' : st = false → ∀ r b, ew m μ r b → V b) :
    ∀ (s : Sh) {cs rest : List C} {us : List Value} {x : s.den}, CRs w Z μ cs us → s.lL st m.roots cs = some (x, rest) →
      ∃ us1 us2, us = us1 ++ us2 ∧ us1.length = s.cells ∧ BR w Z V s us1 x ∧ CRs w Z μ rest us2
  | .nil, cs, rest, us, x, hc, h => by
    simp only [Sh.lL, Option.some.injEq, Prod.mk.injEq] at h
    obtain ⟨_, rfl⟩ := h
    exact ⟨[], us, rfl, rfl, by simp only [BR], hc⟩
  | .undef, cs, rest, us, x, hc, h => by
    match cs, h with
    | c :: cs, h =>
      simp only [Sh.lL, Option.some.injEq, Prod.mk.injEq] at h
      obtain ⟨_, rfl⟩ := h
      obtain ⟨v, us', rfl, h1, h2⟩ := hc.cons_inv
      exact ⟨[v], us', rfl, rfl, by simp only [BR, List.length_singleton], h2⟩
  | .opq, cs, rest, us, x, hc, h => by
    match cs, h with
    | c :: cs, h =>
      simp only [Sh.lL] at h
      split at h
      case h_2 => cases h
      rename_i hu
      simp only [Option.some.injEq, Prod.mk.injEq] at h
      obtain ⟨_, rfl⟩ := h
      obtain ⟨v, us', rfl, h1, h2⟩ := hc.cons_inv
      exact ⟨[v], us', rfl, rfl, by simp only [BR]; exact ⟨v, rfl, h1.one hu⟩, h2⟩
  | .err, cs, rest, us, x, hc, h => by
    match cs, h with
    | .err b :: cs, h =>
      simp only [Sh.lL, Option.some.injEq, Prod.mk.injEq] at h
      obtain ⟨rfl, rfl⟩ := h
      obtain ⟨v, us', rfl, h1, h2⟩ := hc.cons_inv
      exact ⟨[v], us', rfl, rfl, by simp only [BR]; exact ⟨v, rfl, h1⟩, h2⟩
  | .iC, cs, rest, us, x, hc, h => by
    match cs, h with
    | .iC :: cs, h =>
      simp only [Sh.lL, Option.some.injEq, Prod.mk.injEq] at h
      obtain ⟨_, rfl⟩ := h
      obtain ⟨v, us', rfl, h1, h2⟩ := hc.cons_inv
      exact ⟨[v], us', rfl, rfl, by simp only [BR]; rw [show v = _ from h1], h2⟩
  | .frz t, cs, rest, us, x, hc, h => by
    simp only [Sh.lL] at h
    obtain ⟨pre, us1, us2, e1, e2, e3, e4, e5⟩ := lU (w := w) (Z := Z) (w' := w) (Z' := Z) (μ := μ) t (fun e c v xs _ hc h => wh hM hc h) hc h
    exact ⟨us1, us2, e1, e4.length, e4, e5⟩
  | .own s, cs, rest, us, x, hc, h => by
    match cs, h with
    | .kP :: cs, h =>
      simp only [Sh.lL, Option.some.injEq, Prod.mk.injEq] at h
      obtain ⟨rfl, rfl⟩ := h
      obtain ⟨v, us', rfl, h1, h2⟩ := hc.cons_inv
      refine ⟨[v], us', rfl, rfl, jb.own (V := V) ?_ ?_, h2⟩
      · rw [show v = _ from h1]; exact tv _ _ _ _
      · simp [dw]
    | .lst e xs :: cs, h =>
      simp only [Sh.lL] at h
      split at h
      case h_2 => cases h
      rename_i he ht _
      subst he
      simp only [Option.some.injEq, Prod.mk.injEq] at h
      obtain ⟨rfl, rfl⟩ := h
      obtain ⟨v, us', rfl, h1, h2⟩ := hc.cons_inv
      exact ⟨[v], us', rfl, rfl, Frz.br (fun b hb => hV b (.inr hb)) (s := .own s) ht h1, h2⟩
    | .ref r wd :: cs, h =>
      simp only [Sh.lL] at h
      obtain ⟨v, us', rfl, ⟨ℓ, m1, m2⟩, h2⟩ := hc.cons_inv
      split at h
      · rename_i e xs hr
        split at h
        case h_2 => cases h
        rename_i he ht _
        subst he
        simp only [Option.some.injEq, Prod.mk.injEq] at h
        obtain ⟨rfl, rfl⟩ := h
        obtain ⟨ℓ', h5, h6⟩ := hM.rt r _ hr (by simp)
        rw [m1] at h5; cases h5
        obtain ⟨g1, g2⟩ := RdR.win (show RdR _ _ _ _ _ _ _ from h6) m2
        have g3 := g1.frz (kg (n := xs.length) h6.2.2.2.1 g2)
        exact ⟨[v], us', rfl, rfl, Frz.br (fun b hb => hV b (.inr hb)) (s := .own s) ht g3, h2⟩
      · rename_i s' xs hr
        split at h
        case h_2 => cases h
        rename_i he _
        subst he
        simp only [Option.some.injEq, Prod.mk.injEq] at h
        obtain ⟨rfl, rfl⟩ := h
        obtain ⟨ℓ', h5, h6⟩ := hM.rt r _ hr (by simp)
        rw [m1] at h5; cases h5
        obtain ⟨g1, g2⟩ := RdR.win (show RdR _ _ _ _ _ _ _ from h6) m2
        refine ⟨[v], us', rfl, rfl, jb.own (V := V) (g1.imp hV fun us x hR => BR.same (aj.refl _ _) (fun _ h => h) hV hR) (kv (n := xs.length) h6.2.2.2.1 g2), h2⟩
      · rename_i s' xs foc hr
        split at h
        case h_2 => cases h
        rename_i he _ _
        subst he
        obtain ⟨ℓ', h5, h6, h7⟩ := hM.rt r _ hr (by simp)
        rw [m1] at h5; cases h5
        have hO : ∀ b, ℓ.S b → V b := fun b hb => hV' rfl r b ⟨_, ℓ, hr, rfl, m1, hb⟩
        split at h
        · simp only [Option.some.injEq, Prod.mk.injEq] at h
          obtain ⟨rfl, rfl⟩ := h
          obtain ⟨g1, g2⟩ := (h7.rd (V := V) (R' := fun us x => BR w Z V s' us x) hO fun i us x S _ _ hS hR => SR.br hV hR fun d hd => hO d (hS d hd)).win m2
          exact ⟨[v], us', rfl, rfl, jb.own (V := V) g1 (kv (n := xs.length) h7.2.2.2.1 g2), h2⟩
        · rename_i f
          split at h
          case h_2 => cases h
          rename_i y hy
          simp only [Option.some.injEq, Prod.mk.injEq] at h
          obtain ⟨rfl, rfl⟩ := h
          have hi := h6 f rfl
          obtain ⟨q1, q2, q3, q4, q0, q5⟩ := h7
          have key : RdR w s'.cells ((xs : List s'.den).set f.i y) (dw s' xs.length) V (fun us x => BR w Z V s' us x) ℓ := by
            refine ⟨q1, by rw [List.length_set]; exact q2, by rw [List.length_set]; exact q3, q4, .inl q0, ?_⟩
            cases hb : ℓ.blk with
            | none => rw [hb] at q5; obtain ⟨rfl, _⟩ := q5; simp at hi
            | some b =>
              rw [hb] at q5
              obtain ⟨k1, k2, N, k3, k4, k5⟩ := q5
              refine ⟨.inr (hO b k1), fun i hi' => ?_⟩
              obtain ⟨us, j1, j2, j3⟩ := k5 i (by simpa using hi')
              by_cases hif : f.i = i
              · subst hif
                simp only [ElR, if_true] at j3
                obtain ⟨us1, us2, e1, e2, e3, e4⟩ := jt hM hV hV' s' j3 hy
                have := e4.hB
                subst this
                rw [List.append_nil] at e1
                subst e1
                exact ⟨us, j1, j2, by simpa using e3⟩
              · simp only [ElR, if_neg hif] at j3
                exact ⟨us, j1, j2, by rw [List.getElem_set_ne hif]; exact SR.br hV j3 fun d hd => hO d (k3 i (by simpa using hi') d hd).1⟩
          obtain ⟨g1, g2⟩ := key.win m2
          exact ⟨[v], us', rfl, rfl, jb.own (V := V) g1 (kv (n := xs.length) q4 (by simpa using g2)), h2⟩
      · cases h
  | .box s, cs, rest, us, x, hc, h => by
    match cs, h with
    | .ptr r 0 :: cs, h =>
      simp only [Sh.lL] at h
      obtain ⟨v, us', rfl, ⟨ℓ, b, m1, m2, rfl⟩, h2⟩ := hc.cons_inv
      split at h
      · rename_i bs hr
        split at h
        · cases h
        rename_i hst
        split at h
        case h_2 => cases h
        rename_i y hy
        simp only [Option.some.injEq, Prod.mk.injEq] at h
        obtain ⟨rfl, rfl⟩ := h
        obtain ⟨ℓ', h5, b', h6, h7, h8, ws, h9, h10⟩ := hM.rt r _ hr (by simp)
        rw [m1] at h5; cases h5
        rw [m2] at h6; cases h6
        obtain ⟨us1, us2, e1, e2, e3, e4⟩ := jt hM hV hV' s h10 hy
        have := e4.hB
        subst this
        rw [List.append_nil] at e1
        subst e1
        refine ⟨[_], us', rfl, rfl, ?_, h2⟩
        simp only [BR]
        exact ⟨b, _, ws, rfl, hV' rfl r b ⟨_, ℓ, hr, rfl, m1, h7⟩, e2, h9, e3⟩
      · rename_i bs hr
        split at h
        case h_2 => cases h
        rename_i y hy
        simp only [Option.some.injEq, Prod.mk.injEq] at h
        obtain ⟨rfl, rfl⟩ := h
        obtain ⟨ℓ', h5, b', h6, h7, ws, h9, h10⟩ := hM.rt r _ hr (by simp)
        rw [m1] at h5; cases h5
        rw [m2] at h6; cases h6
        obtain ⟨us1, us2, e1, e2, e3, e4⟩ := jt hM hV hV' s h10 hy
        have := e4.hB
        subst this
        rw [List.append_nil] at e1
        subst e1
        refine ⟨[_], us', rfl, rfl, ?_, h2⟩
        simp only [BR]
        exact ⟨b, _, ws, rfl, hV b h7, e2, h9, e3⟩
      · cases h
    | .nJ e y 0 :: cs, h =>
      simp only [Sh.lL] at h
      split at h
      case h_2 => cases h
      rename_i he ht _
      subst he
      simp only [Option.some.injEq, Prod.mk.injEq] at h
      obtain ⟨rfl, rfl⟩ := h
      obtain ⟨v, us', rfl, ⟨b, o, ws, h3, rfl, h5, h6, h7⟩, h2⟩ := hc.cons_inv
      refine ⟨[_], us', rfl, rfl, ?_, h2⟩
      simp only [BR]
      exact ⟨b, o, ws, rfl, hV b (.inr h3), by rw [(kE ht).1]; exact h5, h6, Frz.br (fun b hb => hV b (.inr hb)) ht h7⟩
  | .clo f s, cs, rest, us, x, hc, h => by
    match cs, h with
    | .fn g dt :: cs, h =>
      simp only [Sh.lL] at h
      split at h
      case h_2 => cases h
      rename_i y hfg hy
      simp only [Option.some.injEq, Prod.mk.injEq] at h
      obtain ⟨rfl, rfl⟩ := h
      obtain ⟨v, us', rfl, ⟨vs, rfl, h4, h5⟩, h2⟩ := hc.cons_inv
      obtain ⟨us1, us2, e1, e2, e3, e4⟩ := jt hM hV hV' s (CRs.dt h4 h5) hy
      have := e4.hB
      subst this
      rw [List.append_nil] at e1
      subst e1
      simp only [Bool.and_eq_true, beq_iff_eq] at hfg
      obtain ⟨hfg, hcp⟩ := hfg
      subst hfg
      refine ⟨[_], us', rfl, rfl, ?_, h2⟩
      simp only [BR]
      exact ⟨hcp, vs, rfl, e3⟩
  | .seq a b, cs, rest, us, x, hc, h => by
    simp only [Sh.lL] at h
    split at h
    case h_2 => cases h
    rename_i y cs1 ha
    split at h
    case h_2 => cases h
    rename_i z cs2 hb
    simp only [Option.some.injEq, Prod.mk.injEq] at h
    obtain ⟨rfl, rfl⟩ := h
    obtain ⟨us1, us2, rfl, e2, e3, e4⟩ := jt hM hV hV' a hc ha
    obtain ⟨us3, us4, rfl, e6, e7, e8⟩ := jt hM hV hV' b e4 hb
    refine ⟨us1 ++ us3, us4, by simp, by simp [Sh.cells, e2, e6], ?_, e8⟩
    simp only [BR]
    exact ⟨us1, us3, rfl, e3, e7⟩
  | .bor s, cs, rest, us, x, hc, h => by
    simp only [Sh.lL] at h
    obtain ⟨us1, us2, e1, e2, e3, e4⟩ := jt hM hV hV' s hc h
    exact ⟨us1, us2, e1, e2, by simp only [BR]; exact e3, e4⟩
end
end Go.Mach
namespace Go.Mach
section
variable {B : eD} {w : World} {μ : aZ}
structure Kept (m m' : Mem) : Prop where
  len : m'.roots.length = m.roots.length
  cur : m'.cur = m.cur
  dead : ∀ r : Nat, m.roots[r]? = some bk.dead → m'.roots[r]? = some bk.dead
theorem Kept.refl (m : Mem) : Kept m m := ⟨rfl, rfl, fun _ h => h⟩
theorem Kept.trans {m m' m'' : Mem} (h : Kept m m') (h' : Kept m' m'') : Kept m m'' := ⟨h'.len.trans h.len, h'.cur.trans h.cur, fun r hr => h'.dead r (h.dead r hr)⟩
theorem Kept.set {m : Mem} {r : Nat} {x y : bk} (hr : m.roots[r]? = some x) (hx : x ≠ .dead) : Kept m (m.set r y) := by
  refine ⟨by simp [Mem.set], rfl, fun s hs => ?_⟩
  have : r ≠ s := by rintro rfl; rw [hr] at hs; cases hs; exact hx rfl
  simpa [Mem.set, List.getElem?_set_ne this] using hs
theorem Kept.lJ {m : Mem} {r : Nat} : Kept m (m.set r .dead) := by
  refine ⟨by simp [Mem.set], rfl, fun s hs => ?_⟩
  by_cases h : r = s
  · subst h; have := (List.getElem?_eq_some_iff.1 hs).1; simp [Mem.set, this]
  · simpa [Mem.set, List.getElem?_set_ne h] using hs
theorem yR {roots : List bk} {q : Nat} {s : Sh} {xs : List s.den} (ht : s.iH = true) (hq : roots[q]? = some (.arr s xs none)) {e : Ty} {c : C} :
    C.ll (roots.set q (.frz s.ty xs)) e c = C.ll roots e c := by
  cases c with
  | ref r wd =>
    by_cases h : q = r
    · subst h
      have hlt := (List.getElem?_eq_some_iff.1 hq).1
      simp only [C.ll]
      rw [hq, List.getElem?_set_self hlt]
      simp only [ht]
      cases Ty.same s.ty e with
      | none => rfl
      | some h => rfl
    · simp only [C.ll, List.getElem?_set_ne h]
  | _ => rfl
theorem yE {Z Y : Nat → Prop} {ℓ : Loc} {e : Ty} {xs : List e.den} {wd : Win} {v : Value} (h : fa w Z Y μ ℓ (.frz e xs)) (hv : SlR ℓ wd v) : Frz w Z (.list e) [v] (wd.of xs) := by
  obtain ⟨g1, g2⟩ := RdR.win (show RdR _ _ _ _ _ _ _ from h) hv
  exact g1.frz (kg (n := xs.length) h.2.2.2.1 g2)
theorem Frz.up {Z Z' : Nat → Prop} {t : Ty} {us : List Value} {x : t.den} (h : Frz w Z t us x) (hz : ∀ b, Z b → Z' b) : Frz w Z' t us x := h.same (aj.refl _ _) hz
theorem CRs.up {Z Z' : Nat → Prop} {cs : List C} {us : List Value} (h : CRs w Z μ cs us) (hz : ∀ b, Z b → Z' b) : CRs w Z' μ cs us := h.mono (aj.refl _ _) hz (bP.refl μ)
theorem SR.up {Z Z' Y : Nat → Prop} {s : Sh} {us : List Value} {x : s.den} {S : Nat → Prop} (h : SR w Z Y s us x S) (hz : ∀ b, Z b → Z' b) : SR w Z' Y s us x S := h.same hz (fun _ h => h) (aj.refl _ _)
theorem lO : ∀ {cs : List C} {us : List Value} {m m' : Mem} {Z F : Nat → Prop}, az B m w Z μ → bX B m w Z μ F → CRs w Z μ cs us → jc cs m = some m' →
    ∃ Z' : Nat → Prop, az B m' w Z' μ ∧ bX B m' w Z' μ F ∧ (∀ b, Z b → Z' b) ∧ Kept m m' ∧
      ∀ c ∈ cs, ∀ v, CR w Z μ c v → ∀ (e : Ty) (xs : List e.den), C.ll m.roots e c = some xs → Frz w Z' (.list e) [v] xs
  | [], us, m, m', Z, F, h, hF, hc, ht => by
    simp only [jc, Option.some.injEq] at ht
    subst ht
    exact ⟨Z, h, hF, fun _ h => h, Kept.refl m, fun c hc => by simp at hc⟩
  | c :: cs, us, m, m', Z, F, h, hF, hc, ht => by
    obtain ⟨v0, us', rfl, cv0, c2⟩ := hc.cons_inv
    by_cases hr : ∃ r wd, c = .ref r wd
    · obtain ⟨r, wd, rfl⟩ := hr
      obtain ⟨ℓ, m1, _⟩ := cv0
      simp only [jc] at ht
      split at ht
      · rename_i s xs hq
        split at ht
        case h_2 => cases ht
        rename_i hta
        have hlt : r < m.roots.length := (List.getElem?_eq_some_iff.1 hq).1
        obtain ⟨h1, h2⟩ := wA h hF hta hq m1
        obtain ⟨Z', g1, g2, g3, g4, g5⟩ := lO h1 h2 (c2.up fun _ h => .inl h) ht
        refine ⟨Z', g1, g2, fun b hb => g3 b (.inl hb), (Kept.set hq (by simp)).trans g4, fun c hc v cv e ys hl => ?_⟩
        rcases List.mem_cons.1 hc with rfl | hc
        · obtain ⟨ℓ'', m1', m2⟩ := cv
          rw [m1] at m1'; cases m1'
          obtain ⟨ℓ', j1, j2⟩ := h1.rt r (.frz s.ty xs) (by simp [Mem.set, hlt]) (by simp)
          rw [m1] at j1; cases j1
          simp only [C.ll, hq] at hl
          split at hl
          case h_2 => cases hl
          rename_i _ he _ _
          subst he
          cases hl
          exact (yE j2 m2).up g3
        · refine g5 c hc v (cv.mono (aj.refl _ _) (fun _ h => .inl h) (bP.refl μ)) e ys ?_
          rw [← hl]; exact yR hta hq
      · rename_i e xs hq
        obtain ⟨Z', g1, g2, g3, g4, g5⟩ := lO h hF c2 ht
        refine ⟨Z', g1, g2, g3, g4, fun c hc v cv e' ys hl => ?_⟩
        rcases List.mem_cons.1 hc with rfl | hc
        · obtain ⟨ℓ'', m1', m2⟩ := cv
          rw [m1] at m1'; cases m1'
          obtain ⟨ℓ', j1, j2⟩ := h.rt r (.frz e xs) hq (by simp)
          rw [m1] at j1; cases j1
          simp only [C.ll, hq] at hl
          split at hl
          case h_2 => cases hl
          rename_i he _
          subst he
          cases hl
          exact (yE j2 m2).up g3
        · exact g5 c hc v cv e' ys hl
      · cases ht
    · have ht' : jc cs m = some m' := by
        cases c with
        | ref q wq => exact absurd ⟨q, wq, rfl⟩ hr
        | _ => simpa only [jc] using ht
      obtain ⟨Z', g1, g2, g3, g4, g5⟩ := lO h hF c2 ht'
      refine ⟨Z', g1, g2, g3, g4, fun c' hc v cv e xs hl => ?_⟩
      rcases List.mem_cons.1 hc with rfl | hc
      · cases c' with
        | ref q wq => exact absurd ⟨q, wq, rfl⟩ hr
        | lst e' ys =>
          simp only [C.ll] at hl
          split at hl
          case h_2 => cases hl
          rename_i he _
          subst he
          cases hl
          exact (show Frz w Z (.list e') [v] ys from cv).up g3
        | kP =>
          simp only [C.ll, Option.some.injEq] at hl
          subst hl
          have hv : v = .slice none 0 0 := cv
          simp only [Frz]
          exact ⟨none, 0, by rw [hv]; rfl, by simp, by simp [jK], by simp⟩
        | _ => simp [C.ll] at hl
      · exact g5 c' hc v cv e xs hl
theorem kW.win {c : Nat} {α : Type} {xs : List α} {lok lok' : Bool} {R : List Value → α → (Nat → Prop) → Prop} {ℓ : Loc} {wd : Win} {v : Value} (h : kW w c xs lok (fun _ => R) ℓ) (hv : SlR ℓ wd v) (hl : (wd.of xs).length ≤ xs.length → lok' = true) :
    ∃ n : Loc, n.S = ℓ.S ∧ kW w c (wd.of xs) lok' (fun _ => R) n ∧ v = .slice (n.addr 0) n.len n.cap := by
  obtain ⟨h1, h2, h3, h4, h0, h6⟩ := h
  obtain ⟨p, k, p1, p2, p3, p4, p5, p6⟩ := hv.ri (by omega)
  have p3' := p3
  rw [h2] at p3'
  obtain ⟨w1, w2⟩ := ug xs wd p3'
  refine ⟨⟨ℓ.blk, ℓ.base + p * ℓ.sz, ℓ.sz, wd.len ℓ.len, k, ℓ.S, none⟩, rfl, ⟨h1, by rw [w1, h2], by rw [w1, ← h2]; exact p2, hl (by rw [w1]; omega), rfl, ?_⟩, ?_⟩
  · cases hb : ℓ.blk with
    | none =>
      rw [hb] at h6
      obtain ⟨rfl, h7⟩ := h6
      exact ⟨by cases wd <;> simp [Win.of], by show k = 0; omega⟩
    | some b =>
      rw [hb] at h6
      obtain ⟨g1, g2, N, g3, g4, g5⟩ := h6
      refine ⟨g1, ?_, fun i => N (wd.off + i), fun i hi => ?_, fun i j hi hj hij => ?_, fun i hi => ?_⟩
      · obtain ⟨vs, T, fz, k1, k2, k3⟩ := g2
        refine ⟨vs, T, fz, k1, ?_, k3⟩
        have hpc : p + k ≤ ℓ.cap := by omega
        have := Nat.mul_le_mul_right ℓ.sz hpc
        rw [Nat.add_mul] at this
        show ℓ.base + p * ℓ.sz + k * ℓ.sz ≤ vs.size
        omega
      · obtain ⟨hj, _⟩ := w2 i hi
        exact g3 _ hj
      · obtain ⟨hi', _⟩ := w2 i hi
        obtain ⟨hj', _⟩ := w2 j hj
        exact g4 _ _ hi' hj' (by omega)
      · obtain ⟨hj, he⟩ := w2 i hi
        have hpo : p = wd.off := by
          rcases p6 with p6 | p6
          · exact p6
          · rw [w1] at hi; rw [h2] at p2; omega
        obtain ⟨us, k1, k2, k3⟩ := g5 _ hj
        refine ⟨us, k1, ?_, by rw [he]; exact k3⟩
        show bd w b (ℓ.base + p * ℓ.sz + i * ℓ.sz) us
        rw [hpo, Nat.add_assoc, ← Nat.add_mul]; exact k2
  · rw [p1]; simp [Loc.addr, h0]
theorem kW.oe {c : Nat} {α : Type} {xs : List α} {lok : Bool} {R : Nat → List Value → α → (Nat → Prop) → Prop} {R' : List Value → α → (Nat → Prop) → Prop} {ℓ : Loc} (h : kW w c xs lok R ℓ) {i : Nat} (hi : i < xs.length) {y : α} {S1 : Nat → Prop}
    (hS1 : ∀ d, S1 d → ¬ ℓ.S d) (hat : ∀ b, ℓ.blk = some b → ∃ wf : List Value, wf.length = c ∧ bd w b (ℓ.base + i * ℓ.sz) wf ∧ R' wf y S1)
    (hoth : ∀ j us S (hj : j < xs.length), j ≠ i → R j us xs[j] S → R' us xs[j] S) : kW w c (xs.set i y) lok (fun _ => R') { ℓ with S := fun d => ℓ.S d ∨ S1 d } := by
  obtain ⟨q1, q2, q3, q4, q0, q5⟩ := h
  refine ⟨q1, by rw [List.length_set]; exact q2, by rw [List.length_set]; exact q3, q4, q0, ?_⟩
  cases hb : ℓ.blk with
  | none => rw [hb] at q5; obtain ⟨rfl, _⟩ := q5; simp at hi
  | some b =>
    rw [hb] at q5
    obtain ⟨k1, k2, N, k3, k4, k5⟩ := q5
    simp only
    refine ⟨.inl k1, k2, fun j => if i = j then S1 else N j, fun j hj d hd => ?_, fun j k hj hk hjk d hd hd' => ?_, fun j hj => ?_⟩
    · dsimp only at hd
      by_cases hij : i = j
      · rw [if_pos hij] at hd
        exact ⟨.inr hd, fun hdb => hS1 d hd (hdb ▸ k1)⟩
      · rw [if_neg hij] at hd
        exact ⟨.inl (k3 j (by simpa using hj) d hd).1, (k3 j (by simpa using hj) d hd).2⟩
    · dsimp only at hd hd'
      by_cases hij : i = j
      · have hik : i ≠ k := fun e => hjk (hij.symm.trans e)
        rw [if_pos hij] at hd
        rw [if_neg hik] at hd'
        exact hS1 d hd (k3 k (by simpa using hk) d hd').1
      · rw [if_neg hij] at hd
        by_cases hik : i = k
        · rw [if_pos hik] at hd'
          exact hS1 d hd' (k3 j (by simpa using hj) d hd).1
        · rw [if_neg hik] at hd'
          exact k4 j k (by simpa using hj) (by simpa using hk) hjk d hd hd'
    · by_cases hij : i = j
      · subst hij
        obtain ⟨wf, g1, g2, g3⟩ := hat b hb
        exact ⟨wf, g1, g2, by simpa using g3⟩
      · obtain ⟨us, g1, g2, g3⟩ := k5 j (by simpa using hj)
        refine ⟨us, g1, g2, ?_⟩
        dsimp only
        rw [List.getElem_set_ne hij, if_neg hij]
        exact hoth j us _ (by simpa using hj) (fun e => hij e.symm) g3
theorem sg {α : Type} (xs : List (List Int × α)) (i : Nat) (y : α) : (xs.modify i fun e => (e.1, y)).map (·.1) = xs.map (·.1) := by
  refine List.ext_getElem (by simp) fun j h1 h2 => ?_
  simp only [List.getElem_map, List.getElem_modify]
  split <;> rfl
theorem pt.oe {n : Nat} {α : Type} {xs : List (List Int × α)} {R R' : Nat → List Value → α → (Nat → Prop) → Prop} {b i : Nat} {S S1 : Nat → Prop} {y : α} (h : pt w n xs R b S) (hS1 : ∀ d, S1 d → ¬ S d)
    (hat : ∀ es clock, w.heap[b]? = some (.map es clock) → ∀ h : i < es.size, R' i [es[i].val] y S1) (hoth : ∀ j us x T, j ≠ i → R j us x T → R' j us x T) :
    pt w n (xs.modify i fun e => (e.1, y)) R' b (fun d => S d ∨ S1 d) := by
  obtain ⟨h0, es, clock, h1, h2, h3, h4, h5, h6, N, h7, h8, h9⟩ := h
  refine ⟨.inl h0, es, clock, h1, by simpa using h2, h3, h4, by rw [sg]; exact h5, fun x hx => ?_, fun j d => if i = j then S1 d else N j d, fun j hj d hd => ?_, fun j k hj hk hjk d hd hd' => ?_, fun j hj hj' => ?_⟩
  · have : x.1 ∈ (xs.modify i fun e => (e.1, y)).map (·.1) := List.mem_map_of_mem hx
    rw [sg] at this
    obtain ⟨z, hz, hz'⟩ := List.mem_map.1 this
    rw [← hz']
    exact h6 z hz
  · simp only [List.length_modify] at hj
    dsimp only at hd
    split at hd
    · exact ⟨.inr hd, fun e => hS1 d hd (e ▸ h0)⟩
    · exact ⟨.inl (h7 j hj d hd).1, (h7 j hj d hd).2⟩
  · simp only [List.length_modify] at hj hk
    dsimp only at hd hd'
    split at hd
    · rename_i e
      rw [if_neg fun e' => hjk (e.symm.trans e')] at hd'
      exact hS1 d hd (h7 k hk d hd').1
    · split at hd'
      · exact hS1 d hd' (h7 j hj d hd).1
      · exact h8 j k hj hk hjk d hd hd'
  · simp only [List.length_modify] at hj
    obtain ⟨h10, h11⟩ := h9 j hj hj'
    simp only [List.getElem_modify]
    by_cases e : i = j
    · subst e
      simp only [if_true]
      exact ⟨h10, hat es clock h1 hj'⟩
    · simp only [if_neg e]
      exact ⟨h10, hoth j _ _ _ (fun e' => e e'.symm) h11⟩
structure Got (B : eD) (m m' : Mem) (w : World) (Z : Nat → Prop) (μ : aZ) (F : Nat → Prop) (s : Sh) (us : List Value) (x : s.den) (rest : List C) : Prop where
  ex : ∃ (Z' F' S : Nat → Prop) (us1 us2 : List Value), us = us1 ++ us2 ∧ us1.length = s.cells ∧ az B m' w Z' μ ∧ bX B m' w Z' μ F' ∧ (∀ b, Z b → Z' b) ∧ (∀ b, F b → F' b) ∧
    (∀ b, S b → F' b ∧ ¬ F b) ∧ SR w Z' B.Y s us1 x S ∧ CRs w Z' μ rest us2
  kept : Kept m m'
theorem bX.grow {m : Mem} {Z F F' : Nat → Prop} (h : bX B m w Z μ F') (hf : ∀ b, F b → F' b) : bX B m w Z μ F := ⟨fun b hb => h.ok b (hf b hb), fun b r hb => h.off b r (hf b hb)⟩
theorem gj : ∀ (s : Sh) {cs rest : List C} {us : List Value} {x : s.den} {m m' : Mem} {Z F : Nat → Prop}, az B m w Z μ → bX B m w Z μ F → CRs w Z μ cs us → s.get cs m = some (x, rest, m') →
    Got B m m' w Z μ F s us x rest
  | .nil, cs, rest, us, x, m, m', Z, F, hM, hF, hc, h => by
    simp only [Sh.get, Option.some.injEq, Prod.mk.injEq] at h
    obtain ⟨_, rfl, rfl⟩ := h
    exact ⟨⟨Z, F, fun _ => False, [], us, rfl, rfl, hM, hF, fun _ h => h, fun _ h => h, fun _ h => h.elim, by simp only [SR], hc⟩, Kept.refl _⟩
  | .undef, cs, rest, us, x, m, m', Z, F, hM, hF, hc, h => by
    match cs, h with
    | c :: cs, h =>
      simp only [Sh.get, Option.some.injEq, Prod.mk.injEq] at h
      obtain ⟨_, rfl, rfl⟩ := h
      obtain ⟨v, us', rfl, h1, h2⟩ := hc.cons_inv
      exact ⟨⟨Z, F, fun _ => False, [v], us', rfl, rfl, hM, hF, fun _ h => h, fun _ h => h, fun _ h => h.elim, by simp only [SR, List.length_singleton], h2⟩, Kept.refl _⟩
  | .sb p, cs, rest, us, x, m, m', Z, F, hM, hF, hc, h => by
    match cs, h with
    | .ptr r 0 :: cs, h =>
      simp only [Sh.get] at h
      obtain ⟨v, us', rfl, ⟨ℓ, b, m1, m2, rfl⟩, h2⟩ := hc.cons_inv
      split at h
      case h_2 => cases h
      rename_i q xs hr
      split at h
      case h_2 => cases h
      rename_i hq _
      subst hq
      simp only [Option.some.injEq, Prod.mk.injEq] at h
      obtain ⟨rfl, rfl, rfl⟩ := h
      obtain ⟨ℓ', h5, b', h6, h7, h8⟩ := hM.rt r _ hr (by simp)
      rw [m1] at h5; cases h5
      rw [m2] at h6; cases h6
      obtain ⟨t1, t2⟩ := ev hM hF hr m1 rfl
      have hOff : ∀ b, ℓ.S b → ¬ F b := fun b hb hf => hF.off b r hf ⟨_, ℓ, hr, rfl, m1, hb⟩
      refine ⟨⟨Z, _, ℓ.S, [_], us', rfl, rfl, t1, t2, fun _ h => h, fun _ h => .inl h, fun b hb => ⟨.inr hb, hOff b hb⟩, ?_, h2⟩, Kept.lJ⟩
      simp only [SR]
      exact ⟨b, by rw [h7], h8⟩
  | .opq, cs, rest, us, x, m, m', Z, F, hM, hF, hc, h => by
    match cs, h with
    | c :: cs, h =>
      simp only [Sh.get] at h
      split at h
      case h_2 => cases h
      rename_i hu
      simp only [Option.some.injEq, Prod.mk.injEq] at h
      obtain ⟨_, rfl, rfl⟩ := h
      obtain ⟨v, us', rfl, h1, h2⟩ := hc.cons_inv
      exact ⟨⟨Z, F, fun _ => False, [v], us', rfl, rfl, hM, hF, fun _ h => h, fun _ h => h, fun _ h => h.elim, by simp only [SR]; exact ⟨v, rfl, h1.one hu⟩, h2⟩, Kept.refl _⟩
  | .err, cs, rest, us, x, m, m', Z, F, hM, hF, hc, h => by
    match cs, h with
    | .err b :: cs, h =>
      simp only [Sh.get, Option.some.injEq, Prod.mk.injEq] at h
      obtain ⟨rfl, rfl, rfl⟩ := h
      obtain ⟨v, us', rfl, h1, h2⟩ := hc.cons_inv
      exact ⟨⟨Z, F, fun _ => False, [v], us', rfl, rfl, hM, hF, fun _ h => h, fun _ h => h, fun _ h => h.elim, by simp only [SR]; exact ⟨v, rfl, h1⟩, h2⟩, Kept.refl _⟩
  | .iC, cs, rest, us, x, m, m', Z, F, hM, hF, hc, h => by
    match cs, h with
    | .iC :: cs, h =>
      simp only [Sh.get, Option.some.injEq, Prod.mk.injEq] at h
      obtain ⟨_, rfl, rfl⟩ := h
      obtain ⟨v, us', rfl, h1, h2⟩ := hc.cons_inv
      exact ⟨⟨Z, F, fun _ => False, [v], us', rfl, rfl, hM, hF, fun _ h => h, fun _ h => h, fun _ h => h.elim, by simp only [SR]; rw [show v = _ from h1], h2⟩, Kept.refl _⟩
  | .frz t, cs, rest, us, x, m, m', Z, F, hM, hF, hc, h => by
    simp only [Sh.get] at h
    split at h
    case h_2 => cases h
    rename_i y cs' hrd
    split at h
    case h_2 => cases h
    rename_i m1 hfz
    simp only [Option.some.injEq, Prod.mk.injEq] at h
    obtain ⟨rfl, rfl, rfl⟩ := h
    obtain ⟨pre, rfl, hl, hrd'⟩ := pV t hrd
    obtain ⟨us1, us2, rfl, c1, c2⟩ := CRs.split hc
    rw [← hl, List.take_left] at hfz
    obtain ⟨Z', g1, g2, g3, g4, g5⟩ := lO hM hF c1 hfz
    obtain ⟨pre', us3, us4, e1, e2, e3, e4, e5⟩ := lU (w := w) (Z := Z) (w' := w) (Z' := Z') (μ := μ) t (cs := pre) (us := us1) (fun e c v xs hm hcv hl => g5 c hm v hcv e xs hl) c1 hrd'
    have := e5.hB
    subst this
    rw [List.append_nil] at e1
    subst e1
    exact ⟨⟨Z', F, fun _ => False, us1, us2, rfl, by rw [e4.length]; rfl, g1, g2, g3, fun _ h => h, fun _ h => h.elim, by simp only [SR]; exact e4, c2.up g3⟩, g4⟩
  | .own s, cs, rest, us, x, m, m', Z, F, hM, hF, hc, h => by
    match cs, h with
    | .kP :: cs, h =>
      simp only [Sh.get, Option.some.injEq, Prod.mk.injEq] at h
      obtain ⟨rfl, rfl, rfl⟩ := h
      obtain ⟨v, us', rfl, h1, h2⟩ := hc.cons_inv
      refine ⟨⟨Z, F, fun _ => False, [v], us', rfl, rfl, hM, hF, fun _ h => h, fun _ h => h, fun _ h => h.elim, ?_, h2⟩, Kept.refl _⟩
      simp only [SR]
      exact ⟨⟨none, 0, s.cells, 0, 0, fun _ => False, none⟩, by rw [show v = _ from h1]; rfl, fun _ h => h.elim, rfl, rfl, by simp, by simp [dw], rfl, rfl, rfl⟩
    | .ref r wd :: cs, h =>
      simp only [Sh.get] at h
      obtain ⟨v, us', rfl, ⟨ℓ, m1, m2⟩, h2⟩ := hc.cons_inv
      split at h
      case h_2 => cases h
      rename_i s' xs foc hr
      split at h
      case h_2 => cases h
      rename_i _ he _ _
      subst he
      obtain ⟨ℓ', h5, h6, h7⟩ := hM.rt r _ hr (by simp)
      rw [m1] at h5; cases h5
      obtain ⟨t1, t2⟩ := ev hM hF hr m1 rfl
      have hOff : ∀ b, ℓ.S b → ¬ F b := fun b hb hf => hF.off b r hf ⟨_, ℓ, hr, rfl, m1, hb⟩
      split at h
      · simp only [Option.some.injEq, Prod.mk.injEq] at h
        obtain ⟨rfl, rfl, rfl⟩ := h
        obtain ⟨n, n1, n2, n3⟩ := kW.win (lok' := dw s' (wd.of (xs : List s'.den)).length) (R := fun us x S => SR w Z B.Y s' us x S) h7 m2 (fun hl => kv h7.2.2.2.1 hl)
        refine ⟨⟨Z, _, ℓ.S, [v], us', rfl, rfl, t1, t2, fun _ h => h, fun _ h => .inl h, fun b hb => ⟨.inr hb, hOff b hb⟩, ?_, h2⟩, Kept.lJ⟩
        simp only [SR]
        exact ⟨n, by rw [n3], by rw [n1]; exact fun _ h => h, n2⟩
      · rename_i f
        split at h
        case h_2 => cases h
        rename_i y m2' hy
        simp only [Option.some.injEq, Prod.mk.injEq] at h
        obtain ⟨rfl, rfl, rfl⟩ := h
        have hi := h6 f rfl
        have h7' := h7
        obtain ⟨q1, q2, q3, q4, q0, q5⟩ := h7
        cases hb : ℓ.blk with
        | none => rw [hb] at q5; obtain ⟨rfl, _⟩ := q5; simp at hi
        | some b =>
          rw [hb] at q5
          obtain ⟨k1, k2, N, k3, k4, k5⟩ := q5
          obtain ⟨wf, j1, j2, j3⟩ := k5 f.i hi
          simp only [ElR, if_true] at j3
          obtain ⟨⟨Z', F', S1, us1, us2, e1, e2, e3, e4, e5, e6, e7, e8, e9⟩, ek⟩ := gj s' t1 t2 j3 hy
          have := e9.hB
          subst this
          rw [List.append_nil] at e1
          subst e1
          have key : kW w s'.cells ((xs : List s'.den).set f.i y) (dw s' xs.length) (fun _ us x S => SR w Z' B.Y s' us x S) { ℓ with S := fun d => ℓ.S d ∨ S1 d } := by
            refine h7'.oe (R' := fun us x S => SR w Z' B.Y s' us x S) hi (fun d hd hS => (e7 d hd).2 (.inr hS)) (fun b' hb' => ?_) fun j us S hj hji hR => ?_
            · rw [hb] at hb'; cases hb'
              exact ⟨wf, j1, j2, e8⟩
            · simp only [ElR, if_neg (Ne.symm hji)] at hR
              exact hR.up e5
          obtain ⟨n, n1, n2, n3⟩ := kW.win (lok' := dw s' (wd.of ((xs : List s'.den).set f.i y)).length) (R := fun us x S => SR w Z' B.Y s' us x S) key (show SlR { ℓ with S := fun d => ℓ.S d ∨ S1 d } wd v from m2.withS) (fun hl => kv q4 (by simpa using hl))
          refine ⟨⟨Z', F', fun d => ℓ.S d ∨ S1 d, [v], us', rfl, rfl, e3, e4, e5, fun b hb => e6 b (.inl hb), fun d hd => ?_, ?_, h2.up e5⟩, Kept.lJ.trans ek⟩
          · rcases hd with hd | hd
            · exact ⟨e6 d (.inr hd), hOff d hd⟩
            · exact ⟨(e7 d hd).1, fun hf => (e7 d hd).2 (.inl hf)⟩
          · simp only [SR]
            exact ⟨n, by rw [n3], by rw [n1]; exact fun _ h => h, n2⟩
  | .map n s, cs, rest, us, x, m, m', Z, F, hM, hF, hc, h => by
    match cs, h with
    | .mp r :: cs, h =>
      simp only [Sh.get] at h
      obtain ⟨v, us', rfl, ⟨ℓ, b, m1, m2, rfl⟩, h2⟩ := hc.cons_inv
      split at h
      case h_2 => cases h
      rename_i n' s' xs foc hr
      split at h
      case h_2 => cases h
      rename_i _ _ hn he _ _
      subst hn
      subst he
      obtain ⟨ℓ', h5, h6, b', h7, h8⟩ := hM.rt r _ hr (by simp)
      rw [m1] at h5; cases h5
      rw [m2] at h7; cases h7
      obtain ⟨t1, t2⟩ := ev hM hF hr m1 rfl
      have hOff : ∀ b, ℓ.S b → ¬ F b := fun b hb hf => hF.off b r hf ⟨_, ℓ, hr, rfl, m1, hb⟩
      split at h
      · simp only [Option.some.injEq, Prod.mk.injEq] at h
        obtain ⟨rfl, rfl, rfl⟩ := h
        refine ⟨⟨Z, _, ℓ.S, [_], us', rfl, rfl, t1, t2, fun _ h => h, fun _ h => .inl h, fun b hb => ⟨.inr hb, hOff b hb⟩, ?_, h2⟩, Kept.lJ⟩
        simp only [SR]
        exact ⟨b, rfl, h8⟩
      · rename_i f
        split at h
        case h_2 => cases h
        rename_i y m2' hy
        simp only [Option.some.injEq, Prod.mk.injEq] at h
        obtain ⟨rfl, rfl, rfl⟩ := h
        have hi := h6 f rfl
        have h8' := h8
        obtain ⟨q0, es, clock, q1, q2, q3, q4, q5, q6, N, q7, q8, q9⟩ := h8
        obtain ⟨_, j3⟩ := q9 f.i hi (by omega)
        simp only [EnR, ElR, if_true] at j3
        obtain ⟨⟨Z', F', S1, us1, us2, e1, e2, e3, e4, e5, e6, e7, e8, e9⟩, ek⟩ := gj s' t1 t2 j3 hy
        have := e9.hB
        subst this
        rw [List.append_nil] at e1
        subst e1
        refine ⟨⟨Z', F', fun d => ℓ.S d ∨ S1 d, [_], us', rfl, rfl, e3, e4, e5, fun b hb => e6 b (.inl hb), fun d hd => ?_, ?_, h2.up e5⟩, Kept.lJ.trans ek⟩
        · rcases hd with hd | hd
          · exact ⟨e6 d (.inr hd), hOff d hd⟩
          · exact ⟨(e7 d hd).1, fun hf => (e7 d hd).2 (.inl hf)⟩
        · simp only [SR]
          refine ⟨b, rfl, h8'.oe (fun d hd hS => (e7 d hd).2 (.inr hS)) (fun es' clock' hes h => ?_) fun j us x T hj hR => ?_⟩
          · rw [q1] at hes
            cases hes
            exact e8
          · simp only [EnR, ElR, if_neg (Ne.symm hj)] at hR
            exact hR.up e5
  | .box s, cs, rest, us, x, m, m', Z, F, hM, hF, hc, h => by
    match cs, h with
    | .ptr r 0 :: cs, h =>
      simp only [Sh.get] at h
      obtain ⟨v, us', rfl, ⟨ℓ, b, m1, m2, rfl⟩, h2⟩ := hc.cons_inv
      split at h
      case h_2 => cases h
      rename_i bs hr
      split at h
      case h_2 => cases h
      rename_i y m2' hy
      simp only [Option.some.injEq, Prod.mk.injEq] at h
      obtain ⟨rfl, rfl, rfl⟩ := h
      obtain ⟨ℓ', h5, b', h6, h7, h8, ws, h9, h10⟩ := hM.rt r _ hr (by simp)
      rw [m1] at h5; cases h5
      rw [m2] at h6; cases h6
      obtain ⟨t1, t2⟩ := ev hM hF hr m1 rfl
      have hOff : ∀ b, ℓ.S b → ¬ F b := fun b hb hf => hF.off b r hf ⟨_, ℓ, hr, rfl, m1, hb⟩
      obtain ⟨⟨Z', F', S1, us1, us2, e1, e2, e3, e4, e5, e6, e7, e8, e9⟩, ek⟩ := gj s t1 t2 h10 hy
      have := e9.hB
      subst this
      rw [List.append_nil] at e1
      subst e1
      refine ⟨⟨Z', F', fun d => d = b ∨ S1 d, [_], us', rfl, rfl, e3, e4, e5, fun b hb => e6 b (.inl hb), fun d hd => ?_, ?_, h2.up e5⟩, Kept.lJ.trans ek⟩
      · rcases hd with rfl | hd
        · exact ⟨e6 d (.inr h7), hOff d h7⟩
        · exact ⟨(e7 d hd).1, fun hf => (e7 d hd).2 (.inl hf)⟩
      · simp only [SR]
        refine ⟨b, _, ws, S1, rfl, .inl rfl, ?_, e2, h9, fun d hd => ⟨.inr hd, ?_⟩, e8⟩
        · have e : s.cells = bs.length := by rw [← e2, h10.1]
          rw [e]; exact h8
        · rintro rfl
          exact (e7 d hd).2 (.inr h7)
  | .clo f s, cs, rest, us, x, m, m', Z, F, hM, hF, hc, h => by
    match cs, h with
    | .fn g dt :: cs, h =>
      simp only [Sh.get] at h
      split at h
      case h_2 => cases h
      rename_i y m2' hfg hy
      simp only [Option.some.injEq, Prod.mk.injEq] at h
      obtain ⟨rfl, rfl, rfl⟩ := h
      obtain ⟨v, us', rfl, ⟨vs, rfl, h4, h5⟩, h2⟩ := hc.cons_inv
      obtain ⟨⟨Z', F', S1, us1, us2, e1, e2, e3, e4, e5, e6, e7, e8, e9⟩, ek⟩ := gj s hM hF (CRs.dt h4 h5) hy
      have := e9.hB
      subst this
      rw [List.append_nil] at e1
      subst e1
      simp only [Bool.and_eq_true, beq_iff_eq] at hfg
      obtain ⟨hfg, hcp⟩ := hfg
      subst hfg
      refine ⟨⟨Z', F', S1, [_], us', rfl, rfl, e3, e4, e5, e6, e7, ?_, h2.up e5⟩, ek⟩
      simp only [SR]
      exact ⟨hcp, vs, rfl, e8⟩
  | .seq a b, cs, rest, us, x, m, m', Z, F, hM, hF, hc, h => by
    simp only [Sh.get] at h
    split at h
    case h_2 => cases h
    rename_i y cs1 m1 ha
    split at h
    case h_2 => cases h
    rename_i z cs2 m2 hb
    simp only [Option.some.injEq, Prod.mk.injEq] at h
    obtain ⟨rfl, rfl, rfl⟩ := h
    obtain ⟨⟨Z1, F1, S1, us1, us2, rfl, e2, e3, e4, e5, e6, e7, e8, e9⟩, ek⟩ := gj a hM hF hc ha
    obtain ⟨⟨Z2, F2, S2, us3, us4, rfl, g2, g3, g4, g5, g6, g7, g8, g9⟩, gk⟩ := gj b e3 e4 e9 hb
    refine ⟨⟨Z2, F2, fun d => S1 d ∨ S2 d, us1 ++ us3, us4, by simp, by simp [Sh.cells, e2, g2], g3, g4, fun b hb => g5 b (e5 b hb), fun b hb => g6 b (e6 b hb), fun d hd => ?_, ?_, g9⟩, ek.trans gk⟩
    · rcases hd with hd | hd
      · exact ⟨g6 d (e7 d hd).1, (e7 d hd).2⟩
      · exact ⟨(g7 d hd).1, fun hf => (g7 d hd).2 (e6 d hf)⟩
    · simp only [SR]
      exact ⟨us1, us3, S1, S2, rfl, fun _ h => .inl h, fun _ h => .inr h, fun d h1 h2 => (g7 d h2).2 (e7 d h1).1, e8.up g5, g8⟩
  | .bor s, cs, rest, us, x, m, m', Z, F, hM, hF, hc, h => by
    simp only [Sh.get] at h
    split at h
    case h_2 => cases h
    rename_i y cs1 ha
    simp only [Option.some.injEq, Prod.mk.injEq] at h
    obtain ⟨rfl, rfl, rfl⟩ := h
    obtain ⟨us1, us2, e1, e2, e3, e4⟩ := jt (st := true) (V := fun b => B.Y b ∨ Z b) hM (fun _ h => h) (by simp) s hc ha
    exact ⟨⟨Z, F, fun _ => False, us1, us2, e1, e2, hM, hF, fun _ h => h, fun _ h => h, fun _ h => h.elim, by simp only [SR]; exact e3, e4⟩, Kept.refl _⟩
end
end Go.Mach
namespace Go.Mach
section
variable {B : eD} {w : World}
def iM (m : Mem) (μ : aZ) (n : Nat) : Prop := ∀ k, k < n → μ (m.cur + k) = none ∧ m.roots[m.cur + k]? = some .dead
structure Grow (m m' : Mem) (μ μ' : aZ) (n : Nat) : Prop where
  len : m'.roots.length = m.roots.length
  cur : m'.cur = m.cur + n
  dR : m'.dR = m.dR
  ext : bP μ μ'
  old : ∀ r, (r < m.cur ∨ m.cur + n ≤ r) → μ' r = μ r ∧ m'.roots[r]? = m.roots[r]?
theorem Grow.refl (m : Mem) (μ : aZ) : Grow m m μ μ 0 := ⟨rfl, rfl, rfl, bP.refl μ, fun _ _ => ⟨rfl, rfl⟩⟩
theorem Grow.trans {m m' m'' : Mem} {μ μ' μ'' : aZ} {a b : Nat} (h : Grow m m' μ μ' a) (h' : Grow m' m'' μ' μ'' b) : Grow m m'' μ μ'' (a + b) := by
  refine ⟨h'.len.trans h.len, by rw [h'.cur, h.cur, Nat.add_assoc], h'.dR.trans h.dR, h.ext.trans h'.ext, fun r hr => ?_⟩
  obtain ⟨h1, h2⟩ := h.old r (by omega)
  obtain ⟨h3, h4⟩ := h'.old r (by have := h.cur; omega)
  exact ⟨h3.trans h1, h4.trans h2⟩
theorem iM.left {m : Mem} {μ : aZ} {a b : Nat} (h : iM m μ (a + b)) : iM m μ a := fun k hk => h k (by omega)
theorem iM.mono {m : Mem} {μ : aZ} {a b : Nat} (h : iM m μ b) (hab : a ≤ b) : iM m μ a := fun k hk => h k (by omega)
theorem iM.right {m m' : Mem} {μ μ' : aZ} {a b : Nat} (h : iM m μ (a + b)) (hg : Grow m m' μ μ' a) : iM m' μ' b := fun k hk => by
  obtain ⟨h1, h2⟩ := h (a + k) (by omega)
  obtain ⟨h3, h4⟩ := hg.old (m.cur + (a + k)) (by omega)
  rw [hg.cur, Nat.add_assoc, h3, h4]
  exact ⟨h1, h2⟩
theorem Grow.push {m : Mem} {μ : aZ} {ℓ : Loc} {x : bk} (hf : iM m μ 1) : Grow m (m.push x) μ (μ.set m.cur ℓ) 1 := by
  obtain ⟨h1, h2⟩ := hf 0 (by omega)
  rw [Nat.add_zero] at h1 h2
  refine ⟨by simp [Mem.push], rfl, rfl, bP.set h1, fun r hr => ⟨aZ.eb _ _ (by omega), ?_⟩⟩
  simp only [Mem.push]
  rw [List.getElem?_set_ne (by omega)]
def Made (B : eD) (m m' : Mem) (w : World) (Z : Nat → Prop) (μ : aZ) (F' : Nat → Prop) (n : Nat) (cs : List C) (us : List Value) : Prop :=
  ∃ μ', az B m' w Z μ' ∧ bX B m' w Z μ' F' ∧ CRs w Z μ' cs us ∧ Grow m m' μ μ' n
def w7 (cs : List C) : Prop := ∀ c ∈ cs, ∃ r, c = .ptr r 0
theorem CRs.fn {Z : Nat → Prop} {μ : aZ} {cs : List C} {vs : List Value} {f : FuncId} (h : CRs w Z μ cs vs) (hp : w7 cs) : CRs w Z μ [.fn f (cs.map C.cap)] [.func (.func f) #[] vs.toArray] := by
  refine CRs.mk1 ⟨vs, rfl, by simp [h.1], fun k h1 h2 => ?_⟩
  simp only [List.getElem_map]
  have h3 : k < cs.length := by simpa using h1
  obtain ⟨r, hr⟩ := hp cs[k] (List.getElem_mem _)
  have h4 := h.2 k h3 h2
  rw [hr] at h4 ⊢
  exact h4
theorem kh : ∀ (s : Sh) {us : List Value} {x : s.den} {m : Mem} {Z F : Nat → Prop} {μ : aZ}, az B m w Z μ → bX B m w Z μ F → iM m μ s.news → BR w Z (fun b => B.Y b ∨ Z b) s us x →
    Made B m (s.mkB x m).2 w Z μ F s.news (s.mkB x m).1 us ∧ (s.dt = true → w7 (s.mkB x m).1)
  | .nil, us, x, m, Z, F, μ, hM, hF, hf, h => by
    simp only [BR] at h
    subst h
    exact ⟨⟨μ, hM, hF, CRs.nil, Grow.refl m μ⟩, fun _ c hc => by simp [Sh.mkB] at hc⟩
  | .undef, us, x, m, Z, F, μ, hM, hF, hf, h => by
    simp only [BR] at h
    match us, h with
    | [v], _ => exact ⟨⟨μ, hM, hF, CRs.mk1 trivial, Grow.refl m μ⟩, fun h => by simp [Sh.dt] at h⟩
  | .sb p, us, xs, m, Z, F, μ, hM, hF, hf, h => by
    simp only [BR] at h
    obtain ⟨f1, f2⟩ := hf 0 (by simp [Sh.news])
    rw [Nat.add_zero] at f1 f2
    obtain ⟨g1, g2⟩ := fY (x := .dead) (ℓ := ⟨none, 0, 0, 0, 0, fun _ => False, none⟩) hM hF f2 f1 trivial (fun h => by simp [bk.fj] at h)
    match us, h with
    | [v], _ =>
      refine ⟨⟨_, g1, g2.grow fun b hb => ⟨hb, fun h => by simp [bk.fj] at h⟩, CRs.mk1 trivial, Grow.push (fun k hk => by
        have : k = 0 := by omega
        subst this; exact ⟨f1, f2⟩)⟩, fun h => by simp [Sh.dt] at h⟩
  | .opq, us, x, m, Z, F, μ, hM, hF, hf, h => by
    simp only [BR] at h
    obtain ⟨v, rfl, h⟩ := h
    exact ⟨⟨μ, hM, hF, CRs.mk1 h, Grow.refl m μ⟩, fun h => by simp [Sh.dt] at h⟩
  | .err, us, x, m, Z, F, μ, hM, hF, hf, h => by
    simp only [BR] at h
    obtain ⟨v, rfl, h⟩ := h
    exact ⟨⟨μ, hM, hF, CRs.mk1 h, Grow.refl m μ⟩, fun h => by simp [Sh.dt] at h⟩
  | .iC, us, x, m, Z, F, μ, hM, hF, hf, h => by
    simp only [BR] at h
    subst h
    exact ⟨⟨μ, hM, hF, CRs.mk1 rfl, Grow.refl m μ⟩, fun h => by simp [Sh.dt] at h⟩
  | .frz t, us, x, m, Z, F, μ, hM, hF, hf, h => ⟨⟨μ, hM, hF, Frz.flat (show Frz w Z t us x from h), Grow.refl m μ⟩, fun h => by simp [Sh.dt] at h⟩
  | .map n s, us, xs, m, Z, F, μ, hM, hF, hf, h => by
    simp only [BR] at h
    obtain ⟨b, rfl, _⟩ := h
    obtain ⟨f1, f2⟩ := hf 0 (by simp [Sh.news])
    rw [Nat.add_zero] at f1 f2
    obtain ⟨g1, g2⟩ := fY (x := .dead) (ℓ := ⟨none, 0, 0, 0, 0, fun _ => False, none⟩) hM hF f2 f1 trivial (fun h => by simp [bk.fj] at h)
    refine ⟨⟨_, g1, g2.grow fun b hb => ⟨hb, fun h => by simp [bk.fj] at h⟩, CRs.mk1 trivial, Grow.push (fun k hk => by
      have : k = 0 := by omega
      subst this; exact ⟨f1, f2⟩)⟩, fun h => by simp [Sh.dt] at h⟩
  | .own s, us, xs, m, Z, F, μ, hM, hF, hf, h => by
    simp only [BR] at h
    obtain ⟨a, cap, rfl, h2, h3, h4⟩ := h
    obtain ⟨f1, f2⟩ := hf 0 (by simp [Sh.news])
    rw [Nat.add_zero] at f1 f2
    have key : ∃ ℓ : Loc, ℓ.addr 0 = a ∧ ℓ.len = xs.length ∧ ℓ.cap = cap ∧ RdR w s.cells xs (dw s xs.length) (fun b => B.Y b ∨ Z b) (fun us x => BR w Z (fun b => B.Y b ∨ Z b) s us x) ℓ := by
      rcases h4 with h4 | ⟨b, o, rfl, h5, h6⟩
      · refine ⟨⟨none, 0, s.cells, xs.length, cap, fun _ => False, a⟩, ?_, rfl, rfl, rfl, rfl, h2, h3, .inr h4, h4⟩
        cases a with
        | none => rfl
        | some a => simp [Loc.addr, Addr.add]
      · exact ⟨⟨some b, o, s.cells, xs.length, cap, fun _ => False, none⟩, by simp [Loc.addr], rfl, rfl, rfl, rfl, h2, h3, .inl rfl, .inr h5, h6⟩
    obtain ⟨ℓ, e1, e2, e3, e4⟩ := key
    obtain ⟨g1, g2⟩ := fY (x := .bor s xs) (ℓ := ℓ) hM hF f2 f1 e4 (fun h => by simp [bk.fj] at h)
    refine ⟨⟨_, g1, g2.grow fun b hb => ⟨hb, fun h => by simp [bk.fj] at h⟩, CRs.mk1 ⟨ℓ, aZ.ej _ _ _, ?_⟩, Grow.push (fun k hk => by
      have : k = 0 := by omega
      subst this; exact ⟨f1, f2⟩)⟩, fun h => by simp [Sh.dt] at h⟩
    show _ = _
    rw [e1, e2, e3]
  | .box s, us, x, m, Z, F, μ, hM, hF, hf, h => by
    simp only [BR] at h
    obtain ⟨b, o, us', rfl, h2, h3, h4, h5⟩ := h
    obtain ⟨⟨μ1, m1, m2, m3, m4⟩, _⟩ := kh s hM hF (iM.left (b := 1) hf) h5
    have hf1 := iM.right (b := 1) hf m4
    obtain ⟨f1, f2⟩ := hf1 0 (by omega)
    rw [Nat.add_zero] at f1 f2
    obtain ⟨g1, g2⟩ := fY (x := .mj (s.mkB x m).1) (ℓ := ⟨some b, o, 0, 0, 0, fun _ => False, none⟩) m1 m2 f2 f1 ⟨b, rfl, h2, us', h4, m3.mono (aj.refl _ _) (fun _ h => h) (bP.set f1)⟩ (fun h => by simp [bk.fj] at h)
    refine ⟨⟨_, g1, g2.grow fun b hb => ⟨hb, fun h => by simp [bk.fj] at h⟩, CRs.mk1 ⟨_, b, aZ.ej _ _ _, rfl, rfl⟩, m4.trans (Grow.push hf1)⟩, fun _ c hc => ?_⟩
    simp only [Sh.mkB, List.mem_singleton] at hc
    exact ⟨_, hc⟩
  | .clo f s, us, x, m, Z, F, μ, hM, hF, hf, h => by
    simp only [BR] at h
    obtain ⟨h0, vs, rfl, h2⟩ := h
    obtain ⟨⟨μ1, m1, m2, m3, m4⟩, m5⟩ := kh s hM hF hf h2
    exact ⟨⟨μ1, m1, m2, m3.fn (m5 h0), m4⟩, fun h => by simp [Sh.dt] at h⟩
  | .seq a b, us, x, m, Z, F, μ, hM, hF, hf, h => by
    simp only [BR] at h
    obtain ⟨u1, u2, rfl, h2, h3⟩ := h
    obtain ⟨⟨μ1, m1, m2, m3, m4⟩, m5⟩ := kh a hM hF hf.left h2
    obtain ⟨⟨μ2, n1, n2, n3, n4⟩, n5⟩ := kh b m1 m2 (hf.right m4) h3
    refine ⟨⟨μ2, n1, n2, (m3.mono (aj.refl _ _) (fun _ h => h) n4.ext).append n3, m4.trans n4⟩, fun hc c hm => ?_⟩
    simp only [Sh.dt, Bool.and_eq_true] at hc
    simp only [Sh.mkB, List.mem_append] at hm
    exact hm.elim (m5 hc.1 c) (n5 hc.2 c)
  | .bor s, us, x, m, Z, F, μ, hM, hF, hf, h => by
    simp only [BR] at h
    exact kh s hM hF hf h
theorem iJ : ∀ (s : Sh) {us : List Value} {x : s.den} {m : Mem} {Z F S : Nat → Prop} {μ : aZ}, az B m w Z μ → bX B m w Z μ F → iM m μ s.news → SR w Z B.Y s us x S → (∀ b, S b → F b) →
    Made B m (s.mk x m).2 w Z μ (fun b => F b ∧ ¬ S b) s.news (s.mk x m).1 us ∧ (s.dt = true → w7 (s.mk x m).1)
  | .nil, us, x, m, Z, F, S, μ, hM, hF, hf, h, hS => by
    simp only [SR] at h
    subst h
    exact ⟨⟨μ, hM, hF.grow fun b hb => hb.1, CRs.nil, Grow.refl m μ⟩, fun _ c hc => by simp [Sh.mk] at hc⟩
  | .undef, us, x, m, Z, F, S, μ, hM, hF, hf, h, hS => by
    simp only [SR] at h
    match us, h with
    | [v], _ => exact ⟨⟨μ, hM, hF.grow fun b hb => hb.1, CRs.mk1 trivial, Grow.refl m μ⟩, fun h => by simp [Sh.dt] at h⟩
  | .sb p, us, xs, m, Z, F, S, μ, hM, hF, hf, h, hS => by
    simp only [SR] at h
    obtain ⟨b, rfl, h2⟩ := h
    obtain ⟨f1, f2⟩ := hf 0 (by simp [Sh.news])
    rw [Nat.add_zero] at f1 f2
    obtain ⟨g1, g2⟩ := fY (x := .sb p xs) (ℓ := ⟨some b, 0, 0, 0, 0, S, none⟩) hM hF f2 f1 ⟨b, rfl, rfl, h2⟩ (fun _ b hb => hS b hb)
    refine ⟨⟨_, g1, g2.grow fun b hb => ⟨hb.1, fun _ h => hb.2 h⟩, CRs.mk1 ⟨_, b, aZ.ej _ _ _, rfl, rfl⟩, Grow.push (fun k hk => by
      have : k = 0 := by omega
      subst this; exact ⟨f1, f2⟩)⟩, fun h => by simp [Sh.dt] at h⟩
  | .opq, us, x, m, Z, F, S, μ, hM, hF, hf, h, hS => by
    simp only [SR] at h
    obtain ⟨v, rfl, h⟩ := h
    exact ⟨⟨μ, hM, hF.grow fun b hb => hb.1, CRs.mk1 h, Grow.refl m μ⟩, fun h => by simp [Sh.dt] at h⟩
  | .err, us, x, m, Z, F, S, μ, hM, hF, hf, h, hS => by
    simp only [SR] at h
    obtain ⟨v, rfl, h⟩ := h
    exact ⟨⟨μ, hM, hF.grow fun b hb => hb.1, CRs.mk1 h, Grow.refl m μ⟩, fun h => by simp [Sh.dt] at h⟩
  | .iC, us, x, m, Z, F, S, μ, hM, hF, hf, h, hS => by
    simp only [SR] at h
    subst h
    exact ⟨⟨μ, hM, hF.grow fun b hb => hb.1, CRs.mk1 rfl, Grow.refl m μ⟩, fun h => by simp [Sh.dt] at h⟩
  | .frz t, us, x, m, Z, F, S, μ, hM, hF, hf, h, hS => ⟨⟨μ, hM, hF.grow fun b hb => hb.1, Frz.flat (show Frz w Z t us x from h), Grow.refl m μ⟩, fun h => by simp [Sh.dt] at h⟩
  | .map n s, us, xs, m, Z, F, S, μ, hM, hF, hf, h, hS => by
    simp only [SR] at h
    obtain ⟨b, rfl, h2⟩ := h
    obtain ⟨f1, f2⟩ := hf 0 (by simp [Sh.news])
    rw [Nat.add_zero] at f1 f2
    obtain ⟨g1, g2⟩ := fY (x := .iR n s xs none) (ℓ := ⟨some b, 0, 0, 0, 0, S, none⟩) hM hF f2 f1 ⟨(fun f hf => by cases hf), b, rfl, h2⟩ (fun _ b hb => hS b hb)
    refine ⟨⟨_, g1, g2.grow fun b hb => ⟨hb.1, fun _ h => hb.2 h⟩, CRs.mk1 ⟨_, b, aZ.ej _ _ _, rfl, rfl⟩, Grow.push (fun k hk => by
      have : k = 0 := by omega
      subst this; exact ⟨f1, f2⟩)⟩, fun h => by simp [Sh.dt] at h⟩
  | .own s, us, xs, m, Z, F, S, μ, hM, hF, hf, h, hS => by
    simp only [SR] at h
    obtain ⟨ℓ, rfl, h2, h3⟩ := h
    obtain ⟨f1, f2⟩ := hf 0 (by simp [Sh.news])
    rw [Nat.add_zero] at f1 f2
    obtain ⟨g1, g2⟩ := fY (x := .arr s xs none) (ℓ := ℓ) hM hF f2 f1 ⟨(fun f hf => by cases hf), h3⟩ (fun _ b hb => hS b (h2 b hb))
    refine ⟨⟨_, g1, g2.grow fun b hb => ⟨hb.1, fun _ h => hb.2 (h2 b h)⟩, CRs.mk1 ⟨ℓ, aZ.ej _ _ _, rfl⟩, Grow.push (fun k hk => by
      have : k = 0 := by omega
      subst this; exact ⟨f1, f2⟩)⟩, fun h => by simp [Sh.dt] at h⟩
  | .box s, us, x, m, Z, F, S, μ, hM, hF, hf, h, hS => by
    simp only [SR] at h
    obtain ⟨b, o, us', S', rfl, h2, h3, h4, h5, h6, h7⟩ := h
    obtain ⟨⟨μ1, m1, m2, m3, m4⟩, _⟩ := iJ s hM hF (iM.left (b := 1) hf) h7 (fun d hd => hS d (h6 d hd).1)
    have hf1 := iM.right (b := 1) hf m4
    obtain ⟨f1, f2⟩ := hf1 0 (by omega)
    rw [Nat.add_zero] at f1 f2
    have hl : (s.mk x m).1.length = s.cells := by rw [m3.1, h4]
    obtain ⟨g1, g2⟩ := fY (x := .box (s.mk x m).1) (ℓ := ⟨some b, o, 0, 0, 0, fun d => d = b, none⟩) m1 m2 f2 f1
      ⟨b, rfl, rfl, by rw [hl]; exact h3, us', h5, m3.mono (aj.refl _ _) (fun _ h => h) (bP.set f1)⟩ (fun _ d hd => by
        have hd' : d = b := hd
        subst hd'
        exact ⟨hS d h2, fun hd => (h6 d hd).2 rfl⟩)
    refine ⟨⟨_, g1, g2.grow fun d hd => ⟨⟨hd.1, fun h => hd.2 (h6 d h).1⟩, fun _ (h : d = b) => hd.2 (h ▸ h2)⟩, CRs.mk1 ⟨_, b, aZ.ej _ _ _, rfl, rfl⟩, m4.trans (Grow.push hf1)⟩, fun _ c hc => ?_⟩
    simp only [Sh.mk, List.mem_singleton] at hc
    exact ⟨_, hc⟩
  | .clo f s, us, x, m, Z, F, S, μ, hM, hF, hf, h, hS => by
    simp only [SR] at h
    obtain ⟨h0, vs, rfl, h2⟩ := h
    obtain ⟨⟨μ1, m1, m2, m3, m4⟩, m5⟩ := iJ s hM hF hf h2 hS
    exact ⟨⟨μ1, m1, m2, m3.fn (m5 h0), m4⟩, fun h => by simp [Sh.dt] at h⟩
  | .seq a b, us, x, m, Z, F, S, μ, hM, hF, hf, h, hS => by
    simp only [SR] at h
    obtain ⟨u1, u2, S1, S2, rfl, h2, h3, h4, h5, h6⟩ := h
    obtain ⟨⟨μ1, m1, m2, m3, m4⟩, m5⟩ := iJ a hM hF hf.left h5 (fun d hd => hS d (h2 d hd))
    obtain ⟨⟨μ2, n1, n2, n3, n4⟩, n5⟩ := iJ b m1 m2 (hf.right m4) h6 (fun d hd => ⟨hS d (h3 d hd), fun h => h4 d h hd⟩)
    refine ⟨⟨μ2, n1, n2.grow fun d hd => ⟨⟨hd.1, fun h => hd.2 (h2 d h)⟩, fun h => hd.2 (h3 d h)⟩, (m3.mono (aj.refl _ _) (fun _ h => h) n4.ext).append n3, m4.trans n4⟩, fun hc c hm => ?_⟩
    simp only [Sh.dt, Bool.and_eq_true] at hc
    simp only [Sh.mk, List.mem_append] at hm
    exact hm.elim (m5 hc.1 c) (n5 hc.2 c)
  | .bor s, us, x, m, Z, F, S, μ, hM, hF, hf, h, hS => by
    simp only [SR] at h
    obtain ⟨⟨μ1, m1, m2, m3, m4⟩, m5⟩ := kh s hM hF hf h
    exact ⟨⟨μ1, m1, m2.grow fun b hb => hb.1, m3, m4⟩, m5⟩
end
end Go.Mach
namespace Go.Mach
section
variable {w w' : World}
theorem bd.append {b o : Nat} {us vs : List Value} (h : bd w b o us) (h' : bd w b (o + us.length) vs) : bd w b o (us ++ vs) := by
  intro k hk
  by_cases h1 : k < us.length
  · rw [List.getElem_append_left h1]; exact h k h1
  · rw [List.getElem_append_right (by omega)]
    have := h' (k - us.length) (by simp at hk; omega)
    rw [show o + us.length + (k - us.length) = o + k from by omega] at this
    exact this
theorem bd.nil {b o : Nat} : bd w b o [] := fun k hk => by simp at hk
theorem mQ {α : Type} {us vs : List α} {i c n : Nat} (hl : us.length = n * c) (hi : i < n) : ((us ++ vs).drop (i * c)).take c = (us.drop (i * c)).take c := by
  have h1 : (i + 1) * c ≤ n * c := Nat.mul_le_mul_right _ hi
  rw [Nat.add_mul] at h1
  rw [List.drop_append_of_le_length (by omega), List.take_append_of_le_length (by simp; omega)]
theorem lx {α : Type} {us vs : List α} {i c n : Nat} (hl : us.length = n * c) : ((us ++ vs).drop ((n + i) * c)).take c = (vs.drop (i * c)).take c := by
  rw [List.drop_append, Nat.add_mul, hl, Nat.add_sub_cancel_left, List.drop_of_length_le (by omega)]
  simp
theorem pL {b o c : Nat} : ∀ (n : Nat) {R : (i : Nat) → List Value → Prop}, (∀ i, i < n → ∃ us, us.length = c ∧ bd w b (o + i * c) us ∧ R i us) →
    ∃ us : List Value, us.length = n * c ∧ bd w b o us ∧ ∀ i, i < n → R i ((us.drop (i * c)).take c)
  | 0, R, _ => ⟨[], by simp, bd.nil, fun i hi => by omega⟩
  | n + 1, R, h => by
    obtain ⟨us, h1, h2, h3⟩ := pL n fun i hi => h i (by omega)
    obtain ⟨vs, g1, g2, g3⟩ := h n (by omega)
    refine ⟨us ++ vs, by rw [List.length_append, h1, g1, Nat.add_mul, Nat.one_mul], h2.append (by rw [h1]; exact g2), fun i hi => ?_⟩
    by_cases hin : i < n
    · rw [mQ h1 hin]; exact h3 i hin
    · have : i = n := by omega
      subst this
      have e := lx (us := us) (vs := vs) (i := 0) h1
      rw [Nat.add_zero] at e
      rw [e]
      simp only [Nat.zero_mul, List.drop_zero]
      rw [List.take_of_length_le (by omega)]
      exact g3
theorem xy {b o c n i : Nat} {us : List Value} (h : bd w b o us) (hl : us.length = n * c) (hi : i < n) : ((us.drop (i * c)).take c).length = c ∧ bd w b (o + i * c) ((us.drop (i * c)).take c) := by
  have h1 : (i + 1) * c ≤ n * c := Nat.mul_le_mul_right _ hi
  rw [Nat.add_mul] at h1
  exact ⟨by simp; omega, h.sub⟩
section
variable (w : World) (Z Y : Nat → Prop)
def jO (s : Sh) (us : List Value) (xs : List s.den) (S : Nat → Prop) : Prop :=
  us.length = xs.length * s.cells ∧ ∃ N : Nat → Nat → Prop, (∀ i, i < xs.length → ∀ d, N i d → S d) ∧ (∀ i j, i < xs.length → j < xs.length → i ≠ j → ∀ d, N i d → N j d → False) ∧
    ∀ i (h : i < xs.length), SR w Z Y s ((us.drop (i * s.cells)).take s.cells) xs[i] (N i)
end
variable {Z Z' Y : Nat → Prop}
theorem jO.nil {s : Sh} {S : Nat → Prop} : jO w Z Y s [] [] S := ⟨by simp, fun _ _ => False, fun i hi => by simp at hi, fun i _ hi => by simp at hi, fun i hi => by simp at hi⟩
theorem jO.same {s : Sh} {us : List Value} {xs : List s.den} {S : Nat → Prop} (h : aj (fun b => (Z b ∨ Y b) ∨ S b) w w') (hz : ∀ b, Z b → Z' b) (hc : jO w Z Y s us xs S) : jO w' Z' Y s us xs S := by
  obtain ⟨h1, N, h2, h3, h4⟩ := hc
  exact ⟨h1, N, h2, h3, fun i hi => (h4 i hi).same hz (fun _ h => h) (h.mono fun b hb => hb.imp id (h2 i hi b))⟩
theorem jO.grow {s : Sh} {us : List Value} {xs : List s.den} {S S' : Nat → Prop} (hS : ∀ b, S b → S' b) (hc : jO w Z Y s us xs S) : jO w Z Y s us xs S' := by
  obtain ⟨h1, N, h2, h3, h4⟩ := hc
  exact ⟨h1, N, fun i hi d hd => hS d (h2 i hi d hd), h3, h4⟩
theorem jO.append {s : Sh} {us vs : List Value} {xs ys : List s.den} {S T : Nat → Prop} (h : jO w Z Y s us xs S) (h' : jO w Z Y s vs ys T) (hd : ∀ d, S d → T d → False) : jO w Z Y s (us ++ vs) (xs ++ ys) (fun d => S d ∨ T d) := by
  obtain ⟨h1, N, h2, h3, h4⟩ := h
  obtain ⟨g1, M, g2, g3, g4⟩ := h'
  refine ⟨by simp [h1, g1, Nat.add_mul], fun i => if i < xs.length then N i else M (i - xs.length), fun i hi d hN => ?_, fun i j hi hj hij d hN hM => ?_, fun i hi => ?_⟩
  · dsimp only at hN
    simp only [List.length_append] at hi
    split at hN
    · rename_i h; exact .inl (h2 i h d hN)
    · exact .inr (g2 _ (by omega) d hN)
  · dsimp only at hN hM
    simp only [List.length_append] at hi hj
    split at hN <;> split at hM
    · rename_i a b; exact h3 i j a b hij d hN hM
    · rename_i a b; exact hd d (h2 i a d hN) (g2 _ (by omega) d hM)
    · rename_i a b; exact hd d (h2 j b d hM) (g2 _ (by omega) d hN)
    · exact g3 _ _ (by omega) (by omega) (by omega) d hN hM
  · dsimp only
    simp only [List.length_append] at hi
    split
    · rename_i a
      rw [mQ h1 a, List.getElem_append_left a]
      exact h4 i a
    · rename_i a
      have e : i = xs.length + (i - xs.length) := by omega
      rw [List.getElem_append_right (by omega)]
      have := lx (us := us) (vs := vs) (i := i - xs.length) h1
      rw [← e] at this
      rw [this]
      exact g4 _ (by omega)
theorem yL {α : Type} (us : List α) (a c n i : Nat) (hi : i < n) : ((((us.drop (a * c)).take (n * c)).drop (i * c)).take c) = (us.drop ((a + i) * c)).take c := by
  have h1 : (i + 1) * c ≤ n * c := Nat.mul_le_mul_right _ hi
  rw [Nat.add_mul] at h1
  rw [List.drop_take, List.take_take, List.drop_drop, ← Nat.add_mul, Nat.min_eq_left (by omega)]
theorem jO.part {s : Sh} {us : List Value} {xs : List s.den} {S : Nat → Prop} (h : jO w Z Y s us xs S) (a n : Nat) (ha : a + n ≤ xs.length) : jO w Z Y s ((us.drop (a * s.cells)).take (n * s.cells)) ((xs.drop a).take n) S := by
  obtain ⟨h1, N, h2, h3, h4⟩ := h
  have hn : ((xs.drop a).take n).length = n := by simp; omega
  have h5 : (a + n) * s.cells ≤ xs.length * s.cells := Nat.mul_le_mul_right _ ha
  rw [Nat.add_mul] at h5
  refine ⟨by rw [hn]; simp; omega, fun i => N (a + i), fun i hi d hd => h2 _ (by omega) d hd, fun i j hi hj hij d hd hd' => h3 _ _ (by omega) (by omega) (by omega) d hd hd', fun i hi => ?_⟩
  rw [hn] at hi
  rw [yL _ _ _ _ _ hi]
  simp only [List.getElem_take, List.getElem_drop]
  exact h4 (a + i) (by omega)
theorem zl {α : Type} (xs : List α) (wd : Win) (h : wd.off + wd.len xs.length ≤ xs.length) : wd.of xs = (xs.drop wd.off).take (wd.len xs.length) := by
  cases wd with
  | full => simp [Win.of, Win.off, Win.len]
  | sub o n => rfl
theorem kW.seq {s : Sh} {xs : List s.den} {lok : Bool} {ℓ : Loc} {b : Nat} (h : kW w s.cells xs lok (fun _ us x S => SR w Z Y s us x S) ℓ) (hb : ℓ.blk = some b) :
    ∃ us, bd w b ℓ.base us ∧ jO w Z Y s us xs (fun d => ℓ.S d ∧ d ≠ b) := by
  obtain ⟨h1, h2, h3, h4, h0, h5⟩ := h
  rw [hb] at h5
  obtain ⟨h6, h7, N, h8, h9, h10⟩ := h5
  obtain ⟨us, g1, g2, g3⟩ := pL (w := w) (b := b) (o := ℓ.base) (c := s.cells) xs.length (R := fun i us => ∀ h : i < xs.length, SR w Z Y s us xs[i] (N i)) fun i hi => by
    obtain ⟨us, k1, k2, k3⟩ := h10 i hi
    exact ⟨us, k1, by rw [← h1]; exact k2, fun _ => k3⟩
  exact ⟨us, g2, g1, N, h8, h9, fun i hi => g3 i hi hi⟩
theorem jO.arr {s : Sh} {us : List Value} {xs : List s.den} {S : Nat → Prop} (h : jO w Z Y s us xs S) {b o cap : Nat} (hc : bd w b o us) (hb : gU w b (o + cap * s.cells)) (hcap : xs.length ≤ cap) (hS : ¬ S b) (hl : dw s xs.length = true) :
    kW w s.cells xs (dw s xs.length) (fun _ us x S => SR w Z Y s us x S) ⟨some b, o, s.cells, xs.length, cap, fun d => d = b ∨ S d, none⟩ := by
  obtain ⟨h1, N, h2, h3, h4⟩ := h
  refine ⟨rfl, rfl, hcap, hl, rfl, .inl rfl, hb, N, fun i hi d hd => ⟨.inr (h2 i hi d hd), fun e => hS (e ▸ h2 i hi d hd)⟩, h3, fun i hi => ?_⟩
  obtain ⟨g1, g2⟩ := xy hc h1 hi
  exact ⟨_, g1, g2, h4 i hi⟩
theorem jb.seq {e : Ty} {V : Nat → Prop} {v : Value} {l : List e.den} (h : jb w e.cells V (fun us x => Frz w Z e us x) v l) : ∃ us, us.length = l.length * e.cells ∧ jO w Z Y (.frz e) us l (fun _ => False) ∧
    ∃ a cap, v = .slice a l.length cap ∧ l.length ≤ cap ∧ (l = [] ∨ ∃ b p, a = some ⟨b, p, none⟩ ∧ V b ∧ bd w b p us) := by
  obtain ⟨a, cap, h1, h2, h3⟩ := h
  rcases h3 with rfl | ⟨b, p, h4, h5, h6⟩
  · exact ⟨[], by simp, jO.nil, a, cap, h1, h2, .inl rfl⟩
  · obtain ⟨us, g1, g2, g3⟩ := pL (w := w) (b := b) (o := p) (c := e.cells) l.length (R := fun i us => ∀ h : i < l.length, Frz w Z e us l[i]) fun i hi => by
      obtain ⟨us, k1, k2, k3⟩ := h6 i hi
      exact ⟨us, k1, k2, fun _ => k3⟩
    exact ⟨us, g1, ⟨g1, fun _ _ => False, fun _ _ _ h => h, fun _ _ _ _ _ _ h => h.elim, fun i hi => g3 i hi hi⟩, a, cap, h1, h2, .inr ⟨b, p, h4, h5, g2⟩⟩
end
section
variable {B : eD} {m m' : Mem} {w w' : World} {Z : Nat → Prop} {μ : aZ} {F : Nat → Prop}
theorem gX (h : az B m w Z μ) (hF : bX B m w Z μ F) (hw : ∀ b, b < w.heap.size → ¬ F b → w'.heap[b]? = w.heap[b]?) (hs : w.heap.size ≤ w'.heap.size) (hio : Io w w' := by first | exact Io.same rfl rfl rfl (.inl rfl) | exact Io.same rfl rfl rfl (.inr rfl)) :
    az B m w' Z μ ∧ bX B m w' Z μ (fun b => F b ∨ (w.heap.size ≤ b ∧ b < w'.heap.size)) := by
  have hFY : ∀ b, F b → ¬ B.Y b := fun b hb hy => by
    have h1 := (hF.ok b hb).2.2
    have h2 := h.ju b hy
    rcases h1 with h1 | h1
    · omega
    · exact h2.2 h1
  have hZ : aj Z w w' := fun b hb => hw b (h.frz b hb).1 fun hf => (hF.ok b hf).1 hb
  have hY : aj B.Y w w' := fun b hb => hw b (Nat.lt_of_lt_of_le (h.ju b hb).1 h.size) fun hf => hFY b hf hb
  refine ⟨⟨fun r x hx hd => ?_, h.dj, fun r x ℓ b hx ho hl hb => ?_, fun b hb => ?_, h.ou, Nat.le_trans h.size hs, fun b hb hA => ?_, h.far, h.ju, h.io.trans hio⟩, fun b hb => ?_, fun b r hb hO => ?_⟩
  · obtain ⟨ℓ, h1, h2⟩ := h.rt r x hx hd
    refine ⟨ℓ, h1, ?_⟩
    cases ho : x.fj with
    | true =>
      refine h2.mono (fun b hb => ?_) (fun _ h => h) (fun _ h => h) (bP.refl μ)
      rcases hb with (hb | hb) | hb
      · exact hZ b hb
      · exact hY b hb
      · exact hw b (h.own r x ℓ b hx ho h1 hb).2.1 fun hf => hF.off b r hf ⟨x, ℓ, hx, ho, h1, hb⟩
    | false =>
      exact ((h2.yY ho (fun _ => False)).mono (w' := w') (Z' := Z) (μ' := μ) (fun b hb => by
        rcases hb with (hb | hb) | hb
        · exact hZ b hb
        · exact hY b hb
        · exact hb.elim) (fun _ h => h) (fun _ h => h) (bP.refl μ)).yY ho ℓ.S
  · obtain ⟨h1, h2, h3⟩ := h.own r x ℓ b hx ho hl hb
    exact ⟨h1, by omega, h3⟩
  · obtain ⟨h1, h2⟩ := h.frz b hb
    exact ⟨by omega, h2⟩
  · rw [← h.nn b hb hA]
    refine hw b (Nat.lt_of_lt_of_le hb h.size) fun hf => ?_
    rcases (hF.ok b hf).2.2 with h1 | h1
    · omega
    · exact hA h1
  · rcases hb with hb | ⟨h1, h2⟩
    · obtain ⟨h1, h2, h3⟩ := hF.ok b hb
      exact ⟨h1, by omega, h3⟩
    · exact ⟨fun hz => by have := (h.frz b hz).1; omega, h2, .inl (Nat.le_trans h.size h1)⟩
  · rcases hb with hb | ⟨h1, h2⟩
    · exact hF.off b r hb hO
    · obtain ⟨x, ℓ, a1, a2, a3, a4⟩ := hO
      have := (h.own r x ℓ b a1 a2 a3 a4).2.1
      omega
theorem nH (s : Sh) : ∀ (n : Nat) {cs : List C} {us : List Value} {xs : List s.den} {m m' : Mem} {Z F : Nat → Prop}, az B m w Z μ → bX B m w Z μ F → CRs w Z μ cs us → getAll s n cs m = some (xs, m') →
    ∃ (Z' F' S : Nat → Prop), az B m' w Z' μ ∧ bX B m' w Z' μ F' ∧ (∀ b, Z b → Z' b) ∧ (∀ b, F b → F' b) ∧ (∀ b, S b → F' b ∧ ¬ F b) ∧ Kept m m' ∧ xs.length = n ∧ jO w Z' B.Y s us xs S
  | 0, cs, us, xs, m, m', Z, F, hM, hF, hc, h => by
    match cs, h with
    | [], h =>
      simp only [getAll, Option.some.injEq, Prod.mk.injEq] at h
      obtain ⟨rfl, rfl⟩ := h
      have := hc.hB
      subst this
      exact ⟨Z, F, fun _ => False, hM, hF, fun _ h => h, fun _ h => h, fun _ h => h.elim, Kept.refl _, rfl, jO.nil⟩
  | n + 1, cs, us, xs, m, m', Z, F, hM, hF, hc, h => by
    simp only [getAll] at h
    split at h
    case h_2 => cases h
    rename_i x cs' m1 hg
    split at h
    case h_2 => cases h
    rename_i ys m2 hr
    simp only [Option.some.injEq, Prod.mk.injEq] at h
    obtain ⟨rfl, rfl⟩ := h
    obtain ⟨⟨Z1, F1, S1, us1, us2, rfl, e2, e3, e4, e5, e6, e7, e8, e9⟩, ek⟩ := gj s hM hF hc hg
    obtain ⟨Z2, F2, S2, g1, g2, g3, g4, g5, g6, g7, g8⟩ := nH s n e3 e4 e9 hr
    refine ⟨Z2, F2, fun d => S1 d ∨ S2 d, g1, g2, fun b hb => g3 b (e5 b hb), fun b hb => g4 b (e6 b hb), fun d hd => ?_, ek.trans g6, by simp [g7], ?_⟩
    · rcases hd with hd | hd
      · exact ⟨g4 d (e7 d hd).1, (e7 d hd).2⟩
      · exact ⟨(g5 d hd).1, fun hf => (g5 d hd).2 (e6 d hf)⟩
    · have h1 : jO w Z2 B.Y s us1 [x] S1 := ⟨by simp [e2], fun _ => S1, fun _ _ _ h => h, fun i j hi hj hij => by simp at hi hj; omega, fun i hi => by
        have : i = 0 := by simpa using hi
        subst this
        simp only [Nat.zero_mul, List.drop_zero, List.getElem_cons_zero]
        rw [List.take_of_length_le (by omega)]
        exact e8.up g3⟩
      exact h1.append g8 fun d a b => (g5 d b).2 (e7 d a).1
end
end Go.Mach
namespace Go.Mach
section
variable {w : World} {Z : Nat → Prop}
theorem SR.ok {Y : Nat → Prop} : ∀ {s : Sh} {us : List Value} {x : s.den} {S : Nat → Prop}, SR w Z Y s us x S → s.ok x = true
  | .nil, _, _, _, _ => rfl
  | .undef, _, _, _, _ => rfl
  | .iC, _, _, _, _ => rfl
  | .err, _, _, _, _ => rfl
  | .opq, _, _, _, _ => rfl
  | .sb _, _, _, _, _ => rfl
  | .frz t, us, x, _, h => Frz.ok (show Frz w Z t us x from h)
  | .own s, _, _, _, h => by simp only [SR] at h; obtain ⟨ℓ, _, _, h3⟩ := h; exact h3.2.2.2.1
  | .box s, _, _, _, h => by simp only [SR] at h; obtain ⟨_, _, _, _, _, _, _, _, _, _, h7⟩ := h; exact SR.ok (s := s) h7
  | .map _ _, _, _, _, _ => rfl
  | .clo f s, _, _, _, h => by simp only [SR] at h; obtain ⟨_, _, _, h2⟩ := h; exact SR.ok (s := s) h2
  | .seq a b, _, _, _, h => by
    simp only [SR] at h
    obtain ⟨_, _, _, _, _, _, _, _, h5, h6⟩ := h
    simp only [Sh.ok, SR.ok (s := a) h5, SR.ok (s := b) h6, Bool.and_self]
  | .bor s, _, _, _, h => by
    simp only [SR] at h
    exact brok h
where
  brok {V : Nat → Prop} : ∀ {s : Sh} {us : List Value} {x : s.den}, BR w Z V s us x → s.ok x = true
  | .nil, _, _, _ => rfl
  | .undef, _, _, _ => rfl
  | .iC, _, _, _ => rfl
  | .err, _, _, _ => rfl
  | .opq, _, _, _ => rfl
  | .sb _, _, _, _ => rfl
  | .frz t, us, x, h => Frz.ok (show Frz w Z t us x from h)
  | .own s, _, _, h => by simp only [BR] at h; obtain ⟨_, _, _, _, h3, _⟩ := h; exact h3
  | .box s, _, _, h => by simp only [BR] at h; obtain ⟨_, _, _, _, _, _, _, h7⟩ := h; exact brok (s := s) h7
  | .map _ _, _, _, _ => rfl
  | .clo f s, _, _, h => by simp only [BR] at h; obtain ⟨_, _, _, h2⟩ := h; exact brok (s := s) h2
  | .seq a b, _, _, h => by
    simp only [BR] at h
    obtain ⟨_, _, _, h5, h6⟩ := h
    simp only [Sh.ok, brok (s := a) h5, brok (s := b) h6, Bool.and_self]
  | .bor s, _, _, h => by
    simp only [BR] at h
    exact brok (s := s) h
theorem vK {β : Type} {s : Sh} {xs : List s.den} {i : Int} {k : s.den → Res β} {Φ : β → Prop} (h : (Res.eF s xs i k).sat Φ) :
    0 ≤ i ∧ ∃ hi : i.toNat < xs.length, (s.ok xs[i.toNat] = true → (k xs[i.toNat]).sat Φ) := by
  unfold Res.eF at h
  split at h
  · rename_i h0
    refine ⟨by simpa using h0, ?_⟩
    split at h
    · rename_i x hx
      obtain ⟨hi, rfl⟩ := List.getElem?_eq_some_iff.1 hx
      exact ⟨hi, fun hok => oa h hok⟩
    · exact h.elim
  · exact h.elim
end
section
variable {B : eD} {E : Env} {st : St} {o : Oper} {a : Act} {w : World} {Z : Nat → Prop} {μ : aZ} {Φ : St → Prop}
theorem jJ.free {n : Nat} (hF : jJ st n μ) : iM st.mem μ n := hF
theorem iM.rM {m : Mem} {n r : Nat} {x y : bk} (hF : iM m μ n) (hr : m.roots[r]? = some x) (hx : x ≠ .dead) : iM (m.set r y) μ n := fun k hk => by
  obtain ⟨h1, h2⟩ := hF k hk
  refine ⟨h1, ?_⟩
  have : r ≠ m.cur + k := by rintro rfl; rw [hr] at h2; cases h2; exact hx rfl
  show (m.roots.set r y)[m.cur + k]? = _
  rw [List.getElem?_set_ne this]; exact h2
theorem fO (hR : Rel B st a w Z μ) {n : Nat} {m' : Mem} {w' : World} {Z' : Nat → Prop} {μ' : aZ} {x : AV} {v : Value} (hrun : (execOp a.eval o).run E.P w = .ok (.value v) w')
    (hm : az B m' w' Z' μ') (hw : aj Z w w') (hz : ∀ b, Z b → Z' b) (he : bP μ μ') (hx : AR w' Z' μ' x v) (hΦ : Φ (st.with o.dst x m')) (hl : m'.roots.length = st.mem.roots.length)
    (hout : ∀ r, (r < st.mem.cur ∨ st.mem.cur + n ≤ r) → μ r = none → μ' r = none) : o.wp E.P a w (Nxt B st n Z μ Φ) (fun _ _ _ => False) := by
  refine ji hrun ⟨_, Z', μ', hR.put hm hw hz he o.dst hx, hΦ, ?_, ?_, hout, hz, he⟩
  · cases o.dst <;> exact hl
  · cases o.dst <;> rfl
theorem pf (hR : Rel B st a w Z μ) {n : Nat} {m' : Mem} {w' : World} {Z' : Nat → Prop} {μ' : aZ} (hrun : (execOp a.eval o).run E.P w = .ok .skip w')
    (hm : az B m' w' Z' μ') (hw : aj Z w w') (hz : ∀ b, Z b → Z' b) (he : bP μ μ') (hΦ : Φ (st.with o.dst (.c .undef) m')) (hl : m'.roots.length = st.mem.roots.length)
    (hout : ∀ r, (r < st.mem.cur ∨ st.mem.cur + n ≤ r) → μ r = none → μ' r = none) : o.wp E.P a w (Nxt B st n Z μ Φ) (fun _ _ _ => False) := by
  refine pQ hrun ⟨_, Z', μ', hR.put hm hw hz he o.dst (AR.undef _), hΦ, ?_, ?_, hout, hz, he⟩
  · cases o.dst <;> exact hl
  · cases o.dst <;> rfl
theorem rL (hR : Rel B st a w Z μ) {n : Nat} (hF : jJ st n μ) {t : TypeId} {x i : Operand} (ho : o.op = .indexAddr t x i) (hna : rK E.P t = none) (hn : cF E o ≤ n) (h : (step E st o Res.ok).sat Φ) :
    o.wp E.P a w (Nxt B st n Z μ Φ) (fun _ _ _ => False) := by
  by_cases hc1 : ∃ r w' s xs, val st x = .c (.ref r w') ∧ st.mem.roots[r]? = some (.arr s xs none) ∧ s.sO = false
  · obtain ⟨r, wd, s, xs, hx, hr, hs⟩ := hc1
    simp only [step, dG, ho, hna] at h
    split at h
    case h_2 => exact h.elim
    rename_i ht
    simp only [Bool.and_eq_true, decide_eq_true_eq] at ht
    obtain ⟨ht, hnews⟩ := ht
    have hX := hR.val x
    have hI := hR.val i
    rw [hx] at hX h ht hnews
    generalize hqi : val st i = I at h hI
    simp only [jm] at h
    split at h
    case h_3 => exact h.elim
    · rename_i e; simp at e
    rename_i r' w' k ix he
    cases he
    have hnn : s.news ≤ n := by
      refine Nat.le_trans ?_ (Nat.le_trans hnews hn)
      simp only [Mem.newsAt, hr]
      cases s <;> simp [Sh.sO] at hs ⊢ <;> exact Nat.le_refl _
    have hset : (Res.eF s xs ix fun x => match s.mk x (st.mem.set r .dead) with
        | (cs, m') => (Res.ok (st.with o.dst (.c (.kO r ix.toNat 0)) (m'.set r (.arr s xs (some ⟨ix.toNat, cs⟩)))))).sat Φ ∧ wd = .full := by
      rw [hr] at h
      cases s <;> simp [Sh.sO] at hs <;> (cases wd <;> first | exact ⟨h, rfl⟩ | exact h.elim)
    obtain ⟨hh, rfl⟩ := hset
    clear h
    obtain ⟨hge, hi, h⟩ := vK hh
    clear hh
    obtain ⟨hI1, hI2⟩ := hI
    obtain ⟨el, e1, e2, e3⟩ := ku ht
    obtain ⟨ℓ, m1, m2⟩ := hX
    obtain ⟨ℓ', h5, h6, h7⟩ := hR.mem.rt r _ hr (by simp)
    rw [m1] at h5; cases h5
    have h7' := h7
    obtain ⟨q1, q2, q3, q4, q0, q5⟩ := h7
    rw [show st.mem.sz? r = s.cells from AU hr] at e2 e3
    cases hb : ℓ.blk with
    | none => rw [hb] at q5; obtain ⟨rfl, _⟩ := q5; simp at hi
    | some b =>
      rw [hb] at q5
      obtain ⟨k1, k2, N, k3, k4, k5⟩ := q5
      obtain ⟨us, j1, j2, j3⟩ := k5 ix.toNat hi
      have j3 : SR w Z B.Y s us xs[ix.toNat] (N ix.toNat) := j3
      obtain ⟨t1, t2⟩ := ev hR.mem (bX.none B st.mem w Z μ) hr m1 rfl
      have hfree : iM (st.mem.set r .dead) μ s.news := (iM.rM (jJ.free hF) hr (by simp)).mono hnn
      obtain ⟨⟨μ1, g1, g2, g3, g4⟩, _⟩ := iJ s t1 t2 hfree j3 (fun d hd => .inr (k3 _ hi d hd).1)
      have hrc : r < st.mem.cur ∨ st.mem.cur + s.news ≤ r := by
        rcases Nat.lt_or_ge r st.mem.cur with h' | h'
        · exact .inl h'
        · right
          rcases Nat.lt_or_ge r (st.mem.cur + s.news) with h'' | h''
          · have := (hF (r - st.mem.cur) (by omega)).2
            rw [show st.mem.cur + (r - st.mem.cur) = r from by omega, hr] at this
            cases this
          · exact h''
      obtain ⟨o1, o2⟩ := g4.old r hrc
      have hlt : r < st.mem.roots.length := (List.getElem?_eq_some_iff.1 hr).1
      have hdead : (s.mk xs[ix.toNat] (st.mem.set r .dead)).2.roots[r]? = some .dead := by
        rw [o2]; simp [Mem.set, hlt]
      have hμ1 : μ1 r = some ℓ := o1.trans m1
      let ℓ2 : Loc := { ℓ with S := fun d => ℓ.S d ∧ ¬ N ix.toNat d }
      have hext := bP.mJ (S := ℓ2.S) hμ1
      have hrun : (execOp a.eval o).run E.P w = .ok (.value (.pointer (some ⟨b, ℓ.base + ix.toNat * ℓ.sz, none⟩))) w := by
        have hv : a.eval x = .slice (ℓ.addr 0) ℓ.len ℓ.cap := m2
        rw [ℓ.kN q0 hb, Nat.zero_mul, Nat.add_zero] at hv
        simp only [execOp, ho, hv, show a.eval i = _ from hI1]
        have := ot (w := w) (P := E.P) (b := b) (p := ℓ.base) (len := ℓ.len) (cap := ℓ.cap) (k := k) e1 (by omega) hge (show ix.toNat < ℓ.len by omega)
        simp [this, q1, e2]
      obtain ⟨p1, p2⟩ := iz (x := .arr s xs (some ⟨ix.toNat, (s.mk xs[ix.toNat] (st.mem.set r .dead)).1⟩)) (ℓ := ℓ2) g1 g2 hdead hext ⟨fun f hf => by cases hf; exact hi, by
        refine ⟨q1, q2, q3, q4, q0, ?_⟩
        rw [show ℓ2.blk = some b from hb]
        have hnb : ¬ N ix.toNat b := fun h => (k3 _ hi b h).2 rfl
        refine ⟨⟨k1, hnb⟩, k2, fun j => if ix.toNat = j then fun _ => False else N j, fun j hj d hd => ?_, fun j k hj hk hjk d hd hd' => ?_, fun j hj => ?_⟩
        · dsimp only at hd
          split at hd
          · exact hd.elim
          · rename_i hne
            exact ⟨⟨(k3 j hj d hd).1, fun h' => k4 _ j hi hj hne d h' hd⟩, (k3 j hj d hd).2⟩
        · dsimp only at hd hd'
          split at hd
          · exact hd.elim
          · split at hd'
            · exact hd'.elim
            · exact k4 j k hj hk hjk d hd hd'
        · by_cases hij : ix.toNat = j
          · subst hij
            exact ⟨us, j1, j2, by simp only [ElR, if_true]; exact g3.mono (aj.refl _ _) (fun _ h => h) hext⟩
          · obtain ⟨us', n1, n2, n3⟩ := k5 j hj
            exact ⟨us', n1, n2, by simp only [ElR, if_neg hij]; exact n3⟩⟩ (fun _ d hd => ⟨.inr hd.1, hd.2⟩)
      refine fO (x := .c (.kO r ix.toNat 0)) hR hrun p1 (aj.refl _ _) (fun _ h => h) (g4.ext.trans hext) ⟨ℓ2, b, aZ.ej _ _ _, hb, by show ix.toNat < ℓ.len; omega, by simp [ℓ2]⟩ (h j3.ok) ?_ fun r' hr' hμ => ?_
      · show (List.set _ _ _).length = _
        rw [List.length_set, g4.len]; simp [Mem.set]
      · have hne : r' ≠ r := by rintro rfl; rw [m1] at hμ; cases hμ
        rw [aZ.eb _ _ hne, (g4.old r' (by show r' < st.mem.cur ∨ st.mem.cur + s.news ≤ r'; omega)).1]
        exact hμ
  · by_cases hc2 : ∃ r w' s xs, val st x = .c (.ref r w') ∧ st.mem.roots[r]? = some (.bor s xs)
    · obtain ⟨r, wd, s, xs, hx, hr⟩ := hc2
      simp only [step, dG, ho, hna] at h
      split at h
      case h_2 => exact h.elim
      rename_i ht
      simp only [Bool.and_eq_true, decide_eq_true_eq] at ht
      obtain ⟨ht, hnews⟩ := ht
      have hX := hR.val x
      have hI := hR.val i
      rw [hx] at hX h ht hnews
      generalize hqi : val st i = I at h hI
      simp only [jm] at h
      split at h
      case h_3 => exact h.elim
      · rename_i e; simp at e
      rename_i r' w' k ix he
      cases he
      rw [hr] at h
      simp only [Mem.newsAt, hr] at hnews
      have hnn : s.news + 1 ≤ n := Nat.le_trans hnews hn
      obtain ⟨hge, hi, h⟩ := vK h
      obtain ⟨hI1, hI2⟩ := hI
      obtain ⟨el, e1, e2, e3⟩ := ku ht
      obtain ⟨ℓ, m1, m2⟩ := hX
      obtain ⟨ℓ', h5, h6⟩ := hR.mem.rt r _ hr (by simp)
      rw [m1] at h5; cases h5
      rw [AN hr] at e2 e3
      obtain ⟨⟨q, cap, p1, p2, p3⟩, _⟩ := RdR.win (show RdR _ _ _ _ _ _ _ from h6) m2
      rcases p3 with p3 | ⟨b, p, rfl, p5, p6⟩
      · rw [p3] at hi; simp at hi
      · obtain ⟨us, j1, j2, j3⟩ := p6 ix.toNat hi
        have hfree : iM st.mem μ (s.news + 1) := (jJ.free hF).mono hnn
        obtain ⟨⟨μ1, g1, g2, g3, g4⟩, _⟩ := kh s hR.mem (bX.none B st.mem w Z μ) hfree.left j3
        have hf1 := iM.right (b := 1) hfree g4
        obtain ⟨f1, f2⟩ := hf1 0 (by omega)
        rw [Nat.add_zero] at f1 f2
        obtain ⟨d1, d2⟩ := fY (x := .mj (s.mkB (wd.of (xs : List s.den))[ix.toNat] st.mem).1) (ℓ := ⟨some b, p + ix.toNat * s.cells, 0, 0, 0, fun _ => False, none⟩) g1 g2 f2 f1 ⟨b, rfl, p5, us, j2, g3.mono (aj.refl _ _) (fun _ h => h) (bP.set f1)⟩ (fun h => by simp [bk.fj] at h)
        have hg := g4.trans (Grow.push (ℓ := ⟨some b, p + ix.toNat * s.cells, 0, 0, 0, fun _ => False, none⟩) (x := .mj (s.mkB (wd.of (xs : List s.den))[ix.toNat] st.mem).1) hf1)
        have hrun : (execOp a.eval o).run E.P w = .ok (.value (.pointer (some ⟨b, p + ix.toNat * s.cells, none⟩))) w := by
          simp only [execOp, ho, show a.eval x = _ from p1, show a.eval i = _ from hI1]
          have := ot (w := w) (P := E.P) (b := b) (p := p) (len := (wd.of xs).length) (cap := cap) (k := k) e1 (by omega) hge hi
          simp [this, e2]
        refine fO (x := .c (.ptr (s.mkB (wd.of (xs : List s.den))[ix.toNat] st.mem).2.cur 0)) hR hrun d1 (aj.refl _ _) (fun _ h => h) hg.ext ⟨_, b, aZ.ej _ _ _, rfl, by simp⟩ (h (SR.ok.brok j3)) hg.len fun r' hr' hμ => ?_
        rw [(hg.old r' (by omega)).1]; exact hμ
    · refine nV hR n ho hna h (fun r w' s xs hx hr => ?_) (fun r w' s xs hx hr => hc2 ⟨r, w', s, xs, hx, hr⟩)
      cases hs : s.sO with
      | true => rfl
      | false => exact absurd ⟨r, w', s, xs, hx, hr, hs⟩ hc1
end
end Go.Mach
namespace Go.Mach
section
variable {B : eD} {E : Env} {st : St} {o : Oper} {a : Act} {w : World} {Z : Nat → Prop} {μ : aZ} {Φ : St → Prop}
theorem bX.ju {B : eD} {m : Mem} {F : Nat → Prop} (hM : az B m w Z μ) (hF : bX B m w Z μ F) : ∀ b, F b → ¬ B.Y b := fun b hb hy => by
  have h1 := (hF.ok b hb).2.2
  have h2 := hM.ju b hy
  rcases h1 with h1 | h1
  · omega
  · exact h2.2 h1
theorem uz (hR : Rel B st a w Z μ) (n : Nat) {T : TypeId} {x y : Operand} {r i off : Nat} {e : Ty} {xs : List e.den} (ho : o.op = .store T x y) (hx : val st x = .c (.kO r i off))
    (hr : st.mem.roots[r]? = some (.arr (.frz e) xs none))
    (hk : kindOk E.P T = true) (hreal : (val st y).real = true) (hlen : (val st y).cells.length = E.P.cellsOf T) (hu : ((val st y).cells.any C.jv) = false)
    (hi : i < xs.length) {cs' : List C} (hs : kY (e.flat xs[i]) off (val st y).cells = some cs') {z : e.den} {m' : Mem} (hg : (Sh.frz e).get cs' (st.mem.set r .dead) = some (z, [], m'))
    (hΦ : Φ (st.with o.dst (.c .undef) (m'.set r (.arr (.frz e) (xs.set i z) none)))) :
    o.wp E.P a w (Nxt B st n Z μ Φ) (fun _ _ _ => False) := by
  have hX := hR.val x
  rw [hx] at hX
  obtain ⟨ℓ, b, m1, m2, m3, m4⟩ := hX
  obtain ⟨ws, v1, v2⟩ := (hR.val y).real hreal
  obtain ⟨ℓ', h5, h6, h7⟩ := hR.mem.rt r _ hr (by simp)
  rw [m1] at h5; cases h5
  have h7' := h7
  obtain ⟨q1, q2, q3, q4, q0, q5⟩ := h7
  rw [m2] at q5
  obtain ⟨k1, k2, N, k3, k4, k5⟩ := q5
  obtain ⟨us, j1, j2, j3⟩ := k5 i hi
  have j3 : Frz w Z e us xs[i] := j3
  obtain ⟨t1, t2⟩ := ev hR.mem (bX.none B st.mem w Z μ) hr m1 rfl
  obtain ⟨s1, rfl⟩ := mU hs
  have hws : ws.length = (val st y).cells.length := v2.1.symm
  have hcs := (j3.flat (μ := μ)).kY v2 off
  obtain ⟨⟨Z', F', S1, us1, us2, e1, e2, e3, e4, e5, e6, e7, e8, e9⟩, ek⟩ := gj (.frz e) t1 t2 hcs hg
  have := e9.hB
  subst this
  rw [List.append_nil] at e1
  have hbF : F' b := e6 b (.inr k1)
  have hfl : (e.flat xs[i]).length = e.cells := by rw [(j3.flat (μ := μ)).1]; exact j1
  have hin := ss (sz := ℓ.sz) m3 (show ℓ.len ≤ ℓ.cap by omega)
  have q1' : ℓ.sz = e.cells := q1
  have hrun := mV (P := E.P) (p := ℓ.base + i * ℓ.sz + off) hk v1 (by omega) k2 (by omega) (v2.oh hu)
  have hOth : ∀ c, c ≠ b → (w.setCells b (ℓ.base + i * ℓ.sz + off) ws).heap[c]? = w.heap[c]? := fun c hc => iX b hc _ _ _
  obtain ⟨d1, d2⟩ := gX (hio := kJ _ _ _ _) (w' := w.setCells b (ℓ.base + i * ℓ.sz + off) ws) e3 e4 (fun c _ hc => hOth c fun e => hc (e ▸ hbF)) (by rw [jW]; exact Nat.le_refl _)
  have hlt : r < st.mem.roots.length := (List.getElem?_eq_some_iff.1 hr).1
  have hdead : m'.roots[r]? = some .dead := ek.dead r (by simp [Mem.set, hlt])
  have hSame : aj Z w (w.setCells b (ℓ.base + i * ℓ.sz + off) ws) := fun c hc => hOth c (fun e => (e4.ok b hbF).1 (e5 b (e ▸ hc)))
  have hSame' : aj Z' w (w.setCells b (ℓ.base + i * ℓ.sz + off) ws) := fun c hc => hOth c (fun e => (e4.ok b hbF).1 (e ▸ hc))
  have hext := bP.mJ (S := ℓ.S) m1
  obtain ⟨p1, p2⟩ := iz (x := .arr (.frz e) (xs.set i z) none) (ℓ := ℓ) d1 d2 hdead hext ⟨(fun f hf => by cases hf), by
    have := h7'.write (R' := ElR (w.setCells b (ℓ.base + i * ℓ.sz + off) ws) Z' B.Y (μ.set r ℓ) (.frz e) none) (xs' := xs.set i z) m2 hi (by simp) (show off + ws.length ≤ (Sh.frz e).cells by show _ ≤ e.cells; omega) ?_ ?_
    · rwa [show (xs.set i z).length = xs.length from by simp]
    · intro us' S hi' hus hc _ _
      have : us' = us := hc.unique j2 (by rw [hus, j1])
      subst this
      show Frz _ Z' e _ _
      rw [List.getElem_set_self]
      have e8' : Frz w Z' e us1 z := e8
      rw [← e1] at e8'
      exact e8'.same hSame' (fun _ h => h)
    · intro j us' S hj hj' hij hRR _
      show Frz _ Z' e _ _
      rw [List.getElem_set_ne (Ne.symm hij)]
      exact (show Frz w Z e us' xs[j] from hRR).same hSame e5⟩ (fun _ d hd => .inl (e6 d (.inr hd)))
  have hrun' : (execOp a.eval o).run E.P w = .ok .skip (w.setCells b (ℓ.base + i * ℓ.sz + off) ws) := by
    simp only [execOp, ho, m4]
    simp [Instr.storeAt, Instr.sureAddr, hrun]
  refine pf hR hrun' p1 hSame e5 hext hΦ ?_ fun r' hr' hμ => ?_
  · show (List.set _ _ _).length = _
    rw [List.length_set, ek.len]; simp [Mem.set]
  · have hne : r' ≠ r := by rintro rfl; rw [m1] at hμ; cases hμ
    rw [aZ.eb _ _ hne]; exact hμ
theorem vW (hR : Rel B st a w Z μ) (n : Nat) {T : TypeId} {x y : Operand} (ho : o.op = .store T x y) (h : (step E st o Res.ok).sat Φ) :
    o.wp E.P a w (Nxt B st n Z μ Φ) (fun _ _ _ => False) := by
  simp only [step, dG, ho] at h
  split at h
  case h_2 => exact h.elim
  rename_i hb
  simp only [Bool.and_eq_true, Bool.not_eq_true', beq_iff_eq] at hb
  obtain ⟨hk, hreal, hlen, hu⟩ := hb
  unfold qF at h
  split at h
  · rename_i r off hx
    split at h
    case h_2 => exact h.elim
    rename_i cs hr
    split at h
    case h_2 => exact h.elim
    rename_i cs' hs
    exact yj hR n ho hx hr hk hreal hlen hu hs h
  · rename_i r i off hx
    split at h
    · rename_i e xs hr
      obtain ⟨h0, hi, h⟩ := pd h
      have hi' : i < xs.length := by simpa using hi
      have hok : e.ok xs[(i : Int).toNat] = true := by
        obtain ⟨ℓ', h5, h6, h7⟩ := hR.mem.rt r _ hr (by simp)
        obtain ⟨q1, q2, q3, q4, q0, q5⟩ := h7
        cases hb : ℓ'.blk with
        | none => rw [hb] at q5; obtain ⟨rfl, _⟩ := q5; simp at hi
        | some b =>
          rw [hb] at q5
          obtain ⟨k1, k2, N, k3, k4, k5⟩ := q5
          obtain ⟨us, j1, j2, j3⟩ := k5 _ hi
          exact Frz.ok (show Frz w Z e us xs[(i : Int).toNat] from j3)
      have h := h hok
      simp only [Int.toNat_natCast] at h
      split at h
      case h_2 => exact h.elim
      rename_i cs' hs
      split at h
      case h_2 => exact h.elim
      rename_i z m' hg
      exact uz hR n ho hx hr hk hreal hlen hu hi' hs hg h
    · rename_i s xs f hr
      obtain ⟨hfi, h⟩ := fw h
      have hfi : f.i = i := by simpa using hfi
      split at h
      case h_2 => exact h.elim
      rename_i cs' hs
      exact yP hR n ho hx hr hfi hk hreal hlen hu hs h
    · exact h.elim
  · exact h.elim
theorem sE (us : List Value) : ∀ (n : Nat), ∃ vs : List Value, ((Array.range (n * us.length)).map (us.toArray[· % us.toArray.size]!)) = vs.toArray ∧ ∀ {cs : List C}, CRs w Z μ cs us → CRs w Z μ (repl n cs) vs
  | 0 => ⟨[], by simp, fun _ => CRs.nil⟩
  | n + 1 => by
    obtain ⟨vs, h1, h2⟩ := sE us n
    refine ⟨us ++ vs, ?_, fun hc => hc.append (h2 hc)⟩
    apply Array.ext'
    have h1' := congrArg Array.toList h1
    simp only [Array.toList_map, Array.toList_range] at h1' ⊢
    refine List.ext_getElem ?_ fun k k1 k2 => ?_
    · have := congrArg List.length h1'
      simp at this ⊢
      rw [← this, Nat.add_mul]; omega
    · simp at k1
      by_cases hk : k < us.length
      · simp [List.getElem_append_left hk, Nat.mod_eq_of_lt hk, hk]
      · have hpos : 0 < us.length := by
          rcases Nat.eq_zero_or_pos us.length with h | h
          · rw [h] at k1; simp at k1
          · exact h
        have e : k = us.length + (k - us.length) := by omega
        have h3 : (k - us.length) < n * us.length := by rw [Nat.add_mul] at k1; omega
        have h4 := List.getElem_of_eq h1' (i := k - us.length) (by simpa using h3)
        simp only [List.getElem_map, List.getElem_range] at h4 ⊢
        rw [List.getElem_append_right (by omega), ← h4]
        congr 1
        conv => lhs; rw [e]
        simp [Nat.add_mod_left]
theorem rI {P : Program} (w : World) (t e : TypeId) (ie : TypeInfo) (hu : P.underlying t = some (.slice e)) (hie : P.info? e = some ie) :
    (Instr.buildSlice t 0 #[]).run P w = .ok (.slice (some ⟨w.heap.size, 0, none⟩) 0 0) (w.alloc (.cells #[] e)) := by
  have e0 : Array.range 0 = #[] := rfl
  simp [Instr.buildSlice, run_underlying hu, sizeOf, typeInfo, hie, newRow, Instr.fill, e0]
theorem qR (hR : Rel B st a w Z μ) {n : Nat} (hF : jJ st n μ) (hn : 1 ≤ n) {T : TypeId} {k : Nat} {parts : Array (Nat × Operand)} (ho : o.op = .buildSlice T k parts) (h : (step E st o Res.ok).sat Φ) :
    o.wp E.P a w (Nxt B st n Z μ Φ) (fun _ _ _ => False) := by
  simp only [step, dG, ho] at h
  split at h
  case h_2 => exact h.elim
  rename_i el hT
  split at h
  case h_2 => exact h.elim
  rename_i s z hs hz
  split at h
  case h_2 => exact h.elim
  rename_i hb
  split at h
  case h_2 => exact h.elim
  rename_i cs hc
  split at h
  case h_2 => exact h.elim
  rename_i xs m hg
  simp only [o6, Bool.and_eq_true, beq_iff_eq, Bool.not_eq_true', beq_eq_false_iff_ne, decide_eq_true_eq] at hb
  obtain ⟨b1, ⟨b2, b3, b4, _⟩, b5, b6⟩ := hb
  unfold elemOf at hT
  split at hT
  case h_2 => cases hT
  rename_i el' hT'
  cases hT
  unfold nS at hz
  split at hz
  case h_2 => cases hz
  rename_i i hi
  split at hz
  case h_2 => cases hz
  rename_i zv hzv
  cases hz
  have hsz : E.P.cellsOf el = i.size := by simp [Program.cellsOf, hi]
  obtain ⟨vs, r1, r2⟩ := sE (w := w) (Z := Z) (μ := μ) zv.cells.toList k
  have hzl : zv.cells.toList.length = i.size := by rw [← hsz, ← b1]; simp
  obtain ⟨us, f1, f2⟩ := rQ hR parts.toList (r2 (oX zv.cells.toList)) hc
  obtain ⟨Z', F', S, g1, g2, g3, g4, g5, g6, g7, g8⟩ := nH s k hR.mem (bX.none B st.mem w Z μ) f2 hg
  have hrun : (execOp a.eval o).run E.P w = .ok (.value (.slice (some ⟨w.heap.size, 0, none⟩) k k)) (w.alloc (.cells us.toArray el)) := by
    simp only [execOp, ho]
    by_cases hk0 : k = 0
    · subst hk0
      have hpe : parts = #[] := by
        cases hp : parts.toList with
        | nil => simpa using hp
        | cons p ps =>
          rw [hp] at hc
          simp only [List.map_cons, s7] at hc
          split at hc
          · rename_i hb'
            split at hc
            · rename_i cs1 hs1
              have h1 := (mU hs1).1
              simp only [Bool.and_eq_true, beq_iff_eq] at hb'
              simp only [repl, List.length_nil] at h1
              omega
            · cases hc
          · cases hc
      subst hpe
      have hus : us = [] := by
        have := g8.1
        rw [g7] at this
        exact List.eq_nil_of_length_eq_zero (by simpa using this)
      subst hus
      have := rI (P := E.P) w T el i hT' hi
      simp [this]
    · have hpos : ¬ k * i.size = 0 := by
        rw [Nat.mul_eq_zero]; omega
      have := run_buildSlice (P := E.P) w T el k (parts.map fun (p : Nat × Operand) => (p.1, a.eval p.2)) us.toArray i zv hT' hi hzv (by rw [← hsz]; omega) hpos (by
        have e1 : (Array.range (k * i.size)).map (zv.cells[· % zv.cells.size]!) = vs.toArray := by
          have := r1
          rw [hzl] at this
          simpa using this
        rw [e1]
        simpa [hsz] using f1)
      simp [this]
  obtain ⟨d1, d2⟩ := gX (w' := w.alloc (.cells us.toArray el)) g1 g2 (fun b hb _ => alloc_old _ _ hb) (by rw [fF]; omega)
  obtain ⟨c1, c2⟩ := hF 0 (by omega)
  rw [Nat.add_zero] at c1 c2
  have hcur : m.cur = st.mem.cur := g6.cur
  have c2' := g6.dead _ c2
  rw [← hcur] at c1 c2'
  have hSameZ : aj Z w (w.alloc (.cells us.toArray el)) := fun b hb => alloc_old _ _ (hR.mem.frz b hb).1
  have hseq : jO (w.alloc (.cells us.toArray el)) Z' B.Y s us xs S := g8.same (fun b hb => by
    refine alloc_old _ _ ?_
    rcases hb with (hb | hb) | hb
    · exact (g1.frz b hb).1
    · exact Nat.lt_of_lt_of_le (g1.ju b hb).1 g1.size
    · exact (g2.ok b (g5 b hb).1).2.1) (fun _ h => h)
  have hul : us.length = k * s.cells := by rw [g8.1, g7]
  have harr := hseq.arr (b := w.heap.size) (o := 0) (cap := k) (lq w us el) (nu w us el (by omega)) (by omega) (fun hS => by have := (g2.ok _ (g5 _ hS).1).2.1; omega) (by rw [g7]; exact b6)
  obtain ⟨p1, p2⟩ := fY (x := .arr s xs none) (ℓ := ⟨some w.heap.size, 0, s.cells, xs.length, k, fun d => d = w.heap.size ∨ S d, none⟩) d1 d2 c2' c1 ⟨(fun f hf => by cases hf), harr⟩ (fun _ d hd => by
    rcases hd with rfl | hd
    · exact .inr ⟨Nat.le_refl _, by rw [fF]; omega⟩
    · exact .inl (g5 d hd).1)
  refine fO (x := .c (.ref m.cur .full)) hR hrun p1 hSameZ g3 (bP.set c1) ⟨_, aZ.ej _ _ _, ?_⟩ h ?_ fun r hr hμ => ?_
  · show _ = _
    simp [Loc.addr, g7]
  · simp only [Mem.push, List.length_set]; exact g6.len
  · rw [aZ.eb _ _ (by omega)]; exact hμ
theorem sZ (hR : Rel B st a w Z μ) {n : Nat} (hF : jJ st n μ) {t : TypeId} {x : Operand} {lo hi : Option Operand} (ho : o.op = .slice t x lo hi none) {p : Nat × TypeId} (hp : rK E.P t = some p) (hn : 1 ≤ n) (h : (step E st o Res.ok).sat Φ) :
    o.wp E.P a w (Nxt B st n Z μ Φ) (fun _ _ _ => False) := by
  simp only [step, dG, ho, hp] at h
  have hx := hR.val x
  obtain ⟨k, el⟩ := p
  split at h
  case h_2 => exact h.elim
  unfold lT at h
  split at h
  case h_2 => exact h.elim
  rename_i r s hX hs
  rw [hX] at hx
  split at h
  case h_2 => exact h.elim
  rename_i cs hr
  split at h
  case h_2 => exact h.elim
  rename_i hb
  split at h
  case h_2 => exact h.elim
  rename_i xs m hg
  simp only [o6, Bool.and_eq_true, beq_iff_eq, Bool.not_eq_true', beq_eq_false_iff_ne, decide_eq_true_eq] at hb
  obtain ⟨⟨b2, b3, b4, _⟩, b6⟩ := hb
  have ht : E.P.underlying t = some (.array k el) := by
    unfold rK at hp
    split at hp
    · cases hp; assumption
    · cases hp
  obtain ⟨ℓ, b, g1, g2, g3⟩ := hx
  obtain ⟨ℓ', h5, b', h6, h7, h8, us, h9, h10⟩ := hR.mem.rt r _ hr (by simp)
  rw [g1] at h5; cases h5
  rw [g2] at h6; cases h6
  obtain ⟨t1, t2⟩ := ev hR.mem (bX.none B st.mem w Z μ) hr g1 rfl
  obtain ⟨Z', F', S, k1, k2, k3, k4, k5, k6, k7, k8⟩ := nH s k t1 t2 h10 hg
  have hul : us.length = k * s.cells := by rw [k8.1, k7]
  have hsz := run_sizeOf (w := w) (P := E.P) (t := el) (by rw [← b2]; exact b3)
  have hrun : (execOp a.eval o).run E.P w = .ok (.value (.slice (some ⟨b, ℓ.base, none⟩) k k)) w := by
    simp only [execOp, ho, show a.eval x = _ from g3]
    simp [Instr.sliceAt, run_underlying ht, Instr.sureAddr, Instr.sliceBounds, hsz, Addr.add, Result.andThen]
  obtain ⟨c1, c2⟩ := hF 0 (by omega)
  rw [Nat.add_zero] at c1 c2
  have hcur : m.cur = st.mem.cur := k6.cur
  have hlt : r < st.mem.roots.length := (List.getElem?_eq_some_iff.1 hr).1
  have hrc : r ≠ st.mem.cur := by rintro rfl; rw [hr] at c2; cases c2
  have c2' : m.roots[m.cur]? = some .dead := by
    rw [hcur]
    refine k6.dead _ ?_
    simp only [Mem.set]
    rw [List.getElem?_set_ne hrc]; exact c2
  rw [← hcur] at c1
  have hSb : ¬ S b := fun hS => (k5 b hS).2 (.inr h7)
  have harr := k8.arr (b := b) (o := ℓ.base) (cap := k) h9 (by rw [← hul, ← h10.1]; exact h8) (by omega) hSb (by rw [k7]; exact b6)
  obtain ⟨p1, p2⟩ := fY (x := .arr s xs none) (ℓ := ⟨some b, ℓ.base, s.cells, xs.length, k, fun d => d = b ∨ S d, none⟩) k1 k2 c2' c1 ⟨(fun f hf => by cases hf), harr⟩ (fun _ d hd => by
    rcases hd with rfl | hd
    · exact k4 _ (.inr h7)
    · exact (k5 d hd).1)
  refine fO (x := .c (.ref m.cur .full)) hR hrun p1 (aj.refl _ _) k3 (bP.set c1) ⟨_, aZ.ej _ _ _, ?_⟩ h ?_ fun r hr hμ => ?_
  · show _ = _
    simp [Loc.addr, k7]
  · simp only [Mem.push, List.length_set]
    rw [k6.len]; simp [Mem.set]
  · rw [aZ.eb _ _ (by omega)]; exact hμ
end
end Go.Mach
namespace Go.Mach
section
variable {w : World} {Z : Nat → Prop}
theorem oZ : ∀ (t : Ty) (x : t.den), ((t.flat x).any C.jv) = false
  | .unit, _ => rfl
  | .int _, _ => rfl
  | .bool, _ => rfl
  | .str, _ => rfl
  | .list _, _ => rfl
  | .pair a b, x => by simp only [Ty.flat, List.any_append, oZ a, oZ b, Bool.or_self]
  | .rose a, x => by simp only [Ty.flat, List.any_append, oZ a]; rfl
theorem Frz.one {t : Ty} {us : List Value} {x : t.den} (h : Frz w Z t us x) : ∀ u ∈ us, u.oneCell' = true := (h.flat (μ := fun _ => none)).oh (oZ t x)
theorem SR.one {Y : Nat → Prop} : ∀ {s : Sh} {us : List Value} {x : s.den} {S : Nat → Prop}, s.real = true → SR w Z Y s us x S → ∀ u ∈ us, u.oneCell' = true
  | .nil, _, _, _, _, h => by simp only [SR] at h; subst h; simp
  | .undef, _, _, _, hr, _ => by simp [Sh.real] at hr
  | .iC, _, _, _, _, h => by simp only [SR] at h; subst h; simp [Value.oneCell']
  | .sb _, _, _, _, _, h => by simp only [SR] at h; obtain ⟨_, rfl, _⟩ := h; simp [Value.oneCell']
  | .err, _, _, _, _, h => by simp only [SR] at h; obtain ⟨v, rfl, ⟨_, rfl⟩ | ⟨_, _, _, rfl⟩⟩ := h <;> simp [Value.oneCell']
  | .opq, _, _, _, _, h => by simp only [SR] at h; obtain ⟨v, rfl, h⟩ := h; simpa using h.2
  | .frz t, us, x, _, _, h => Frz.one (show Frz w Z t us x from h)
  | .own s, _, _, _, _, h => by simp only [SR] at h; obtain ⟨ℓ, rfl, _⟩ := h; simp [Value.oneCell']
  | .box s, _, _, _, _, h => by simp only [SR] at h; obtain ⟨_, _, _, _, rfl, _⟩ := h; simp [Value.oneCell']
  | .map n s, _, _, _, _, h => by simp only [SR] at h; obtain ⟨_, rfl, _⟩ := h; simp [Value.oneCell']
  | .clo f s, _, _, _, _, h => by simp only [SR] at h; obtain ⟨_, _, rfl, _⟩ := h; simp [Value.oneCell']
  | .seq a b, us, x, S, hr, h => by
    simp only [Sh.real, Bool.and_eq_true] at hr
    simp only [SR] at h
    obtain ⟨u1, u2, _, _, rfl, _, _, _, h5, h6⟩ := h
    intro u hu
    rcases List.mem_append.1 hu with hu | hu
    · exact SR.one hr.1 h5 u hu
    · exact SR.one hr.2 h6 u hu
  | .bor _, _, _, _, hr, _ => by simp [Sh.real] at hr
theorem jO.one {Y : Nat → Prop} {s : Sh} {us : List Value} {xs : List s.den} {S : Nat → Prop} (hr : s.real = true) (h : jO w Z Y s us xs S) : ∀ u ∈ us, u.oneCell' = true := by
  obtain ⟨h1, N, _, _, h4⟩ := h
  intro u hu
  obtain ⟨k, hk, rfl⟩ := List.getElem_of_mem hu
  have hc : 0 < s.cells := by
    rcases Nat.eq_zero_or_pos s.cells with h | h
    · rw [h] at h1; simp at h1; subst h1; simp at hk
    · exact h
  have hi : k / s.cells < xs.length := by
    rw [Nat.div_lt_iff_lt_mul hc]; omega
  have h5 := h4 _ hi
  refine SR.one hr h5 _ ?_
  have h6 : k % s.cells < s.cells := Nat.mod_lt _ hc
  have h7 : k / s.cells * s.cells + k % s.cells = k := Nat.div_add_mod' k s.cells
  rw [List.mem_iff_getElem]
  refine ⟨k % s.cells, by simp; omega, ?_⟩
  simp only [List.getElem_take, List.getElem_drop, h7]
def oP (P : Program) (w : World) (c : Nat) (x : Value) (n : Nat) (news : List Value) : Prop :=
  (Builtin.lenOf x).run P w = .ok n w ∧ ∀ W : World, W.heap = w.heap → (Builtin.firstCells c n x).run P W = .ok news.toArray W
theorem lS {P : Program} {c : Nat} {a : Option Addr} {n cap : Nat} {news : List Value} (hl : news.length = n * c) (h : news = [] ∨ ∃ b p, a = some ⟨b, p, none⟩ ∧ bd w b p news) : oP P w c (.slice a n cap) n news := by
  refine ⟨by simp [Builtin.lenOf], fun W hW => ?_⟩
  have hc : ∀ x : Addr, W.cell? x = w.cell? x := fun x => by simp only [World.cell?, hW]
  cases a with
  | none =>
    rcases h with rfl | ⟨b, p, h, _⟩
    · simp [Builtin.firstCells]
    · cases h
  | some ad =>
    refine run_firstCells_some (P := P) W c n ad n cap news hl fun j v hv => ?_
    rcases h with rfl | ⟨b, p, h, hcs⟩
    · simp at hv
    · cases h
      rw [hc]
      exact lp hcs j v hv
theorem BN {P : Program} (s : List UInt8) : oP P w 1 (jH s) s.length ((jA s).map (Value.int .u8)) := by
  refine ⟨by simp [Builtin.lenOf, jH, mO], fun W _ => ?_⟩
  simp only [Builtin.firstCells, jH, Sem.run_pure]
  congr 1
  apply Array.ext'
  simp [jA, oJ]
variable {P : Program}
theorem wa {t u ty e : TypeId} {i : TypeInfo} (ht : P.underlying t = some (.slice e)) (hu : xV P u = true) (hi : P.info? e = some i) {b off sLen sCap n : Nat} {x : Value} {news : List Value}
    (hx : oP P w i.size x n news) (hl : news.length = n * i.size) (hroom : sLen + n ≤ sCap) (hb : gU w b (off + sCap * i.size)) (h1 : ∀ v ∈ news, v.oneCell' = true) (rest : List TypeId) :
    (Builtin.append_ (t :: u :: rest).toArray ty #[.slice (some ⟨b, off, none⟩) sLen sCap, x]).run P w = .ok (.slice (some ⟨b, off, none⟩) (sLen + n) sCap) (w.setCells b (off + sLen * i.size) news) := by
  have h2 : (sLen + n) * i.size ≤ sCap * i.size := Nat.mul_le_mul_right _ hroom
  rw [Nat.add_mul] at h2
  have hst := lF (P := P) (o := off + sLen * i.size) hb (by omega) h1
  have hf := hx.2 w rfl
  unfold xV at hu
  cases hd : P.underlying u with
  | none => simp [hd] at hu
  | some d =>
    cases d <;> simp [hd] at hu <;> simp [Builtin.append_, run_underlying ht, run_underlying hd, sizeOf, typeInfo, hi, hx.1, hroom, hf, addr_add, hst]
theorem rC {t u ty e : TypeId} {i : TypeInfo} (ht : P.underlying t = some (.slice e)) (hu : xV P u = true) (hi : P.info? e = some i) {x : Value} {news : List Value} {sCap : Nat}
    (hx : oP P w i.size x 0 news) (rest : List TypeId) :
    (Builtin.append_ (t :: u :: rest).toArray ty #[.slice none 0 sCap, x]).run P w = .ok (.slice none 0 sCap) w := by
  have hf := hx.2 w rfl
  unfold xV at hu
  cases hd : P.underlying u with
  | none => simp [hd] at hu
  | some d =>
    cases d <;> simp [hd] at hu <;> simp [Builtin.append_, run_underlying ht, run_underlying hd, sizeOf, typeInfo, hi, hx.1, hf]
theorem qz {t u ty e : TypeId} {i : TypeInfo} {z : Value} (ht : P.underlying t = some (.slice e)) (hu : xV P u = true) (hi : P.info? e = some i) (hz : i.zero = some z) {a : Option Addr} {sLen sCap n : Nat} {x : Value} {olds news : List Value}
    (hx : oP P w i.size x n news) (ho : oP P w i.size (.slice a sLen sCap) sLen olds) (hg : sCap < sLen + n) (h63 : sLen + n ≤ 2 ^ 47) (hfit : (sLen + n) * i.bytes ≤ 2 ^ 47) (rest : List TypeId) :
    (Builtin.append_ (t :: u :: rest).toArray ty #[.slice a sLen sCap, x]).run P w = .ok (.slice (some ⟨w.heap.size, 0, none⟩) (sLen + n) (grownCap w (sLen + n) sCap e))
      (w.drew.alloc (.cells (olds.toArray ++ news.toArray ++ Builtin.zeroCells z.cells (grownCap w (sLen + n) sCap e - (sLen + n))) e)) := by
  have hn : ¬ (sLen + n ≤ sCap) := by omega
  have h63' : ¬ (9223372036854775807 < ((sLen : Int) + (n : Int))) := by omega
  have h48' : ¬ (281474976710656 < Builtin.nextslicecap (sLen + n) sCap * i.bytes) := by have := growslice_fits hg hfit; omega
  have hf := hx.2 w.drew rfl
  have hfo := ho.2 w.drew rfl
  unfold xV at hu
  cases hd : P.underlying u with
  | none => simp [hd] at hu
  | some d =>
    cases d <;> simp [hd] at hu <;>
      (simp [Builtin.append_, run_underlying ht, run_underlying hd, sizeOf, typeInfo, zeroValue, hi, hz, hx.1, hn, h63', h48', Question.forced, hf, hfo, newRow, grownCap]
       congr 2
       apply Array.ext'
       simp [List.append_assoc])
end
end Go.Mach
namespace Go.Mach
section
variable {B : eD} {m m' : Mem} {w : World} {Z : Nat → Prop} {μ : aZ} {F : Nat → Prop}
theorem aZ.mR {μ : aZ} {r : Nat} {ℓ : Loc} (h : μ r = some ℓ) : μ.set r ℓ = μ := by
  funext s
  by_cases e : s = r
  · subst e; rw [aZ.ej, h]
  · exact aZ.eb _ _ e
theorem xe (hM : az B m w Z μ) {r : Nat} {m0 : Mem} (hs : m.shut r = some m0) {ℓ : Loc} (hμ : μ r = some ℓ) :
    ∃ (Z' S' : Nat → Prop) (s : Sh) (xs : List s.den), m0.roots[r]? = some (.arr s xs none) ∧ az B m0 w Z' (μ.set r { ℓ with S := S' }) ∧ (∀ b, Z b → Z' b) ∧ Kept m m0 := by
  unfold Mem.shut at hs
  split at hs
  · rename_i s xs f hr
    split at hs
    case h_2 => cases hs
    rename_i x m1 hg
    cases hs
    obtain ⟨ℓ', h5, h6, h7⟩ := hM.rt r _ hr (by simp)
    rw [hμ] at h5; cases h5
    obtain ⟨t1, t2⟩ := ev hM (bX.none B m w Z μ) hr hμ rfl
    have hi := h6 f rfl
    have h7' := h7
    obtain ⟨q1, q2, q3, q4, q0, q5⟩ := h7
    have hbe : ∃ b, ℓ.blk = some b := by
      cases hb : ℓ.blk with
      | none => rw [hb] at q5; obtain ⟨rfl, _⟩ := q5; simp at hi
      | some b => exact ⟨b, rfl⟩
    obtain ⟨b, hb⟩ := hbe
    rw [hb] at q5
    obtain ⟨k1, k2, N, k3, k4, k5⟩ := q5
    obtain ⟨wf, j1, j2, j3⟩ := k5 f.i hi
    simp only [ElR, if_true] at j3
    obtain ⟨⟨Z', F', S1, us1, us2, e1, e2, e3, e4, e5, e6, e7, e8, e9⟩, ek⟩ := gj s t1 t2 j3 hg
    have := e9.hB
    subst this
    rw [List.append_nil] at e1
    subst e1
    have key : kW w s.cells (xs.set f.i x) (dw s xs.length) (fun _ us x S => SR w Z' B.Y s us x S) { ℓ with S := fun d => ℓ.S d ∨ S1 d } := by
      refine h7'.oe (R' := fun us x S => SR w Z' B.Y s us x S) hi (fun d hd hS => (e7 d hd).2 (.inr hS)) (fun b' hb' => ?_) fun j us S hj hji hR => ?_
      · rw [hb] at hb'; cases hb'
        exact ⟨wf, j1, j2, e8⟩
      · simp only [ElR, if_neg (Ne.symm hji)] at hR
        exact hR.up e5
    have hlt : r < m.roots.length := (List.getElem?_eq_some_iff.1 hr).1
    have hdead : m1.roots[r]? = some .dead := ek.dead r (by simp [Mem.set, hlt])
    have hlt1 : r < m1.roots.length := (List.getElem?_eq_some_iff.1 hdead).1
    obtain ⟨p1, _⟩ := iz (x := .arr s (xs.set f.i x) none) (ℓ := { ℓ with S := fun d => ℓ.S d ∨ S1 d }) e3 e4 hdead (bP.mJ hμ) ⟨(fun f hf => by cases hf), by
      have := key
      rwa [show dw s xs.length = dw s (xs.set f.i x).length from by simp] at this⟩ (fun _ d hd => hd.elim (fun h => e6 d (.inr h)) fun h => (e7 d h).1)
    refine ⟨Z', _, s, xs.set f.i x, ?_, p1, e5, ?_⟩
    · simp [Mem.set, hlt1]
    · refine ⟨?_, ek.cur, fun q hq => ?_⟩
      · show (List.set _ _ _).length = _
        rw [List.length_set, ek.len]; simp [Mem.set]
      · have hne : r ≠ q := by rintro rfl; rw [hr] at hq; cases hq
        show (List.set _ _ _)[q]? = _
        rw [List.getElem?_set_ne hne]
        exact ek.dead q (by simp only [Mem.set]; rw [List.getElem?_set_ne hne]; exact hq)
  · rename_i s xs hr
    cases hs
    exact ⟨Z, ℓ.S, s, xs, hr, by rw [show ({ ℓ with S := ℓ.S } : Loc) = ℓ from rfl, aZ.mR hμ]; exact hM, fun _ h => h, Kept.refl _⟩
  · cases hs
theorem xa (b : UInt8) : cP .u8 (b.toNat : Int) = true := by
  have := b.toNat_lt
  exact kH (by have : IntKind.min .u8 = 0 := (by decide); omega) (by have : IntKind.max .u8 = 255 := (by decide); omega)
theorem vg {Y : Nat → Prop} (s : List UInt8) : jO w Z Y (.frz (.int .u8)) ((jA s).map (Value.int .u8)) (jA s) (fun _ => False) := by
  refine ⟨by simp [Sh.cells, Ty.cells], fun _ _ => False, fun _ _ _ h => h, fun _ _ _ _ _ _ h => h.elim, fun i hi => ?_⟩
  show Frz w Z (.int .u8) _ _
  have hi' : i < s.length := by simpa [jA] using hi
  simp only [Frz, Sh.cells, Ty.cells, Nat.mul_one]
  refine ⟨?_, by simpa [jA] using xa s[i]⟩
  apply List.ext_getElem
  · simp; omega
  · intro k h1 h2
    have : k = 0 := by simpa using h2
    subst this
    simp
theorem wZ {P : Program} (hM : az B m w Z μ) {e : Ty} {x : AV} {v : Value} (hx : AR w Z μ x v) {ys : List e.den} (h : te m e x = some ys) :
    ∃ news, jO w Z B.Y (.frz e) news ys (fun _ => False) ∧ oP P w e.cells v ys.length news := by
  unfold te at h
  split at h
  · rename_i s
    split at h
    case h_2 => cases h
    rename_i he _
    subst he
    cases h
    obtain ⟨h1, _⟩ := (show v = jH s ∧ _ from hx)
    refine ⟨_, vg s, ?_⟩
    rw [h1]
    have := BN (w := w) (P := P) s
    simpa [jA, Ty.cells] using this
  · rename_i c _
    obtain ⟨h1, _⟩ := pN hM (show CR w Z μ c v from hx) h
    obtain ⟨us, g1, g2, a, cap, rfl, g4, g5⟩ := h1.seq (Y := B.Y)
    refine ⟨us, g2, lS g1 ?_⟩
    rcases g5 with rfl | ⟨b, p, g5, _, g6⟩
    · left; exact List.eq_nil_of_length_eq_zero (by simpa using g1)
    · exact .inr ⟨b, p, g5, g6⟩
  · cases h
theorem px {P : Program} {md m1 : Mem} (hM0 : az B m w Z μ) (hM : az B md w Z μ) (hF : bX B md w Z μ F) {s : Sh} {x : AV} {v : Value} (hx : AR w Z μ x v) {ys : List s.den} (h : qW m md s x = some (ys, m1)) :
    ∃ (F' S : Nat → Prop) (news : List Value), az B m1 w Z μ ∧ bX B m1 w Z μ F' ∧ (∀ b, F b → F' b) ∧ (∀ b, S b → F' b ∧ ¬ F b) ∧ Kept md m1 ∧ jO w Z B.Y s news ys S ∧ oP P w s.cells v ys.length news := by
  unfold qW at h
  split at h
  · rename_i e
    split at h
    case h_2 => cases h
    rename_i ys' hs
    simp only [Option.some.injEq, Prod.mk.injEq] at h
    obtain ⟨rfl, rfl⟩ := h
    obtain ⟨news, g1, g2⟩ := wZ (P := P) hM0 hx hs
    exact ⟨F, fun _ => False, news, hM, hF, fun _ h => h, fun _ h => h.elim, Kept.refl _, g1, g2⟩
  · simp only [Option.some.injEq, Prod.mk.injEq] at h
    obtain ⟨rfl, rfl⟩ := h
    have hv : v = .slice none 0 0 := hx
    exact ⟨F, fun _ => False, [], hM, hF, fun _ h => h, fun _ h => h.elim, Kept.refl _, jO.nil, by rw [hv]; exact lS (by simp) (.inl rfl)⟩
  · rename_i r hne
    split at h
    case h_2 => cases h
    rename_i s' ys' hr
    split at h
    case h_2 => cases h
    rename_i he _
    subst he
    simp only [Option.some.injEq, Prod.mk.injEq] at h
    obtain ⟨rfl, rfl⟩ := h
    obtain ⟨ℓ, m1, m2⟩ := (show ∃ ℓ, μ r = some ℓ ∧ SlR ℓ .full v from hx)
    obtain ⟨ℓ', h5, h6, h7⟩ := hM.rt r _ hr (by simp)
    rw [m1] at h5; cases h5
    obtain ⟨t1, t2⟩ := ev hM hF hr m1 rfl
    have h7' : kW w s'.cells ys' (dw s' ys'.length) (fun _ us x S => SR w Z B.Y s' us x S) ℓ := h7
    have hv : v = .slice (ℓ.addr 0) ℓ.len ℓ.cap := m2
    obtain ⟨q1, q2, q3, q4, q0, q5⟩ := h7
    refine ⟨fun b => F b ∨ ℓ.S b, ℓ.S, ?_⟩
    cases hb : ℓ.blk with
    | none =>
      rw [hb] at q5
      obtain ⟨rfl, _⟩ := q5
      refine ⟨[], t1, t2, fun _ h => .inl h, fun b hb => ⟨.inr hb, fun hf => hF.off b r hf ⟨_, ℓ, hr, rfl, m1, hb⟩⟩, Kept.lJ, jO.nil, ?_⟩
      rw [hv, q2]; exact lS (by simp) (.inl rfl)
    | some b =>
      obtain ⟨us, g1, g2⟩ := h7'.seq hb
      refine ⟨us, t1, t2, fun _ h => .inl h, fun b hb => ⟨.inr hb, fun hf => hF.off b r hf ⟨_, ℓ, hr, rfl, m1, hb⟩⟩, Kept.lJ, g2.grow fun _ h => h.1, ?_⟩
      rw [hv, q2, ℓ.kN q0 hb, Nat.zero_mul, Nat.add_zero]
      exact lS g2.1 (.inr ⟨b, _, rfl, g1⟩)
  · cases h
theorem uT {b o n : Nat} {vs : List Value} (hb : gU w b n) (hn : o + vs.length ≤ n) : bd (w.setCells b o vs) b o vs := by
  intro k hk
  have := World.cell?_setCells_in b vs o w (fun j hj => hb.cell (by omega)) k hk
  simpa using this
end
end Go.Mach
namespace Go.Mach
section
variable {B : eD} {E : Env} {st : St} {o : Oper} {a : Act} {w : World} {Z : Nat → Prop} {μ : aZ} {Φ : St → Prop}
theorem tC {P : Program} {m1 : Mem} {F' S So : Nat → Prop} {s : Sh} {olds news : List Value} {xs ys : List s.den} (hM : az B m1 w Z μ) (hF : bX B m1 w Z μ F')
    (ho : jO w Z B.Y s olds xs So) (hn : jO w Z B.Y s news ys S) (hoS : ∀ b, So b → F' b) (hnS : ∀ b, S b → F' b) (hd : ∀ d, So d → S d → False)
    {el : TypeId} {z : Array Value} {cap : Nat} (hz : z.size = s.cells) (hcap : (xs ++ ys).length ≤ cap) (hok : dw s (xs ++ ys).length = true) (c1 : μ m1.cur = none) (c2 : m1.roots[m1.cur]? = some .dead) :
    ∃ μ', az B (m1.push (.arr s (xs ++ ys) none)) (w.drew.alloc (.cells (olds.toArray ++ news.toArray ++ Builtin.zeroCells z (cap - (xs ++ ys).length)) el)) Z μ' ∧ μ' = μ.set m1.cur ⟨some w.heap.size, 0, s.cells, (xs ++ ys).length, cap, fun d => d = w.heap.size ∨ (So d ∨ S d), none⟩ := by
  obtain ⟨d1, d2⟩ := gX (w' := w.drew.alloc (.cells (olds.toArray ++ news.toArray ++ Builtin.zeroCells z (cap - (xs ++ ys).length)) el)) hM hF (fun b hb _ => alloc_old w.drew _ hb) (by rw [fF]; exact Nat.le_succ _)
  have hseq := (ho.append hn hd).same (w' := w.drew.alloc (.cells (olds.toArray ++ news.toArray ++ Builtin.zeroCells z (cap - (xs ++ ys).length)) el)) (fun b hb => by
    refine alloc_old w.drew _ ?_
    rcases hb with (hb | hb) | hb | hb
    · exact (hM.frz b hb).1
    · exact Nat.lt_of_lt_of_le (hM.ju b hb).1 hM.size
    · exact (hF.ok b (hoS b hb)).2.1
    · exact (hF.ok b (hnS b hb)).2.1) (fun _ h => h)
  have hall : (olds.toArray ++ news.toArray ++ Builtin.zeroCells z (cap - (xs ++ ys).length)).toList = (olds ++ news) ++ (Builtin.zeroCells z (cap - (xs ++ ys).length)).toList := by simp
  have hcells : bd (w.drew.alloc (.cells (olds.toArray ++ news.toArray ++ Builtin.zeroCells z (cap - (xs ++ ys).length)) el)) w.heap.size 0 (olds ++ news) := by
    have h1 := lq w.drew (olds.toArray ++ news.toArray ++ Builtin.zeroCells z (cap - (xs ++ ys).length)).toList el
    simp only [Array.toArray_toList] at h1
    rw [hall] at h1
    intro k hk
    have := h1 k (by rw [List.length_append]; omega)
    rw [List.getElem_append_left hk] at this
    exact this
  have hlen : (olds ++ news).length = (xs ++ ys).length * s.cells := (ho.append hn hd).1
  have hblock : gU (w.drew.alloc (.cells (olds.toArray ++ news.toArray ++ Builtin.zeroCells z (cap - (xs ++ ys).length)) el)) w.heap.size (0 + cap * s.cells) := by
    refine ⟨_, _, _, jY w.drew _, ?_, fun k _ => by simp⟩
    have h1 : (olds.toArray ++ news.toArray ++ Builtin.zeroCells z (cap - (xs ++ ys).length)).size = (olds ++ news).length + (cap - (xs ++ ys).length) * s.cells := by
      simp [size_zeroCells, hz]
    rw [h1, hlen, ← Nat.add_mul]
    have : (xs ++ ys).length + (cap - (xs ++ ys).length) = cap := by omega
    rw [this]; omega
  have harr := hseq.arr hcells hblock hcap (fun hS => by
    have : F' w.heap.size := hS.elim (hoS _) (hnS _)
    have := (hF.ok _ this).2.1
    omega) hok
  obtain ⟨p1, p2⟩ := fY (x := .arr s (xs ++ ys) none) (ℓ := ⟨some w.heap.size, 0, s.cells, (xs ++ ys).length, cap, fun d => d = w.heap.size ∨ (So d ∨ S d), none⟩) d1 d2 c2 c1 ⟨(fun f hf => by cases hf), harr⟩ (fun _ d hd => by
    rcases hd with rfl | hd | hd
    · exact .inr ⟨Nat.le_refl _, by rw [fF]; exact Nat.lt_succ_self _⟩
    · exact .inl (hoS d hd)
    · exact .inl (hnS d hd))
  exact ⟨_, p1, rfl⟩
theorem lj {c : Call} {x : Operand} {y : Operand} {v : Value} {w' : World} (ho : o.op = .call c) (hc : c.callee = .builtin .append) (ha : c.args.toList = [x, y]) {T U : TypeId} {rest : List TypeId} (ht : c.argTypes.toList = T :: U :: rest)
    (h : ∀ ty, (Builtin.append_ (T :: U :: rest).toArray ty #[a.eval x, a.eval y]).run E.P w = .ok v w') : (execOp a.eval o).run E.P w = .ok (.value v) w' := by
  refine lA ho hc fun ks => ?_
  have h1 : c.args = #[x, y] := by rw [← c.args.toArray_toList, ha]
  have h2 : c.argTypes = (T :: U :: rest).toArray := by rw [← c.argTypes.toArray_toList, ht]
  rw [h1, h2]
  simp only [builtin]
  have := h o.type
  simp at this ⊢
  simp [this]
theorem u9 (hR : Rel B st a w Z μ) {n : Nat} (hF : jJ st n μ) (hn : 1 ≤ n) {c : Call} (ho : o.op = .call c) (hc : c.callee = .builtin .append) (h : (step E st o Res.ok).sat Φ) :
    o.wp E.P a w (Nxt B st n Z μ Φ) (fun _ _ _ => False) := by
  simp only [step, dG, ho, hc] at h
  split at h
  case h_2 => exact h.elim
  rename_i d y T U rest ha ht
  split at h
  case h_2 => exact h.elim
  rename_i el hT
  split at h
  case h_2 => exact h.elim
  rename_i s hs
  split at h
  case h_2 => exact h.elim
  rename_i hb
  simp only [o6, Bool.and_eq_true, beq_iff_eq, Bool.not_eq_true', beq_eq_false_iff_ne, decide_eq_true_eq] at hb
  obtain ⟨⟨b2, b3, b4, b5⟩, hU, hzl⟩ := hb
  unfold elemOf at hT
  split at hT
  case h_2 => cases hT
  rename_i el' hT'
  cases hT
  unfold xf at hzl
  split at hzl
  case h_2 => cases hzl
  rename_i zc hz
  unfold nS at hz
  split at hz
  case h_2 => cases hz
  rename_i i hi
  split at hz
  case h_2 => cases hz
  rename_i zv hzv
  cases hz
  have hsz : E.P.cellsOf el = i.size := by simp [Program.cellsOf, hi]
  have hby : E.P.bytesOf el = i.bytes := by simp [Program.bytesOf, hi]
  have hci : s.cells = i.size := b2.trans hsz
  have hzs : zv.cells.size = s.cells := by rw [b2]; simpa using hzl
  have hby1 : 1 ≤ i.bytes := by have := jn s; omega
  obtain ⟨f1, f2⟩ := hF 0 (by omega)
  rw [Nat.add_zero] at f1 f2
  have hD := hR.val d
  have hY := hR.val y
  have hroomOk : ∀ k, roomFor E.P el k = true → dw s k = true ∧ k * i.bytes ≤ 2 ^ 47 ∧ k ≤ 2 ^ 47 := by
    intro k hk
    simp only [roomFor, decide_eq_true_eq, hby] at hk
    refine ⟨?_, hk, Nat.le_trans (Nat.le_mul_of_pos_right _ hby1) hk⟩
    simp only [dw, decide_eq_true_eq]
    exact Nat.le_trans (Nat.mul_le_mul_left _ (by omega)) hk
  generalize hqd : val st d = D at h hD
  unfold oW at h
  split at h
  · split at h
    case h_2 => exact h.elim
    rename_i ys m1 hsrc
    obtain ⟨hroom, h⟩ := fw h
    obtain ⟨r1, r2, r3⟩ := hroomOk _ hroom
    obtain ⟨F', S, news, g1, g2, g3, g4, g5, g6, g7⟩ := px (P := E.P) hR.mem hR.mem (bX.none B st.mem w Z μ) hY hsrc
    have hdv : a.eval d = .slice none 0 0 := hD
    have hcur : m1.cur = st.mem.cur := g5.cur
    have c2 := g5.dead _ f2
    rw [← hcur] at c2
    have c1 : μ m1.cur = none := by rw [hcur]; exact f1
    by_cases h0 : ys.length = 0
    · have : ys = [] := List.eq_nil_of_length_eq_zero h0
      subst this
      have hrun := lj (v := .slice none 0 0) (w' := w) ho hc ha ht (fun ty => by
        rw [hdv]
        refine rC (news := news) hT' hU hi ?_ rest
        rw [← hci]; exact g7)
      obtain ⟨p1, p2⟩ := fY (x := .arr s [] none) (ℓ := ⟨none, 0, s.cells, 0, 0, fun _ => False, none⟩) g1 g2 c2 c1 ⟨(fun f hf => by cases hf), rfl, rfl, Nat.le_refl _, by simp [dw], rfl, rfl, rfl⟩ (fun _ d hd => hd.elim)
      refine fO (x := .c (.ref m1.cur .full)) hR hrun p1 (aj.refl _ _) (fun _ h => h) (bP.set c1) ⟨_, aZ.ej _ _ _, rfl⟩ h ?_ fun r hr hμ => ?_
      · simp only [Mem.push, List.length_set]; exact g5.len
      · rw [aZ.eb _ _ (by omega)]; exact hμ
    · have hrun := lj (a := a) (E := E) (w := w) ho hc ha ht (fun ty => by
        rw [hdv]
        exact qz (olds := []) (news := news) (n := ys.length) hT' hU hi hzv (by rw [← hci]; exact g7) (lS (by simp) (.inl rfl)) (by omega) (by omega) (by simpa using r2) rest)
      have hge := grownCap_ge w (0 + ys.length) 0 el
      obtain ⟨μ', p1, p2⟩ := tC (P := E.P) (xs := []) (el := el) (z := zv.cells) (cap := grownCap w (0 + ys.length) 0 el) g1 g2 jO.nil g6 (So := fun _ => False) (fun _ h => h.elim) (fun b hb => (g4 b hb).1) (fun _ h => h.elim) hzs (by simpa using hge) (by simpa using r1) c1 c2
      subst p2
      simp only [List.nil_append] at p1
      refine fO (x := .c (.ref m1.cur .full)) hR hrun (by simpa using p1) (fun b hb => alloc_old w.drew _ (hR.mem.frz b hb).1) (fun _ h => h) (bP.set c1) ⟨_, aZ.ej _ _ _, ?_⟩ h ?_ fun r hr hμ => ?_
      · show _ = _
        simp [Loc.addr]
      · simp only [Mem.push, List.length_set]; exact g5.len
      · rw [aZ.eb _ _ (by omega)]; exact hμ
  · rename_i r wd
    split at h
    case h_2 => exact h.elim
    rename_i m0 hsh
    split at h
    case h_2 => exact h.elim
    rename_i s' xs hr0
    split at h
    case h_2 => exact h.elim
    rename_i _ he _ _
    subst he
    split at h
    case h_2 => exact h.elim
    rename_i ys m1 hsrc
    obtain ⟨hroom, h⟩ := fw h
    obtain ⟨r1, r2, r3⟩ := hroomOk _ hroom
    obtain ⟨ℓ, μr, hv⟩ := hD
    obtain ⟨Z0, S0, s2, xs2, hr0', hM0, hz0, hk0⟩ := xe hR.mem hsh μr
    rw [hr0] at hr0'
    cases hr0'
    have hext := bP.mJ (S := S0) μr
    obtain ⟨ℓ', h5, h6, h7⟩ := hM0.rt r _ hr0 (by simp)
    rw [aZ.ej] at h5
    have h7' : kW w s'.cells xs (dw s' xs.length) (fun _ us x S => SR w Z0 B.Y s' us x S) ℓ' := h7
    obtain ⟨t1, t2⟩ := ev hM0 (bX.none B m0 w Z0 _) hr0 (ℓ := ℓ') (by rw [aZ.ej]; exact h5) rfl
    obtain ⟨F', S, news, g1, g2, g3, g4, g5, g6, g7⟩ := px (P := E.P) hM0 t1 t2 (hY.mono (aj.refl _ _) hz0 hext) hsrc
    have hkept : Kept st.mem m1 := hk0.trans (Kept.lJ.trans g5)
    have hcur : m1.cur = st.mem.cur := hkept.cur
    have c2 := hkept.dead _ f2
    rw [← hcur] at c2
    have hne : st.mem.cur ≠ r := by rintro rfl; rw [f1] at μr; cases μr
    have c1 : (μ.set r { ℓ with S := S0 }) m1.cur = none := by rw [hcur, aZ.eb _ _ hne]; exact f1
    have hlen' : ℓ'.len = ℓ.len ∧ ℓ'.cap = ℓ.cap ∧ ℓ'.blk = ℓ.blk ∧ ℓ'.base = ℓ.base ∧ ℓ'.sz = ℓ.sz ∧ ℓ'.odd = ℓ.odd := by cases h5; exact ⟨rfl, rfl, rfl, rfl, rfl, rfl⟩
    obtain ⟨e1, e2, e3, e4, e5, e6⟩ := hlen'
    obtain ⟨q1, q2, q3, q4, q0, q5⟩ := h7
    obtain ⟨p, k, v1, v2, v3, v4, v5, v6⟩ := hv.ri (by omega)
    have v3' := v3
    rw [← e1, q2] at v3'
    obtain ⟨w1, w2⟩ := ug xs wd v3'
    have hwlen : (wd.of xs).length = wd.len ℓ.len := by rw [w1, ← q2, e1]
    have hsum : wd.len xs.length + ys.length = ((wd.of xs) ++ ys).length := by rw [List.length_append, w1]
    rw [hsum] at r1 r2 r3
    have hold : ∃ olds, jO w Z0 B.Y s' olds (wd.of xs) (fun d => ℓ'.S d ∧ ∀ b, ℓ.blk = some b → d ≠ b) ∧ (olds = [] ∨ ∃ b, ℓ.blk = some b ∧ bd w b (ℓ.base + p * ℓ.sz) olds) := by
      rw [← e3] at *
      cases hb : ℓ'.blk with
      | none =>
        rw [hb] at q5
        obtain ⟨rfl, _⟩ := q5
        have : wd.of ([] : List s'.den) = [] := by cases wd <;> simp [Win.of]
        rw [this]
        exact ⟨[], jO.nil, .inl rfl⟩
      | some b =>
        obtain ⟨us, k1, k2⟩ := h7'.seq hb
        have hpart := k2.part wd.off (wd.len xs.length) (by omega)
        rw [← zl xs wd v3'] at hpart
        refine ⟨_, hpart.grow fun d hd => ⟨hd.1, fun b' hb' => by cases hb'; exact hd.2⟩, ?_⟩
        rcases v6 with v6 | v6
        · right
          refine ⟨b, rfl, ?_⟩
          rw [v6, ← e4, ← e5, q1]
          exact k1.sub
        · left
          have : wd.len xs.length = 0 := by rw [← q2, e1]; omega
          rw [this]; simp
    obtain ⟨olds, o1, o2⟩ := hold
    have hodd : ℓ.odd = none := by rw [← e6]; exact q0
    have hS' : ∀ b, ℓ'.S b → F' b := fun b hb => g3 b (.inr hb)
    have hsep : ∀ d, (ℓ'.S d ∧ ∀ b, ℓ.blk = some b → d ≠ b) → S d → False := fun d hd hs => (g4 d hs).2 (.inr hd.1)
    have hout : ∀ (ℓn : Loc) (r' : Nat), (r' < st.mem.cur ∨ st.mem.cur + n ≤ r') → μ r' = none → ((μ.set r { ℓ with S := S0 }).set m1.cur ℓn) r' = none := fun ℓn r' hr' hμ => by
      have hne' : r' ≠ r := by rintro rfl; rw [μr] at hμ; cases hμ
      rw [aZ.eb _ _ (by omega), aZ.eb _ _ hne']; exact hμ
    have hl' : ∀ x, (m1.push x).roots.length = st.mem.roots.length := fun x => by simp only [Mem.push, List.length_set]; exact hkept.len
    by_cases hg : k < wd.len ℓ.len + ys.length
    · have hrun := lj (a := a) (E := E) (w := w) ho hc ha ht (fun ty => by
        rw [v1]
        exact qz (olds := olds) (news := news) (n := ys.length) hT' hU hi hzv (by rw [← hci]; exact g7) (lS (by rw [o1.1, hwlen, hci]) (by
          rcases o2 with o2 | ⟨b, o2, o3⟩
          · exact .inl o2
          · exact .inr ⟨b, _, ℓ.kN hodd o2 p, o3⟩)) hg (by rw [← hwlen, ← List.length_append]; exact r3) (by rw [← hwlen, ← List.length_append]; exact r2) rest)
      have hge := grownCap_ge w (wd.len ℓ.len + ys.length) k el
      obtain ⟨μ', p1, p2⟩ := tC (P := E.P) (el := el) (z := zv.cells) (cap := grownCap w (wd.len ℓ.len + ys.length) k el) g1 g2 o1 g6 (fun b hb => hS' b hb.1) (fun b hb => (g4 b hb).1) hsep hzs (by rw [List.length_append, hwlen]; exact hge) r1 c1 c2
      subst p2
      rw [List.length_append, hwlen] at p1
      refine fO (x := .c (.ref m1.cur .full)) hR hrun p1 (fun b hb => alloc_old w.drew _ (hR.mem.frz b hb).1) hz0 (hext.trans (bP.set c1)) ⟨_, aZ.ej _ _ _, ?_⟩ h (hl' _) (hout _)
      show _ = _
      simp [Loc.addr]
    · have hroom' : wd.len ℓ.len + ys.length ≤ k := by omega
      cases hb : ℓ.blk with
      | none =>
        have hq5 := q5
        rw [e3, hb] at hq5
        obtain ⟨rfl, hc0⟩ := hq5
        rw [e2] at hc0
        have hk0 : k = 0 := by omega
        have hys : ys.length = 0 := by omega
        have hwl : wd.len ℓ.len = 0 := by omega
        have : ys = [] := List.eq_nil_of_length_eq_zero hys
        subst this
        have hwn : wd.of ([] : List s'.den) = [] := by cases wd <;> simp [Win.of]
        have haddr : ℓ.addr p = none := by simp [Loc.addr, hodd, hb]
        have hrun := lj (v := .slice none 0 0) (w' := w) ho hc ha ht (fun ty => by
          rw [v1, haddr, hwl, hk0]
          refine rC (news := news) hT' hU hi ?_ rest
          rw [← hci]; exact g7)
        obtain ⟨p1, p2⟩ := fY (x := .arr s' (wd.of [] ++ []) none) (ℓ := ⟨none, 0, s'.cells, 0, 0, fun _ => False, none⟩) g1 g2 c2 c1 ⟨(fun f hf => by cases hf), by rw [hwn]; exact ⟨rfl, rfl, Nat.le_refl _, by simp [dw], rfl, rfl, rfl⟩⟩ (fun _ d hd => hd.elim)
        exact fO (x := .c (.ref m1.cur .full)) hR hrun p1 (aj.refl _ _) hz0 (hext.trans (bP.set c1)) ⟨_, aZ.ej _ _ _, rfl⟩ h (hl' _) (hout _)
      | some b =>
        rw [e3, hb] at q5
        obtain ⟨kb, kB, _⟩ := q5
        rw [e4, e2, e5] at kB
        have hsz' : ℓ.sz = s'.cells := by rw [← e5]; exact q1
        have hpk : p + k ≤ ℓ.cap := by omega
        have hmul := Nat.mul_le_mul_right ℓ.sz hpk
        rw [Nat.add_mul] at hmul
        have hBp : gU w b ((ℓ.base + p * ℓ.sz) + k * i.size) := by
          obtain ⟨vs, T', fz, x1, x2, x3⟩ := kB
          refine ⟨vs, T', fz, x1, ?_, x3⟩
          rw [← hci, ← hsz']; omega
        have hnl : news.length = ys.length * i.size := by rw [g6.1, hci]
        have hol : olds.length = wd.len ℓ.len * i.size := by rw [o1.1, hwlen, hci]
        have hmul2 := Nat.mul_le_mul_right i.size hroom'
        rw [Nat.add_mul] at hmul2
        have hrun := lj (a := a) (E := E) (w := w) ho hc ha ht (fun ty => by
          rw [v1, ℓ.kN hodd hb]
          exact wa hT' hU hi (news := news) (n := ys.length) (by rw [← hci]; exact g7) hnl hroom' hBp (g6.one b5) rest)
        have hbF : F' b := hS' b kb
        have hOth : ∀ c, c ≠ b → (w.setCells b (ℓ.base + p * ℓ.sz + wd.len ℓ.len * i.size) news).heap[c]? = w.heap[c]? := fun c hc => iX b hc _ _ _
        have hbZ : ∀ c, Z0 c → c ≠ b := fun c hc e => (g2.ok b hbF).1 (e ▸ hc)
        have hbY : ∀ c, B.Y c → c ≠ b := fun c hc e => g2.ju g1 b hbF (e ▸ hc)
        obtain ⟨d1, d2⟩ := gX (hio := kJ _ _ _ _) (w' := w.setCells b (ℓ.base + p * ℓ.sz + wd.len ℓ.len * i.size) news) g1 g2 (fun c _ hc => hOth c fun e => hc (e ▸ hbF)) (by rw [jW]; exact Nat.le_refl _)
        have hseq := (o1.append g6 hsep).same (w' := w.setCells b (ℓ.base + p * ℓ.sz + wd.len ℓ.len * i.size) news) (fun c hc => hOth c (by
          rcases hc with (hc | hc) | hc | hc
          · exact hbZ c hc
          · exact hbY c hc
          · exact hc.2 b hb
          · rintro rfl; exact (g4 _ hc).2 (.inr kb))) (fun _ h => h)
        have hcells : bd (w.setCells b (ℓ.base + p * ℓ.sz + wd.len ℓ.len * i.size) news) b (ℓ.base + p * ℓ.sz) (olds ++ news) := by
          refine bd.append ?_ (by rw [hol]; exact uT hBp (by omega))
          rcases o2 with o2 | ⟨b', o2, o3⟩
          · rw [o2]; exact bd.nil
          · rw [hb] at o2; cases o2
            exact py (by omega) o3
        have harr := hseq.arr (cap := k) hcells (jk b _ _ _ (by rw [hci]; exact hBp)) (by rw [List.length_append, hwlen]; exact hroom') (fun hS => by
          rcases hS with hS | hS
          · exact hS.2 b hb rfl
          · exact (g4 _ hS).2 (.inr kb)) r1
        obtain ⟨p1, p2⟩ := fY (x := .arr s' (wd.of xs ++ ys) none) (ℓ := ⟨some b, ℓ.base + p * ℓ.sz, s'.cells, (wd.of xs ++ ys).length, k, fun d => d = b ∨ ((ℓ'.S d ∧ ∀ b, ℓ.blk = some b → d ≠ b) ∨ S d), none⟩) d1 d2 c2 c1 ⟨(fun f hf => by cases hf), harr⟩ (fun _ d hd => by
          left
          rcases hd with rfl | hd | hd
          · exact hbF
          · exact hS' d hd.1
          · exact (g4 d hd).1)
        refine fO (x := .c (.ref m1.cur .full)) hR hrun p1 (fun c hc => hOth c (hbZ c (hz0 c hc))) hz0 (hext.trans (bP.set c1)) ⟨_, aZ.ej _ _ _, ?_⟩ h (hl' _) (hout _)
        show _ = _
        simp [Loc.addr, hwlen]
  · exact h.elim
end
end Go.Mach
namespace Go.Mach
section
variable {w : World} {Z : Nat → Prop}
def sA (P : Program) (w : World) (c : Nat) (x : Value) (n : Nat) (news : List Value) : Prop :=
  (Builtin.lenOf x).run P w = .ok n w ∧ ∀ k, k ≤ n → (Builtin.firstCells c k x).run P w = .ok (news.take (k * c)).toArray w
theorem yw {P : Program} {c : Nat} {a : Option Addr} {n cap : Nat} {news : List Value} (hl : news.length = n * c) (h : news = [] ∨ ∃ b p, a = some ⟨b, p, none⟩ ∧ bd w b p news) : sA P w c (.slice a n cap) n news := by
  refine ⟨by simp [Builtin.lenOf], fun k hk => ?_⟩
  have hkc : k * c ≤ n * c := Nat.mul_le_mul_right _ hk
  cases a with
  | none =>
    rcases h with rfl | ⟨b, p, h, _⟩
    · simp [Builtin.firstCells]
    · cases h
  | some ad =>
    refine run_firstCells_some (P := P) w c k ad n cap (news.take (k * c)) (by rw [List.length_take]; omega) fun j v hv => ?_
    rcases h with rfl | ⟨b, p, h, hcs⟩
    · simp at hv
    · cases h
      have hv' : news[j]? = some v := by
        rw [List.getElem?_take] at hv
        split at hv
        · exact hv
        · cases hv
      exact lp hcs j v hv'
theorem BM {P : Program} (s : List UInt8) : sA P w 1 (jH s) s.length ((jA s).map (Value.int .u8)) := by
  refine ⟨by simp [Builtin.lenOf, jH, mO], fun k hk => ?_⟩
  simp only [Builtin.firstCells, jH, Sem.run_pure]
  congr 1
  apply Array.ext'
  simp [jA, oJ, List.map_take]
  rfl
theorem yy {P : Program} {B : eD} {m : Mem} {μ : aZ} (hM : az B m w Z μ) {e : Ty} {x : AV} {v : Value} (hx : AR w Z μ x v) {ys : List e.den} (h : te m e x = some ys) :
    ∃ news, jO w Z B.Y (.frz e) news ys (fun _ => False) ∧ sA P w e.cells v ys.length news := by
  unfold te at h
  split at h
  · rename_i s
    split at h
    case h_2 => cases h
    rename_i he _
    subst he
    cases h
    obtain ⟨h1, _⟩ := (show v = jH s ∧ _ from hx)
    refine ⟨_, vg s, ?_⟩
    rw [h1]
    have := BM (w := w) (P := P) s
    simpa [jA, Ty.cells] using this
  · rename_i c _
    obtain ⟨h1, _⟩ := pN hM (show CR w Z μ c v from hx) h
    obtain ⟨us, g1, g2, a, cap, rfl, g4, g5⟩ := h1.seq (Y := B.Y)
    refine ⟨us, g2, yw g1 ?_⟩
    rcases g5 with rfl | ⟨b, p, g5, _, g6⟩
    · left; exact List.eq_nil_of_length_eq_zero (by simpa using g1)
    · exact .inr ⟨b, p, g5, g6⟩
  · cases h
theorem yG {P : Program} {t ty e : TypeId} {i : TypeInfo} (ht : P.underlying t = some (.slice e)) (hi : P.info? e = some i) {sLen sCap n : Nat} {x : Value} {news : List Value}
    (hx : sA P w i.size x n news) (rest : List TypeId) :
    (Builtin.copy_ (t :: rest).toArray ty #[.slice none sLen sCap, x]).run P w = .ok (.int .i64 ((min n sLen : Nat) : Int)) w := by
  have hf := hx.2 (min n sLen) (Nat.min_le_left _ _)
  simp [Builtin.copy_, run_underlying ht, sizeOf, typeInfo, hi, hx.1, hf, goInt]
theorem zn {P : Program} {t ty e : TypeId} {i : TypeInfo} (ht : P.underlying t = some (.slice e)) (hi : P.info? e = some i) {b off sLen sCap n N : Nat} {x : Value} {news : List Value}
    (hx : sA P w i.size x n news) (hl : news.length = n * i.size) (hb : gU w b N) (hN : off + min n sLen * i.size ≤ N) (h1 : ∀ v ∈ news, v.oneCell' = true) (rest : List TypeId) :
    (Builtin.copy_ (t :: rest).toArray ty #[.slice (some ⟨b, off, none⟩) sLen sCap, x]).run P w = .ok (.int .i64 ((min n sLen : Nat) : Int)) (w.setCells b off (news.take (min n sLen * i.size))) := by
  have hmin : min n sLen * i.size ≤ n * i.size := Nat.mul_le_mul_right _ (Nat.min_le_left _ _)
  have hf := hx.2 (min n sLen) (Nat.min_le_left _ _)
  have hst := lF (P := P) (o := off) (vs := news.take (min n sLen * i.size)) hb (by rw [List.length_take]; omega) (fun v hv => h1 v (List.mem_of_mem_take hv))
  simp [Builtin.copy_, run_underlying ht, sizeOf, typeInfo, hi, hx.1, hf, goInt, hst]
end
section
variable {B : eD} {E : Env} {st : St} {o : Oper} {a : Act} {w : World} {Z : Nat → Prop} {μ : aZ} {Φ : St → Prop}
theorem xc (hR : Rel B st a w Z μ) (n : Nat) {c : Call} (ho : o.op = .call c) (hc : c.callee = .builtin .copy) (h : (step E st o Res.ok).sat Φ) :
    o.wp E.P a w (Nxt B st n Z μ Φ) (fun _ _ _ => False) := by
  simp only [step, dG, ho, hc] at h
  split at h
  case h_2 => exact h.elim
  rename_i d y T rest ha ht
  split at h
  case h_2 => exact h.elim
  rename_i el hT
  split at h
  case h_2 => exact h.elim
  rename_i e hs
  split at h
  case h_2 => exact h.elim
  rename_i ys hsrc hb
  simp only [o6, Bool.and_eq_true, beq_iff_eq, Bool.not_eq_true', beq_eq_false_iff_ne, decide_eq_true_eq] at hb
  obtain ⟨b2, b3, b4, b5⟩ := hb
  unfold elemOf at hT
  split at hT
  case h_2 => cases hT
  rename_i el' hT'
  cases hT
  have hD := hR.val d
  have hY := hR.val y
  have hinfo : ∃ i, E.P.info? el = some i := by
    cases hi : E.P.info? el with
    | none => simp [Program.cellsOf, hi] at b2; exact absurd b2 b3
    | some i => exact ⟨i, rfl⟩
  obtain ⟨i, hi⟩ := hinfo
  have hci : e.cells = i.size := by
    have : (Sh.frz e).cells = e.cells := rfl
    rw [← this, b2]; simp [Program.cellsOf, hi]
  obtain ⟨news, g6, g7⟩ := yy (P := E.P) hR.mem hY hsrc
  have hrunb : ∀ {v : Value} {w' : World}, (∀ ty, (Builtin.copy_ (T :: rest).toArray ty #[a.eval d, a.eval y]).run E.P w = .ok v w') → (execOp a.eval o).run E.P w = .ok (.value v) w' := fun h => by
    refine lA ho hc fun ks => ?_
    have h1 : c.args = #[d, y] := by rw [← c.args.toArray_toList, ha]
    have h2 : c.argTypes = (T :: rest).toArray := by rw [← c.argTypes.toArray_toList, ht]
    rw [h1, h2]
    simp only [builtin]
    have := h o.type
    simp at this ⊢
    simp [this]
  generalize hqd : val st d = D at h hD
  unfold ti at h
  split at h
  case h_2 => exact h.elim
  rename_i r wd
  split at h
  case h_2 => exact h.elim
  rename_i e' xs hr
  split at h
  case h_2 => exact h.elim
  rename_i he _
  subst he
  obtain ⟨ℓ, μr, hv⟩ := hD
  obtain ⟨ℓ', h5, h6, h7⟩ := hR.mem.rt r _ hr (by simp)
  rw [μr] at h5; cases h5
  have h7' : kW w (Sh.frz e').cells xs (dw (.frz e') xs.length) (fun _ us x S => SR w Z B.Y (.frz e') us x S) ℓ := h7
  obtain ⟨q1, q2, q3, q4, q0, q5⟩ := h7
  obtain ⟨p, k, v1, v2, v3, v4, v5, v6⟩ := hv.ri (by omega)
  rw [q2] at v1 v2 v3
  have q1' : ℓ.sz = e'.cells := q1
  have hlt : r < st.mem.roots.length := (List.getElem?_eq_some_iff.1 hr).1
  have hl48 : wd.len xs.length ≤ 2 ^ 47 := by
    have := qe (e := e') (n := xs.length) q4 b3
    omega
  have hrange : cP .i64 ((min ys.length (wd.len xs.length) : Nat) : Int) = true := oV (by omega)
  cases hbk : ℓ.blk with
  | none =>
    have hq5 := q5
    rw [hbk] at hq5
    obtain ⟨rfl, hc0⟩ := hq5
    have hwl : wd.len ([] : List e'.den).length = 0 := by simp at v3 ⊢; omega
    have hrun := hrunb (v := .int .i64 ((min ys.length (wd.len ([] : List e'.den).length) : Nat) : Int)) (w' := w) (fun ty => by
      rw [v1, show ℓ.addr p = none from by simp [Loc.addr, q0, hbk]]
      exact yG hT' hi (by rw [← hci]; exact g7) rest)
    have hnil : ((List.take wd.off ([] : List e'.den)) ++ (List.take (min ys.length (wd.len ([] : List e'.den).length)) ys ++ List.drop (wd.off + min ys.length (wd.len ([] : List e'.den).length)) [])) = [] := by
      rw [hwl]; simp
    simp only at h
    rw [hnil] at h
    have hm : az B (st.mem.set r (.arr (.frz e') [] none)) w Z μ := hR.mem.change hr rfl rfl μr (fun _ _ => rfl) rfl ⟨(fun f hf => by cases hf), h7'⟩
    exact fO (x := .c (.int .i64 ((min ys.length (wd.len ([] : List e'.den).length) : Nat) : Int))) hR hrun hm (aj.refl _ _) (fun _ h => h) (bP.refl μ) ⟨rfl, hrange⟩ h (by simp [Mem.set]) (fun _ _ h => h)
  | some b =>
    rw [hbk] at q5
    obtain ⟨kb, kB, _⟩ := q5
    obtain ⟨us, u1, u2⟩ := h7'.seq hbk
    have hul : us.length = xs.length * e'.cells := u2.1
    have hnl : news.length = ys.length * e'.cells := g6.1
    let N := min ys.length (wd.len xs.length)
    have hN1 : N ≤ ys.length := Nat.min_le_left _ _
    have hN2 : N ≤ wd.len xs.length := Nat.min_le_right _ _
    have hNx : wd.off + N ≤ xs.length := by omega
    have m1 := Nat.mul_le_mul_right e'.cells hNx
    rw [Nat.add_mul] at m1
    have m2 := Nat.mul_le_mul_right e'.cells hN1
    have hcapm := Nat.mul_le_mul_right ℓ.sz q3
    rw [q1'] at kB hcapm
    have hpo : N = 0 ∨ p = wd.off := by
      rcases v6 with v6 | v6
      · exact .inr v6
      · left; omega
    have hap : ℓ.addr p = some ⟨b, ℓ.base + p * e'.cells, none⟩ := by rw [ℓ.kN q0 hbk, q1']
    have hpcap : p * e'.cells ≤ ℓ.cap * e'.cells := Nat.mul_le_mul_right _ v5
    have hrun := hrunb (v := .int .i64 ((N : Nat) : Int)) (w' := w.setCells b (ℓ.base + p * e'.cells) (news.take (N * e'.cells))) (fun ty => by
      rw [v1, hap]
      have := zn (ty := ty) hT' hi (sCap := k) (sLen := wd.len xs.length) (by rw [← hci]; exact g7) (by rw [← hci]; exact hnl) kB (off := ℓ.base + p * e'.cells) (by
        rw [← hci]
        show _ + N * e'.cells ≤ _
        rcases hpo with hpo | hpo
        · rw [hpo]; omega
        · rw [hpo]; omega) (g6.one b5) rest
      rw [← hci] at this
      exact this)
    have hZb : ¬ Z b := (hR.mem.own r _ ℓ b hr rfl μr kb).1
    have hOth : ∀ c, c ≠ b → (w.setCells b (ℓ.base + p * e'.cells) (news.take (N * e'.cells))).heap[c]? = w.heap[c]? := fun c hc => iX b hc _ _ _
    have hSame : aj Z w (w.setCells b (ℓ.base + p * e'.cells) (news.take (N * e'.cells))) := fun c hc => hOth c (fun e => hZb (e ▸ hc))
    have hnl' : (news.take (N * e'.cells)).length = N * e'.cells := by rw [List.length_take]; omega
    have hcells : bd (w.setCells b (ℓ.base + p * e'.cells) (news.take (N * e'.cells))) b ℓ.base (us.take (wd.off * e'.cells) ++ (news.take (N * e'.cells) ++ us.drop (wd.off * e'.cells + N * e'.cells))) := by
      rcases hpo with hpo | hpo
      · rw [hpo]
        simp only [Nat.zero_mul, List.take_zero, List.nil_append, Nat.add_zero, List.take_append_drop, World.setCells]
        exact u1
      · rw [hpo]
        have := nt (vs := news.take (N * e'.cells)) (o := wd.off * e'.cells) kB (by omega) (by rw [hnl']; omega) u1
        rw [hnl'] at this
        exact this
    have hF0 : ∀ {us : List Value} {xs : List e'.den} {S : Nat → Prop}, jO w Z B.Y (.frz e') us xs S → jO (w.setCells b (ℓ.base + p * e'.cells) (news.take (N * e'.cells))) Z B.Y (.frz e') us xs (fun _ => False) := by
      rintro us xs S ⟨h1, M, _, _, h4⟩
      exact ⟨h1, fun _ _ => False, fun _ _ _ h => h, fun _ _ _ _ _ _ h => h.elim, fun i hi => Frz.same hSame (fun _ h => h) (show Frz w Z e' _ _ from h4 i hi)⟩
    have s1 := hF0 (u2.part 0 wd.off (by omega))
    have s2 := hF0 (g6.part 0 N (by omega))
    have s3 := hF0 (u2.part (wd.off + N) (xs.length - (wd.off + N)) (by omega))
    have hs := (s1.append (s2.append s3 (fun _ h => h.elim)) (fun _ h => h.elim)).grow (S' := fun _ => False) (fun _ h => h.elim id fun h => h.elim id id)
    have e1 : (us.drop (0 * (Sh.frz e').cells)).take (wd.off * (Sh.frz e').cells) = us.take (wd.off * e'.cells) := by simp [Sh.cells]
    have e2 : (news.drop (0 * (Sh.frz e').cells)).take (N * (Sh.frz e').cells) = news.take (N * e'.cells) := by simp [Sh.cells]
    have e3 : (us.drop ((wd.off + N) * (Sh.frz e').cells)).take ((xs.length - (wd.off + N)) * (Sh.frz e').cells) = us.drop (wd.off * e'.cells + N * e'.cells) := by
      show (us.drop ((wd.off + N) * e'.cells)).take ((xs.length - (wd.off + N)) * e'.cells) = _
      rw [Nat.add_mul, List.take_of_length_le]
      rw [List.length_drop, hul, Nat.sub_mul, Nat.add_mul]; exact Nat.le_refl _
    have e4 : ((xs.drop (wd.off + N)).take (xs.length - (wd.off + N))) = xs.drop (wd.off + N) := by
      rw [List.take_of_length_le]; simp
    rw [e1, e2, e3, e4] at hs
    simp only [List.drop_zero] at hs
    have hlen : (xs.take wd.off ++ (ys.take N ++ xs.drop (wd.off + N))).length = xs.length := by simp; omega
    have hm : az B (st.mem.set r (.arr (.frz e') (xs.take wd.off ++ (ys.take N ++ xs.drop (wd.off + N))) none)) (w.setCells b (ℓ.base + p * e'.cells) (news.take (N * e'.cells))) Z μ := by
      refine hR.mem.change (hio := kJ _ _ _ _) hr rfl rfl μr (fun c hc => hOth c fun e => hc (e ▸ kb)) (jW _ _ _ _) ⟨(fun f hf => by cases hf), q1, by rw [hlen]; exact q2, by rw [hlen]; exact q3, by rw [hlen]; exact q4, q0, ?_⟩
      rw [hbk]
      refine ⟨kb, jk b _ _ _ (by rw [q1']; exact kB), fun _ _ => False, fun _ _ _ h => h.elim, fun _ _ _ _ _ _ h => h.elim, fun j hj => ?_⟩
      obtain ⟨t1, t2⟩ := xy hcells hs.1 hj
      obtain ⟨M, _, _, t3⟩ := hs.2
      exact ⟨_, t1, by rw [q1']; exact t2, show Frz _ Z e' _ _ from t3 j hj⟩
    exact fO (x := .c (.int .i64 ((N : Nat) : Int))) hR hrun hm hSame (fun _ h => h) (bP.refl μ) ⟨rfl, hrange⟩ h (by simp [Mem.set]) (fun _ _ h => h)
end
end Go.Mach
namespace Go.Mach
section
variable (w : World) (Z Y : Nat → Prop)
def ox (g : Bool) (us : List Value) (v : Value) : Prop :=
  match g with
  | true => v = .agg us.toArray
  | false => us = [v]
def rJ (a : VSh) (v : Value) (x : a.2.den) (S : Nat → Prop) : Prop := ∃ us, ox a.1 us v ∧ us.length = a.2.cells ∧ SR w Z Y a.2 us x S
def i7 : (l : List VSh) → List Value → iS l → (Nat → Prop) → Prop
  | [], vs, _, _ => vs = []
  | [a], vs, x, S => ∃ v, vs = [v] ∧ rJ w Z Y a v x S
  | a :: b :: r, vs, x, S => ∃ v vs' S1 S2, vs = v :: vs' ∧ (∀ d, S1 d → S d) ∧ (∀ d, S2 d → S d) ∧ (∀ d, S1 d → S2 d → False) ∧ rJ w Z Y a v x.1 S1 ∧ i7 (b :: r) vs' x.2 S2
def jl : (ps : List Par) → List Value → {a : Type} → outs a (boxes ps) → (Nat → Prop) → Prop
  | [], _, _, _, _ => True
  | .obj s :: r, vs, _, y, S => ∃ v vs' S1 S2, vs = v :: vs' ∧ (∀ d, S1 d → S d) ∧ (∀ d, S2 d → S d) ∧ (∀ d, S1 d → S2 d → False) ∧ SR w Z Y s [v] (jF (a := s.den) (boxes r) y.2) S1 ∧ jl r vs' (a := s.den) y.2 S2
  | .val _ _ :: r, vs, _, y, S => ∃ v vs', vs = v :: vs' ∧ jl r vs' y S
end
section
variable {B : eD} {w : World} {Z : Nat → Prop} {μ : aZ}
def ARs (w : World) (Z : Nat → Prop) (μ : aZ) : List AV → List Value → Prop
  | [], vs => vs = []
  | x :: xs, vs => ∃ v vs', vs = v :: vs' ∧ AR w Z μ x v ∧ ARs w Z μ xs vs'
theorem ARs.mono {w' : World} {Z' : Nat → Prop} {μ' : aZ} (h : aj Z w w') (hz : ∀ b, Z b → Z' b) (hm : bP μ μ') : ∀ {xs : List AV} {vs : List Value}, ARs w Z μ xs vs → ARs w' Z' μ' xs vs
  | [], _, hc => hc
  | x :: xs, _, hc => by
    obtain ⟨v, vs', rfl, h1, h2⟩ := hc
    exact ⟨v, vs', rfl, h1.mono h hz hm, ARs.mono h hz hm h2⟩
theorem AR.formR {x : AV} {v : Value} {g : Bool} (h : AR w Z μ x v) (hf : x.form g = true) : ∃ us, ox g us v ∧ CRs w Z μ x.cells us := by
  cases x with
  | c c =>
    cases g with
    | true => simp [AV.form] at hf
    | false => exact ⟨[v], rfl, CRs.mk1 h⟩
  | agg cs =>
    cases g with
    | false => simp [AV.form] at hf
    | true => obtain ⟨vs, h1, h2⟩ := h; exact ⟨vs, h1, h2⟩
  | tup l => simp [AV.form] at hf
theorem ox.ar {g : Bool} {us : List Value} {v : Value} {cs : List C} (h : ox g us v) (hc : CRs w Z μ cs us) : AR w Z μ (lN g cs) v := by
  cases g with
  | true => exact ⟨us, h, hc⟩
  | false =>
    have h : us = [v] := h
    subst h
    match cs, hc with
    | [], _ => trivial
    | c :: cs, hc => exact hc.2 0 (by simp) (by simp)
theorem rJ.up {Z' Y : Nat → Prop} {a : VSh} {v : Value} {x : a.2.den} {S : Nat → Prop} (hz : ∀ b, Z b → Z' b) (h : rJ w Z Y a v x S) : rJ w Z' Y a v x S := by
  obtain ⟨us, h1, h2, h3⟩ := h
  exact ⟨us, h1, h2, h3.up hz⟩
theorem mi {a : VSh} {x : AV} {v : Value} {m m' : Mem} {F : Nat → Prop} {y : a.2.den} (hM : az B m w Z μ) (hF : bX B m w Z μ F) (hx : AR w Z μ x v) (h : tO a x m = some (y, m')) :
    ∃ Z' F' S : Nat → Prop, az B m' w Z' μ ∧ bX B m' w Z' μ F' ∧ (∀ b, Z b → Z' b) ∧ (∀ b, F b → F' b) ∧ (∀ b, S b → F' b ∧ ¬ F b) ∧ Kept m m' ∧ rJ w Z' B.Y a v y S := by
  unfold tO at h
  split at h
  case h_2 => cases h
  rename_i z m1 hf hg
  simp only [Option.some.injEq, Prod.mk.injEq] at h
  obtain ⟨rfl, rfl⟩ := h
  obtain ⟨us, h1, h2⟩ := hx.formR hf
  obtain ⟨⟨Z', F', S1, us1, us2, e1, e2, e3, e4, e5, e6, e7, e8, e9⟩, ek⟩ := gj a.2 hM hF h2 hg
  have := e9.hB
  subst this
  rw [List.append_nil] at e1
  subst e1
  exact ⟨Z', F', S1, e3, e4, e5, e6, e7, ek, us, h1, e2, e8⟩
theorem mq : ∀ {l : List VSh} {xs : List AV} {vs : List Value} {m m' : Mem} {Z F : Nat → Prop} {y : iS l}, az B m w Z μ → bX B m w Z μ F → ARs w Z μ xs vs → sa l xs m = some (y, m') →
    ∃ Z' F' S : Nat → Prop, az B m' w Z' μ ∧ bX B m' w Z' μ F' ∧ (∀ b, Z b → Z' b) ∧ (∀ b, F b → F' b) ∧ (∀ b, S b → F' b ∧ ¬ F b) ∧ Kept m m' ∧ i7 w Z' B.Y l vs y S
  | [], xs, vs, m, m', Z, F, y, hM, hF, hx, h => by
    match xs, h with
    | [], h =>
      simp only [sa, Option.some.injEq, Prod.mk.injEq] at h
      obtain ⟨_, rfl⟩ := h
      exact ⟨Z, F, fun _ => False, hM, hF, fun _ h => h, fun _ h => h, fun _ h => h.elim, Kept.refl _, hx⟩
  | [a], xs, vs, m, m', Z, F, y, hM, hF, hx, h => by
    match xs, h with
    | [x], h =>
      obtain ⟨v, vs', rfl, h1, h2⟩ := hx
      have h2 : vs' = [] := h2
      subst h2
      obtain ⟨Z', F', S, e1, e2, e3, e4, e5, e6, e7⟩ := mi hM hF h1 h
      exact ⟨Z', F', S, e1, e2, e3, e4, e5, e6, v, rfl, e7⟩
  | a :: b :: r, xs, vs, m, m', Z, F, y, hM, hF, hx, h => by
    match xs, h with
    | x :: xs, h =>
      obtain ⟨v, vs', rfl, h1, h2⟩ := hx
      simp only [sa] at h
      split at h
      case h_2 => cases h
      rename_i z m1 hg
      split at h
      case h_2 => cases h
      rename_i z' m2 hgs
      simp only [Option.some.injEq, Prod.mk.injEq] at h
      obtain ⟨rfl, rfl⟩ := h
      obtain ⟨Z1, F1, S1, e1, e2, e3, e4, e5, e6, e7⟩ := mi hM hF h1 hg
      obtain ⟨Z2, F2, S2, g1, g2, g3, g4, g5, g6, g7⟩ := mq e1 e2 (h2.mono (aj.refl _ _) e3 (bP.refl μ)) hgs
      refine ⟨Z2, F2, fun d => S1 d ∨ S2 d, g1, g2, fun b hb => g3 b (e3 b hb), fun b hb => g4 b (e4 b hb), fun d hd => ?_, e6.trans g6, v, vs', S1, S2, rfl, fun _ h => .inl h, fun _ h => .inr h, fun d a b => (g5 d b).2 (e5 d a).1, e7.up g3, g7⟩
      rcases hd with hd | hd
      · exact ⟨g4 d (e5 d hd).1, (e5 d hd).2⟩
      · exact ⟨(g5 d hd).1, fun hf => (g5 d hd).2 (e4 d hf)⟩
def GotC (B : eD) (w : World) (μ : aZ) (Z1 : Nat → Prop) (l : List VSh) (vs : List Value) (g : Mem → Option (iS l)) (S : Nat → Prop) : Prop :=
  ∀ (mE : Mem) (ZE V : Nat → Prop), az B mE w ZE μ → (∀ b, Z1 b → ZE b) → (∀ b, B.Y b ∨ ZE b → V b) → (∀ r b, ew mE μ r b → V b) → ∀ x, g mE = some x → i7 w ZE V l vs x S
def Sh.lB : Sh → Bool
  | .own s => s.lB
  | .box s => s.lB
  | .clo _ s => s.lB
  | .map _ s => s.lB
  | .seq a b => a.lB && b.lB
  | .bor _ => false
  | _ => true
theorem SR.xm {Y Y' : Nat → Prop} (hy : ∀ b, Y b → Y' b) {s : Sh} {us : List Value} {x : s.den} {S : Nat → Prop} (h : SR w Z Y s us x S) : SR w Z Y' s us x S := h.same (fun _ h => h) hy (aj.refl _ _)
theorem pJ {a : VSh} {x : AV} {v : Value} {m m' : Mem} {F : Nat → Prop} {g : Mem → Option a.2.den} (hM : az B m w Z μ) (hF : bX B m w Z μ F) (hx : AR w Z μ x v) (h : vf a x m = some (g, m')) :
    ∃ Z' F' S : Nat → Prop, az B m' w Z' μ ∧ bX B m' w Z' μ F' ∧ (∀ b, Z b → Z' b) ∧ (∀ b, F b → F' b) ∧ (∀ b, S b → F' b ∧ ¬ F b) ∧ Kept m m' ∧ GotC B w μ Z' [a] [v] g S := by
  unfold vf at h
  split at h
  · rename_i gb s
    split at h
    case h_2 => cases h
    rename_i hf
    simp only [Option.some.injEq, Prod.mk.injEq] at h
    obtain ⟨rfl, rfl⟩ := h
    obtain ⟨us, h1, h2⟩ := hx.formR hf
    refine ⟨Z, F, fun _ => False, hM, hF, fun _ h => h, fun _ h => h, fun _ h => h.elim, Kept.refl _, fun mE ZE V hME hZE hV hO y hy => ?_⟩
    dsimp only at hy
    split at hy
    case h_2 => cases hy
    rename_i z hz
    simp only [Option.some.injEq] at hy
    subst hy
    obtain ⟨us1, us2, e1, e2, e3, e4⟩ := jt (st := false) hME hV (fun _ => hO) s (h2.mono (aj.refl _ _) hZE (bP.refl μ)) hz
    have := e4.hB
    subst this
    rw [List.append_nil] at e1
    subst e1
    refine ⟨v, rfl, us, h1, e2, ?_⟩
    simp only [SR]
    exact BR.same (aj.refl _ _) (fun _ h => h) (fun b hb => .inl hb) e3
  · split at h
    case h_2 => cases h
    rename_i z m1 hg
    simp only [Option.some.injEq, Prod.mk.injEq] at h
    obtain ⟨rfl, rfl⟩ := h
    obtain ⟨Z', F', S, e1, e2, e3, e4, e5, e6, us, e7, e8, e9⟩ := mi hM hF hx hg
    refine ⟨Z', F', S, e1, e2, e3, e4, e5, e6, fun mE ZE V hME hZE hV hO y hy => ?_⟩
    dsimp only at hy
    simp only [Option.some.injEq] at hy
    subst hy
    exact ⟨v, rfl, us, e7, e8, (e9.up hZE).xm fun b hb => hV b (.inl hb)⟩
theorem qq : ∀ {l : List VSh} {xs : List AV} {vs : List Value} {m m' : Mem} {Z F : Nat → Prop} {g : Mem → Option (iS l)}, az B m w Z μ → bX B m w Z μ F → ARs w Z μ xs vs → nY l xs m = some (g, m') →
    ∃ Z' F' S : Nat → Prop, az B m' w Z' μ ∧ bX B m' w Z' μ F' ∧ (∀ b, Z b → Z' b) ∧ (∀ b, F b → F' b) ∧ (∀ b, S b → F' b ∧ ¬ F b) ∧ Kept m m' ∧ GotC B w μ Z' l vs g S
  | [], xs, vs, m, m', Z, F, g, hM, hF, hx, h => by
    match xs, h with
    | [], h =>
      simp only [nY, Option.some.injEq, Prod.mk.injEq] at h
      obtain ⟨_, rfl⟩ := h
      exact ⟨Z, F, fun _ => False, hM, hF, fun _ h => h, fun _ h => h, fun _ h => h.elim, Kept.refl _, fun _ _ _ _ _ _ _ _ _ => hx⟩
  | [a], xs, vs, m, m', Z, F, g, hM, hF, hx, h => by
    match xs, h with
    | [x], h =>
      obtain ⟨v, vs', rfl, h1, h2⟩ := hx
      have h2 : vs' = [] := h2
      subst h2
      exact pJ hM hF h1 h
  | a :: b :: r, xs, vs, m, m', Z, F, g, hM, hF, hx, h => by
    match xs, h with
    | x :: xs, h =>
      obtain ⟨v, vs', rfl, h1, h2⟩ := hx
      simp only [nY] at h
      split at h
      case h_2 => cases h
      rename_i g1 m1 hg
      split at h
      case h_2 => cases h
      rename_i g2 m2 hgs
      simp only [Option.some.injEq, Prod.mk.injEq] at h
      obtain ⟨rfl, rfl⟩ := h
      obtain ⟨Z1, F1, S1, e1, e2, e3, e4, e5, e6, e7⟩ := pJ hM hF h1 hg
      obtain ⟨Z2, F2, S2, d1, d2, d3, d4, d5, d6, d7⟩ := qq e1 e2 (h2.mono (aj.refl _ _) e3 (bP.refl μ)) hgs
      refine ⟨Z2, F2, fun d => S1 d ∨ S2 d, d1, d2, fun b hb => d3 b (e3 b hb), fun b hb => d4 b (e4 b hb), fun d hd => ?_, e6.trans d6, fun mE ZE V hME hZE hV hO y hy => ?_⟩
      · rcases hd with hd | hd
        · exact ⟨d4 d (e5 d hd).1, (e5 d hd).2⟩
        · exact ⟨(d5 d hd).1, fun hf => (d5 d hd).2 (e4 d hf)⟩
      · dsimp only at hy
        split at hy
        case h_2 => cases hy
        rename_i y1 y2 hy1 hy2
        simp only [Option.some.injEq] at hy
        subst hy
        obtain ⟨v0, hv0, k1⟩ := e7 mE ZE V hME (fun b hb => hZE b (d3 b hb)) hV hO y1 hy1
        cases hv0
        exact ⟨v, vs', S1, S2, rfl, fun _ h => .inl h, fun _ h => .inr h, fun d a b => (d5 d b).2 (e5 d a).1, k1, d7 mE ZE V hME hZE hV hO y2 hy2⟩
theorem od : ∀ {l : List VSh} {vs : List Value} {x : iS l} {m : Mem} {Z F S : Nat → Prop} {μ : aZ}, az B m w Z μ → bX B m w Z μ F → iM m μ (jy l) → i7 w Z B.Y l vs x S → (∀ b, S b → F b) →
    ∃ μ', az B (mks l x m).2 w Z μ' ∧ bX B (mks l x m).2 w Z μ' (fun b => F b ∧ ¬ S b) ∧ ARs w Z μ' (mks l x m).1 vs ∧ Grow m (mks l x m).2 μ μ' (jy l)
  | [], vs, x, m, Z, F, S, μ, hM, hF, hf, h, hS => ⟨μ, hM, hF.grow fun b hb => hb.1, h, Grow.refl m μ⟩
  | [a], vs, x, m, Z, F, S, μ, hM, hF, hf, h, hS => by
    obtain ⟨v, rfl, us, h1, h2, h3⟩ := h
    obtain ⟨⟨μ', e1, e2, e3, e4⟩, _⟩ := iJ a.2 hM hF hf h3 hS
    exact ⟨μ', e1, e2, ⟨v, [], rfl, h1.ar e3, rfl⟩, e4⟩
  | a :: b :: r, vs, x, m, Z, F, S, μ, hM, hF, hf, h, hS => by
    obtain ⟨v, vs', S1, S2, rfl, h2, h3, h4, ⟨us, h5, h6, h7⟩, h8⟩ := h
    obtain ⟨⟨μ1, e1, e2, e3, e4⟩, _⟩ := iJ a.2 hM hF hf.left h7 (fun d hd => hS d (h2 d hd))
    obtain ⟨μ2, g1, g2, g3, g4⟩ := od (l := b :: r) e1 e2 (hf.right e4) h8 (fun d hd => ⟨hS d (h3 d hd), fun h => h4 d h hd⟩)
    exact ⟨μ2, g1, g2.grow fun d hd => ⟨⟨hd.1, fun h => hd.2 (h2 d h)⟩, fun h => hd.2 (h3 d h)⟩, ⟨v, vs', rfl, (h5.ar e3).mono (aj.refl _ _) (fun _ h => h) g4.ext, g3⟩, e4.trans g4⟩
theorem az.congr {m m' : Mem} (h : az B m w Z μ) (hr : m'.roots = m.roots) : az B m' w Z μ :=
  ⟨fun r x hx hd => h.rt r x (hr ▸ hx) hd, fun r s x y ℓ ℓ' hrs hx hy => h.dj r s x y ℓ ℓ' hrs (hr ▸ hx) (hr ▸ hy), fun r x ℓ b hx => h.own r x ℓ b (hr ▸ hx), h.frz, h.ou, h.size, h.nn, fun r hr' => h.far r (hr ▸ hr'), h.ju, h.io⟩
theorem ew.congr {m m' : Mem} (hr : m'.roots = m.roots) {r b : Nat} (h : ew m' μ r b) : ew m μ r b := by
  obtain ⟨x, ℓ, h1, h2⟩ := h
  exact ⟨x, ℓ, hr ▸ h1, h2⟩
theorem bX.congr {m m' : Mem} {F : Nat → Prop} (h : bX B m w Z μ F) (hr : m'.roots = m.roots) : bX B m' w Z μ F := ⟨h.ok, fun b r hb ho => h.off b r hb (ho.congr hr)⟩
theorem tD {m : Mem} {F : Nat → Prop} (hM : az B m w Z μ) (hF : bX B m w Z μ F) {q p : Nat} {x : bk} {ℓq ℓp : Loc} (hq : m.roots[q]? = some x) (ho : x.fj = true) (hμq : μ q = some ℓq) (hp : m.roots[p]? = some .dead) (hμp : μ p = some ℓp)
    (hok : fa w Z B.Y (μ.set p { ℓp with S := ℓq.S }) { ℓp with S := ℓq.S } x) :
    az B (m.move q p) w Z (μ.set p { ℓp with S := ℓq.S }) ∧ bX B (m.move q p) w Z (μ.set p { ℓp with S := ℓq.S }) F := by
  obtain ⟨t1, t2⟩ := ev hM hF hq hμq ho
  have hne : q ≠ p := by rintro rfl; rw [hq] at hp; cases hp; simp [bk.fj] at ho
  have hdead : (m.set q .dead).roots[p]? = some .dead := by simp only [Mem.set]; rw [List.getElem?_set_ne hne]; exact hp
  obtain ⟨p1, p2⟩ := iz (x := x) (ℓ := { ℓp with S := ℓq.S }) t1 t2 hdead (bP.mJ hμp) hok (fun _ b hb => .inr hb)
  have hr : (m.move q p).roots = ((m.set q .dead).set p x).roots := by simp [Mem.move, Mem.set, hq]
  refine ⟨p1.congr hr, (p2.grow fun b hb => ⟨.inl hb, fun _ hs => hF.off b q hb ⟨x, ℓq, hq, ho, hμq, hs⟩⟩).congr hr⟩
def nf (μ : aZ) (s : Sh) (x : AV) : Prop :=
  match s, x with
  | .own s, .c (.ref p .full) => ∃ ℓ, μ p = some ℓ ∧ ℓ.sz = s.cells ∧ ℓ.odd = none
  | _, _ => True
theorem nf.ext {μ μ' : aZ} (he : bP μ μ') {s : Sh} {x : AV} (h : nf μ s x) : nf μ' s x := by
  unfold nf at h ⊢
  split
  · rename_i s p
    obtain ⟨ℓ, h1, h2, h3⟩ := h
    obtain ⟨S', h4⟩ := he p ℓ h1
    exact ⟨_, h4, h2, h3⟩
  · trivial
theorem kW.place {c : Nat} {α : Type} {xs : List α} {lok : Bool} {R : Nat → List Value → α → (Nat → Prop) → Prop} {ℓq ℓp : Loc} (h : kW w c xs lok R ℓq) (hsz : ℓp.sz = c) (hod : ℓp.odd = none)
    (hv : Value.slice (ℓq.addr 0) ℓq.len ℓq.cap = .slice (ℓp.addr 0) ℓp.len ℓp.cap) : kW w c xs lok R { ℓp with S := ℓq.S } := by
  obtain ⟨h1, h2, h3, h4, h0, h5⟩ := h
  simp only [Value.slice.injEq] at hv
  obtain ⟨v1, v2, v3⟩ := hv
  refine ⟨hsz, by rw [← v2]; exact h2, by rw [← v3]; exact h3, h4, hod, ?_⟩
  cases hb : ℓq.blk with
  | none =>
    rw [hb] at h5
    have : ℓp.blk = none := by
      cases hbp : ℓp.blk with
      | none => rfl
      | some b => simp [Loc.addr, h0, hod, hb, hbp] at v1
    simp only [this]
    exact ⟨h5.1, by rw [← v3]; exact h5.2⟩
  | some b =>
    rw [hb] at h5
    have : ℓp.blk = some b ∧ ℓp.base = ℓq.base := by
      cases hbp : ℓp.blk with
      | none => simp [Loc.addr, h0, hod, hb, hbp] at v1
      | some b' =>
        simp [Loc.addr, h0, hod, hb, hbp] at v1
        exact ⟨by rw [v1.1], v1.2.symm⟩
    simp only [this.1, this.2, hsz, ← v3]
    rw [h1] at h5
    exact h5
theorem uv {s : Sh} {v : AV} {u : Value} {x : s.den} {m m' : Mem} {F S : Nat → Prop} (hs : s.jw = true) (hw : v.whole = true) (hM : az B m w Z μ) (hF : bX B m w Z μ F) (hf : iM m μ s.news) (hv : AR w Z μ v u) (hpl : nf μ s v)
    (hx : SR w Z B.Y s [u] x S) (hS : ∀ b, S b → F b) (h : rk s v x m = some m') :
    ∃ μ', az B m' w Z μ' ∧ bX B m' w Z μ' (fun b => F b ∧ ¬ S b) ∧ bP μ μ' ∧ m'.roots.length = m.roots.length ∧ m'.cur = m.cur + s.news ∧
      (∀ r, (r < m.cur ∨ m.cur + s.news ≤ r) → (μ r = none → μ' r = none) ∧ (m.roots[r]? = some .dead → μ r = none → m'.roots[r]? = some .dead)) := by
  obtain ⟨⟨μ1, e1, e2, e3, e4⟩, _⟩ := iJ s hM hF hf hx hS
  unfold rk at h
  generalize hmk : s.mk x m = k at h e1 e2 e3 e4
  obtain ⟨cs, m1⟩ := k
  simp only at h e1 e2 e3 e4
  split at h
  case h_2 => cases h
  rename_i c y
  have hcv : AR w Z μ1 (.c y) u := hv.mono (aj.refl _ _) (fun _ h => h) e4.ext
  have hpl' := hpl.ext e4.ext
  have hcc : CR w Z μ1 c u := by
    obtain ⟨v', hv', g⟩ := e3.one
    cases hv'; exact g
  split at h
  · rename_i q p hq hp
    unfold Mem.Ad at h
    split at h
    case h_2 => cases h
    rename_i hdead
    cases h
    have hfin : ∀ (xr : bk) (ℓq ℓp : Loc), m1.roots[q]? = some xr → xr.fj = true → μ1 q = some ℓq → μ1 p = some ℓp → fa w Z B.Y (μ1.set p { ℓp with S := ℓq.S }) { ℓp with S := ℓq.S } xr →
        ∃ μ', az B (m1.move q p) w Z μ' ∧ bX B (m1.move q p) w Z μ' (fun b => F b ∧ ¬ S b) ∧ bP μ μ' ∧ (m1.move q p).roots.length = m.roots.length ∧ (m1.move q p).cur = m.cur + s.news ∧
          (∀ r, (r < m.cur ∨ m.cur + s.news ≤ r) → (μ r = none → μ' r = none) ∧ (m.roots[r]? = some .dead → μ r = none → (m1.move q p).roots[r]? = some .dead)) := by
      intro xr ℓq ℓp a1 a2 a3 a4 a5
      obtain ⟨b1, b2⟩ := tD e1 e2 a1 a2 a3 hdead a4 a5
      refine ⟨_, b1, b2, e4.ext.trans (bP.mJ a4), by simp only [Mem.move, List.length_set]; exact e4.len, e4.cur, fun r hr => ?_⟩
      obtain ⟨o1, o2⟩ := e4.old r hr
      refine ⟨fun hn => ?_, fun hd hn => ?_⟩
      · have hne : r ≠ p := by rintro rfl; rw [o1, hn] at a4; cases a4
        rw [aZ.eb _ _ hne, o1]; exact hn
      · have hne : p ≠ r := by rintro rfl; rw [o1, hn] at a4; cases a4
        have hne' : q ≠ r := by rintro rfl; rw [o1, hn] at a3; cases a3
        simp only [Mem.move]
        rw [List.getElem?_set_ne hne, List.getElem?_set_ne hne', o2]; exact hd
    cases s with
    | own s =>
      simp only [Sh.mk, Prod.mk.injEq, List.cons.injEq, and_true] at hmk
      obtain ⟨rfl, rfl⟩ := hmk
      simp only [C.kc, Option.some.injEq] at hq
      subst hq
      obtain ⟨ℓq, μq, sq⟩ := hcc
      have hcq : m.cur < m.roots.length := (List.getElem?_eq_some_iff.1 (hf 0 (by simp [Sh.news])).2).1
      have hroot : (m.push (.arr s x none)).roots[m.cur]? = some (.arr s x none) := by simp [Mem.push, hcq]
      obtain ⟨ℓ', k1, k2, k3⟩ := e1.rt _ _ hroot (by simp)
      rw [μq] at k1; cases k1
      cases y with
      | ref p' wd =>
        cases wd with
        | sub _ _ => simp [AV.whole] at hw
        | full =>
          simp only [C.kc, Option.some.injEq] at hp
          subst hp
          obtain ⟨ℓp, μp, sp⟩ := (show ∃ ℓ, μ1 p' = some ℓ ∧ SlR ℓ .full u from hcv)
          obtain ⟨ℓ2, μ2, z1, z2⟩ := hpl'
          rw [μp] at μ2; cases μ2
          have he : Value.slice (ℓq.addr 0) ℓq.len ℓq.cap = .slice (ℓp.addr 0) ℓp.len ℓp.cap := by
            rw [← (show u = _ from sq), ← (show u = _ from sp)]
          exact hfin _ ℓq ℓp hroot rfl μq μp ⟨(fun f hf => by cases hf), (k3.place z1 z2 he).mono (aj.refl _ _) fun i us x S _ _ hR => hR⟩
      | ptr p' off =>
        exfalso
        obtain ⟨_, _, _, _, h1⟩ := (show l7 μ1 p' off u from hcv)
        rw [show u = _ from sq] at h1; cases h1
      | _ => simp [C.kc] at hp
    | box s =>
      simp only [Sh.mk, Prod.mk.injEq, List.cons.injEq, and_true] at hmk
      obtain ⟨rfl, rfl⟩ := hmk
      simp only [C.kc, Option.some.injEq] at hq
      subst hq
      obtain ⟨ℓq, bq, μq, hbq, huq⟩ := hcc
      have hcq : (s.mk x m).2.cur < (s.mk x m).2.roots.length := by
        have h1 := e4.len
        have h2 := e4.cur
        simp only [Mem.push, List.length_set, Sh.news] at h1 h2
        have h3 := (hf s.news (by simp [Sh.news])).2
        have h4 := (List.getElem?_eq_some_iff.1 h3).1
        omega
      have hroot : ((s.mk x m).2.push (.box (s.mk x m).1)).roots[(s.mk x m).2.cur]? = some (.box (s.mk x m).1) := by simp [Mem.push, hcq]
      obtain ⟨ℓ', k1, b', k2, k3, k4, us, k5, k6⟩ := e1.rt _ _ hroot (by simp)
      rw [μq] at k1; cases k1
      rw [hbq] at k2; cases k2
      cases y with
      | ptr p' off =>
        cases off with
        | succ _ => simp [AV.whole] at hw
        | zero =>
          simp only [C.kc, Option.some.injEq] at hp
          subst hp
          obtain ⟨ℓp, bp, μp, hbp, hup⟩ := (show l7 μ1 p' 0 u from hcv)
          rw [huq] at hup
          simp only [Value.pointer.injEq, Option.some.injEq, Addr.mk.injEq, Nat.add_zero, and_true] at hup
          obtain ⟨rfl, hbase⟩ := hup
          exact hfin _ ℓq ℓp hroot rfl μq μp ⟨bq, hbp, k3, by rw [← hbase]; exact k4, us, by rw [← hbase]; exact k5, k6.mono (aj.refl _ _) (fun _ h => h) (bP.mJ μp)⟩
      | ref p' wd =>
        exfalso
        obtain ⟨ℓp, _, h1⟩ := (show ∃ ℓ, μ1 p' = some ℓ ∧ SlR ℓ wd u from hcv)
        rw [huq] at h1
        cases wd with
        | full => cases (show _ = _ from h1)
        | sub _ _ => obtain ⟨_, _, h2, _⟩ := h1; cases h2
      | _ => simp [C.kc] at hp
    | sb pq =>
      simp only [Sh.mk, Prod.mk.injEq, List.cons.injEq, and_true] at hmk
      obtain ⟨rfl, rfl⟩ := hmk
      simp only [C.kc, Option.some.injEq] at hq
      subst hq
      obtain ⟨ℓq, bq, μq, hbq, huq⟩ := hcc
      have hcq : m.cur < m.roots.length := (List.getElem?_eq_some_iff.1 (hf 0 (by simp [Sh.news])).2).1
      have hroot : (m.push (.sb pq x)).roots[m.cur]? = some (.sb pq x) := by simp [Mem.push, hcq]
      obtain ⟨ℓ', k1, b', k2, k3, k4⟩ := e1.rt _ _ hroot (by simp)
      rw [μq] at k1; cases k1
      rw [hbq] at k2; cases k2
      cases y with
      | ptr p' off =>
        cases off with
        | succ _ => simp [AV.whole] at hw
        | zero =>
          simp only [C.kc, Option.some.injEq] at hp
          subst hp
          obtain ⟨ℓp, bp, μp, hbp, hup⟩ := (show l7 μ1 p' 0 u from hcv)
          rw [huq] at hup
          simp only [Value.pointer.injEq, Option.some.injEq, Addr.mk.injEq, Nat.add_zero, and_true] at hup
          obtain ⟨rfl, hbase⟩ := hup
          exact hfin _ ℓq ℓp hroot rfl μq μp ⟨bq, hbp, by rw [← hbase]; exact k3, k4⟩
      | ref p' wd =>
        exfalso
        obtain ⟨ℓp, _, h1⟩ := (show ∃ ℓ, μ1 p' = some ℓ ∧ SlR ℓ wd u from hcv)
        rw [huq] at h1
        cases wd with
        | full => cases (show _ = _ from h1)
        | sub _ _ => obtain ⟨_, _, h2, _⟩ := h1; cases h2
      | _ => simp [C.kc] at hp
    | _ => simp [Sh.jw] at hs
  · cases h
    exact ⟨μ1, e1, e2, e4.ext, e4.len, e4.cur, fun r hr => ⟨fun hn => by rw [(e4.old r hr).1]; exact hn, fun hd _ => by rw [(e4.old r hr).2]; exact hd⟩⟩
end
end Go.Mach
namespace Go.Mach
def wP (rs : List VSh) (v : Value) (gz : List Value) : Prop :=
  match rs with
  | [_] => gz = [v]
  | _ => v = .tuple gz.toArray
structure iK (P : Program) (G : nX) (sp : Spec) : Prop where
  fn : ∃ fn, P.funcs[sp.f]? = some fn ∧ fn.body.isSome = true ∧ (fn.name == "runtime.NumGoroutine") = false
  obj : (boxes sp.ps).all Sh.jw = true
  run : ∀ (w : World) (Z Y S : Nat → Prop) (args : List Value) (x : iS (sp.ps.map Par.v)) (Ψ : outs (iS sp.rs) (boxes sp.ps) → Prop), (sp.run x).sat Ψ → G.At w Z →
    (∀ b, Z b → b < w.heap.size) → (∀ b, Y b → b < w.heap.size ∧ ¬ S b) → (∀ b, S b → b < w.heap.size ∧ ¬ Z b) → i7 w Z Y (sp.ps.map Par.v) args x S →
    Calls P sp.f args.toArray w fun e w' => ∃ y v gz, ∃ Z' S1 S2 : Nat → Prop, e = .returned v ∧ Ψ y ∧ wP sp.rs v gz ∧
      i7 w' Z' (fun _ => False) sp.rs gz (jF (boxes sp.ps) y) S1 ∧ jl w' Z' (fun _ => False) sp.ps args y S2 ∧ (∀ d, S1 d → S2 d → False) ∧
      (∀ b, S1 b ∨ S2 b → b < w'.heap.size ∧ ¬ Z' b ∧ (S b ∨ w.heap.size ≤ b)) ∧ (∀ b, Z b → Z' b) ∧ (∀ b, Z' b → b < w'.heap.size ∧ (Z b ∨ S b ∨ w.heap.size ≤ b)) ∧
      w.heap.size ≤ w'.heap.size ∧ (∀ b, b < w.heap.size → ¬ S b → w'.heap[b]? = w.heap[b]?) ∧ Io w w'
section
variable {B : eD} {w : World} {Z : Nat → Prop} {μ : aZ}
def kp (μ : aZ) : List VSh → List AV → Prop
  | [], _ => True
  | p :: ps, x :: xs => nf μ p.2 x ∧ kp μ ps xs
  | _ :: _, [] => True
theorem kp.ext {μ μ' : aZ} (he : bP μ μ') : ∀ {ps : List VSh} {xs : List AV}, kp μ ps xs → kp μ' ps xs
  | [], _, _ => trivial
  | _ :: _, [], _ => trivial
  | _ :: _, _ :: _, h => ⟨h.1.ext he, kp.ext he h.2⟩
theorem s6 {a : VSh} {x : AV} {m m' : Mem} {g : Mem → Option a.2.den} (hM : az B m w Z μ) (h : vf a x m = some (g, m')) : nf μ a.2 x := by
  obtain ⟨b, s⟩ := a
  unfold nf
  split
  · rename_i s p hs
    simp only at hs
    subst hs
    simp only [vf, tO] at h
    split at h
    case h_2 => cases h
    rename_i z m1 hg
    split at hg
    case h_2 => cases hg
    rename_i y m2 _ hg'
    simp only [AV.cells, Sh.get] at hg'
    split at hg'
    case h_2 => cases hg'
    rename_i s' xs foc hr
    split at hg'
    case h_2 => cases hg'
    rename_i _ he _ _
    subst he
    obtain ⟨ℓ, h1, h2, h3⟩ := hM.rt p _ hr (by simp)
    exact ⟨ℓ, h1, h3.1, h3.2.2.2.2.1⟩
  · trivial
theorem qy : ∀ {l : List VSh} {xs : List AV} {vs : List Value} {m m' : Mem} {Z F : Nat → Prop} {g : Mem → Option (iS l)}, az B m w Z μ → bX B m w Z μ F → ARs w Z μ xs vs → nY l xs m = some (g, m') → kp μ l xs
  | [], _, _, _, _, _, _, _, _, _, _, _ => trivial
  | [p], xs, vs, m, m', Z, F, g, hM, hF, hx, h => by
    match xs, h with
    | [x], h => exact ⟨s6 hM h, trivial⟩
  | p :: q :: r, xs, vs, m, m', Z, F, g, hM, hF, hx, h => by
    match xs, h with
    | x :: xs, h =>
      obtain ⟨v, vs', rfl, h1, h2⟩ := hx
      simp only [nY] at h
      split at h
      case h_2 => cases h
      rename_i g1 m1 hg
      split at h
      case h_2 => cases h
      rename_i g2 m2 hgs
      obtain ⟨Z1, F1, S1, e1, e2, e3, e4, e5, e6, e7⟩ := pJ hM hF h1 hg
      exact ⟨s6 hM hg, qy (l := q :: r) e1 e2 (h2.mono (aj.refl _ _) e3 (bP.refl μ)) hgs⟩
theorem oL : ∀ {ps : List Par} {xs : List AV} {us : List Value} {α : Type} {y : outs α (boxes ps)} {m m' : Mem} {F S : Nat → Prop} {μ : aZ}, ((boxes ps).all Sh.jw) = true → qQ ps xs = true → az B m w Z μ → bX B m w Z μ F →
    iM m μ (ql (boxes ps)) → ARs w Z μ xs us → kp μ (ps.map Par.v) xs → jl w Z B.Y ps us y S → (∀ b, S b → F b) → nU ps xs y m = some m' →
    ∃ μ', az B m' w Z μ' ∧ bP μ μ' ∧ m'.roots.length = m.roots.length ∧ (∀ r, (r < m.cur ∨ m.cur + ql (boxes ps) ≤ r) → μ r = none → μ' r = none)
  | [], xs, us, α, y, m, m', F, S, μ, ho, hw, hM, hF, hf, hx, hp, hy, hS, h => by
    simp only [nU, Option.some.injEq] at h
    subst h
    exact ⟨μ, hM, bP.refl μ, rfl, fun _ _ h => h⟩
  | .val g s :: r, xs, us, α, y, m, m', F, S, μ, ho, hw, hM, hF, hf, hx, hp, hy, hS, h => by
    match xs, h with
    | x :: xs, h =>
      obtain ⟨v, vs', rfl, h1, h2⟩ := hx
      obtain ⟨v', vs'', hv, hy⟩ := hy
      cases hv
      exact oL (ps := r) ho hw hM hF hf h2 hp.2 hy hS h
  | .obj s :: r, xs, us, α, y, m, m', F, S, μ, ho, hw, hM, hF, hf, hx, hp, hy, hS, h => by
    match xs, h with
    | x :: xs, h =>
      obtain ⟨v, vs', rfl, h1, h2⟩ := hx
      obtain ⟨v', vs'', S1, S2, hv, s1, s2, s3, hsr, hy⟩ := hy
      cases hv
      simp only [boxes, List.all_cons, Bool.and_eq_true] at ho
      simp only [qQ, Bool.and_eq_true] at hw
      simp only [nU] at h
      split at h
      case h_2 => cases h
      rename_i m1 hb
      obtain ⟨μ1, e1, e2, e3, e4, e5, e6⟩ := uv ho.1 hw.1 hM hF (iM.left hf) h1 hp.1 hsr (fun b hb => hS b (s1 b hb)) hb
      have hf1 : iM m1 μ1 (ql (boxes r)) := fun k hk => by
        obtain ⟨a1, a2⟩ := hf (s.news + k) (by simp only [boxes, ql]; omega)
        rw [← Nat.add_assoc] at a1 a2
        rw [e5]
        obtain ⟨b1, b2⟩ := e6 (m.cur + s.news + k) (by omega)
        exact ⟨b1 a1, b2 a2 a1⟩
      have hp1 : kp μ1 (r.map Par.v) xs := kp.ext e3 hp.2
      obtain ⟨μ2, g1, g2, g3, g4⟩ := oL (ps := r) ho.2 hw.2 e1 e2 hf1 (h2.mono (aj.refl _ _) (fun _ h => h) e3) hp1 hy (fun b hb => ⟨hS b (s2 b hb), fun h => s3 b h hb⟩) h
      refine ⟨μ2, g1, e3.trans g2, g3.trans e4, fun r' hr' hn => ?_⟩
      simp only [boxes, ql] at hr'
      exact g4 r' (by rw [e5]; omega) ((e6 r' (by omega)).1 hn)
theorem rJ.ok {Y : Nat → Prop} {a : VSh} {v : Value} {x : a.2.den} {S : Nat → Prop} (h : rJ w Z Y a v x S) : a.2.ok x = true := by
  obtain ⟨us, _, _, h3⟩ := h
  exact h3.ok
theorem i7.ok {Y : Nat → Prop} : ∀ {l : List VSh} {vs : List Value} {x : iS l} {S : Nat → Prop}, i7 w Z Y l vs x S → oks l x = true
  | [], _, _, _, _ => rfl
  | [a], _, _, _, h => by obtain ⟨v, _, h⟩ := h; exact h.ok
  | a :: b :: r, _, _, _, h => by
    obtain ⟨v, vs', S1, S2, _, _, _, _, h1, h2⟩ := h
    simp only [oks, h1.ok, i7.ok h2, Bool.and_self]
theorem jl.ok {Y : Nat → Prop} : ∀ {ps : List Par} {vs : List Value} {α : Type} {y : outs α (boxes ps)} {S : Nat → Prop} {f : α → Bool}, jl w Z Y ps vs y S → f (jF (boxes ps) y) = true → nF f (boxes ps) y = true
  | [], _, _, _, _, _, _, hf => hf
  | .val _ _ :: r, _, _, _, _, _, h, hf => by
    obtain ⟨_, _, _, h⟩ := h
    exact jl.ok (ps := r) h hf
  | .obj s :: r, _, _, _, _, f, h, hf => by
    obtain ⟨v, vs', S1, S2, _, _, _, _, h1, h2⟩ := h
    simp only [boxes, nF, Bool.and_eq_true]
    refine ⟨hf, jl.ok (ps := r) h2 ?_⟩
    exact h1.ok
theorem i7.nz {Y Y' : Nat → Prop} (hy : ∀ b, Y b → Y' b) : ∀ {l : List VSh} {vs : List Value} {x : iS l} {S : Nat → Prop}, i7 w Z Y l vs x S → i7 w Z Y' l vs x S
  | [], _, _, _, h => h
  | [a], _, _, _, h => by
    obtain ⟨v, h0, us, h1, h2, h3⟩ := h
    exact ⟨v, h0, us, h1, h2, h3.xm hy⟩
  | a :: b :: r, _, _, _, h => by
    obtain ⟨v, vs', S1, S2, h0, h1, h2, h3, ⟨us, h4, h5, h6⟩, h7⟩ := h
    exact ⟨v, vs', S1, S2, h0, h1, h2, h3, ⟨us, h4, h5, h6.xm hy⟩, h7.nz hy⟩
theorem jl.nz {Y Y' : Nat → Prop} (hy : ∀ b, Y b → Y' b) : ∀ {ps : List Par} {vs : List Value} {α : Type} {y : outs α (boxes ps)} {S : Nat → Prop}, jl w Z Y ps vs y S → jl w Z Y' ps vs y S
  | [], _, _, _, _, _ => trivial
  | .val _ _ :: r, _, _, _, _, h => by
    obtain ⟨v, vs', h0, h⟩ := h
    exact ⟨v, vs', h0, jl.nz (ps := r) hy h⟩
  | .obj s :: r, _, _, _, _, h => by
    obtain ⟨v, vs', S1, S2, h0, h1, h2, h3, h4, h5⟩ := h
    exact ⟨v, vs', S1, S2, h0, h1, h2, h3, h4.xm hy, jl.nz (ps := r) hy h5⟩
theorem qu {sps : List Spec} {sp : Spec} (h : sp ∈ sps) : sp.news ≤ oG sps (some sp.f) ∧ sp.news ≤ oG sps none := by
  unfold oG
  have h1 : ∀ (l : List Spec) (n : Nat), n ≤ l.foldl (fun n sq => match sq.f == sp.f with | true => max n sq.news | false => n) n := by
    intro l
    induction l with
    | nil => exact fun n => Nat.le_refl n
    | cons s l ih =>
      intro n
      refine Nat.le_trans ?_ (ih _)
      dsimp only
      cases s.f == sp.f
      · exact Nat.le_refl n
      · exact Nat.le_max_left _ _
  have h2 : ∀ (l : List Spec) (n : Nat), n ≤ l.foldl (fun n sq => max n sq.news) n := by
    intro l
    induction l with
    | nil => exact fun n => Nat.le_refl n
    | cons s l ih => exact fun n => Nat.le_trans (Nat.le_max_left _ _) (ih _)
  have h3 : ∀ (l : List Spec) (n : Nat), sp ∈ l → sp.news ≤ l.foldl (fun n sq => match sq.f == sp.f with | true => max n sq.news | false => n) n := by
    intro l
    induction l with
    | nil => intro _ h; cases h
    | cons s l ih =>
      intro n hm
      rcases List.mem_cons.1 hm with rfl | hm
      · refine Nat.le_trans ?_ (h1 l _)
        simp only [beq_self_eq_true]
        exact Nat.le_max_right _ _
      · exact ih _ hm
  have h4 : ∀ (l : List Spec) (n : Nat), sp ∈ l → sp.news ≤ l.foldl (fun n sq => max n sq.news) n := by
    intro l
    induction l with
    | nil => intro _ h; cases h
    | cons s l ih =>
      intro n hm
      rcases List.mem_cons.1 hm with rfl | hm
      · exact Nat.le_trans (Nat.le_max_right _ _) (h2 l _)
      · exact ih _ hm
  exact ⟨h3 sps 0 h, h4 sps 0 h⟩
theorem j8 {α β : Type} {m : Res α} {k : α → Res β} {Φ : β → Prop} (h : (m.bind k).sat Φ) : m.sat fun a => (k a).sat Φ := Res.qd h
theorem sI {β : Type} {K : AV → Mem → Res β} {Φ : β → Prop} {f : FuncId} {args : List AV} {m : Mem} : ∀ {sps : List Spec}, (nQ sps f args m K).sat Φ →
    ∃ sp ∈ sps, sp.f = f ∧ qQ sp.ps args = true ∧ ∃ g m1 x, nY (sp.ps.map Par.v) args m = some (g, m1) ∧ g m1 = some x ∧ (sp.run x).sat fun y =>
      nF (oks sp.rs) (boxes sp.ps) y = true → (match nU sp.ps args y (mks sp.rs (jF (boxes sp.ps) y) m1).2 with | some m3 => K (avs sp.rs (mks sp.rs (jF (boxes sp.ps) y) m1).1) m3 | none => Res.stuck).sat Φ
  | [], h => h.elim
  | sp :: r, h => by
    simp only [nQ] at h
    have hrec : (nQ r f args m K).sat Φ → _ := fun h => sI h
    split at h
    · rename_i hb
      simp only [Bool.and_eq_true, beq_iff_eq] at hb
      split at h
      · rename_i g m1 hg
        split at h
        · rename_i x hx
          refine ⟨sp, List.mem_cons_self, hb.1, hb.2, g, m1, x, hg, hx, ?_⟩
          have h := j8 h
          refine Res.sW (fun y hy hok => ?_) h
          split at hy
          · exact hy
          · exact oa hy hok
        · obtain ⟨sp', h1, h2⟩ := hrec h
          exact ⟨sp', List.mem_cons_of_mem _ h1, h2⟩
      · obtain ⟨sp', h1, h2⟩ := hrec h
        exact ⟨sp', List.mem_cons_of_mem _ h1, h2⟩
    · obtain ⟨sp', h1, h2⟩ := hrec h
      exact ⟨sp', List.mem_cons_of_mem _ h1, h2⟩
theorem ARs.ret {rs : List VSh} {v : Value} {gz : List Value} {Y : Nat → Prop} {x : iS rs} {S : Nat → Prop} (hr : wP rs v gz) (hv : i7 w Z Y rs gz x S) {xs : List AV} (h : ARs w Z μ xs gz) (hf : ∀ (k : Nat) (h1 : k < rs.length) (h2 : k < xs.length), xs[k] = lN rs[k].1 xs[k].cells) (hl : xs.length = rs.length) : AR w Z μ (avs rs xs) v := by
  have hnth : ∀ {xs : List AV} {gz : List Value}, ARs w Z μ xs gz → gz.length = xs.length ∧ ∀ k (h1 : k < xs.length) (h2 : k < gz.length), AR w Z μ xs[k] gz[k] := by
    intro xs
    induction xs with
    | nil => intro gz h; have h : gz = [] := h; subst h; exact ⟨rfl, fun k h => by simp at h⟩
    | cons x xs ih =>
      rintro _ ⟨v, vs', rfl, h1, h2⟩
      obtain ⟨a, b⟩ := ih h2
      refine ⟨by simp [a], fun k k1 k2 => ?_⟩
      cases k with
      | zero => exact h1
      | succ k => exact b k (by simpa using k1) (by simpa using k2)
  obtain ⟨n1, n2⟩ := hnth h
  by_cases h1 : ∃ a, rs = [a]
  · obtain ⟨a, rfl⟩ := h1
    match xs, hl with
    | [x], _ =>
      have hr : gz = [v] := hr
      subst hr
      exact n2 0 (by simp) (by simp)
  · have hr' : v = .tuple gz.toArray := by
      match rs, hr, h1 with
      | [], hr, _ => exact hr
      | [a], _, h1 => exact absurd ⟨a, rfl⟩ h1
      | _ :: _ :: _, hr, _ => exact hr
    have ha : avs rs xs = .tup ((rs.zip xs).map fun p => (p.1.1, p.2.cells)) := by
      match rs, xs, h1 with
      | [], _, _ => rfl
      | [a], _, h1 => exact absurd ⟨a, rfl⟩ h1
      | _ :: _ :: _, _, _ => rfl
    rw [ha]
    refine ⟨gz, hr', by simp [n1, hl], fun k k1 k2 => ?_⟩
    have k3 : k < xs.length := by simp at k1; omega
    have k4 : k < rs.length := by omega
    have g := n2 k k3 k2
    rw [hf k k4 k3] at g
    simp only [List.getElem_map, List.getElem_zip]
    cases hb : rs[k].1 with
    | true =>
      rw [hb] at g
      obtain ⟨us, g1, g2⟩ := g
      exact ⟨us, g1, g2⟩
    | false =>
      rw [hb] at g
      simp only
      cases hc : xs[k].cells with
      | nil => trivial
      | cons c cs => rw [hc] at g; exact g
theorem sH : ∀ {l : List VSh} {x : iS l} {m : Mem}, (mks l x m).1.length = l.length ∧ ∀ (k : Nat) (h1 : k < l.length) (h2 : k < (mks l x m).1.length), ∃ cs, (mks l x m).1[k] = lN l[k].1 cs
  | [], _, _ => ⟨rfl, fun k h => by simp at h⟩
  | [a], x, m => ⟨rfl, fun k h1 h2 => by
    have : k = 0 := by simpa using h1
    subst this
    exact ⟨_, rfl⟩⟩
  | a :: b :: r, x, m => by
    obtain ⟨h1, h2⟩ := sH (l := b :: r) (x := x.2) (m := (a.2.mk x.1 m).2)
    refine ⟨by simp only [mks, List.length_cons] at h1 ⊢; omega, fun k k1 k2 => ?_⟩
    cases k with
    | zero => exact ⟨_, rfl⟩
    | succ k => exact h2 k (by simpa using k1) (by simpa [mks] using k2)
theorem we {g : Bool} {cs : List C} {x : AV} (h : x = lN g cs) : x = lN g x.cells := by
  subst h
  cases g with
  | true => rfl
  | false => cases cs <;> rfl
theorem Res.vA {α : Type} {m : Res α} {Φ Ψ : α → Prop} (hi : ∀ a, Φ a → Ψ a) (hs : m.sat Φ) : m.sat Ψ := Res.sW hi hs
end
section
variable {B : eD} {E : Env} {st : St} {o : Oper} {a : Act} {w : World} {Z : Nat → Prop} {μ : aZ} {Φ : St → Prop}
theorem ARs.gz (hR : Rel B st a w Z μ) : ∀ (l : List Operand), ARs w Z μ (l.map (val st)) (l.map a.eval)
  | [] => rfl
  | x :: l => ⟨_, _, rfl, hR.val x, ARs.gz hR l⟩
theorem ARs.append : ∀ {xs ys : List AV} {us vs : List Value}, ARs w Z μ xs us → ARs w Z μ ys vs → ARs w Z μ (xs ++ ys) (us ++ vs)
  | [], _, us, _, h, h' => by have h : us = [] := h; subst h; exact h'
  | x :: xs, ys, _, _, ⟨v, us', h0, h1, h2⟩, h' => by subst h0; exact ⟨v, us' ++ _, rfl, h1, ARs.append h2 h'⟩
theorem ARs.dt : ∀ {dt : List Cap} {vs : List Value}, vs.length = dt.length → (∀ k (h : k < dt.length) (h' : k < vs.length), vS w Z μ dt[k] vs[k]) → ARs w Z μ (dt.map fun p => .c p.cell) vs
  | [], vs, h, _ => List.eq_nil_of_length_eq_zero h
  | p :: ps, v :: vs, h, hc => ⟨v, vs, rfl, by
      have := hc 0 (by simp) (by simp)
      simp only [List.getElem_cons_zero] at this
      cases p with
      | root r => exact this
      | frz e x => exact this, ARs.dt (by simpa using h) fun k h1 h2 => by
      have := hc (k + 1) (by simpa using h1) (by simpa using h2)
      simpa using this⟩
theorem xL (hR : Rel B st a w Z μ) (hE : ∀ sp ∈ E.specs, iK E.P B.g sp) {n : Nat} (hF : jJ st n μ) (hn : cF E o ≤ n) {c : Call} (ho : o.op = .call c) {f : Operand} (hc : c.callee = .value f) (hi : po E o = none) (h : (step E st o Res.ok).sat Φ) :
    o.wp E.P a w (Nxt B st n Z μ Φ) (fun _ _ _ => False) := by
  simp only [step, dG, ho, hc, hi] at h
  have hf := hR.val f
  generalize hqf : val st f = fv at h hf
  split at h
  case h_2 => exact h.elim
  rename_i fid dt
  obtain ⟨vs, hfv, hl, hcaps⟩ := hf
  obtain ⟨sp, hsp, hspf, hobj, g, m1, x, hg, hx, hrun⟩ := sI h
  subst hspf
  have hargs : ARs w Z μ (c.args.toList.map (val st) ++ dt.map fun p => .c p.cell) (c.args.toList.map a.eval ++ vs) := (ARs.gz hR _).append (ARs.dt hl hcaps)
  generalize hA : (c.args.toList.map (val st) ++ dt.map fun p => AV.c p.cell) = A at *
  generalize hU : (c.args.toList.map a.eval ++ vs) = U at *
  obtain ⟨Z1, F1, S, e1, e2, e3, e4, e5, e6, e7⟩ := qq hR.mem (bX.none B st.mem w Z μ) hargs hg
  have hplace := qy hR.mem (bX.none B st.mem w Z μ) hargs hg
  let V : Nat → Prop := fun b => (B.Y b ∨ Z1 b) ∨ ∃ r, ew m1 μ r b
  have hvals := e7 m1 Z1 V e1 (fun _ h => h) (fun _ h => .inl h) (fun r b h => .inr ⟨r, h⟩) x hx
  have hct := hE sp hsp
  obtain ⟨fn, hfn, hbody, hname⟩ := hct.fn
  have hSF : ∀ b, S b → F1 b := fun b hb => (e5 b hb).1
  have hVS : ∀ b, V b → b < w.heap.size ∧ ¬ S b := by
    rintro b ((hb | hb) | ⟨r, hb⟩)
    · exact ⟨Nat.lt_of_lt_of_le (e1.ju b hb).1 e1.size, fun hs => e2.ju e1 b (hSF b hs) hb⟩
    · exact ⟨(e1.frz b hb).1, fun hs => (e2.ok b (hSF b hs)).1 hb⟩
    · exact ⟨by obtain ⟨y, ℓ, h1, h2, h3, h4⟩ := hb; exact (e1.own r y ℓ b h1 h2 h3 h4).2.1, fun hs => e2.off b r (hSF b hs) hb⟩
  have hcall := hct.run w Z1 V S U x _ hrun e1.ui (fun b hb => (e1.frz b hb).1) hVS (fun b hb => ⟨(e2.ok b (hSF b hb)).2.1, (e2.ok b (hSF b hb)).1⟩) hvals
  have hexec : (execOp a.eval o).run E.P w = .ok (.enter sp.f U.toArray) w := by
    have hU' : U.toArray = c.args.map a.eval ++ vs.toArray := by
      rw [← hU]
      apply Array.ext'
      simp
    simp only [execOp, ho, resolve, hc, hfv, Deferred.ofValue, Sem.run_bind, Sem.run_pure, Result.andThen_ok, invoke]
    have hb : fn.body.isNone = false := by cases hfb : fn.body with
      | none => rw [hfb] at hbody; cases hbody
      | some _ => rfl
    simp only [callFunc]
    have hprog : (program : Sem Program).run E.P w = .ok E.P w := rfl
    simp only [Sem.run_bind, hprog, Result.andThen_ok, hfn, hname, hb, Bool.false_eq_true, if_false, Sem.run_pure]
    rw [hU']
    simp
  refine oN hexec (Calls.mono hcall ?_)
  rintro e w' ⟨y, v, gz, Z', S1, S2, rfl, hk, hret, hv1, hv2, hdj, hSS, hzz, hZ', hsz, hkeep, hio⟩
  refine ⟨v, rfl, ?_⟩
  obtain ⟨d1, d2⟩ := gX (w' := w') e1 e2 (fun b hb hf => hkeep b hb fun hs => hf (hSF b hs)) hsz hio
  have hG : ∀ b, (Z' b ∧ ¬ Z1 b) → (F1 b ∨ (w.heap.size ≤ b ∧ b < w'.heap.size)) := fun b ⟨hb, hn⟩ => by
    obtain ⟨h1, h2⟩ := hZ' b hb
    rcases h2 with h2 | h2 | h2
    · exact absurd h2 hn
    · exact .inl (hSF b h2)
    · exact .inr ⟨h2, h1⟩
  obtain ⟨f1, f2⟩ := uw d1 d2 (G := fun b => Z' b ∧ ¬ Z1 b) hG
  have hZeq : (fun b => Z1 b ∨ (Z' b ∧ ¬ Z1 b)) = Z' := by
    funext b
    refine propext ⟨fun h => h.elim (hzz b) fun h => h.1, fun h => ?_⟩
    by_cases h1 : Z1 b
    · exact .inl h1
    · exact .inr ⟨h, h1⟩
  rw [hZeq] at f1 f2
  have hloose : ∀ b, S1 b ∨ S2 b → (F1 b ∨ (w.heap.size ≤ b ∧ b < w'.heap.size)) ∧ ¬ (Z' b ∧ ¬ Z1 b) := fun b hb => by
    obtain ⟨h1, h2, h3⟩ := hSS b hb
    refine ⟨?_, fun h => h2 h.1⟩
    rcases h3 with h3 | h3
    · exact .inl (hSF b h3)
    · exact .inr ⟨h3, h1⟩
  have hnews : sp.news ≤ n := by
    refine Nat.le_trans ?_ hn
    obtain ⟨n1, n2⟩ := qu hsp
    simp only [cF, ho, hc]
    cases f with
    | func g =>
      simp only [val] at hqf
      cases hqf
      have hg : (E.inls.find? fun i => i.f == sp.f) = none := by
        unfold po at hi
        simp only [ho, hc] at hi
        split at hi
        · cases hi
        · assumption
      simp only [hg]
      exact n1
    | _ => exact n2
  have hfree : iM m1 μ sp.news := fun k hk => by
    obtain ⟨a1, a2⟩ := hF k (by omega)
    rw [e6.cur]
    exact ⟨a1, e6.dead _ a2⟩
  obtain ⟨μ1, g1, g2, g3, g4⟩ := od f1 f2 hfree.left (hv1.nz fun _ h => h.elim) (fun b hb => hloose b (.inl hb))
  have hok : nF (oks sp.rs) (boxes sp.ps) y = true := hv2.ok hv1.ok
  have hk := hk hok
  split at hk
  case h_2 => exact hk.elim
  rename_i m3 hb3
  have hp1 : kp μ1 (sp.ps.map Par.v) A := hplace.ext g4.ext
  have hZZ : ∀ b, Z b → Z' b := fun b hb => hzz b (e3 b hb)
  have hsame : aj Z w w' := fun b hb => hkeep b (hR.mem.frz b hb).1 fun hs => (e2.ok b (hSF b hs)).1 (e3 b hb)
  obtain ⟨μ2, k1, k2, k3, k4⟩ := oL hct.obj hobj g1 g2 (iM.right hfree g4) (hargs.mono hsame hZZ g4.ext) hp1 (hv2.nz fun _ h => h.elim) (fun b hb => ⟨hloose b (.inr hb), fun h => hdj b h hb⟩) hb3
  obtain ⟨l1, l2⟩ := sH (l := sp.rs) (x := jF (boxes sp.ps) y) (m := m1)
  have hav : AR w' Z' μ1 (avs sp.rs (mks sp.rs (jF (boxes sp.ps) y) m1).1) v := ARs.ret hret hv1 g3 (fun k h1 h2 => by
    obtain ⟨cs, hcs⟩ := l2 k h1 h2
    exact we hcs) l1
  refine ⟨_, Z', μ2, hR.put k1 hsame hZZ (g4.ext.trans k2) o.dst (hav.mono (aj.refl _ _) (fun _ h => h) k2), hk, ?_, ?_, fun r hr hn => ?_, hZZ, g4.ext.trans k2⟩
  · have : m3.roots.length = st.mem.roots.length := by rw [k3, g4.len, e6.len]
    cases o.dst <;> exact this
  · cases o.dst <;> rfl
  · have h1 := e6.cur
    have h2 := g4.cur
    simp only [Spec.news] at hnews
    refine k4 r (by omega) ?_
    rw [(g4.old r (by omega)).1]; exact hn
end
end Go.Mach
namespace Go.Mach
structure xv (P : Program) (G : nX) (j : Inl) : Prop where
  fn : ∃ fn, P.funcs[j.f]? = some fn ∧ fn.body.isSome = true ∧ (fn.name == "runtime.NumGoroutine") = false
  run : ∀ (B : eD) (β : Type) (Ψ : β → Prop) (xs : List AV) (args : List Value) (m : Mem) (w : World) (Z : Nat → Prop) (μ : aZ) (K : AV → Mem → Res β), B.g = G → az B m w Z μ → ARs w Z μ xs args → (j.run β xs m K).sat Ψ →
    Calls P j.f args.toArray w fun e w' => ∃ vr v m', ∃ Z' : Nat → Prop, ∃ μ', e = .returned vr ∧ (K v m').sat Ψ ∧ az B m' w' Z' μ' ∧ AR w' Z' μ' v vr ∧ aj Z w w' ∧ (∀ b, Z b → Z' b) ∧ bP μ μ' ∧ m.roots.length ≤ m'.roots.length ∧
      (∀ r, r < m.roots.length → m'.dR.testBit r = false → m'.roots[r]? = m.roots[r]?) ∧ (∀ r, m.dR.testBit r = true → m'.dR.testBit r = true)
structure lv (E : Env) (G : nX) : Prop where
  specs : ∀ sp ∈ E.specs, iK E.P G sp
  inls : ∀ j ∈ E.inls, xv E.P G j
theorem lv.mT {E : Env} {G : nX} (h : ∀ sp ∈ E.specs, iK E.P G sp) (hi : E.inls = []) : lv E G := ⟨h, fun j hj => by rw [hi] at hj; cases hj⟩
theorem mn {E : Env} {o : Oper} {j : Inl} {xs : List Operand} (h : po E o = some (j, xs)) : ∃ c, o.op = .call c ∧ c.callee = .value (.func j.f) ∧ xs = c.args.toList ∧ j ∈ E.inls ∧ E.inls.find? (fun i => i.f == j.f) = some j := by
  unfold po at h
  split at h
  case h_2 => cases h
  rename_i c ho
  split at h
  case h_2 => cases h
  rename_i f hc
  split at h
  case h_2 => cases h
  rename_i i hi
  simp only [Option.some.injEq, Prod.mk.injEq] at h
  obtain ⟨rfl, rfl⟩ := h
  have := List.find?_some hi
  simp only [beq_iff_eq] at this
  subst this
  exact ⟨c, ho, hc, rfl, List.mem_of_find?_eq_some hi, hi⟩
theorem oO : ∀ {l : List Nat} {r : Nat}, r ∈ l → l[kz l r]? = some r
  | x :: l, r, h => by
    unfold kz
    by_cases hx : x = r
    · subst hx; simp
    · have : (x == r) = false := by simpa using hx
      rw [this]
      simp only [List.getElem?_cons_succ]
      exact oO (by simpa [Ne.symm hx] using h)
theorem uS : ∀ {l : List Nat} {i r : Nat}, oR l = true → l[i]? = some r → kz l r = i
  | x :: l, 0, r, _, h => by
    simp only [List.getElem?_cons_zero, Option.some.injEq] at h
    subst h
    simp [kz]
  | x :: l, i + 1, r, hn, h => by
    simp only [List.getElem?_cons_succ] at h
    simp only [oR, Bool.and_eq_true, Bool.not_eq_true', List.contains_eq_mem, decide_eq_false_iff_not] at hn
    have hx : (x == r) = false := by
      simp only [beq_eq_false_iff_ne]
      rintro rfl
      exact hn.1 (List.mem_of_getElem? h)
    unfold kz
    rw [hx]
    simp only
    rw [uS hn.2 h]
def C.rts : C → List Nat
  | .ref r _ => [r]
  | .ptr r _ => [r]
  | .kO r _ _ => [r]
  | .mp r => [r]
  | .fn _ dt => dt.filterMap fun p => match p with | .root r => some r | _ => none
  | _ => []
theorem kC : ∀ cs : List C, gB cs = cs.flatMap C.rts
  | [] => rfl
  | c :: cs => by
    have ih := kC cs
    cases c <;> simp [gB, C.rts, ih] <;> rfl
section
variable {w : World} {Z Y : Nat → Prop} {μ μ2 : aZ} {f : Nat → Nat}
theorem l7.ren {r off : Nat} {v : Value} (h : l7 μ r off v) (hf : μ r ≠ none → μ2 (f r) = μ r) : l7 μ2 (f r) off v := by
  obtain ⟨ℓ, b, h1, h2⟩ := h
  exact ⟨ℓ, b, by rw [hf (by rw [h1]; simp)]; exact h1, h2⟩
theorem CR.ren {c : C} {v : Value} (h : CR w Z μ c v) (hc : c.calm = true) (hf : ∀ q ∈ c.rts, μ q ≠ none → μ2 (f q) = μ q) : CR w Z μ2 (c.ren f) v := by
  cases c with
  | ref r wd =>
    obtain ⟨ℓ, h1, h2⟩ := h
    exact ⟨ℓ, by rw [hf r (by simp [C.rts]) (by rw [h1]; simp)]; exact h1, h2⟩
  | ptr r off => exact l7.ren h (hf r (by simp [C.rts]))
  | kO r i off =>
    obtain ⟨ℓ, b, h1, h2⟩ := h
    exact ⟨ℓ, b, by rw [hf r (by simp [C.rts]) (by rw [h1]; simp)]; exact h1, h2⟩
  | stp q => cases hc
  | mp r => cases hc
  | fn g dt =>
    obtain ⟨vs, h1, h2, h3⟩ := h
    refine ⟨vs, h1, by rw [h2, List.length_map], fun k hk hk' => ?_⟩
    have hk2 : k < dt.length := by simpa using hk
    have b := h3 k hk2 hk'
    rw [List.getElem_map]
    cases hq : dt[k] with
    | root r =>
      rw [hq] at b
      exact l7.ren b (hf r (by simp only [C.rts, List.mem_filterMap]; exact ⟨.root r, hq ▸ List.getElem_mem hk2, rfl⟩))
    | frz e x => rw [hq] at b; exact b
  | _ => exact h
theorem CRs.ren {cs : List C} {vs : List Value} (h : CRs w Z μ cs vs) (hc : cs.all C.calm = true) (hf : ∀ q ∈ gB cs, μ q ≠ none → μ2 (f q) = μ q) : CRs w Z μ2 (cs.map (C.ren f)) vs := by
  refine ⟨by rw [List.length_map]; exact h.1, fun k hk hk' => ?_⟩
  have hk2 : k < cs.length := by simpa using hk
  rw [List.getElem_map]
  refine (h.2 k hk2 hk').ren (List.all_eq_true.1 hc _ (List.getElem_mem hk2)) fun q hq => hf q ?_
  rw [kC, List.mem_flatMap]
  exact ⟨_, List.getElem_mem hk2, hq⟩
def AV.rts : AV → List Nat
  | .c x => x.rts
  | .agg cs => gB cs
  | .tup l => l.flatMap fun p => gB p.2
theorem AR.ren {x : AV} {v : Value} (h : AR w Z μ x v) (hc : x.calm = true) (hf : ∀ q ∈ x.rts, μ q ≠ none → μ2 (f q) = μ q) : AR w Z μ2 (x.ren f) v := by
  cases x with
  | c x => exact CR.ren h hc hf
  | agg cs =>
    obtain ⟨vs, h1, h2⟩ := h
    exact ⟨vs, h1, h2.ren hc hf⟩
  | tup l =>
    obtain ⟨vs, h1, h2, h3⟩ := h
    refine ⟨vs, h1, by rw [h2, List.length_map], fun k hk hk' => ?_⟩
    have hk2 : k < l.length := by simpa using hk
    have b := h3 k hk2 hk'
    have hcl : (l[k]).2.all C.calm = true := List.all_eq_true.1 hc _ (List.getElem_mem hk2)
    have hfl : ∀ q ∈ gB (l[k]).2, μ q ≠ none → μ2 (f q) = μ q := fun q hq => hf q (by
      simp only [AV.rts, List.mem_flatMap]
      exact ⟨_, List.getElem_mem hk2, hq⟩)
    rw [List.getElem_map]
    rcases hl : l[k] with ⟨ag, cs⟩
    rw [hl] at b hcl hfl
    cases ag with
    | true =>
      obtain ⟨us, b1, b2⟩ := b
      exact ⟨us, b1, b2.ren hcl hfl⟩
    | false =>
      match cs, b, hcl, hfl with
      | c :: _, b, hcl, hfl =>
        exact CR.ren b (by simp only [List.all_cons, Bool.and_eq_true] at hcl; exact hcl.1) fun q hq => hfl q (by rw [kC, List.flatMap_cons]; exact List.mem_append_left _ hq)
      | [], _, _, _ => trivial
theorem ARs.ren {f : Nat → Nat} : ∀ {xs : List AV} {vs : List Value}, ARs w Z μ xs vs → (xs.all fun x => x.calm && !x.Aa) = true → (∀ q ∈ gB (xs.flatMap AV.cells), μ q ≠ none → μ2 (f q) = μ q) → ARs w Z μ2 (xs.map (AV.ren f)) vs
  | [], _, h, _, _ => h
  | x :: xs, _, ⟨v, vs, h0, h1, h2⟩, hc, hf => by
    subst h0
    simp only [List.all_cons, Bool.and_eq_true] at hc
    rw [List.flatMap_cons, kC, List.flatMap_append] at hf
    refine ⟨v, vs, rfl, h1.ren hc.1.1 fun q hq => hf q (List.mem_append_left _ ?_), ARs.ren h2 hc.2 fun q hq => hf q (List.mem_append_right _ (by rw [← kC]; exact hq))⟩
    cases x with
    | c x =>
      have hq : q ∈ x.rts := hq
      simpa [AV.cells] using hq
    | agg cs => rw [← kC]; exact hq
    | tup l => simp [AV.Aa] at hc
theorem fa.ren {ℓ : Loc} {x : bk} (h : fa w Z Y μ ℓ x) (hc : x.calm = true) (hf : ∀ q ∈ gB x.open, μ q ≠ none → μ2 (f q) = μ q) : fa w Z Y μ2 ℓ (x.ren f) := by
  cases x with
  | dead => trivial
  | frz e xs => exact h
  | bor s xs => exact h
  | sb p xs => exact h
  | mj cs =>
    obtain ⟨b, h1, h2, us, h3, h4⟩ := h
    exact ⟨b, h1, h2, us, h3, h4.ren hc hf⟩
  | box cs =>
    obtain ⟨b, h1, h2, h3, us, h4, h5⟩ := h
    exact ⟨b, h1, h2, by rw [List.length_map]; exact h3, us, h4, h5.ren hc hf⟩
  | arr s xs foc =>
    cases foc with
    | none => exact ⟨(fun _ e => by cases e), h.2.mono (aj.refl _ _) fun i us x S _ _ hR => hR⟩
    | some k =>
      refine ⟨(fun g e => by cases e; exact h.1 k rfl), h.2.mono (aj.refl _ _) fun i us x S _ _ hR => ?_⟩
      simp only [ElR] at hR ⊢
      by_cases hi : k.i = i
      · rw [if_pos hi] at hR ⊢
        exact CRs.ren hR hc hf
      · rw [if_neg hi] at hR ⊢; exact hR
  | iR _ _ _ _ => cases hc
  | pT _ _ _ _ _ _ => cases hc
  | itr _ _ _ _ _ _ => cases hc
theorem bk.AO (f : Nat → Nat) (x : bk) : (x.ren f).fj = x.fj := by
  cases x <;> try rfl
  case arr s xs foc => cases foc <;> rfl
theorem bk.zV (f : Nat → Nat) {x : bk} (h : x.ren f ≠ .dead) : x ≠ .dead := by rintro rfl; exact h rfl
theorem az.ren {B : eD} {m m2 : Mem} (h : az B m w Z μ) (hr : ∀ r2 x2, m2.roots[r2]? = some x2 → x2 ≠ .dead → ∃ r x, m.roots[r]? = some x ∧ x2 = x.ren f ∧ f r = r2 ∧ μ2 r2 = μ r ∧ x.calm = true ∧ (∀ q ∈ gB x.open, μ q ≠ none → μ2 (f q) = μ q))
    (hfar : ∀ r, m2.roots.length ≤ r → μ2 r = none) : az B m2 w Z μ2 := by
  have hr' : ∀ r2 x2, m2.roots[r2]? = some x2 → x2.fj = true → ∃ r x, m.roots[r]? = some x ∧ x.fj = true ∧ f r = r2 ∧ μ2 r2 = μ r := fun r2 x2 hx ho => by
    obtain ⟨r, x, h1, h2, h3, h4, _⟩ := hr r2 x2 hx (by rintro rfl; cases ho)
    exact ⟨r, x, h1, by rw [h2, bk.AO] at ho; exact ho, h3, h4⟩
  refine ⟨fun r2 x2 hx hd => ?_, fun r2 s2 x2 y2 ℓ ℓ' hne hx hy hox hoy hl hl' => ?_, fun r2 x2 ℓ b hx ho hl => ?_, h.frz, h.ou, h.size, h.nn, hfar, h.ju, h.io⟩
  · obtain ⟨r, x, h1, rfl, h3, h4, h5, h6⟩ := hr r2 x2 hx hd
    obtain ⟨ℓ, g1, g2⟩ := h.rt r x h1 (bk.zV f hd)
    exact ⟨ℓ, h4.trans g1, g2.ren h5 h6⟩
  · obtain ⟨r, x, h1, h2, h3, h4⟩ := hr' r2 x2 hx hox
    obtain ⟨s, y, k1, k2, k3, k4⟩ := hr' s2 y2 hy hoy
    exact h.dj r s x y ℓ ℓ' (by rintro rfl; exact hne (h3.symm.trans k3)) h1 k1 h2 k2 (h4.symm.trans hl) (k4.symm.trans hl')
  · obtain ⟨r, x, h1, h2, h3, h4⟩ := hr' r2 x2 hx ho
    exact h.own r x ℓ b h1 h2 (h4.symm.trans hl)
theorem C.mb {f g : Nat → Nat} {c : C} (h : ∀ q ∈ c.rts, g (f q) = q) (hc : c.calm = true) : (c.ren f).ren g = c := by
  cases c with
  | ref r wd => simp only [C.ren]; rw [h r (by simp [C.rts])]
  | ptr r off => simp only [C.ren]; rw [h r (by simp [C.rts])]
  | kO r i off => simp only [C.ren]; rw [h r (by simp [C.rts])]
  | stp q => cases hc
  | mp r => cases hc
  | fn k dt =>
    simp only [C.ren, List.map_map]
    congr 1
    conv => rhs; rw [← List.map_id dt]
    refine List.map_congr_left fun p hp => ?_
    cases p with
    | root r => simp only [Function.comp, Cap.ren]; rw [h r (by simp only [C.rts, List.mem_filterMap]; exact ⟨_, hp, rfl⟩)]; rfl
    | frz e x => rfl
  | _ => rfl
theorem Cs.mb {f g : Nat → Nat} {cs : List C} (h : ∀ q ∈ gB cs, g (f q) = q) (hc : cs.all C.calm = true) : (cs.map (C.ren f)).map (C.ren g) = cs := by
  rw [List.map_map]
  conv => rhs; rw [← List.map_id cs]
  refine List.map_congr_left fun c hm => ?_
  exact C.mb (fun q hq => h q (by rw [kC, List.mem_flatMap]; exact ⟨c, hm, hq⟩)) (List.all_eq_true.1 hc c hm)
theorem bk.mb {f g : Nat → Nat} {x : bk} (h : ∀ q ∈ gB x.open, g (f q) = q) (hc : x.calm = true) : (x.ren f).ren g = x := by
  cases x with
  | box cs =>
    have h' : (cs.map (C.ren f)).map (C.ren g) = cs := Cs.mb h hc
    simp only [bk.ren, h']
  | mj cs =>
    have h' : (cs.map (C.ren f)).map (C.ren g) = cs := Cs.mb h hc
    simp only [bk.ren, h']
  | arr s xs foc =>
    cases foc with
    | none => rfl
    | some k =>
      have h' : (k.cells.map (C.ren f)).map (C.ren g) = k.cells := Cs.mb h hc
      simp only [bk.ren, h']
  | _ => rfl
end
end Go.Mach
namespace Go.Mach
section
variable {B : eD} {E : Env} {st : St} {o : Oper} {a : Act} {w : World} {Z : Nat → Prop} {μ : aZ} {Φ : St → Prop}
theorem vL {M m : Mem} {l : List Nat} {r : Nat} {x : bk} (hx : M.roots[r]? = some x) : (M.lift l m).roots[r]? = some (match l.contains r with
    | true => match m.dR.testBit (kz l r) with
      | true => (m.root (kz l r)).ren (ka l M.cur)
      | false => x
    | false => match Nat.ble M.cur r && Nat.blt (r - M.cur + l.length) m.roots.length with
      | true => (m.root (r - M.cur + l.length)).ren (ka l M.cur)
      | false => x) := by
  simp only [Mem.lift, List.getElem?_map, List.getElem?_zipIdx, hx, Option.map_some, Nat.zero_add]
  rfl
theorem oC (M m : Mem) (l : List Nat) : (M.lift l m).roots.length = M.roots.length := by simp [Mem.lift]
theorem yK (hR : Rel B st a w Z μ) {j : Inl} (hok : xv E.P B.g j) {n : Nat} (hF : jJ st n μ) (hn : j.news ≤ n) {cl : Call} (ho : o.op = .call cl) (hcal : cl.callee = .value (.func j.f))
    (h : (vj j (cl.args.toList.map (val st)) st.mem fun v m => Res.ok (st.with o.dst v m)).sat Φ) :
    o.wp E.P a w (Nxt B st n Z μ Φ) (fun _ _ _ => False) := by
  unfold vj at h
  split at h
  case h_2 => exact h.elim
  rename_i l _
  split at h
  case h_2 => exact h.elim
  rename_i hin
  simp only [inlIn, Bool.and_eq_true] at hin
  obtain ⟨hnd, hxs, hroots, hlt, hrx, hnx⟩ := hin
  have hlt : ∀ r ∈ l, r < st.mem.roots.length := fun r hr => by
    have := List.all_eq_true.1 hlt r hr
    simpa [Nat.blt_eq] using this
  have hmem : ∀ {r : Nat}, l.contains r = true ↔ r ∈ l := by intro r; simp
  have hrx : ∀ q ∈ gB ((cl.args.toList.map (val st)).flatMap AV.cells), q ∈ l := fun q hq => hmem.1 (List.all_eq_true.1 hrx q hq)
  have hz : ∀ r x, st.mem.roots[r]? = some x → (match l.contains r with | true => x.calm && !x.s9 | false => x.s9) = true := fun r x hx =>
    List.all_eq_true.1 hroots (x, r) (by rw [List.mem_zipIdx_iff_getElem?]; exact hx)
  have hin : ∀ r ∈ l, ∃ x, st.mem.roots[r]? = some x ∧ x.calm = true ∧ x ≠ .dead := fun r hr => by
    have hx := List.getElem?_eq_getElem (hlt r hr)
    have := hz r _ hx
    rw [hmem.2 hr] at this
    simp only [Bool.and_eq_true, Bool.not_eq_true'] at this
    exact ⟨_, hx, this.1, by intro hd; rw [hd] at this; cases this.2⟩
  have hout : ∀ r x, r ∉ l → st.mem.roots[r]? = some x → x = .dead := fun r x hr hx => by
    have := hz r x hx
    have hc : l.contains r = false := by simpa using hr
    rw [hc] at this
    cases x <;> simp [bk.s9] at this <;> rfl
  have hcl : ∀ r ∈ l, ∀ x, st.mem.roots[r]? = some x → ∀ q ∈ gB x.open, q ∈ l := fun r hr x hx q hq => hmem.1 (List.all_eq_true.1 hnx q (by
    simp only [Mem.next, List.mem_flatMap]
    exact ⟨r, hr, by rw [hx]; exact hq⟩))
  generalize hM : st.mem = M at *
  let μc : aZ := fun i => match l[i]? with
    | some r => μ r
    | none => none
  have hμc : ∀ i r, l[i]? = some r → μc i = μ r := fun i r hi => by show (match l[i]? with | some r => μ r | none => none) = _; rw [hi]
  have hσ : ∀ q ∈ l, μc (kz l q) = μ q := fun q hq => hμc _ _ (oO hq)
  have hmM : az B M w Z μ := hM ▸ hR.mem
  have hMc : az B ⟨l.map fun r => (M.root r).ren (kz l), 0, l.length⟩ w Z μc := by
    refine az.ren (f := kz l) hmM (fun i x2 hx2 hd => ?_) fun i hi => ?_
    · have hx2 : (l.map fun r => (M.root r).ren (kz l))[i]? = some x2 := hx2
      rw [List.getElem?_map] at hx2
      cases hli : l[i]? with
      | none => rw [hli] at hx2; cases hx2
      | some r =>
        rw [hli] at hx2
        simp only [Option.map_some, Option.some.injEq] at hx2
        have hr := List.mem_of_getElem? hli
        obtain ⟨x, h1, h2, h3⟩ := hin r hr
        have hroot : M.root r = x := by simp [Mem.root, h1]
        rw [hroot] at hx2
        exact ⟨r, x, h1, hx2.symm, uS hnd hli, hμc i r hli, h2, fun q hq _ => hσ q (hcl r hr x h1 q hq)⟩
    · have hi : (l.map fun r => (M.root r).ren (kz l)).length ≤ i := hi
      rw [List.length_map] at hi
      show (match l[i]? with | some r => μ r | none => none) = none
      rw [List.getElem?_eq_none hi]
  have hargs : ARs w Z μc ((cl.args.toList.map (val st)).map (AV.ren (kz l))) (cl.args.toList.map a.eval) :=
    ARs.ren (ARs.gz hR _) hxs fun q hq _ => hσ q (hrx q hq)
  obtain ⟨fn, hfn, hbody, hname⟩ := hok.fn
  have hexec : (execOp a.eval o).run E.P w = .ok (.enter j.f (cl.args.toList.map a.eval).toArray) w := by
    have hfv : a.eval (.func j.f) = .func (.func j.f) #[] #[] := rfl
    simp only [execOp, ho, resolve, hcal, hfv, Deferred.ofValue, Sem.run_bind, Sem.run_pure, Result.andThen_ok, invoke]
    have hb : fn.body.isNone = false := by cases hfb : fn.body with
      | none => rw [hfb] at hbody; cases hbody
      | some _ => rfl
    simp only [callFunc]
    have hprog : (program : Sem Program).run E.P w = .ok E.P w := rfl
    simp only [Sem.run_bind, hprog, Result.andThen_ok, hfn, hname, hb, Bool.false_eq_true, if_false, Sem.run_pure]
    have : (cl.args.toList.map a.eval).toArray = cl.args.map a.eval := by
      apply Array.ext'
      simp
    rw [this]
    simp
  refine oN hexec (Calls.mono (hok.run B St Φ _ _ _ w Z μc _ rfl hMc hargs h) ?_)
  rintro e w' ⟨vr, v, m', Z', μ', rfl, hk, hm', hv, hsame, hzz, hext, hlen, hkeep, _⟩
  refine ⟨vr, rfl, ?_⟩
  split at hk
  case h_2 => exact hk.elim
  rename_i hio
  simp only [wz, Bool.and_eq_true, Nat.ble_eq] at hio
  obtain ⟨hvc, hl1, hl2, hl3, hrc⟩ := hio
  have hlen : l.length ≤ m'.roots.length := hl1
  have hkeep : ∀ i, i < l.length → m'.dR.testBit i = false → m'.roots[i]? = (l.map fun r => (M.root r).ren (kz l))[i]? := fun i hi hb => hkeep i (by show i < (l.map _).length; rw [List.length_map]; exact hi) hb
  have hfar : ∀ i, m'.roots.length ≤ i → μ' i = none := hm'.far
  have hcalm : ∀ (i : Nat) (x : bk), m'.roots[i]? = some x → x.calm = true := fun i x hx => List.all_eq_true.1 hrc x (List.mem_of_getElem? hx)
  have hcur : ∀ k, k < n → μ (M.cur + k) = none ∧ M.roots[M.cur + k]? = some .dead := fun k hk => by have := hF k hk; rw [hM] at this; exact this
  have hslot : ∀ r, M.cur ≤ r → r < M.cur + n → r ∉ l := fun r h1 h2 hr => by
    obtain ⟨x, g1, _, g3⟩ := hin r hr
    have := (hcur (r - M.cur) (by omega)).2
    rw [show M.cur + (r - M.cur) = r from by omega, g1] at this
    cases this
    exact g3 rfl
  let μ2 : aZ := fun r => if r ∈ l then μ' (kz l r) else if M.cur ≤ r ∧ r < M.cur + (m'.roots.length - l.length) then μ' (r - M.cur + l.length) else μ r
  have hk2 : m'.roots.length - l.length ≤ n := by omega
  have hμl : ∀ i r, l[i]? = some r → μ2 r = μ' i := fun i r hi => by
    show (if r ∈ l then _ else _) = _
    rw [if_pos (List.mem_of_getElem? hi), uS hnd hi]
  have hμn : ∀ i, l.length ≤ i → i < m'.roots.length → μ2 (M.cur + (i - l.length)) = μ' i := fun i h1 h2 => by
    show (if M.cur + (i - l.length) ∈ l then _ else _) = _
    rw [if_neg (hslot _ (by omega) (by omega)), if_pos (by omega)]
    congr 1
    omega
  have hback : ∀ i, μ' i ≠ none → μ2 (ka l M.cur i) = μ' i := fun i hi => by
    have hi' : i < m'.roots.length := by
      rcases Nat.lt_or_ge i m'.roots.length with h1 | h1
      · exact h1
      · exact absurd (hfar i h1) hi
    unfold ka
    cases hli : l[i]? with
    | some r => exact hμl i r hli
    | none =>
      have : l.length ≤ i := by simpa using hli
      exact hμn i this hi'
  have hx2 : bP μ μ2 := fun r ℓ hr => by
    by_cases hrl : r ∈ l
    · have h1 : μc (kz l r) = some ℓ := by rw [hσ r hrl]; exact hr
      obtain ⟨S', h2⟩ := hext _ ℓ h1
      exact ⟨S', by rw [hμl _ r (oO hrl)]; exact h2⟩
    · refine ⟨ℓ.S, ?_⟩
      show (if r ∈ l then _ else _) = _
      rw [if_neg hrl]
      by_cases hs : M.cur ≤ r ∧ r < M.cur + (m'.roots.length - l.length)
      · have := (hcur (r - M.cur) (by omega)).1
        rw [show M.cur + (r - M.cur) = r from by omega, hr] at this
        cases this
      · rw [if_neg hs]; exact hr
  have hout2 : ∀ r, (r < M.cur ∨ M.cur + n ≤ r) → μ r = none → μ2 r = none := fun r hr hn0 => by
    by_cases hrl : r ∈ l
    · obtain ⟨x, g1, _, g3⟩ := hin r hrl
      obtain ⟨ℓ, g4, _⟩ := hmM.rt r x g1 g3
      rw [g4] at hn0; cases hn0
    · show (if r ∈ l then _ else _) = _
      rw [if_neg hrl, if_neg (by omega)]
      exact hn0
  have hM2 : az B (M.lift l m') w' Z' μ2 := by
    refine az.ren (f := ka l M.cur) hm' (fun r x2 hx hd => ?_) fun r hr => ?_
    · have hrlt : r < M.roots.length := by rw [← oC M m' l]; exact (List.getElem?_eq_some_iff.1 hx).1
      have hxr := List.getElem?_eq_getElem hrlt
      rw [vL hxr] at hx
      simp only [Option.some.injEq] at hx
      have hgen : ∀ (i : Nat) (x : bk), m'.roots[i]? = some x → ka l M.cur i = r → μ2 r = μ' i → x2 = x.ren (ka l M.cur) → ∃ (r_1 : Nat) (x : bk), m'.roots[r_1]? = some x ∧ x2 = x.ren (ka l M.cur) ∧ ka l M.cur r_1 = r ∧ μ2 r = μ' r_1 ∧ x.calm = true ∧ (∀ q ∈ gB x.open, μ' q ≠ none → μ2 (ka l M.cur q) = μ' q) :=
        fun i x h1 h2 h3 h4 => ⟨i, x, h1, h4, h2, h3, hcalm i x h1, fun q _ hq => hback q hq⟩
      have hroot : ∀ i, i < m'.roots.length → m'.roots[i]? = some (m'.root i) := fun i hi => by simp [Mem.root, List.getElem?_eq_getElem hi]
      by_cases hrl : r ∈ l
      · have hp := oO hrl
        have hpl : kz l r < l.length := (List.getElem?_eq_some_iff.1 hp).1
        have hb : ka l M.cur (kz l r) = r := by simp [ka, hp]
        rw [hmem.2 hrl] at hx
        cases hbit : m'.dR.testBit (kz l r) with
        | true =>
          rw [hbit] at hx
          exact hgen _ _ (hroot _ (by omega)) hb (hμl _ _ hp) hx.symm
        | false =>
          rw [hbit] at hx
          have h1 := hkeep _ hpl hbit
          rw [List.getElem?_map, hp] at h1
          simp only [Option.map_some] at h1
          have hrt : M.root r = M.roots[r] := by simp [Mem.root, hxr]
          rw [hrt] at h1
          obtain ⟨x, g1, g2, g3⟩ := hin r hrl
          rw [hxr] at g1
          cases g1
          refine hgen _ _ h1 hb (hμl _ _ hp) ?_
          rw [bk.mb (fun q hq => ?_) g2]
          · exact hx.symm
          · have hql := hcl r hrl _ hxr q hq
            have := oO hql
            simp [ka, this]
      · have hc : l.contains r = false := by simpa using hrl
        rw [hc] at hx
        cases hbb : (Nat.ble M.cur r && Nat.blt (r - M.cur + l.length) m'.roots.length) with
        | true =>
          rw [hbb] at hx
          simp only [Bool.and_eq_true, Nat.ble_eq, Nat.blt_eq] at hbb
          refine hgen _ _ (hroot _ hbb.2) ?_ ?_ hx.symm
          · unfold ka
            rw [List.getElem?_eq_none (by omega)]
            simp only
            omega
          · have := hμn (r - M.cur + l.length) (by omega) hbb.2
            rw [show M.cur + (r - M.cur + l.length - l.length) = r from by omega] at this
            exact this
        | false =>
          rw [hbb] at hx
          exact absurd (hx.symm.trans (hout r _ hrl hxr)) hd
    · rw [oC] at hr
      show (if r ∈ l then _ else _) = _
      rw [if_neg (fun h => by have := hlt r h; omega), if_neg (by omega)]
      exact hmM.far r hr
  have hv2 : AR w' Z' μ2 (v.ren (ka l M.cur)) vr := hv.ren hvc fun q _ hq => hback q hq
  have hput := hR.put hM2 hsame hzz hx2 o.dst hv2
  refine ⟨_, Z', μ2, hput, hk, ?_, ?_, ?_, hzz, hx2⟩
  · cases o.dst <;> simp [St.with, St.put, oC, hM]
  · cases o.dst <;> rfl
  · rw [hM]; exact hout2
end
end Go.Mach
namespace Go.Mach
section
variable {B : eD} {m : Mem} {w : World} {Z : Nat → Prop} {μ : aZ}
theorem lr (hM : az B m w Z μ) {r : Nat} {m0 : Mem} (hs : m.o4 r = some m0) {ℓ : Loc} (hμ : μ r = some ℓ) :
    ∃ (Z' S' : Nat → Prop) (n : Nat) (s : Sh) (xs : List (List Int × s.den)), m0.roots[r]? = some (.iR n s xs none) ∧ az B m0 w Z' (μ.set r { ℓ with S := S' }) ∧ (∀ b, Z b → Z' b) ∧ Kept m m0 := by
  unfold Mem.o4 at hs
  split at hs
  · rename_i n s xs f hr
    split at hs
    case h_2 => cases hs
    rename_i x m1 hg
    cases hs
    obtain ⟨ℓ', h5, h6, b, h7, h8⟩ := hM.rt r _ hr (by simp)
    rw [hμ] at h5; cases h5
    obtain ⟨t1, t2⟩ := ev hM (bX.none B m w Z μ) hr hμ rfl
    have hi := h6 f rfl
    have h8' := h8
    obtain ⟨q0, es, clock, q1, q2, q3, q4, q5, q6, N, q7, q8, q9⟩ := h8
    obtain ⟨_, j3⟩ := q9 f.i hi (by omega)
    simp only [EnR, ElR, if_true] at j3
    obtain ⟨⟨Z', F', S1, us1, us2, e1, e2, e3, e4, e5, e6, e7, e8, e9⟩, ek⟩ := gj s t1 t2 j3 hg
    have := e9.hB
    subst this
    rw [List.append_nil] at e1
    subst e1
    have key : pt w n (xs.modify f.i fun e => (e.1, x)) (fun _ us x S => SR w Z' B.Y s us x S) b (fun d => ℓ.S d ∨ S1 d) := by
      refine h8'.oe (fun d hd hS => (e7 d hd).2 (.inr hS)) (fun es' clock' hes h => ?_) fun j us x T hj hR => ?_
      · rw [q1] at hes
        cases hes
        exact e8
      · simp only [EnR, ElR, if_neg (Ne.symm hj)] at hR
        exact hR.up e5
    have hlt : r < m.roots.length := (List.getElem?_eq_some_iff.1 hr).1
    have hdead : m1.roots[r]? = some .dead := ek.dead r (by simp [Mem.set, hlt])
    have hlt1 : r < m1.roots.length := (List.getElem?_eq_some_iff.1 hdead).1
    obtain ⟨p1, _⟩ := iz (x := .iR n s (xs.modify f.i fun e => (e.1, x)) none) (ℓ := { ℓ with S := fun d => ℓ.S d ∨ S1 d }) e3 e4 hdead (bP.mJ hμ) ⟨(fun f hf => by cases hf), b, h7, key⟩ (fun _ d hd => hd.elim (fun h => e6 d (.inr h)) fun h => (e7 d h).1)
    refine ⟨Z', _, n, s, xs.modify f.i fun e => (e.1, x), ?_, p1, e5, ?_⟩
    · simp [Mem.set, hlt1]
    · refine ⟨?_, ek.cur, fun q hq => ?_⟩
      · show (List.set _ _ _).length = _
        rw [List.length_set, ek.len]; simp [Mem.set]
      · have hne : r ≠ q := by rintro rfl; rw [hr] at hq; cases hq
        show (List.set _ _ _)[q]? = _
        rw [List.getElem?_set_ne hne]
        exact ek.dead q (by simp only [Mem.set]; rw [List.getElem?_set_ne hne]; exact hq)
  · rename_i n s xs hr
    cases hs
    exact ⟨Z, ℓ.S, n, s, xs, hr, by rw [show ({ ℓ with S := ℓ.S } : Loc) = ℓ from rfl, aZ.mR hμ]; exact hM, fun _ h => h, Kept.refl _⟩
  · cases hs
end
end Go.Mach
namespace Go.Mach
theorem AG {l m : List Int} (h : jB l = jB m) : l = m := by
  unfold jB at h
  injection h with h
  have h : l.map (Value.int .i64) = m.map (Value.int .i64) := by simpa using h
  exact List.map_inj_right (fun a b h => by injection h) |>.1 h
theorem kk {l : List Int} : xM l = true ↔ ∀ a ∈ l, cP .i64 a = true := by
  unfold xM cP
  rw [List.all_eq_true]
theorem xJ {α : Type} {xs : List (List Int × α)} {l : List Int} {j : Nat} (hn : (xs.map (·.1)).Nodup) (hj : j < xs.length) (h : xs[j].1 = l) : kT xs l = some j := by
  unfold kT
  rw [List.findIdx?_eq_some_iff_getElem]
  refine ⟨hj, by simpa using h, fun k hk => ?_⟩
  simp only [decide_eq_true_eq]
  intro e
  have h1 : (xs.map (·.1))[k]'(by simp; omega) = (xs.map (·.1))[j]'(by simpa using hj) := by simp [e, h]
  have h2 := (List.getElem_inj hn).1 h1
  omega
theorem wb {α : Type} {xs : List (List Int × α)} {l : List Int} (h : ∀ x ∈ xs, x.1 ≠ l) : kT xs l = none := by
  unfold kT
  rw [List.findIdx?_eq_none_iff]
  exact fun x hx => by simpa using h x hx
theorem qE {α : Type} {P : Program} {K n : Nat} (hK : KeyT P K n) {w : World} {es : Array MapEntry} {xs : List (List Int × α)} (hsz : es.size = xs.length) (hkey : ∀ i (h : i < xs.length) (h' : i < es.size), es[i].key = jB xs[i].1)
    (hn : (xs.map (·.1)).Nodup) (hin : ∀ x ∈ xs, x.1.length = n ∧ ∀ a ∈ x.1, cP .i64 a = true) {l : List Int} (hl : l.length = n) (hr : ∀ a ∈ l, cP .i64 a = true) :
    ((Instr.findKey K (jB l) es.toList).run P w = .ok none w ∧ kT xs l = none) ∨ ∃ j, ∃ h : j < es.size, (Instr.findKey K (jB l) es.toList).run P w = .ok (some (j, es[j].val)) w ∧ kT xs l = some j := by
  obtain ⟨L, hL⟩ := hK.ex l hl (kk.2 hr)
  have hks : ∀ e ∈ es.toList, ∃ i, ∃ h : i < xs.length, e.key = jB xs[i].1 := fun e he => by
    obtain ⟨i, hi, rfl⟩ := List.getElem_of_mem he
    have hi' : i < es.size := by simpa using hi
    exact ⟨i, by omega, hkey i (by omega) hi'⟩
  rcases hK.law.find w hL es.toList (fun e he => by
    obtain ⟨i, hi, h⟩ := hks e he
    rw [h]
    exact hK.ex _ (hin _ (List.getElem_mem hi)).1 (kk.2 (hin _ (List.getElem_mem hi)).2)) with ⟨h1, h2⟩ | ⟨j, e, h1, h2, h3⟩
  · refine .inl ⟨h1, wb fun x hx e => ?_⟩
    obtain ⟨i, hi, rfl⟩ := List.getElem_of_mem hx
    have hi' : i < es.size := by omega
    exact h2 es[i] (by simp) (by rw [hkey i hi hi', e])
  · have hj : j < es.size := by simpa using (List.getElem?_eq_some_iff.1 h2).1
    have he : es[j] = e := by
      have := (List.getElem?_eq_some_iff.1 h2).2
      simpa using this
    refine .inr ⟨j, hj, by rw [h1, he], xJ hn (by omega) ?_⟩
    have h4 := hkey j (by omega) hj
    rw [he, h3] at h4
    exact (AG h4).symm
end Go.Mach
namespace Go.Mach
def ir (w : World) (b : Nat) (o : Obj) : World := { w with heap := w.heap.setIfInBounds b o }
section
variable {α : Type} {P : Program} {K e t n : Nat} {w : World} {b clock : Nat} {es : Array MapEntry} {xs : List (List Int × α)} {l : List Int}
structure MapK (P : Program) (t K e n : Nat) (w : World) (b : Nat) (es : Array MapEntry) (clock : Nat) (xs : List (List Int × α)) : Prop where
  key : KeyT P K n
  ty : P.underlying t = some (.map K e)
  blk : w.heap[b]? = some (.map es clock)
  sz : es.size = xs.length
  keys : ∀ i (h : i < xs.length) (h' : i < es.size), es[i].key = jB xs[i].1
  nd : (xs.map (·.1)).Nodup
  fit : ∀ x ∈ xs, x.1.length = n ∧ ∀ a ∈ x.1, cP .i64 a = true
theorem zr (h : MapK P t K e n w b es clock xs) (hl : l.length = n) (hr : ∀ a ∈ l, cP .i64 a = true) {z : Value} (hz : (zeroValue e).run P w = .ok z w) :
    ((Instr.lookup t (.map (some b)) (jB l) false).run P w = .ok z w ∧ kT xs l = none) ∨ ∃ j, ∃ h : j < es.size, (Instr.lookup t (.map (some b)) (jB l) false).run P w = .ok es[j].val w ∧ kT xs l = some j := by
  obtain ⟨L, hL⟩ := h.key.ex l hl (kk.2 hr)
  rcases qE (w := w) h.key h.sz h.keys h.nd h.fit hl hr with ⟨h1, h2⟩ | ⟨j, hj, h1, h2⟩
  · exact .inl ⟨by simp [Instr.lookup, run_underlying h.ty, MapKept.run_getObj_map h.blk, h.key.law.check w _ hL, h1, hz, Result.andThen], h2⟩
  · exact .inr ⟨j, hj, by simp [Instr.lookup, run_underlying h.ty, MapKept.run_getObj_map h.blk, h.key.law.check w _ hL, h1, Result.andThen], h2⟩
theorem Bc (h : MapK P t K e n w b es clock xs) (hl : l.length = n) (hr : ∀ a ∈ l, cP .i64 a = true) {ty : TypeId} :
    ((Builtin.delete_ #[t, K] ty #[.map (some b), jB l]).run P w = .ok (.tuple #[]) (ir w b (.map es clock)) ∧ kT xs l = none) ∨
    ∃ j, j < es.size ∧ (Builtin.delete_ #[t, K] ty #[.map (some b), jB l]).run P w = .ok (.tuple #[]) (ir w b (.map (es.eraseIdxIfInBounds j) clock)) ∧ kT xs l = some j := by
  obtain ⟨L, hL⟩ := h.key.ex l hl (kk.2 hr)
  rcases qE (w := w) h.key h.sz h.keys h.nd h.fit hl hr with ⟨h1, h2⟩ | ⟨j, hj, h1, h2⟩
  · exact .inl ⟨by simp [Builtin.delete_, run_underlying h.ty, MapKept.run_getObj_map h.blk, h.key.law.check w _ hL, h1, MapKept.run_setObj_map _ h.blk, Result.andThen, ir], h2⟩
  · exact .inr ⟨j, hj, by simp [Builtin.delete_, run_underlying h.ty, MapKept.run_getObj_map h.blk, h.key.law.check w _ hL, h1, MapKept.run_setObj_map _ h.blk, Result.andThen, ir], h2⟩
theorem BX (h : MapK P t K e n w b es clock xs) (hl : l.length = n) (hr : ∀ a ∈ l, cP .i64 a = true) {v : Value} :
    ((Instr.mapUpdate t (.map (some b)) (jB l) v).run P w = .ok () (ir w b (.map (es.push ⟨jB l, v, clock⟩) (clock + 1))) ∧ kT xs l = none) ∨
    ∃ j, j < es.size ∧ (Instr.mapUpdate t (.map (some b)) (jB l) v).run P w = .ok () (ir w b (.map (es.modify j fun x => { x with key := jB l, val := v }) clock)) ∧ kT xs l = some j := by
  obtain ⟨L, hL⟩ := h.key.ex l hl (kk.2 hr)
  rcases qE (w := w) h.key h.sz h.keys h.nd h.fit hl hr with ⟨h1, h2⟩ | ⟨j, hj, h1, h2⟩
  · exact .inl ⟨by simp [Instr.mapUpdate, run_underlying h.ty, MapKept.run_getObj_map h.blk, h.key.law.check w _ hL, h1, MapKept.run_setObj_map _ h.blk, Result.andThen, ir], h2⟩
  · have hjx : j < xs.length := by have := h.sz; omega
    have hk : xs[j].1 = l := by
      have := (List.findIdx?_eq_some_iff_getElem.1 h2).2.1
      simpa using this
    have hk2 : es[j].key = jB l := by rw [h.keys j hjx hj, hk]
    have hst := h.key.law.stays w hL
    exact .inr ⟨j, hj, by simp [Instr.mapUpdate, run_underlying h.ty, MapKept.run_getObj_map h.blk, h.key.law.check w _ hL, h1, hk2, hj, hst, MapKept.run_setObj_map _ h.blk, Result.andThen, ir], h2⟩
end
end Go.Mach
namespace Go.Mach
theorem jR (w : World) {b d : Nat} (o : Obj) (h : d ≠ b) : (ir w b o).heap[d]? = w.heap[d]? := by
  simp only [ir, Array.getElem?_setIfInBounds]
  rw [if_neg (fun e => h e.symm)]
theorem nB (w : World) {b : Nat} (o : Obj) (h : b < w.heap.size) : (ir w b o).heap[b]? = some o := by
  simp only [ir, Array.getElem?_setIfInBounds]
  simp [h]
theorem lW (w : World) (b : Nat) (o : Obj) : (ir w b o).heap.size = w.heap.size := by simp [ir]
theorem qv {w : World} {Z : Nat → Prop} {μ : aZ} : ∀ {cs : List C} {us : List Value} {l : List Int}, CRs w Z μ cs us → rZ cs = some l → us = l.map (Value.int .i64) ∧ ∀ a ∈ l, cP .i64 a = true
  | [], us, l, hc, h => by
    simp only [rZ, Option.some.injEq] at h
    subst h
    exact ⟨hc.hB, by simp⟩
  | c :: cs, us, l, hc, h => by
    obtain ⟨v, us', rfl, h1, h2⟩ := hc.cons_inv
    unfold rZ at h
    split at h
    · rename_i e; cases e
    · rename_i n cs' e
      cases e
      split at h
      case h_2 => cases h
      rename_i l' hl
      cases h
      obtain ⟨g1, g2⟩ := qv h2 hl
      obtain ⟨k1, k2⟩ := h1
      subst g1
      refine ⟨by rw [k1]; rfl, fun a ha => ?_⟩
      rcases List.mem_cons.1 ha with rfl | ha
      · exact k2
      · exact g2 a ha
    · cases h
theorem oT {w : World} {Z : Nat → Prop} {μ : aZ} {x : AV} {v : Value} {l : List Int} (hx : AR w Z μ x v) (h : zH x = some l) : v = jB l ∧ ∀ a ∈ l, cP .i64 a = true := by
  unfold zH at h
  split at h
  · obtain ⟨vs, rfl, hc⟩ := hx
    obtain ⟨rfl, h2⟩ := qv hc h
    exact ⟨rfl, h2⟩
  · cases h
theorem nk {E : Env} {t : TypeId} {n : Nat} (h : E.wQ t = some n) : ∃ K e, E.P.underlying t = some (.map K e) ∧ KeyT E.P K n := by
  unfold Env.wQ at h
  split at h
  · rename_i K e ht
    split at h
    · rename_i p hp
      cases h
      have h1 := List.find?_some hp
      have h2 := List.mem_of_find?_eq_some hp
      have h1 : p.1 = K := by simpa using h1
      exact ⟨K, e, ht, h1 ▸ E.kok p h2⟩
    · cases h
  · cases h
theorem pg {α β : Type} {xs : List (List Int × α)} {l : List Int} {f : Nat → α → Res β} {g : Res β} {Φ : β → Prop} (h : (Res.look xs l f g).sat Φ) :
    (kT xs l = none → g.sat Φ) ∧ ∀ j, kT xs l = some j → ∃ hj : j < xs.length, (f j xs[j].2).sat Φ := by
  unfold Res.look at h
  refine ⟨fun e => by rw [e] at h; exact h, fun j e => ?_⟩
  rw [e] at h
  simp only at h
  split at h
  · rename_i x hx
    obtain ⟨hj, rfl⟩ := List.getElem?_eq_some_iff.1 hx
    exact ⟨hj, h⟩
  · exact h.elim
section
variable {B : eD} {E : Env} {st : St} {o : Oper} {a : Act} {w : World} {Z : Nat → Prop} {μ : aZ} {Φ : St → Prop}
theorem tI (hR : Rel B st a w Z μ) {n : Nat} (hF : jJ st n μ) (hn : 1 ≤ n) {T : TypeId} (ho : o.op = .makeMap T none) (h : (step E st o Res.ok).sat Φ) :
    o.wp E.P a w (Nxt B st n Z μ Φ) (fun _ _ _ => False) := by
  simp only [step, dG, ho] at h
  split at h
  case h_2 => exact h.elim
  rename_i k s hk hs
  refine lQ hR hF hn (w' := w.alloc (.map #[] 0)) (v := .map (some w.heap.size)) (ℓ := ⟨some w.heap.size, 0, 0, 0, 0, fun b => b = w.heap.size, none⟩) ?_
    (fun b hb => alloc_old _ _ hb) (by rw [fF]; omega) (by rintro b rfl; rw [fF]; omega) ?_ ?_ h
  · simp only [execOp, ho]
    simp [Instr.makeMap, Result.andThen]
  · refine ⟨fun f hf => by (cases hf), _, rfl, rfl, #[], 0, jY _ _, rfl, by simp, by simp, by simp, by simp, fun _ _ => False, fun _ _ _ h => h.elim, fun _ _ _ _ _ _ h => h.elim, fun i hi => ?_⟩
    simp at hi
  · exact ⟨_, _, aZ.ej _ _ _, rfl, rfl⟩
theorem rP {P : Program} {t K e n : Nat} (hk : KeyT P K n) (ht : P.underlying t = some (.map K e)) {α : Type} {xs : List (List Int × α)} {R : Nat → List Value → α → (Nat → Prop) → Prop} {b : Nat} {S : Nat → Prop} {es : Array MapEntry} {clock : Nat}
    (he : w.heap[b]? = some (.map es clock)) (h : pt w n xs R b S) : MapK P t K e n w b es clock xs := by
  obtain ⟨_, es', clock', h1, h2, h3, h4, h5, h6, N, h7, h8, h9⟩ := h
  rw [he] at h1; cases h1
  exact ⟨hk, ht, he, h2, fun i hi hi' => (h9 i hi hi').1, h5, h6⟩
theorem wX {P : Program} {e : TypeId} {z : C} (h : xj P e = some z) (w : World) : ∃ zv : Value, (zeroValue e).run P w = .ok zv w ∧ z = cellOf zv := by
  unfold xj at h
  split at h
  case h_2 => cases h
  rename_i i hi
  split at h
  · cases h
  · rename_i v _ hzv
    cases h
    exact ⟨v, by simp [zeroValue, typeInfo, hi, hzv], rfl⟩
  · cases h
theorem qN {n r : Nat} {x : bk} (hF : jJ st n μ) (hr : st.mem.roots[r]? = some x) (hx : x ≠ .dead) {k : Nat} (hk : k ≤ n) : r < st.mem.cur ∨ st.mem.cur + k ≤ r := by
  rcases Nat.lt_or_ge r st.mem.cur with h' | h'
  · exact .inl h'
  · right
    rcases Nat.lt_or_ge r (st.mem.cur + k) with h'' | h''
    · have := (hF (r - st.mem.cur) (by omega)).2
      rw [show st.mem.cur + (r - st.mem.cur) = r from by omega, hr] at this
      cases this; exact absurd rfl hx
    · exact h''
theorem pM {m m0 : Mem} {r : Nat} (h : m.o4 r = some m0) : ∃ n s xs f, m.roots[r]? = some (.iR n s xs f) := by
  unfold Mem.o4 at h
  split at h
  · rename_i hr; exact ⟨_, _, _, _, hr⟩
  · rename_i hr; exact ⟨_, _, _, _, hr⟩
  · cases h
theorem iM.kept {m m' : Mem} {n : Nat} (hF : iM m μ n) (hk : Kept m m') {μ' : aZ} (hμ : ∀ r, μ r = none → μ' r = none) : iM m' μ' n := fun k hk' => by
  obtain ⟨h1, h2⟩ := hF k hk'
  rw [hk.cur]
  exact ⟨hμ _ h1, hk.dead _ h2⟩
theorem uy (hR : Rel B st a w Z μ) {n : Nat} (hF : jJ st n μ) (hn : cF E o ≤ n) {T : TypeId} {x i : Operand} (ho : o.op = .lookup T x i false) (h : (step E st o Res.ok).sat Φ) :
    o.wp E.P a w (Nxt B st n Z μ Φ) (fun _ _ _ => False) := by
  simp only [step, dG, ho] at h
  split at h
  case h_2 => exact h.elim
  rename_i k z hk hz
  obtain ⟨K, e, ht, hkt⟩ := nk hk
  have hX := hR.val x
  have hI := hR.val i
  unfold sr at h
  split at h
  case h_2 => exact h.elim
  rename_i r l hx hi
  rw [hx] at hX
  obtain ⟨hI, hfit⟩ := oT hI hi
  split at h
  case h_2 => exact h.elim
  rename_i m0 hm0
  obtain ⟨ℓ, b, g1, g2, g3⟩ := hX
  obtain ⟨n', s', xs', f', hr0⟩ := pM hm0
  obtain ⟨Z1, S1, k1, s, xs, hr, hM, hz1, hkept⟩ := lr hR.mem hm0 g1
  rw [hr] at h
  simp only at h
  split at h
  case h_2 => exact h.elim
  rename_i hc
  simp only [Bool.and_eq_true, beq_iff_eq, decide_eq_true_eq] at hc
  obtain ⟨rfl, hc2, hc3, hc5⟩ := hc
  have hμ1 : μ.set r { ℓ with S := S1 } r = some { ℓ with S := S1 } := aZ.ej _ _ _
  have hx1 : bP μ (μ.set r { ℓ with S := S1 }) := bP.mJ g1
  obtain ⟨ℓ', h5, h6, b', h7, h8⟩ := hM.rt r _ hr (by simp)
  rw [hμ1] at h5; cases h5
  have h7 : ℓ.blk = some b' := h7
  rw [g2] at h7; cases h7
  have h8' := h8
  obtain ⟨q0, es, clock, q1, q2, q3, q4, q5, q6, N, q7, q8, q9⟩ := h8
  have hmk := rP hkt ht q1 h8'
  obtain ⟨zv, hzv, hzc⟩ := wX (P := E.P) (e := e) (by simpa [mapElem, ht] using hz) w
  have hlen : m0.roots.length = st.mem.roots.length := hkept.len
  have hnone : ∀ q, μ q = none → μ.set r { ℓ with S := S1 } q = none := fun q hq => by
    have hne : q ≠ r := by rintro rfl; rw [g1] at hq; cases hq
    rw [aZ.eb _ _ hne]; exact hq
  obtain ⟨hl1, hl2⟩ := pg h
  rcases zr hmk hc2 hfit hzv with ⟨hrun, hix⟩ | ⟨j, hj, hrun, hix⟩
  · have hrun' : (execOp a.eval o).run E.P w = .ok (.value zv) w := by
      simp only [execOp, ho, show a.eval x = _ from g3, show a.eval i = _ from hI]
      simp [hrun]
    refine fO hR hrun' hM (aj.refl _ _) hz1 hx1 (x := .c z) ?_ (hl1 hix) hlen fun q _ hq => hnone q hq
    rw [hzc]
    exact oo zv
  · obtain ⟨hjx, hΦ⟩ := hl2 j hix
    have hrun' : (execOp a.eval o).run E.P w = .ok (.value es[j].val) w := by
      simp only [execOp, ho, show a.eval x = _ from g3, show a.eval i = _ from hI]
      simp [hrun]
    obtain ⟨j1, j3⟩ := q9 j hjx hj
    have j3 : SR w Z1 B.Y s [es[j].val] xs[j].2 (N j) := j3
    obtain ⟨t1, t2⟩ := ev hM (bX.none B m0 w Z1 _) hr hμ1 rfl
    have hnn : s.news ≤ n := Nat.le_trans hc5 hn
    have hfree : iM (m0.set r .dead) (μ.set r { ℓ with S := S1 }) s.news := (iM.rM ((jJ.free hF).kept hkept hnone) hr (by simp)).mono hnn
    obtain ⟨⟨μ1, p1, p2, p3, p4⟩, _⟩ := iJ s t1 t2 hfree j3 (fun d hd => .inr (q7 _ hjx d hd).1)
    have hcur : (m0.set r .dead).cur = st.mem.cur := hkept.cur
    have hrc : r < (m0.set r .dead).cur ∨ (m0.set r .dead).cur + s.news ≤ r := by rw [hcur]; exact qN hF hr0 (by simp) hnn
    obtain ⟨o1, o2⟩ := p4.old r hrc
    have hlt : r < m0.roots.length := (List.getElem?_eq_some_iff.1 hr).1
    have hdead : (s.mk xs[j].2 (m0.set r .dead)).2.roots[r]? = some .dead := by
      rw [o2]; simp [Mem.set, hlt]
    have hμ2 : μ1 r = some { ℓ with S := S1 } := o1.trans hμ1
    let ℓ2 : Loc := { ℓ with S := fun d => S1 d ∧ ¬ N j d }
    have hext : bP μ1 (μ1.set r ℓ2) := bP.mJ (ℓ := { ℓ with S := S1 }) (S := ℓ2.S) hμ2
    obtain ⟨d1, d2⟩ := iz (x := .iR k1 s xs (some ⟨j, (s.mk xs[j].2 (m0.set r .dead)).1⟩)) (ℓ := ℓ2) p1 p2 hdead hext ⟨fun f hf => by cases hf; exact hjx, b, g2, by
      have hnb : ¬ N j b := fun h => (q7 _ hjx b h).2 rfl
      refine ⟨⟨q0, hnb⟩, es, clock, q1, q2, q3, q4, q5, q6, fun i => if j = i then fun _ => False else N i, fun i hi d hd => ?_, fun i i' hi hi' hii d hd hd' => ?_, fun i hi hi' => ?_⟩
      · dsimp only at hd
        split at hd
        · exact hd.elim
        · rename_i hne
          exact ⟨⟨(q7 i hi d hd).1, fun h' => q8 _ i hjx hi hne d h' hd⟩, (q7 i hi d hd).2⟩
      · dsimp only at hd hd'
        split at hd
        · exact hd.elim
        · split at hd'
          · exact hd'.elim
          · exact q8 i i' hi hi' hii d hd hd'
      · obtain ⟨n1, n2⟩ := q9 i hi hi'
        refine ⟨n1, ?_⟩
        by_cases hij : j = i
        · subst hij
          simp only [EnR, ElR, if_true]
          exact p3.mono (aj.refl _ _) (fun _ h => h) hext
        · simp only [EnR, ElR, if_neg hij]
          exact n2⟩ (fun _ d hd => ⟨.inr hd.1, hd.2⟩)
    have hcl : CRs w Z1 (μ1.set r ℓ2) (s.mk xs[j].2 (m0.set r .dead)).1 [es[j].val] := p3.mono (aj.refl _ _) (fun _ h => h) hext
    refine fO (x := lN false (s.mk xs[j].2 (m0.set r .dead)).1) hR hrun' d1 (aj.refl _ _) hz1 ((hx1.trans p4.ext).trans hext) ?_ hΦ ?_ fun q hq hμ => ?_
    · exact ox.ar (g := false) rfl hcl
    · show (List.set _ _ _).length = _
      rw [List.length_set, p4.len]; simp [Mem.set, hlen]
    · have hne : q ≠ r := by rintro rfl; rw [g1] at hμ; cases hμ
      rw [aZ.eb _ _ hne, (p4.old q (by rw [hcur]; omega)).1]
      exact hnone q hμ
end
end Go.Mach
namespace Go.Mach
section
variable {B : eD} {E : Env} {st : St} {o : Oper} {a : Act} {w : World} {Z : Nat → Prop} {μ : aZ} {Φ : St → Prop}
theorem SR.ir {Y S : Nat → Prop} {s : Sh} {us : List Value} {x : s.den} {b : Nat} {ob : Obj} (hz : ¬ Z b) (hy : ¬ Y b) (hs : ¬ S b) (h : SR w Z Y s us x S) : SR (ir w b ob) Z Y s us x S :=
  h.same (fun _ h => h) (fun _ h => h) fun d hd => jR w ob (by rintro rfl; rcases hd with (hd | hd) | hd; exact hz hd; exact hy hd; exact hs hd)
theorem ub (hR : Rel B st a w Z μ) (n : Nat) {c : Call} (ho : o.op = .call c) (hc : c.callee = .builtin .delete) (h : (step E st o Res.ok).sat Φ) :
    o.wp E.P a w (Nxt B st n Z μ Φ) (fun _ _ _ => False) := by
  simp only [step, dG, ho, hc] at h
  split at h
  case h_2 => exact h.elim
  rename_i x i T U hargs htys
  split at h
  case h_2 => exact h.elim
  rename_i k hk hU
  obtain ⟨K, e, ht, hkt⟩ := nk hk
  have hU : U = K := (by simpa [mapKey, ht] using hU : K = U).symm
  subst hU
  have hX := hR.val x
  have hI := hR.val i
  unfold xF at h
  split at h
  case h_2 => exact h.elim
  rename_i r l hx hi
  rw [hx] at hX
  obtain ⟨hI, hfit⟩ := oT hI hi
  split at h
  case h_2 => exact h.elim
  rename_i m0 hm0
  obtain ⟨ℓ, b, g1, g2, g3⟩ := hX
  obtain ⟨Z1, S1, k1, s, xs, hr, hM, hz1, hkept⟩ := lr hR.mem hm0 g1
  rw [hr] at h
  simp only at h
  split at h
  case h_2 => exact h.elim
  rename_i hc0
  simp only [Bool.and_eq_true, beq_iff_eq] at hc0
  obtain ⟨rfl, hc2⟩ := hc0
  have hμ1 : μ.set r { ℓ with S := S1 } r = some { ℓ with S := S1 } := aZ.ej _ _ _
  have hx1 : bP μ (μ.set r { ℓ with S := S1 }) := bP.mJ g1
  obtain ⟨ℓ', h5, h6, b', h7, h8⟩ := hM.rt r _ hr (by simp)
  rw [hμ1] at h5; cases h5
  have h7 : ℓ.blk = some b' := h7
  rw [g2] at h7; cases h7
  have h8' := h8
  obtain ⟨q0, es, clock, q1, q2, q3, q4, q5, q6, N, q7, q8, q9⟩ := h8
  have hmk := rP hkt ht q1 h8'
  have hlen : m0.roots.length = st.mem.roots.length := hkept.len
  have hnone : ∀ q, μ q = none → μ.set r { ℓ with S := S1 } q = none := fun q hq => by
    have hne : q ≠ r := by rintro rfl; rw [g1] at hq; cases hq
    rw [aZ.eb _ _ hne]; exact hq
  have hbw : b < w.heap.size := (hM.own r _ _ b hr rfl hμ1 q0).2.1
  have hbz : ¬ Z1 b := (hM.own r _ _ b hr rfl hμ1 q0).1
  have hby : ¬ B.Y b := fun hy => by
    have h1 := hM.ju b hy
    rcases (hM.own r _ _ b hr rfl hμ1 q0).2.2 with h2 | h2
    · omega
    · exact h1.2 h2
  obtain ⟨hl1, hl2⟩ := pg h
  obtain ⟨t1, t2⟩ := ev hM (bX.none B m0 w Z1 _) hr hμ1 rfl
  have hlt : r < m0.roots.length := (List.getElem?_eq_some_iff.1 hr).1
  have hdead : (m0.set r .dead).roots[r]? = some .dead := by simp [Mem.set, hlt]
  have hset : ∀ y, (m0.set r .dead).set r y = ⟨m0.roots.set r y, (m0.set r .dead).dR ||| 2 ^ r, m0.cur⟩ := fun y => by simp [Mem.set]
  have key : ∀ (es' : Array MapEntry) (xs' : List (List Int × s.den)), es'.size = xs'.length → (∀ e ∈ es'.toList, e.born < clock) → (es'.toList.map (·.born)).Nodup → (xs'.map (·.1)).Nodup →
      (∀ x ∈ xs', x.1.length = k1 ∧ ∀ a ∈ x.1, cP .i64 a = true) → (∃ N' : Nat → Nat → Prop, (∀ i, i < xs'.length → ∀ d, N' i d → S1 d ∧ d ≠ b) ∧ (∀ i j, i < xs'.length → j < xs'.length → i ≠ j → ∀ d, N' i d → N' j d → False) ∧
        ∀ i (h : i < xs'.length) (h' : i < es'.size), es'[i].key = jB xs'[i].1 ∧ SR w Z1 B.Y s [es'[i].val] xs'[i].2 (N' i)) →
      ∀ (m' : Mem), m'.roots = m0.roots.set r (.iR k1 s xs' none) → az B m' (ir w b (.map es' clock)) Z1 (μ.set r { ℓ with S := S1 }) := by
    rintro es' xs' c1 c2 c3 c4 c5 ⟨N', c6, c7, c8⟩ m' hm'
    obtain ⟨d1, d2⟩ := gX (w' := ir w b (.map es' clock)) t1 t2 (fun d hd hn => jR w _ (by rintro rfl; exact hn (.inr q0))) (by rw [lW]; exact Nat.le_refl _)
    obtain ⟨p1, _⟩ := iz (x := .iR k1 s xs' none) (ℓ := { ℓ with S := S1 }) d1 d2 hdead (by rw [aZ.mR hμ1]; exact bP.refl _) ⟨fun f hf => by (cases hf), b, g2, q0, es', clock, nB w _ hbw, c1, c2, c3, c4, c5, N', c6, c7, fun i hi hi' => by
      obtain ⟨e1, e2⟩ := c8 i hi hi'
      exact ⟨e1, SR.ir hbz hby (fun hN => (c6 i hi b hN).2 rfl) e2⟩⟩ (fun _ d hd => .inl (.inr hd))
    rw [aZ.mR hμ1] at p1
    exact p1.congr (by rw [hm', hset])
  have hca : c.args = #[x, i] := by apply Array.ext'; rw [hargs]
  have hct : c.argTypes = #[T, U] := by apply Array.ext'; rw [htys]
  rcases Bc hmk hc2 hfit (ty := o.type) with ⟨hrun, hix⟩ | ⟨j, hj, hrun, hix⟩
  · have hrun' : (execOp a.eval o).run E.P w = .ok (.value (.tuple #[])) (ir w b (.map es clock)) := by
      simp only [execOp, ho]
      simp [resolve, invoke, hc, hca, hct, show a.eval x = _ from g3, show a.eval i = _ from hI, builtin, hrun, Result.andThen]
    refine fO (x := .tup []) hR hrun' (key es xs q2 q3 q4 q5 q6 ⟨N, q7, q8, q9⟩ m0 (by obtain ⟨e1, e2⟩ := List.getElem?_eq_some_iff.1 hr; rw [← e2, List.set_getElem_self])) (fun d hd => jR w _ (by rintro rfl; exact hbz (hz1 _ hd))) hz1 hx1 ⟨[], rfl, rfl, fun k h => by simp at h⟩ (hl1 hix) hlen fun q _ hq => hnone q hq
  · obtain ⟨hjx, hΦ⟩ := hl2 j hix
    have hrun' : (execOp a.eval o).run E.P w = .ok (.value (.tuple #[])) (ir w b (.map (es.eraseIdxIfInBounds j) clock)) := by
      simp only [execOp, ho]
      simp [resolve, invoke, hc, hca, hct, show a.eval x = _ from g3, show a.eval i = _ from hI, builtin, hrun, Result.andThen]
    have hel : (es.eraseIdxIfInBounds j).toList = es.toList.eraseIdx j := by simp [Array.eraseIdxIfInBounds, hj]
    refine fO (x := .tup []) hR hrun' (key (es.eraseIdxIfInBounds j) (xs.eraseIdx j) ?_ ?_ ?_ ?_ ?_ ?_ (m0.set r (.iR k1 s (xs.eraseIdx j) none)) rfl) (fun d hd => jR w _ (by rintro rfl; exact hbz (hz1 _ hd))) hz1 hx1 ⟨[], rfl, rfl, fun k h => by simp at h⟩ hΦ (by simp [Mem.set, hlen]) fun q _ hq => hnone q hq
    · rw [List.length_eraseIdx_of_lt hjx, ← q2, ← Array.length_toList, hel, List.length_eraseIdx_of_lt (by simpa using hj)]; simp
    · intro e he
      rw [hel] at he
      exact q3 e (List.mem_of_mem_eraseIdx he)
    · rw [hel]
      exact q4.sublist ((List.eraseIdx_sublist _ _).map _)
    · exact q5.sublist ((List.eraseIdx_sublist _ _).map _)
    · exact fun y hy => q6 y (List.mem_of_mem_eraseIdx hy)
    · have hlx : (xs.eraseIdx j).length = xs.length - 1 := List.length_eraseIdx_of_lt hjx
      refine ⟨fun i => if i < j then N i else N (i + 1), fun i hi d hd => ?_, fun i i' hi hi' hii d hd hd' => ?_, fun i hi hi' => ?_⟩
      · rw [hlx] at hi
        split at hd
        · exact q7 i (by omega) d hd
        · exact q7 (i + 1) (by omega) d hd
      · rw [hlx] at hi hi'
        split at hd <;> split at hd'
        · exact q8 i i' (by omega) (by omega) hii d hd hd'
        · exact q8 i (i' + 1) (by omega) (by omega) (by omega) d hd hd'
        · exact q8 (i + 1) i' (by omega) (by omega) (by omega) d hd hd'
        · exact q8 (i + 1) (i' + 1) (by omega) (by omega) (by omega) d hd hd'
      · have hi1 : i < xs.length - 1 := by rw [hlx] at hi; exact hi
        have he : (es.eraseIdxIfInBounds j)[i] = (es.toList.eraseIdx j)[i]'(by rw [← hel, Array.length_toList]; exact hi') := by
          rw [← Array.getElem_toList]; congr 1
        rw [he]
        simp only [List.getElem_eraseIdx]
        by_cases hij : i < j
        · simp only [hij, dite_true, if_true]
          exact q9 i (by omega) (by omega)
        · simp only [hij, dite_false, if_false]
          exact q9 (i + 1) (by omega) (by omega)
theorem rE (hR : Rel B st a w Z μ) (n : Nat) {T : TypeId} {x i y : Operand} (ho : o.op = .mapUpdate T x i y) (h : (step E st o Res.ok).sat Φ) :
    o.wp E.P a w (Nxt B st n Z μ Φ) (fun _ _ _ => False) := by
  simp only [step, dG, ho] at h
  split at h
  case h_2 => exact h.elim
  rename_i k hk
  obtain ⟨K, e, ht, hkt⟩ := nk hk
  have hX := hR.val x
  have hI := hR.val i
  have hV := hR.val y
  unfold wm at h
  split at h
  case h_2 => exact h.elim
  rename_i r l c hx hi hv
  rw [hx] at hX
  rw [hv] at hV
  obtain ⟨hI, hfit⟩ := oT hI hi
  obtain ⟨ℓ, b, g1, g2, g3⟩ := hX
  split at h
  case h_2 => exact h.elim
  rename_i k1 s xs foc hr
  split at h
  case h_2 => exact h.elim
  rename_i hc0
  simp only [Bool.and_eq_true, beq_iff_eq, Bool.not_eq_true'] at hc0
  obtain ⟨rfl, hc2, hc3, hc4⟩ := hc0
  obtain ⟨ℓ', h5, h6, b', h7, h8⟩ := hR.mem.rt r _ hr (by simp)
  rw [g1] at h5; cases h5
  rw [g2] at h7; cases h7
  have h8' := h8
  obtain ⟨q0, es, clock, q1, q2, q3, q4, q5, q6, N, q7, q8, q9⟩ := h8
  have hmk := rP hkt ht q1 h8'
  have hown := hR.mem.own r _ _ b hr rfl g1 q0
  have hbw : b < w.heap.size := hown.2.1
  have hbz : ¬ Z b := hown.1
  have hby : ¬ B.Y b := fun hy => by
    have h1 := hR.mem.ju b hy
    rcases hown.2.2 with h2 | h2
    · omega
    · exact h1.2 h2
  have hnoR : ∀ (d : Nat), d ≠ b → ∀ ob, (ir w b ob).heap[d]? = w.heap[d]? := fun d hd ob => jR w ob hd
  obtain ⟨t1, t2⟩ := ev hR.mem (bX.none B st.mem w Z μ) hr g1 rfl
  have hlt : r < st.mem.roots.length := (List.getElem?_eq_some_iff.1 hr).1
  have hdead : (st.mem.set r .dead).roots[r]? = some .dead := by simp [Mem.set, hlt]
  obtain ⟨hl1, hl2⟩ := pg h
  rcases BX hmk hc2 hfit (v := a.eval y) with ⟨hrun, hix⟩ | ⟨j, hj, hrun, hix⟩
  · have h := hl1 hix
    split at h
    case h_1 => exact h.elim
    split at h
    case h_2 => exact h.elim
    rename_i z m1 hg
    have hrun' : (execOp a.eval o).run E.P w = .ok .skip (ir w b (.map (es.push ⟨jB l, a.eval y, clock⟩) (clock + 1))) := by
      simp only [execOp, ho, show a.eval x = _ from g3, show a.eval i = _ from hI]
      simp [hrun]
    obtain ⟨⟨Z', F', S2, us1, us2, e1, e2, e3, e4, e5, e6, e7, e8, e9⟩, ek⟩ := gj s t1 t2 (CRs.mk1 hV) hg
    have := e9.hB
    subst this
    rw [List.append_nil] at e1
    subst e1
    have hbF : F' b := e6 b (.inr q0)
    have hbz' : ¬ Z' b := (e4.ok b hbF).1
    obtain ⟨d1, d2⟩ := gX (w' := ir w b (.map (es.push ⟨jB l, a.eval y, clock⟩) (clock + 1))) e3 e4 (fun d hd hn => jR w _ (by rintro rfl; exact hn hbF)) (by rw [lW]; exact Nat.le_refl _)
    have hdead1 : m1.roots[r]? = some .dead := ek.dead r hdead
    have hxk : ∀ p ∈ xs, p.1 ≠ l := by
      intro p hp e
      have h1 := hix
      unfold kT at h1
      rw [List.findIdx?_eq_none_iff] at h1
      have := h1 p hp
      simp [e] at this
    let ℓ2 : Loc := { ℓ with S := fun d => ℓ.S d ∨ S2 d }
    have hext : bP μ (μ.set r ℓ2) := bP.mJ (S := ℓ2.S) g1
    have hS2 : ∀ d, S2 d → ¬ ℓ.S d := fun d hd hS => (e7 d hd).2 (.inr hS)
    obtain ⟨p1, p2⟩ := iz (x := .iR k1 s (xs ++ [(l, z)]) none) (ℓ := ℓ2) d1 d2 hdead1 hext ⟨fun f hf => by (cases hf), b, g2, by
      refine ⟨.inl q0, _, clock + 1, nB w _ hbw, by simp [q2], ?_, ?_, ?_, ?_, fun i => if i < xs.length then N i else S2, fun i hi d hd => ?_, fun i i' hi hi' hii d hd hd' => ?_, fun i hi hi' => ?_⟩
      · intro e' he
        rw [Array.toList_push] at he
        rcases List.mem_append.1 he with he | he
        · have := q3 e' he; omega
        · simp only [List.mem_singleton] at he; subst he; exact Nat.lt_succ_self _
      · rw [Array.toList_push, List.map_append, List.nodup_append]
        refine ⟨q4, by simp, ?_⟩
        intro p hp p' hp' e'
        obtain ⟨en, hen, rfl⟩ := List.mem_map.1 hp
        simp only [List.map_cons, List.map_nil, List.mem_singleton] at hp'
        have := q3 en hen
        omega
      · rw [List.map_append, List.nodup_append]
        refine ⟨q5, by simp, ?_⟩
        intro p hp p' hp' e'
        obtain ⟨en, hen, rfl⟩ := List.mem_map.1 hp
        simp only [List.map_cons, List.map_nil, List.mem_singleton] at hp'
        exact hxk en hen (e'.trans hp')
      · intro p hp
        rcases List.mem_append.1 hp with hp | hp
        · exact q6 p hp
        · simp only [List.mem_singleton] at hp; subst hp; exact ⟨hc2, hfit⟩
      · dsimp only at hd
        split at hd
        · rename_i hi2; exact ⟨.inl (q7 i hi2 d hd).1, (q7 i hi2 d hd).2⟩
        · exact ⟨.inr hd, by rintro rfl; exact hS2 _ hd q0⟩
      · simp only [List.length_append, List.length_singleton] at hi hi'
        dsimp only at hd hd'
        split at hd <;> split at hd'
        · rename_i h1 h2; exact q8 i i' h1 h2 hii d hd hd'
        · rename_i h1 h2; exact hS2 d hd' (q7 i h1 d hd).1
        · rename_i h1 h2; exact hS2 d hd (q7 i' h2 d hd').1
        · omega
      · simp only [List.length_append, List.length_singleton] at hi
        by_cases hi2 : i < xs.length
        · have hi3 : i < es.size := by omega
          obtain ⟨n1, n2⟩ := q9 i hi2 hi3
          simp only [List.getElem_append_left hi2, Array.getElem_push_lt hi3, if_pos hi2]
          exact ⟨n1, SR.ir hbz' hby (fun hN => (q7 i hi2 b hN).2 rfl) (n2.up e5)⟩
        · have hi3 : i = xs.length := by omega
          subst hi3
          have hi4 : xs.length = es.size := q2.symm
          have ha : (es.push ⟨jB l, a.eval y, clock⟩)[xs.length]'hi' = ⟨jB l, a.eval y, clock⟩ := by simp [hi4]
          rw [ha]
          simp only [List.getElem_append_right (Nat.le_refl _), Nat.sub_self, List.getElem_cons_zero, if_neg hi2]
          exact ⟨trivial, SR.ir hbz' hby (fun hN => hS2 b hN q0) e8⟩⟩ (fun _ d hd => by
        rcases hd with hd | hd
        · exact .inl (e6 d (.inr hd))
        · exact .inl (e7 d hd).1)
    refine pf hR hrun' p1 (fun d hd => jR w _ (by rintro rfl; exact hbz hd)) e5 hext h ?_ fun q _ hq => ?_
    · show (List.set _ _ _).length = _
      rw [List.length_set, ek.len]; simp [Mem.set]
    · have hne : q ≠ r := by rintro rfl; rw [g1] at hq; cases hq
      rw [aZ.eb _ _ hne]; exact hq
  · obtain ⟨hjx, hΦ⟩ := hl2 j hix
    have hkj : xs[j].1 = l := by
      have := (List.findIdx?_eq_some_iff_getElem.1 hix).2.1
      simpa using this
    have hΦ : Φ (st.with o.dst (.c .undef) (st.mem.set r (.iR k1 s xs (some ⟨j, [c]⟩)))) ∧ (∀ f, foc = some f → f.i = j) := by
      cases foc with
      | none => exact ⟨hΦ, fun f hf => by cases hf⟩
      | some f =>
        obtain ⟨hf, h⟩ := fw hΦ
        have hf : f.i = j := by simpa using hf
        exact ⟨h, fun f' hf' => by cases hf'; exact hf⟩
    obtain ⟨hΦ, hfoc⟩ := hΦ
    have hrun' : (execOp a.eval o).run E.P w = .ok .skip (ir w b (.map (es.modify j fun x => { x with key := jB l, val := a.eval y }) clock)) := by
      simp only [execOp, ho, show a.eval x = _ from g3, show a.eval i = _ from hI]
      simp [hrun]
    let w' := ir w b (.map (es.modify j fun x => { x with key := jB l, val := a.eval y }) clock)
    obtain ⟨d1, d2⟩ := gX (w' := w') t1 t2 (fun d hd hn => jR w _ (by rintro rfl; exact hn (.inr q0))) (by rw [lW]; exact Nat.le_refl _)
    let ℓ2 : Loc := { ℓ with S := fun d => ℓ.S d ∧ ¬ N j d }
    have hext : bP μ (μ.set r ℓ2) := bP.mJ (S := ℓ2.S) g1
    have hsameZ : aj Z w w' := fun d hd => jR w _ (by rintro rfl; exact hbz hd)
    have hnb : ¬ N j b := fun h => (q7 _ hjx b h).2 rfl
    obtain ⟨p1, p2⟩ := iz (x := .iR k1 s xs (some ⟨j, [c]⟩)) (ℓ := ℓ2) d1 d2 hdead hext ⟨fun f hf => by cases hf; exact hjx, b, g2, by
      have hborn : (es.modify j fun x => { x with key := jB l, val := a.eval y }).toList.map (·.born) = es.toList.map (·.born) := by
        apply List.ext_getElem
        · simp
        · intro i h1 h2
          simp only [List.getElem_map, Array.getElem_toList, Array.getElem_modify]
          split <;> rfl
      refine ⟨⟨q0, hnb⟩, _, clock, nB w _ hbw, by simp [q2], ?_, by rw [hborn]; exact q4, q5, q6, fun i => if j = i then fun _ => False else N i, fun i hi d hd => ?_, fun i i' hi hi' hii d hd hd' => ?_, fun i hi hi' => ?_⟩
      · intro e' he
        obtain ⟨i, hi, rfl⟩ := List.getElem_of_mem he
        have hi2 : i < es.size := by simpa using hi
        have := q3 es[i] (by simp)
        simp only [Array.getElem_toList, Array.getElem_modify]
        split <;> exact this
      · dsimp only at hd
        split at hd
        · exact hd.elim
        · rename_i hne
          exact ⟨⟨(q7 i hi d hd).1, fun h' => q8 _ i hjx hi hne d h' hd⟩, (q7 i hi d hd).2⟩
      · dsimp only at hd hd'
        split at hd
        · exact hd.elim
        · split at hd'
          · exact hd'.elim
          · exact q8 i i' hi hi' hii d hd hd'
      · have hi2 : i < es.size := by omega
        obtain ⟨n1, n2⟩ := q9 i hi hi2
        simp only [Array.getElem_modify]
        by_cases hij : j = i
        · subst hij
          simp only [if_true, EnR, ElR]
          exact ⟨by rw [hkj], (CRs.mk1 hV).mono hsameZ (fun _ h => h) hext⟩
        · simp only [if_neg hij, EnR, ElR]
          refine ⟨n1, ?_⟩
          have n3 : SR w Z B.Y s [es[i].val] xs[i].2 (N i) := by
            simp only [EnR, ElR] at n2
            cases hfo : foc with
            | none => rw [hfo] at n2; exact n2
            | some f =>
              rw [hfo] at n2
              simp only [if_neg (show ¬ f.i = i from by rw [hfoc f hfo]; exact hij)] at n2
              exact n2
          exact SR.ir hbz hby (fun hN => (q7 i hi b hN).2 rfl) n3⟩ (fun _ d hd => .inl (.inr hd.1))
    refine pf (m' := st.mem.set r (.iR k1 s xs (some ⟨j, [c]⟩))) hR hrun' (p1.congr (by simp [Mem.set])) hsameZ (fun _ h => h) hext hΦ (by simp [Mem.set]) fun q _ hq => ?_
    have hne : q ≠ r := by rintro rfl; rw [g1] at hq; cases hq
    rw [aZ.eb _ _ hne]; exact hq
theorem v8 (hR : Rel B st a w Z μ) {n : Nat} (hF : jJ st n μ) (hn : 1 ≤ n) {T : TypeId} {x : Operand} (ho : o.op = .range T x) (h : (step E st o Res.ok).sat Φ) :
    o.wp E.P a w (Nxt B st n Z μ Φ) (fun _ _ _ => False) := by
  simp only [step, dG, ho] at h
  split at h
  case h_2 => exact h.elim
  rename_i k hk
  obtain ⟨K, e, ht, hkt⟩ := nk hk
  have hX := hR.val x
  unfold pE at h
  split at h
  case h_2 => exact h.elim
  rename_i r hx
  rw [hx] at hX
  split at h
  case h_2 => exact h.elim
  rename_i m0 hm0
  obtain ⟨ℓ, b, g1, g2, g3⟩ := hX
  obtain ⟨n', s', xs', f', hr0⟩ := pM hm0
  obtain ⟨Z1, S1, k1, s, xs, hr, hM, hz1, hkept⟩ := lr hR.mem hm0 g1
  rw [hr] at h
  simp only at h
  have hμ1 : μ.set r { ℓ with S := S1 } r = some { ℓ with S := S1 } := aZ.ej _ _ _
  have hx1 : bP μ (μ.set r { ℓ with S := S1 }) := bP.mJ g1
  obtain ⟨ℓ', h5, h6, b', h7, h8⟩ := hM.rt r _ hr (by simp)
  rw [hμ1] at h5; cases h5
  have h7 : ℓ.blk = some b' := h7
  rw [g2] at h7; cases h7
  have h8' := h8
  obtain ⟨q0, es, clock, q1, q2, q3, q4, q5, q6, N, q7, q8, q9⟩ := h8
  have hlen : m0.roots.length = st.mem.roots.length := hkept.len
  have hnone : ∀ q, μ q = none → μ.set r { ℓ with S := S1 } q = none := fun q hq => by
    have hne : q ≠ r := by rintro rfl; rw [g1] at hq; cases hq
    rw [aZ.eb _ _ hne]; exact hq
  have hown := hM.own r _ _ b hr rfl hμ1 q0
  have hbw : b < w.heap.size := hown.2.1
  obtain ⟨t1, t2⟩ := ev hM (bX.none B m0 w Z1 _) hr hμ1 rfl
  have hrun' : (execOp a.eval o).run E.P w = .ok (.value (.pointer (some ⟨w.heap.size, 0, none⟩))) (w.alloc (.mapIter (some b) clock #[] clock)) := by
    simp only [execOp, ho, show a.eval x = _ from g3]
    simp [Instr.range, run_underlying ht, MapKept.run_getObj_map q1, Result.andThen]
  obtain ⟨d1, d2⟩ := gX (w' := w.alloc (.mapIter (some b) clock #[] clock)) t1 t2 (fun d hd _ => alloc_old _ _ hd) (by rw [fF]; exact Nat.le_succ _)
  have hcur : (m0.set r .dead).cur = st.mem.cur := hkept.cur
  have hfree : iM (m0.set r .dead) (μ.set r { ℓ with S := S1 }) 1 := (iM.rM ((jJ.free hF).kept hkept hnone) hr (by simp)).mono hn
  obtain ⟨f1, f2⟩ := hfree 0 (by omega)
  rw [Nat.add_zero] at f1 f2
  have hrc : r ≠ (m0.set r .dead).cur := by
    have := qN hF hr0 (by simp) hn
    rw [hcur]; omega
  have hsame : ∀ d, d < w.heap.size → (w.alloc (.mapIter (some b) clock #[] clock)).heap[d]? = w.heap[d]? := fun d hd => alloc_old _ _ hd
  let ℓ2 : Loc := ⟨some w.heap.size, 0, 0, 0, 0, fun d => S1 d ∨ d = w.heap.size, none⟩
  have hS1 : ∀ d, S1 d → d < w.heap.size := fun d hd => (hM.own r _ _ d hr rfl hμ1 hd).2.1
  obtain ⟨p1, p2⟩ := fY (x := .itr r k1 s xs none none) (ℓ := ℓ2) d1 d2 f2 f1 ⟨w.heap.size, b, { ℓ with S := S1 }, es, clock, #[], none, S1, rfl, rfl, .inr rfl, fun d hd => ⟨.inl hd, by have := hS1 d hd; omega⟩, by rw [aZ.eb _ _ hrc]; exact hμ1, g2, jY _ _, by rw [hsame b hbw]; exact q1,
    fun i hi hi' => by
      have : xs[i].1 ∈ xs.map (·.1) := List.mem_map.2 ⟨_, List.getElem_mem hi, rfl⟩
      simp [Res.kL, this], h8'.mono (hsame b hbw) (fun _ h => h) fun i us y T hT hy => ElR.mono (fun d hd => hsame d (by
        rcases hd with (hd | hd) | hd
        · exact (hM.frz d hd).1
        · have := (hM.ju d hd).1; have := hM.size; omega
        · exact hS1 d (hT d hd))) (fun _ h => h) (fun _ h => h) (bP.set f1) hy, rfl⟩ (fun _ d hd => by
      rcases hd with hd | hd
      · exact .inl (.inr hd)
      · subst hd; exact .inr ⟨Nat.le_refl _, by rw [fF]; exact Nat.lt_succ_self _⟩)
  refine fO (x := .c (.ptr m0.cur 0)) hR hrun' p1 (fun d hd => hsame d (hR.mem.frz d hd).1) hz1 (hx1.trans (bP.set f1)) ⟨ℓ2, w.heap.size, aZ.ej _ _ _, rfl, rfl⟩ h ?_ fun q hq hμ => ?_
  · simp [Mem.push, Mem.set, hlen]
  · have hne : q ≠ (m0.set r .dead).cur := by rw [hcur]; omega
    rw [aZ.eb _ _ hne]
    exact hnone q hμ
theorem va {n : Nat} {l : List Int} (hn : l.length = n) (hf : ∀ a ∈ l, cP .i64 a = true) : CRs w Z μ (pr n l) (l.map (Value.int .i64)) := by
  refine ⟨by simp [pr, hn], fun k h h' => ?_⟩
  have hk : k < l.length := by simpa using h'
  simp only [pr, List.getElem_map, List.getElem_range]
  rw [show l.getD k 0 = l[k] from by simp [List.getD, hk]]
  exact ⟨rfl, hf _ (List.getElem_mem hk)⟩
theorem vv (hR : Rel B st a w Z μ) (n : Nat) {x : Operand} (ho : o.op = .entry x) (h : (step E st o Res.ok).sat Φ) :
    o.wp E.P a w (Nxt B st n Z μ Φ) (fun _ _ _ => False) := by
  simp only [step, dG, ho] at h
  have hX := hR.val x
  split at h
  case h_2 => exact h.elim
  rename_i v hv
  unfold AJ at hv
  split at hv
  case h_2 => cases hv
  rename_i q hx
  rw [hx] at hX
  split at hv
  case h_2 => cases hv
  rename_i r k s xs left key N hr
  cases hv
  obtain ⟨ℓ0, itb', g1, g2, g3⟩ := hX
  obtain ⟨ℓ, h5, itb, b, ℓr, es, clock, seen, foc, S, h1, h2, h3, h4, h6, h7, h8, h10, h12, h13, i, rfl, hi, hi', hki, hback⟩ := hR.mem.rt q _ hr (by simp)
  rw [g1] at h5; cases h5
  rw [g2] at h1; cases h1
  obtain ⟨q0, es', clock', q1, q2, q3, q4, q5, q6, N', q7, q8, q9⟩ := h13
  rw [h10] at q1; cases q1
  obtain ⟨n1, n2⟩ := q9 i hi hi'
  simp only [EnR, ElR, if_true] at n2
  have hxe : a.eval x = .pointer (some ⟨itb', 0, none⟩) := by
    have : a.eval x = _ := g3
    rw [this, h2]
  have hrun : (Instr.entry (.pointer (some ⟨itb', 0, none⟩))).run E.P w = .ok (.tuple #[es[i].key, es[i].val]) w := by
    have hf : es.find? (·.born == es[i].born) = some es[i] := by
      rw [← Array.find?_toList]; exact find_born es[i] es.toList q4 (by simp)
    simp only [Instr.entry, getObj, Sem.run_bind, Sem.run, h8, h10, Result.andThen, hback, bne_self_eq_false, Bool.false_eq_true, if_false, hf]
    rfl
  have hrun' : (execOp a.eval o).run E.P w = .ok (.value (.tuple #[es[i].key, es[i].val])) w := by
    simp only [execOp, ho, hxe]
    simp [hrun]
  refine fO hR hrun' hR.mem (aj.refl _ _) (fun _ h => h) (bP.refl μ) ?_ h rfl fun _ _ h => h
  refine ⟨[es[i].key, es[i].val], rfl, rfl, fun k0 hk0 hk0' => ?_⟩
  match k0, hk0 with
  | 0, _ =>
    obtain ⟨m1, m2⟩ := q6 _ (List.getElem_mem hi)
    rw [hki] at m1 m2
    exact ⟨key.map (Value.int .i64), by show es[i].key = _; rw [n1, hki]; rfl, va m1 m2⟩
  | 1, _ => exact n2.2 0 (by simp) (by simp)
end
end Go.Mach
namespace Go.Mach
section
variable {α : Type} {P : Program} {K e t n : Nat} {w : World} {b clock : Nat} {es : Array MapEntry} {xs : List (List Int × α)} {l : List Int}
theorem ym (h : MapK P t K e n w b es clock xs) (hl : l.length = n) (hr : ∀ a ∈ l, cP .i64 a = true) {z : Value} (hz : (zeroValue e).run P w = .ok z w) :
    ((Instr.mapEntry t (.map (some b)) (jB l)).run P w = .ok (.tuple #[z, .int .i64 clock]) (ir w b (.map (es.push ⟨jB l, z, clock⟩) (clock + 1))) ∧ kT xs l = none) ∨
    ∃ j, ∃ h : j < es.size, (Instr.mapEntry t (.map (some b)) (jB l)).run P w = .ok (.tuple #[es[j].val, .int .i64 es[j].born]) (ir w b (.map es clock)) ∧ kT xs l = some j := by
  obtain ⟨L, hL⟩ := h.key.ex l hl (kk.2 hr)
  rcases qE (w := w) h.key h.sz h.keys h.nd h.fit hl hr with ⟨h1, h2⟩ | ⟨j, hj, h1, h2⟩
  · exact .inl ⟨by simp [Instr.mapEntry, run_underlying h.ty, MapKept.run_getObj_map h.blk, h.key.law.check w _ hL, h1, hz, MapKept.run_setObj_map _ h.blk, Result.andThen, ir, goInt], h2⟩
  · have hjx : j < xs.length := by have := h.sz; omega
    have hk : xs[j].1 = l := by
      have := (List.findIdx?_eq_some_iff_getElem.1 h2).2.1
      simpa using this
    have hk2 : es[j].key = jB l := by rw [h.keys j hjx hj, hk]
    have hst := h.key.law.stays w hL
    have hmod : (es.modify j fun x => { x with key := jB l }) = es := by
      apply Array.ext
      · simp
      · intro i h1 h2
        rw [Array.getElem_modify]
        split
        · rename_i hij; subst hij
          exact (fun (m : MapEntry) (hm : m.key = jB l) => by cases m; cases hm; rfl : ∀ m : MapEntry, m.key = jB l → ({ m with key := jB l } : MapEntry) = m) _ hk2
        · rfl
    exact .inr ⟨j, hj, by simp [Instr.mapEntry, run_underlying h.ty, MapKept.run_getObj_map h.blk, h.key.law.check w _ hL, h1, hk2, hj, hst, MapKept.run_setObj_map _ h.blk, Result.andThen, ir, goInt, hmod], h2⟩
theorem uo {P : Program} {v : Value} {i born : Nat} (hb : w.heap[b]? = some (.map es clock)) (hi : i < es.size) (hborn : es[i].born = born) (hn : (es.toList.map (·.born)).Nodup) :
    (Instr.entryStore t (.map (some b)) (.int .i64 (born : Int)) v).run P w = .ok () (ir w b (.map (es.modify i fun x => { x with val := v }) clock)) := by
  have hf : es.findIdx? (fun e => (e.born : Int) == (born : Int)) = some i := by
    rw [Array.findIdx?_eq_some_iff_getElem]
    refine ⟨hi, by simp [hborn], fun j hj => ?_⟩
    simp only [beq_iff_eq, Int.natCast_inj, ← hborn]
    intro e
    have h1 : (es.toList.map (·.born))[j]'(by simp; omega) = (es.toList.map (·.born))[i]'(by simpa using hi) := by simp [e]
    have := (List.getElem_inj hn).1 h1
    omega
  simp [Instr.entryStore, MapKept.run_getObj_map hb, asInt, asIntOf, hf, MapKept.run_setObj_map _ hb, Result.andThen, ir]
end
section
variable {B : eD} {E : Env} {st : St} {o : Oper} {a : Act} {w : World} {Z : Nat → Prop} {μ : aZ} {Φ : St → Prop}
theorem sV (hR : Rel B st a w Z μ) {n : Nat} (hF : jJ st n μ) (hn : cF E o ≤ n) {T : TypeId} {x i : Operand} (ho : o.op = .mapEntry T x i) (h : (step E st o Res.ok).sat Φ) :
    o.wp E.P a w (Nxt B st n Z μ Φ) (fun _ _ _ => False) := by
  simp only [step, dG, ho] at h
  split at h
  case h_2 => exact h.elim
  rename_i k z hk hz
  obtain ⟨K, e, ht, hkt⟩ := nk hk
  have hX := hR.val x
  have hI := hR.val i
  unfold nC at h
  split at h
  case h_2 => exact h.elim
  rename_i r l hx hi
  rw [hx] at hX
  obtain ⟨hI, hfit⟩ := oT hI hi
  split at h
  case h_2 => exact h.elim
  rename_i m0 hm0
  obtain ⟨ℓ, b, g1, g2, g3⟩ := hX
  obtain ⟨n', s', xs', f', hr0⟩ := pM hm0
  obtain ⟨Z1, S1, k1, s, xs, hr, hM, hz1, hkept⟩ := lr hR.mem hm0 g1
  rw [hr] at h
  simp only at h
  split at h
  case h_2 => exact h.elim
  rename_i hc
  simp only [Bool.and_eq_true, beq_iff_eq, decide_eq_true_eq] at hc
  obtain ⟨rfl, hc2, hc3, hc5⟩ := hc
  have hμ1 : μ.set r { ℓ with S := S1 } r = some { ℓ with S := S1 } := aZ.ej _ _ _
  have hx1 : bP μ (μ.set r { ℓ with S := S1 }) := bP.mJ g1
  obtain ⟨ℓ', h5, h6, b', h7, h8⟩ := hM.rt r _ hr (by simp)
  rw [hμ1] at h5; cases h5
  have h7 : ℓ.blk = some b' := h7
  rw [g2] at h7; cases h7
  have h8' := h8
  obtain ⟨q0, es, clock, q1, q2, q3, q4, q5, q6, N, q7, q8, q9⟩ := h8
  have hmk := rP hkt ht q1 h8'
  obtain ⟨zv, hzv, hzc⟩ := wX (P := E.P) (e := e) (by simpa [mapElem, ht] using hz) w
  have hlen : m0.roots.length = st.mem.roots.length := hkept.len
  have hnone : ∀ q, μ q = none → μ.set r { ℓ with S := S1 } q = none := fun q hq => by
    have hne : q ≠ r := by rintro rfl; rw [g1] at hq; cases hq
    rw [aZ.eb _ _ hne]; exact hq
  have hown := hM.own r _ _ b hr rfl hμ1 q0
  have hbw : b < w.heap.size := hown.2.1
  have hbz : ¬ Z1 b := hown.1
  have hby : ¬ B.Y b := fun hy => by
    have h1 := hM.ju b hy
    rcases hown.2.2 with h2 | h2
    · omega
    · exact h1.2 h2
  obtain ⟨t1, t2⟩ := ev hM (bX.none B m0 w Z1 _) hr hμ1 rfl
  have hlt : r < m0.roots.length := (List.getElem?_eq_some_iff.1 hr).1
  have hnn : s.news + 1 ≤ n := Nat.le_trans hc5 hn
  have hcur : (m0.set r .dead).cur = st.mem.cur := hkept.cur
  have hfree : iM (m0.set r .dead) (μ.set r { ℓ with S := S1 }) (s.news + 1) := (iM.rM ((jJ.free hF).kept hkept hnone) hr (by simp)).mono hnn
  have hrc : r < (m0.set r .dead).cur ∨ (m0.set r .dead).cur + (s.news + 1) ≤ r := by rw [hcur]; exact qN hF hr0 (by simp) hnn
  have hdead0 : (m0.set r .dead).roots[r]? = some .dead := by simp [Mem.set, hlt]
  obtain ⟨hl1, hl2⟩ := pg h
  rcases ym hmk hc2 hfit hzv with ⟨hrun, hix⟩ | ⟨j, hj, hrun, hix⟩
  · have h := hl1 hix
    split at h
    case h_2 => exact h.elim
    rename_i y m1 hg
    have hrun' : (execOp a.eval o).run E.P w = .ok (.value (.tuple #[zv, .int .i64 clock])) (ir w b (.map (es.push ⟨jB l, zv, clock⟩) (clock + 1))) := by
      simp only [execOp, ho, show a.eval x = _ from g3, show a.eval i = _ from hI]
      simp [hrun]
    have hzr : CRs w Z1 (μ.set r { ℓ with S := S1 }) [z] [zv] := CRs.mk1 (by rw [hzc]; exact oo zv)
    obtain ⟨⟨Z', F', S2, us1, us2, e1, e2, e3, e4, e5, e6, e7, e8, e9⟩, ek⟩ := gj s t1 t2 hzr hg
    have := e9.hB
    subst this
    rw [List.append_nil] at e1
    subst e1
    have hbF : F' b := e6 b (.inr q0)
    have hbz' : ¬ Z' b := (e4.ok b hbF).1
    let w' := ir w b (.map (es.push ⟨jB l, zv, clock⟩) (clock + 1))
    obtain ⟨d1, d2⟩ := gX (w' := w') e3 e4 (fun d hd hn => jR w _ (by rintro rfl; exact hn hbF)) (by rw [lW]; exact Nat.le_refl _)
    have hSZ : aj Z w w' := fun d hd => jR w _ (by rintro rfl; exact hbz (hz1 _ hd))
    have hSZ1 : aj Z1 w w' := fun d hd => jR w _ (by rintro rfl; exact hbz hd)
    have hcur1 : m1.cur = st.mem.cur := ek.cur.trans hcur
    have hf1 : iM m1 (μ.set r { ℓ with S := S1 }) 1 := (iM.kept (hfree.mono (by omega)) ek (fun _ h => h))
    obtain ⟨f1, f2⟩ := hf1 0 (by omega)
    rw [Nat.add_zero] at f1 f2
    obtain ⟨v1, v2⟩ := fY (x := .dead) (ℓ := ⟨none, clock, 0, 0, 0, fun _ => False, none⟩) d1 d2 f2 f1 trivial (fun h => by simp [bk.fj] at h)
    have hrc1 : r ≠ m1.cur := by rw [hcur1]; rw [hcur] at hrc; omega
    have hμ3 : (μ.set r { ℓ with S := S1 }).set m1.cur ⟨none, clock, 0, 0, 0, fun _ => False, none⟩ r = some { ℓ with S := S1 } := by rw [aZ.eb _ _ hrc1]; exact hμ1
    have hdead1 : (m1.push .dead).roots[r]? = some .dead := by
      simp only [Mem.push]
      rw [List.getElem?_set_ne (Ne.symm hrc1)]
      exact ek.dead r hdead0
    have hxk : ∀ p ∈ xs, p.1 ≠ l := by
      intro p hp e
      have h1 := hix
      unfold kT at h1
      rw [List.findIdx?_eq_none_iff] at h1
      have := h1 p hp
      simp [e] at this
    let ℓ2 : Loc := { ℓ with S := S1 }
    have hext : bP ((μ.set r { ℓ with S := S1 }).set m1.cur ⟨none, clock, 0, 0, 0, fun _ => False, none⟩) (((μ.set r { ℓ with S := S1 }).set m1.cur ⟨none, clock, 0, 0, 0, fun _ => False, none⟩).set r ℓ2) := bP.mJ (ℓ := { ℓ with S := S1 }) (S := S1) hμ3
    have hmq : (((μ.set r { ℓ with S := S1 }).set m1.cur ⟨none, clock, 0, 0, 0, fun _ => False, none⟩).set r ℓ2) m1.cur = some ⟨none, clock, 0, 0, 0, fun _ => False, none⟩ := by
      rw [aZ.eb _ _ (Ne.symm hrc1), aZ.ej]
    have hx4 : bP (μ.set r { ℓ with S := S1 }) (((μ.set r { ℓ with S := S1 }).set m1.cur ⟨none, clock, 0, 0, 0, fun _ => False, none⟩).set r ℓ2) := (bP.set f1).trans hext
    have hzr' : CRs w' Z' (((μ.set r { ℓ with S := S1 }).set m1.cur ⟨none, clock, 0, 0, 0, fun _ => False, none⟩).set r ℓ2) [z] [zv] := hzr.mono hSZ1 e5 hx4
    obtain ⟨p1, p2⟩ := iz (x := .pT k1 s (xs ++ [(l, y)]) xs.length [z] m1.cur) (ℓ := ℓ2) v1 v2 hdead1 hext ⟨by simp, b, es.push ⟨jB l, zv, clock⟩, clock + 1, _, g2, nB w _ hbw, hmq, fun h => by simp [← q2], by
      refine ⟨q0, _, clock + 1, nB w _ hbw, by simp [q2], ?_, ?_, ?_, ?_, fun i => if i < xs.length then N i else fun _ => False, fun i hi d hd => ?_, fun i i' hi hi' hii d hd hd' => ?_, fun i hi hi' => ?_⟩
      · intro e' he
        rw [Array.toList_push] at he
        rcases List.mem_append.1 he with he | he
        · have := q3 e' he; omega
        · simp only [List.mem_singleton] at he; subst he; exact Nat.lt_succ_self _
      · rw [Array.toList_push, List.map_append, List.nodup_append]
        refine ⟨q4, by simp, ?_⟩
        intro p hp p' hp' e'
        obtain ⟨en, hen, rfl⟩ := List.mem_map.1 hp
        simp only [List.map_cons, List.map_nil, List.mem_singleton] at hp'
        have := q3 en hen
        omega
      · rw [List.map_append, List.nodup_append]
        refine ⟨q5, by simp, ?_⟩
        intro p hp p' hp' e'
        obtain ⟨en, hen, rfl⟩ := List.mem_map.1 hp
        simp only [List.map_cons, List.map_nil, List.mem_singleton] at hp'
        exact hxk en hen (e'.trans hp')
      · intro p hp
        rcases List.mem_append.1 hp with hp | hp
        · exact q6 p hp
        · simp only [List.mem_singleton] at hp; subst hp; exact ⟨hc2, hfit⟩
      · dsimp only at hd
        split at hd
        · rename_i hi2; exact q7 i hi2 d hd
        · exact hd.elim
      · dsimp only at hd hd'
        split at hd <;> split at hd'
        · rename_i h1 h2; exact q8 i i' h1 h2 hii d hd hd'
        · exact hd'.elim
        · exact hd.elim
        · exact hd.elim
      · simp only [List.length_append, List.length_singleton] at hi
        by_cases hi2 : i < xs.length
        · have hi3 : i < es.size := by omega
          obtain ⟨n1, n2⟩ := q9 i hi2 hi3
          simp only [List.getElem_append_left hi2, Array.getElem_push_lt hi3, if_pos hi2, EnR, ElR, if_neg (show ¬ xs.length = i by omega)]
          exact ⟨n1, SR.ir hbz' hby (fun hN => (q7 i hi2 b hN).2 rfl) ((show SR w Z1 B.Y s [es[i].val] xs[i].2 (N i) from n2).up e5)⟩
        · have hi3 : i = xs.length := by omega
          subst hi3
          have hi4 : xs.length = es.size := q2.symm
          have ha : (es.push ⟨jB l, zv, clock⟩)[xs.length]'hi' = ⟨jB l, zv, clock⟩ := by simp [hi4]
          rw [ha]
          simp only [List.getElem_append_right (Nat.le_refl _), Nat.sub_self, List.getElem_cons_zero, EnR, ElR, if_true]
          exact ⟨trivial, hzr'⟩⟩ (fun _ d hd => ⟨.inl (e6 d (.inr hd)), fun h => by simp [bk.fj] at h⟩)
    refine fO (x := .tup [(false, [z]), (false, [.stp m1.cur])]) hR hrun' p1 hSZ (fun d hd => e5 d (hz1 d hd)) (hx1.trans hx4) ?_ h ?_ fun q hq hμ => ?_
    · refine ⟨[zv, .int .i64 clock], rfl, rfl, fun k0 hk0 hk0' => ?_⟩
      match k0, hk0 with
      | 0, _ => exact hzr'.2 0 (by simp) (by simp)
      | 1, _ => exact ⟨_, hmq, rfl⟩
    · show (List.set (List.set m1.roots _ _) _ _).length = _
      rw [List.length_set, List.length_set, ek.len]; simp [Mem.set, hlen]
    · have hne : q ≠ r := by rintro rfl; rw [g1] at hμ; cases hμ
      rw [aZ.eb _ _ hne, aZ.eb _ _ (by rw [hcur1]; omega)]
      exact hnone q hμ
  · obtain ⟨hjx, hΦ⟩ := hl2 j hix
    have hrun' : (execOp a.eval o).run E.P w = .ok (.value (.tuple #[es[j].val, .int .i64 es[j].born])) (ir w b (.map es clock)) := by
      simp only [execOp, ho, show a.eval x = _ from g3, show a.eval i = _ from hI]
      simp [hrun]
    have hww : ir w b (.map es clock) = w := by
      have : w.heap.setIfInBounds b (.map es clock) = w.heap := by
        apply Array.ext
        · simp
        · intro i h1 h2
          rw [Array.getElem_setIfInBounds]
          split
          · rename_i hij; subst hij
            have := q1
            rw [Array.getElem?_eq_getElem h2] at this
            exact (Option.some.inj this).symm
          · rfl
      unfold ir; rw [this]
    rw [hww] at hrun'
    obtain ⟨j1, j3⟩ := q9 j hjx hj
    have j3 : SR w Z1 B.Y s [es[j].val] xs[j].2 (N j) := j3
    obtain ⟨⟨μ1, p1, p2, p3, p4⟩, _⟩ := iJ s t1 t2 hfree.left j3 (fun d hd => .inr (q7 _ hjx d hd).1)
    have hf1 := iM.right (b := 1) hfree p4
    obtain ⟨f1, f2⟩ := hf1 0 (by omega)
    rw [Nat.add_zero] at f1 f2
    have hcur1 : (s.mk xs[j].2 (m0.set r .dead)).2.cur = st.mem.cur + s.news := by rw [p4.cur, hcur]
    obtain ⟨v1, v2⟩ := fY (x := .dead) (ℓ := ⟨none, es[j].born, 0, 0, 0, fun _ => False, none⟩) p1 p2 f2 f1 trivial (fun h => by simp [bk.fj] at h)
    obtain ⟨o1, o2⟩ := p4.old r (by omega)
    have hrc1 : r ≠ (s.mk xs[j].2 (m0.set r .dead)).2.cur := by rw [hcur1]; rw [hcur] at hrc; omega
    have hdead : ((s.mk xs[j].2 (m0.set r .dead)).2.push .dead).roots[r]? = some .dead := by
      simp only [Mem.push]
      rw [List.getElem?_set_ne (Ne.symm hrc1), o2]; exact hdead0
    let μ2 := μ1.set (s.mk xs[j].2 (m0.set r .dead)).2.cur ⟨none, es[j].born, 0, 0, 0, fun _ => False, none⟩
    have hμ2 : μ2 r = some { ℓ with S := S1 } := by
      show μ1.set _ _ r = _
      rw [aZ.eb _ _ hrc1]; exact o1.trans hμ1
    let ℓ2 : Loc := { ℓ with S := fun d => S1 d ∧ ¬ N j d }
    have hext : bP μ2 (μ2.set r ℓ2) := bP.mJ (ℓ := { ℓ with S := S1 }) (S := ℓ2.S) hμ2
    have hmq : (μ2.set r ℓ2) (s.mk xs[j].2 (m0.set r .dead)).2.cur = some ⟨none, es[j].born, 0, 0, 0, fun _ => False, none⟩ := by
      rw [aZ.eb _ _ (Ne.symm hrc1)]
      show μ1.set _ _ _ = _
      rw [aZ.ej]
    have hx4 : bP μ1 (μ2.set r ℓ2) := (bP.set f1).trans hext
    obtain ⟨d1, d2⟩ := iz (x := .pT k1 s xs j (s.mk xs[j].2 (m0.set r .dead)).1 (s.mk xs[j].2 (m0.set r .dead)).2.cur) (ℓ := ℓ2) v1 v2 hdead hext ⟨hjx, b, es, clock, _, g2, q1, hmq, fun _ => rfl, by
      have hnb : ¬ N j b := fun h => (q7 _ hjx b h).2 rfl
      refine ⟨⟨q0, hnb⟩, es, clock, q1, q2, q3, q4, q5, q6, fun i => if j = i then fun _ => False else N i, fun i hi d hd => ?_, fun i i' hi hi' hii d hd hd' => ?_, fun i hi hi' => ?_⟩
      · dsimp only at hd
        split at hd
        · exact hd.elim
        · rename_i hne
          exact ⟨⟨(q7 i hi d hd).1, fun h' => q8 _ i hjx hi hne d h' hd⟩, (q7 i hi d hd).2⟩
      · dsimp only at hd hd'
        split at hd
        · exact hd.elim
        · split at hd'
          · exact hd'.elim
          · exact q8 i i' hi hi' hii d hd hd'
      · obtain ⟨n1, n2⟩ := q9 i hi hi'
        refine ⟨n1, ?_⟩
        by_cases hij : j = i
        · subst hij
          simp only [EnR, ElR, if_true]
          exact p3.mono (aj.refl _ _) (fun _ h => h) hx4
        · simp only [EnR, ElR, if_neg hij]
          exact n2⟩ (fun _ d hd => ⟨⟨.inr hd.1, hd.2⟩, fun h => by simp [bk.fj] at h⟩)
    have hcl : CRs w Z1 (μ2.set r ℓ2) (s.mk xs[j].2 (m0.set r .dead)).1 [es[j].val] := p3.mono (aj.refl _ _) (fun _ h => h) hx4
    refine fO (x := .tup [(false, (s.mk xs[j].2 (m0.set r .dead)).1), (false, [.stp (s.mk xs[j].2 (m0.set r .dead)).2.cur])]) hR hrun' d1 (aj.refl _ _) hz1 ((hx1.trans p4.ext).trans hx4) ?_ hΦ ?_ fun q hq hμ => ?_
    · refine ⟨[es[j].val, .int .i64 es[j].born], rfl, rfl, fun k0 hk0 hk0' => ?_⟩
      match k0, hk0 with
      | 0, _ =>
        simp only [List.getElem_cons_zero]
        split
        · rename_i c cs hcs
          rw [hcs] at hcl
          exact hcl.2 0 (by simp) (by simp)
        · trivial
      | 1, _ => exact ⟨_, hmq, rfl⟩
    · show (List.set (List.set _ _ _) _ _).length = _
      rw [List.length_set, List.length_set, p4.len]; simp [Mem.set, hlen]
    · have hne : q ≠ r := by rintro rfl; rw [g1] at hμ; cases hμ
      rw [aZ.eb _ _ hne]
      show μ1.set _ _ q = none
      rw [aZ.eb _ _ (by rw [hcur1]; omega), (p4.old q (by rw [hcur]; omega)).1]
      exact hnone q hμ
theorem qG (hR : Rel B st a w Z μ) (n : Nat) {T : TypeId} {x i y : Operand} (ho : o.op = .entryStore T x i y) (h : (step E st o Res.ok).sat Φ) :
    o.wp E.P a w (Nxt B st n Z μ Φ) (fun _ _ _ => False) := by
  simp only [step, dG, ho] at h
  have hX := hR.val x
  have hI := hR.val i
  have hV := hR.val y
  unfold mX at h
  split at h
  case h_2 => exact h.elim
  rename_i r q c hx hi hv
  rw [hx] at hX
  rw [hv] at hV
  rw [hi] at hI
  obtain ⟨ℓ, b, g1, g2, g3⟩ := hX
  obtain ⟨ℓq, g4, g5⟩ := hI
  split at h
  case h_2 => exact h.elim
  rename_i k s xs j cs q' hr
  split at h
  case h_2 => exact h.elim
  rename_i hc0
  simp only [Bool.and_eq_true, beq_iff_eq, Bool.not_eq_true'] at hc0
  obtain ⟨rfl, hc3, hc4⟩ := hc0
  obtain ⟨ℓ', h5, hjx, b', es, clock, ℓq', h7, q1, h8, h9, h10⟩ := hR.mem.rt r _ hr (by simp)
  rw [g1] at h5; cases h5
  rw [g2] at h7; cases h7
  rw [g4] at h8; cases h8
  obtain ⟨q0, es', clock', q1', q2, q3, q4, q5, q6, N, q7, q8, q9⟩ := h10
  rw [q1] at q1'; cases q1'
  have hown := hR.mem.own r _ _ b hr rfl g1 q0
  have hbw : b < w.heap.size := hown.2.1
  have hbz : ¬ Z b := hown.1
  have hby : ¬ B.Y b := fun hy => by
    have h1 := hR.mem.ju b hy
    rcases hown.2.2 with h2 | h2
    · omega
    · exact h1.2 h2
  have hj : j < es.size := by omega
  have hrun := uo (P := E.P) (t := T) (v := a.eval y) q1 hj (h9 hj) q4
  have hrun' : (execOp a.eval o).run E.P w = .ok .skip (ir w b (.map (es.modify j fun x => { x with val := a.eval y }) clock)) := by
    simp only [execOp, ho, show a.eval x = _ from g3, show a.eval i = _ from g5]
    simp [hrun]
  obtain ⟨t1, t2⟩ := ev hR.mem (bX.none B st.mem w Z μ) hr g1 rfl
  have hlt : r < st.mem.roots.length := (List.getElem?_eq_some_iff.1 hr).1
  have hdead : (st.mem.set r .dead).roots[r]? = some .dead := by simp [Mem.set, hlt]
  let w' := ir w b (.map (es.modify j fun x => { x with val := a.eval y }) clock)
  obtain ⟨d1, d2⟩ := gX (w' := w') t1 t2 (fun d hd hn => jR w _ (by rintro rfl; exact hn (.inr q0))) (by rw [lW]; exact Nat.le_refl _)
  have hext : bP μ (μ.set r ℓ) := by rw [aZ.mR g1]; exact bP.refl _
  have hsameZ : aj Z w w' := fun d hd => jR w _ (by rintro rfl; exact hbz hd)
  obtain ⟨p1, p2⟩ := iz (x := .iR k s xs (some ⟨j, [c]⟩)) (ℓ := ℓ) d1 d2 hdead hext ⟨fun f hf => by cases hf; exact hjx, b, g2, by
    have hborn : (es.modify j fun x => { x with val := a.eval y }).toList.map (·.born) = es.toList.map (·.born) := by
      apply List.ext_getElem
      · simp
      · intro i h1 h2
        simp only [List.getElem_map, Array.getElem_toList, Array.getElem_modify]
        split <;> rfl
    refine ⟨q0, _, clock, nB w _ hbw, by simp [q2], ?_, by rw [hborn]; exact q4, q5, q6, N, q7, q8, fun i hi hi' => ?_⟩
    · intro e' he
      obtain ⟨i, hi, rfl⟩ := List.getElem_of_mem he
      have hi2 : i < es.size := by simpa using hi
      have := q3 es[i] (by simp)
      simp only [Array.getElem_toList, Array.getElem_modify]
      split <;> exact this
    · have hi2 : i < es.size := by omega
      obtain ⟨n1, n2⟩ := q9 i hi hi2
      simp only [Array.getElem_modify]
      by_cases hij : j = i
      · subst hij
        simp only [if_true, EnR, ElR]
        exact ⟨n1, (CRs.mk1 hV).mono hsameZ (fun _ h => h) hext⟩
      · simp only [if_neg hij, EnR, ElR] at n2 ⊢
        exact ⟨n1, SR.ir hbz hby (fun hN => (q7 i hi b hN).2 rfl) n2⟩⟩ (fun _ d hd => .inl (.inr hd))
  refine pf (m' := st.mem.set r (.iR k s xs (some ⟨j, [c]⟩))) hR hrun' (p1.congr (by simp [Mem.set])) hsameZ (fun _ h => h) hext h (by simp [Mem.set]) fun q _ hq => ?_
  rw [aZ.mR g1]; exact hq
end
end Go.Mach
